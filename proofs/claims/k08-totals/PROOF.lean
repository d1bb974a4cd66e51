import PyProof.Rows.All
import Wide.All
import OpenK.AllK
import Wide.FinOn
import HandS.ForMost
import HandS.ForExc
import HandS.IsInst
import HandS.More
import HandS.SortInts
import HandS.Strs
import HandS.Style
import HandS.Conv
import HandS.Wide
import HandS.SetFor
import PySem.Challenge.RW_twotints_k08_whole_totals
set_option Elab.async false
set_option linter.all false
set_option maxRecDepth 100000
set_option maxHeartbeats 1000000
/-! TA: plain data, how it lies in the abstract heap (shared: Vw, owned: Rp), zones. -/
namespace TT
open PySem L2

inductive D where
  | non | bl (b : Bool) | int (i : Int) | str (x : Str) | glob (x : Str) | scr (xs : List Int)
  | lst (xs : List D) | tup (xs : List D) | ins (c : Str) (ns : List Str) (ds : List D)

def D.flat : D → Bool
  | .lst _ => false
  | .tup _ => false
  | .ins _ _ _ => false
  | .scr _ => false
  | _ => true

/-- data, how many levels of it are owned, whether all of it is new -/
abbrev Val := D × Nat × Bool

inductive Res (α : Type) where
  | ok (a : α) | exc (c : Str) | stuck
namespace Res
def bind {α β : Type} : Res α → (α → Res β) → Res β
  | .ok a, f => f a
  | .exc c, _ => .exc c
  | .stuck, _ => .stuck
/-- no error may come here -/
def nx {α : Type} : Res α → Res α
  | .exc _ => .stuck
  | r => r
@[simp] theorem nx_ok {α : Type} (a : α) : (Res.ok a).nx = .ok a := rfl
instance : Monad Res where
  pure := .ok
  bind := Res.bind
@[simp] theorem bind_ok {α β : Type} (a : α) (f : α → Res β) : (Res.ok a >>= f) = f a := rfl
@[simp] theorem bind_exc {α β : Type} (c : Str) (f : α → Res β) : ((Res.exc c : Res α) >>= f) = .exc c := rfl
@[simp] theorem bind_stuck {α β : Type} (f : α → Res β) : ((Res.stuck : Res α) >>= f) = .stuck := rfl
@[simp] theorem pure_ok {α : Type} (a : α) : (pure a : Res α) = .ok a := rfl
end Res

/-! ### shared data in the heap -/
mutual
inductive Vw (K : PySem.W.Frag) (mg : Str → Option Value) (B : Hp) : D → V → Prop
  | non : Vw K mg B .non .non
  | bl (b : Bool) : Vw K mg B (.bl b) (.bl b)
  | int (i : Int) : Vw K mg B (.int i) (.int i)
  | str (x : Str) : Vw K mg B (.str x) (.str x)
  | glob {x : Str} {a : Addr} : mg x = some (.ref a) → Vw K mg B (.glob x) (.ref a)
  | scr {a : Addr} {xs : List Int} : SqL K B a (xs.map V.int) → Vw K mg B (.scr xs) (.ref a)
  | lst {a : Addr} {vs : List V} {ds : List D} : B a = some (.lst vs) → vs.length ≤ sizeLine → VwL K mg B ds vs → Vw K mg B (.lst ds) (.ref a)
  | tup {a : Addr} {vs : List V} {ds : List D} : B a = some (.tup vs) → VwL K mg B ds vs → Vw K mg B (.tup ds) (.ref a)
  | ins {a C dx : Addr} {c : Str} {ns : List Str} {vs : List V} {ds : List D} : B a = some (.ins C dx (ns.zip vs)) → mg c = some (.ref C) → ns.length = vs.length → VwL K mg B ds vs → Vw K mg B (.ins c ns ds) (.ref a)
inductive VwL (K : PySem.W.Frag) (mg : Str → Option Value) (B : Hp) : List D → List V → Prop
  | nil : VwL K mg B [] []
  | cons {d : D} {ds : List D} {v : V} {vs : List V} : Vw K mg B d v → VwL K mg B ds vs → VwL K mg B (d :: ds) (v :: vs)
end

section
variable {K : PySem.W.Frag} {mg : Str → Option Value} {B B' H H' : Hp}

theorem sqL_mono {a : Addr} {xs : List V} (e : Same B B') (h : SqL K B a xs) : SqL K B' a xs := e.seq h

mutual
theorem Vw.mono (e : Same B B') : ∀ (d : D) (v : V), Vw K mg B d v → Vw K mg B' d v
  | .non, _, h => by cases h; exact .non
  | .bl _, _, h => by cases h; exact .bl _
  | .int _, _, h => by cases h; exact .int _
  | .str _, _, h => by cases h; exact .str _
  | .glob _, _, h => by cases h with | glob q => exact .glob q
  | .scr _, _, h => by cases h with | scr q => exact .scr (sqL_mono e q)
  | .lst ds, _, h => by cases h with | lst q z r => exact .lst (e _ _ q) z (VwL.mono e ds _ r)
  | .tup ds, _, h => by cases h with | tup q r => exact .tup (e _ _ q) (VwL.mono e ds _ r)
  | .ins _ _ ds, _, h => by cases h with | ins q m l r => exact .ins (e _ _ q) m l (VwL.mono e ds _ r)
theorem VwL.mono (e : Same B B') : ∀ (ds : List D) (vs : List V), VwL K mg B ds vs → VwL K mg B' ds vs
  | [], _, h => by cases h; exact .nil
  | d :: ds, _, h => by cases h with | cons h1 h2 => exact .cons (Vw.mono e d _ h1) (VwL.mono e ds _ h2)
end
theorem VwL.length : ∀ {ds : List D} {vs : List V}, VwL K mg B ds vs → ds.length = vs.length
  | [], _, h => by cases h; rfl
  | d :: ds, _, h => by cases h with | cons h1 h2 => simp [VwL.length h2]
theorem VwL.get : ∀ {ds : List D} {vs : List V} {i : Nat} {d : D}, VwL K mg B ds vs → ds[i]? = some d → ∃ v, vs[i]? = some v ∧ Vw K mg B d v
  | [], _, _, _, h, e => by simp at e
  | d :: ds, _, 0, _, h, e => by
    cases h with
    | cons h1 h2 =>
      simp at e; subst e
      exact ⟨_, rfl, h1⟩
  | d :: ds, _, i + 1, x, h, e => by
    cases h with
    | cons h1 h2 =>
      obtain ⟨v, e1, e2⟩ := VwL.get (i := i) (d := x) h2 (by simpa using e)
      exact ⟨v, by simpa using e1, e2⟩
theorem VwL.got : ∀ {ds : List D} {vs : List V} {i : Nat} {v : V}, VwL K mg B ds vs → vs[i]? = some v → ∃ d, ds[i]? = some d ∧ Vw K mg B d v
  | [], _, _, _, h, e => by cases h; simp at e
  | d :: ds, _, 0, _, h, e => by
    cases h with
    | cons h1 h2 =>
      simp at e; subst e
      exact ⟨_, rfl, h1⟩
  | d :: ds, _, i + 1, x, h, e => by
    cases h with
    | cons h1 h2 =>
      obtain ⟨v, e1, e2⟩ := VwL.got (i := i) (v := x) h2 (by simpa using e)
      exact ⟨v, by simpa using e1, e2⟩
theorem VwL.append : ∀ {ds es : List D} {vs us : List V}, VwL K mg B ds vs → VwL K mg B es us → VwL K mg B (ds ++ es) (vs ++ us)
  | [], _, _, _, h, q => by cases h; exact q
  | d :: ds, _, _, _, h, q => by cases h with | cons h1 h2 => exact .cons h1 (VwL.append h2 q)
theorem VwL.take : ∀ {ds : List D} {vs : List V} (n : Nat), VwL K mg B ds vs → VwL K mg B (ds.take n) (vs.take n)
  | _, _, 0, _ => .nil
  | [], _, n + 1, h => by cases h; exact .nil
  | d :: ds, _, n + 1, h => by cases h with | cons h1 h2 => exact .cons h1 (VwL.take n h2)
theorem VwL.drop : ∀ {ds : List D} {vs : List V} (n : Nat), VwL K mg B ds vs → VwL K mg B (ds.drop n) (vs.drop n)
  | _, _, 0, h => h
  | [], _, n + 1, h => by cases h; exact .nil
  | d :: ds, _, n + 1, h => by cases h with | cons h1 h2 => exact VwL.drop n h2
theorem VwL.set : ∀ {ds : List D} {vs : List V} (n : Nat) {d : D} {v : V}, VwL K mg B ds vs → Vw K mg B d v → VwL K mg B (ds.set n d) (vs.set n v)
  | [], _, n, _, _, h, q => by cases h; exact .nil
  | d :: ds, _, 0, _, _, h, q => by cases h with | cons h1 h2 => exact .cons q h2
  | d :: ds, _, n + 1, _, _, h, q => by cases h with | cons h1 h2 => exact .cons h1 (VwL.set n h2 q)
theorem VwL.reverse : ∀ {ds : List D} {vs : List V}, VwL K mg B ds vs → VwL K mg B ds.reverse vs.reverse
  | [], _, h => by cases h; exact .nil
  | d :: ds, _, h => by
    cases h with
    | cons h1 h2 =>
      rw [List.reverse_cons, List.reverse_cons]
      exact (VwL.reverse h2).append (.cons h1 .nil)
theorem VwL.rep {ds : List D} {vs : List V} (h : VwL K mg B ds vs) : ∀ n : Nat, VwL K mg B (List.replicate n ds).flatten (List.replicate n vs).flatten
  | 0 => .nil
  | n + 1 => by
    rw [List.replicate_succ, List.replicate_succ, List.flatten_cons, List.flatten_cons]
    exact h.append (VwL.rep h n)
theorem VwL.ints : ∀ {ns : List Int} {vs : List V}, VwL K mg B (ns.map D.int) vs → vs = ns.map V.int
  | [], _, h => by cases h; rfl
  | n :: ns, _, h => by
    cases h with
    | cons h1 h2 =>
      cases h1
      rw [VwL.ints h2]; rfl
theorem vwL_ints : ∀ (ns : List Int), VwL K mg B (ns.map D.int) (ns.map V.int)
  | [] => .nil
  | n :: ns => .cons (.int n) (vwL_ints ns)
theorem VwL.bls : ∀ {ns : List Bool} {vs : List V}, VwL K mg B (ns.map D.bl) vs → vs = ns.map V.bl
  | [], _, h => by cases h; rfl
  | n :: ns, _, h => by
    cases h with
    | cons h1 h2 =>
      cases h1
      rw [VwL.bls h2]; rfl

/-- a flat thing's value, without the heap -/
theorem Vw.flat_any {d : D} {v : V} (f : d.flat = true) (h : Vw K mg B d v) : Vw K mg B' d v := by
  cases h with
  | non => exact .non
  | bl => exact .bl _
  | int => exact .int _
  | str => exact .str _
  | glob q => exact .glob q
  | scr q => cases f
  | lst q z r => cases f
  | tup q r => cases f
  | ins q m l r => cases f
end

/-! ### owned data in the heap: F the addresses owned -/
mutual
inductive Rp (K : PySem.W.Frag) (mg : Str → Option Value) (B H : Hp) : Nat → D → V → List Addr → Prop
  | sh {k : Nat} {d : D} {v : V} : (k = 0 ∨ d.flat = true) → Vw K mg B d v → Rp K mg B H k d v []
  | lst {k : Nat} {p : Addr} {vs : List V} {ds : List D} {F : List Addr} : H p = some (.lst vs) → vs.length ≤ sizeLine → RpL K mg B H k ds vs F → Rp K mg B H (k + 1) (.lst ds) (.ref p) (p :: F)
  | tup {k : Nat} {p : Addr} {vs : List V} {ds : List D} {F : List Addr} : H p = some (.tup vs) → RpL K mg B H k ds vs F → Rp K mg B H (k + 1) (.tup ds) (.ref p) (p :: F)
  | ins {k : Nat} {p C dx : Addr} {c : Str} {ns : List Str} {vs : List V} {ds : List D} {F : List Addr} : H p = some (.ins C dx (ns.zip vs)) → mg c = some (.ref C) → ns.length = vs.length → RpL K mg B H k ds vs F → Rp K mg B H (k + 1) (.ins c ns ds) (.ref p) (p :: F)
inductive RpL (K : PySem.W.Frag) (mg : Str → Option Value) (B H : Hp) : Nat → List D → List V → List Addr → Prop
  | nil {k : Nat} : RpL K mg B H k [] [] []
  | cons {k : Nat} {d : D} {ds : List D} {v : V} {vs : List V} {F G : List Addr} : Rp K mg B H k d v F → RpL K mg B H k ds vs G → RpL K mg B H k (d :: ds) (v :: vs) (F ++ G)
end

section
variable {K : PySem.W.Frag} {mg : Str → Option Value} {B B' H H' : Hp}
theorem rp_flat {k : Nat} {d : D} {v : V} (f : d.flat = true) (h : Vw K mg B d v) : Rp K mg B H k d v [] := .sh (.inr f) h
theorem Rp.flat_inv {k : Nat} {d : D} {v : V} {F : List Addr} (f : d.flat = true) (r : Rp K mg B H k d v F) : F = [] ∧ Vw K mg B d v := by
  cases r with
  | sh c q => exact ⟨rfl, q⟩
  | lst => cases f
  | tup => cases f
  | ins => cases f
theorem rp_sh {d : D} {v : V} (h : Vw K mg B d v) : Rp K mg B H 0 d v [] := .sh (.inl rfl) h

mutual
theorem Rp.mono (e : Same B B') : ∀ (d : D) (k : Nat) (v : V) (F : List Addr), (∀ p ∈ F, ∀ o, H p = some o → H' p = some o) → Rp K mg B H k d v F → Rp K mg B' H' k d v F
  | .lst ds, k, v, F, hF, h => by
    cases h with
    | sh c q => exact .sh c (Vw.mono e _ _ q)
    | lst q z r => exact .lst (hF _ (by simp) _ q) z (RpL.mono e ds _ _ _ (fun p hp => hF p (by simp [hp])) r)
  | .tup ds, k, v, F, hF, h => by
    cases h with
    | sh c q => exact .sh c (Vw.mono e _ _ q)
    | tup q r => exact .tup (hF _ (by simp) _ q) (RpL.mono e ds _ _ _ (fun p hp => hF p (by simp [hp])) r)
  | .ins c ns ds, k, v, F, hF, h => by
    cases h with
    | sh c q => exact .sh c (Vw.mono e _ _ q)
    | ins q m l r => exact .ins (hF _ (by simp) _ q) m l (RpL.mono e ds _ _ _ (fun p hp => hF p (by simp [hp])) r)
  | .non, k, v, F, hF, h => by cases h with | sh c q => exact .sh c (Vw.mono e _ _ q)
  | .bl _, k, v, F, hF, h => by cases h with | sh c q => exact .sh c (Vw.mono e _ _ q)
  | .int _, k, v, F, hF, h => by cases h with | sh c q => exact .sh c (Vw.mono e _ _ q)
  | .str _, k, v, F, hF, h => by cases h with | sh c q => exact .sh c (Vw.mono e _ _ q)
  | .glob _, k, v, F, hF, h => by cases h with | sh c q => exact .sh c (Vw.mono e _ _ q)
  | .scr _, k, v, F, hF, h => by cases h with | sh c q => exact .sh c (Vw.mono e _ _ q)
theorem RpL.mono (e : Same B B') : ∀ (ds : List D) (k : Nat) (vs : List V) (F : List Addr), (∀ p ∈ F, ∀ o, H p = some o → H' p = some o) → RpL K mg B H k ds vs F → RpL K mg B' H' k ds vs F
  | [], _, _, _, hF, h => by cases h; exact .nil
  | d :: ds, _, _, _, hF, h => by
    cases h with
    | cons h1 h2 => exact .cons (Rp.mono e d _ _ _ (fun p hp => hF p (by simp [hp])) h1) (RpL.mono e ds _ _ _ (fun p hp => hF p (by simp [hp])) h2)
end
mutual
/-- what was owned is laid into the shared part -/
theorem Rp.freeze (e : Same B B') : ∀ (d : D) (k : Nat) (v : V) (F : List Addr), (∀ p ∈ F, ∀ o, H p = some o → B' p = some o) → Rp K mg B H k d v F → Vw K mg B' d v
  | .lst ds, k, v, F, hF, h => by
    cases h with
    | sh c q => exact (Vw.mono e _ _ q)
    | lst q z r => exact .lst (hF _ (by simp) _ q) z (RpL.freeze e ds _ _ _ (fun p hp => hF p (by simp [hp])) r)
  | .tup ds, k, v, F, hF, h => by
    cases h with
    | sh c q => exact (Vw.mono e _ _ q)
    | tup q r => exact .tup (hF _ (by simp) _ q) (RpL.freeze e ds _ _ _ (fun p hp => hF p (by simp [hp])) r)
  | .ins c ns ds, k, v, F, hF, h => by
    cases h with
    | sh c q => exact (Vw.mono e _ _ q)
    | ins q m l r => exact .ins (hF _ (by simp) _ q) m l (RpL.freeze e ds _ _ _ (fun p hp => hF p (by simp [hp])) r)
  | .non, k, v, F, hF, h => by cases h with | sh c q => exact (Vw.mono e _ _ q)
  | .bl _, k, v, F, hF, h => by cases h with | sh c q => exact (Vw.mono e _ _ q)
  | .int _, k, v, F, hF, h => by cases h with | sh c q => exact (Vw.mono e _ _ q)
  | .str _, k, v, F, hF, h => by cases h with | sh c q => exact (Vw.mono e _ _ q)
  | .glob _, k, v, F, hF, h => by cases h with | sh c q => exact (Vw.mono e _ _ q)
  | .scr _, k, v, F, hF, h => by cases h with | sh c q => exact (Vw.mono e _ _ q)
theorem RpL.freeze (e : Same B B') : ∀ (ds : List D) (k : Nat) (vs : List V) (F : List Addr), (∀ p ∈ F, ∀ o, H p = some o → B' p = some o) → RpL K mg B H k ds vs F → VwL K mg B' ds vs
  | [], _, _, _, hF, h => by cases h; exact .nil
  | d :: ds, _, _, _, hF, h => by
    cases h with
    | cons h1 h2 => exact .cons (Rp.freeze e d _ _ _ (fun p hp => hF p (by simp [hp])) h1) (RpL.freeze e ds _ _ _ (fun p hp => hF p (by simp [hp])) h2)
end
mutual
/-- what is owned stands in the heap -/
theorem Rp.live : ∀ (d : D) (k : Nat) (v : V) (F : List Addr), Rp K mg B H k d v F → ∀ p ∈ F, H p ≠ none
  | .lst ds, k, v, F, h => by
    cases h with
    | sh c q => intro p hp; cases hp
    | lst q z r =>
      intro p hp
      rcases List.mem_cons.mp hp with rfl | hp
      · rw [q]; exact fun z => nomatch z
      · exact RpL.live ds _ _ _ r p hp
  | .tup ds, k, v, F, h => by
    cases h with
    | sh c q => intro p hp; cases hp
    | tup q r =>
      intro p hp
      rcases List.mem_cons.mp hp with rfl | hp
      · rw [q]; exact fun z => nomatch z
      · exact RpL.live ds _ _ _ r p hp
  | .ins c ns ds, k, v, F, h => by
    cases h with
    | sh c q => intro p hp; cases hp
    | ins q m l r =>
      intro p hp
      rcases List.mem_cons.mp hp with rfl | hp
      · rw [q]; exact fun z => nomatch z
      · exact RpL.live ds _ _ _ r p hp
  | .non, k, v, F, h => by cases h with | sh c q => intro p hp; cases hp
  | .bl _, k, v, F, h => by cases h with | sh c q => intro p hp; cases hp
  | .int _, k, v, F, h => by cases h with | sh c q => intro p hp; cases hp
  | .str _, k, v, F, h => by cases h with | sh c q => intro p hp; cases hp
  | .glob _, k, v, F, h => by cases h with | sh c q => intro p hp; cases hp
  | .scr _, k, v, F, h => by cases h with | sh c q => intro p hp; cases hp
theorem RpL.live : ∀ (ds : List D) (k : Nat) (vs : List V) (F : List Addr), RpL K mg B H k ds vs F → ∀ p ∈ F, H p ≠ none
  | [], _, _, _, h => by cases h; intro p hp; cases hp
  | d :: ds, _, _, _, h => by
    cases h with
    | cons h1 h2 =>
      intro p hp
      rcases List.mem_append.mp hp with hp | hp
      · exact Rp.live d _ _ _ h1 p hp
      · exact RpL.live ds _ _ _ h2 p hp
end
/-- shared lists as owned to depth 0 -/
theorem VwL.rp : ∀ {ds : List D} {vs : List V}, VwL K mg B ds vs → RpL K mg B H 0 ds vs []
  | [], _, h => by cases h; exact .nil
  | d :: ds, _, h => by cases h with | cons h1 h2 => exact .cons (F := []) (G := []) (rp_sh h1) (VwL.rp h2)
theorem rp_list1 {p : Addr} {vs : List V} {ds : List D} (h : H p = some (.lst vs)) (z : vs.length ≤ sizeLine) (r : VwL K mg B ds vs) : Rp K mg B H 1 (.lst ds) (.ref p) [p] := .lst h z r.rp
theorem rp_tup1 {p : Addr} {vs : List V} {ds : List D} (h : H p = some (.tup vs)) (r : VwL K mg B ds vs) : Rp K mg B H 1 (.tup ds) (.ref p) [p] := .tup h r.rp
theorem RpL.length : ∀ {ds : List D} {k : Nat} {vs : List V} {F : List Addr}, RpL K mg B H k ds vs F → ds.length = vs.length
  | [], _, _, _, h => by cases h; rfl
  | d :: ds, _, _, _, h => by cases h with | cons h1 h2 => simp [RpL.length h2]
end

/-! ### zones: what is shared (false), what of it is new (true) -/
abbrev Zn := Bool → Hp
structure Zk (Z : Zn) (H : Hp) : Prop where
  t : Same (Z true) (Z false)
  s : Same (Z false) H
theorem Zk.any {Z : Zn} {H : Hp} (k : Zk Z H) (n : Bool) : Same (Z n) (Z false) := by
  cases n with
  | true => exact k.t
  | false => exact .refl _
theorem Zk.h {Z : Zn} {H : Hp} (k : Zk Z H) (n : Bool) : Same (Z n) H := (k.any n).trans k.s
structure Gr (H H' : Hp) (Z Z' : Zn) : Prop where
  h : Same H H'
  z : ∀ n, Same (Z n) (Z' n)
  k : Zk Z' H'
  f : ∀ n a, Z n a = none → Z' n a ≠ none → H a = none
theorem Gr.refl {H : Hp} {Z : Zn} (k : Zk Z H) : Gr H H Z Z := ⟨.refl _, fun _ => .refl _, k, fun _ _ e q => absurd e q⟩
theorem Gr.trans {H H1 H2 : Hp} {Z Z1 Z2 : Zn} (a : Gr H H1 Z Z1) (b : Gr H1 H2 Z1 Z2) : Gr H H2 Z Z2 := by
  refine ⟨a.h.trans b.h, fun n => (a.z n).trans (b.z n), b.k, fun n x e q => ?_⟩
  cases h : Z1 n x with
  | some o => exact a.f n x e (by rw [h]; exact fun z => nomatch z)
  | none => exact a.h.free (b.f n x h q)
/-- lay the objects of F, as they stand in H, into the zones (into the new one, if nw) -/
def zlay (Z : Zn) (H : Hp) (F : List Addr) (nw : Bool) : Zn := fun n a => if a ∈ F ∧ (n = true → nw = true) then H a else Z n a
theorem zlay_in {Z : Zn} {H : Hp} {F : List Addr} {nw : Bool} {p : Addr} (hp : p ∈ F) : zlay Z H F nw nw p = H p := by
  unfold zlay; rw [if_pos ⟨hp, fun h => h⟩]
theorem Gr.lay {H H' : Hp} {Z Z' : Zn} {F : List Addr} {nw : Bool} (g : Gr H H' Z Z') (hF : ∀ p ∈ F, H p = none ∧ Z' false p = none) : Gr H H' Z (zlay Z' H' F nw) := by
  have hz : ∀ n, ∀ p ∈ F, Z' n p = none := fun n p hp => (g.k.any n).free (hF p hp).2
  have zs : ∀ n, Same (Z' n) (zlay Z' H' F nw n) := fun n a o e => by
    unfold zlay
    rw [if_neg (fun h => by rw [hz n a h.1] at e; cases e)]
    exact e
  refine ⟨g.h, fun n => (g.z n).trans (zs n), ⟨fun a o e => ?_, fun a o e => ?_⟩, fun n a e q => ?_⟩
  · unfold zlay at e ⊢
    by_cases h : a ∈ F
    · rw [if_pos ⟨h, fun z => nomatch z⟩]
      split at e
      · exact e
      · rw [hz true a h] at e; cases e
    · rw [if_neg (fun x => h x.1)] at e ⊢
      exact g.k.t a o e
  · unfold zlay at e
    split at e
    · exact e
    · exact g.k.s a o e
  · unfold zlay at q
    split at q
    · rename_i h
      exact (hF a h.1).1
    · exact g.f n a e q
/-- an object is added to the heap alone -/
theorem Gr.add {H H' : Hp} {Z Z' : Zn} {p : Addr} {o : HO} (g : Gr H H' Z Z') (hp : H' p = none) : Gr H (upd H' p o) Z Z' :=
  ⟨g.h.trans (Evl_new hp), g.z, ⟨g.k.t, g.k.s.trans (Evl_new hp)⟩, g.f⟩
where
  Evl_new {H : Hp} {p : Addr} {o : HO} (h : H p = none) : Same H (upd H p o) := fun a u e => by
    rw [upd_ne (ne_of_none e h)]; exact e
theorem same_new {H : Hp} {p : Addr} {o : HO} (h : H p = none) : Same H (upd H p o) := fun a u e => by
  rw [upd_ne (ne_of_none e h)]; exact e
/-- from owned to shared -/
theorem Rp.lay {K : PySem.W.Frag} {mg : Str → Option Value} {Z : Zn} {H : Hp} {F : List Addr} {nw : Bool} {d : D} {k : Nat} {v : V} (z : ∀ p ∈ F, Z false p = none) (zk : Zk Z H) (r : Rp K mg (Z nw) H k d v F) : Vw K mg (zlay Z H F nw nw) d v := by
  refine r.freeze (fun a o e => ?_) d k v F fun p hp o e => ?_
  · unfold zlay
    rw [if_neg (fun h => by rw [(zk.any nw).free (z a h.1)] at e; cases e)]
    exact e
  · rw [zlay_in hp]; exact e
end TT

set_option Elab.async false
set_option linter.all false
set_option maxRecDepth 100000
set_option maxHeartbeats 1000000
/-! TB: the core syntax and its interpreter over plain data. -/
namespace TT
open PySem L2

/-- built-in calls -/
inductive Bl where
  | len | sum | max | min | abs | all | any | sorted | list | int | lrange | sset
/-- what is walked -/
inductive IK where
  | seq | range | zip | enum
/-- a target: a name, or several names (a tuple taken apart) -/
inductive Tg where
  | one (i : Nat) | many (is : List Nat)
/-- classes for isinstance -/
inductive Ty where
  | int | bool | list | tuple | str | cls (c : Str)
mutual
inductive CE where
  | var (i : Nat) | cst (d : D) | gcon (x : Str)
  | bin (op : Operator) (a b : CE) | neg (a : CE)
  | cmp (op : CmpOp) (a b : CE) | chain (o1 o2 : CmpOp) (a b c : CE)
  | and (a b : CE) | or (a b : CE) | not (a : CE) | ite (c a b : CE)
  | call (f : Str) (es : CEs) | blt (f : Bl) (es : CEs) | isi (a : CE) (T : Ty)
  | index (a b : CE) | count (a b : CE)
  | idx (a i : CE) | sl (a : CE) (lo hi : CEs) | stp (a : CE) (st : Nat)
  | lst (es : CEs) | tup (es : CEs)
  | comp (e : CE) (t : Tg) (k : IK) (es : CEs) (c : CEs)
  | orl (a b : CE)
inductive CEs where
  | nil | cons (e : CE) (es : CEs)
end
/-- a plain index: a name's value or a written int -/
inductive Sx where
  | v (i : Nat) | c (i : Int)
/-- a step of a path -/
inductive Pl where
  | ix (s : Sx) | fl (x : Str)
mutual
inductive CS where
  | asg (t : Tg) (e : CE) | par (is : List Nat) (es : CEs)
  | aug (i : Nat) (op : Operator) (e : CE)
  | setI (i : Nat) (ps : List Pl) (j e : CE) | augI (i : Nat) (ps : List Pl) (j : CE) (op : Operator) (e : CE)
  | app (i : Nat) (ps : List Pl) (e : CE) | ext (i : Nat) (ps : List Pl) (e : CE) | insr (i : Nat) (ps : List Pl) (j e : CE)
  | pop (t : Option Nat) (i : Nat) (ps : List Pl) | rev (i : Nat) (ps : List Pl)
  | par2 (i j : Nat) (a b x y : CE)
  | ife (c : CE) (a b : CSs) | fors (t : Tg) (k : IK) (es : CEs) (b : CSs) | whl (c : CE) (b : CSs)
  | ret (e : CE) | retN | expr (e : CE) | pass | rais (c : Str)
inductive CSs where
  | nil | cons (s : CS) (ss : CSs)
end

mutual
def CE.vars : CE → List Nat
  | .var i => [i]
  | .cst _ => []
  | .gcon _ => []
  | .bin _ a b => a.vars ++ b.vars
  | .neg a => a.vars
  | .cmp _ a b => a.vars ++ b.vars
  | .chain _ _ a b c => a.vars ++ b.vars ++ c.vars
  | .and a b => a.vars ++ b.vars
  | .or a b => a.vars ++ b.vars
  | .not a => a.vars
  | .ite c a b => c.vars ++ a.vars ++ b.vars
  | .call _ es => es.vars
  | .blt _ es => es.vars
  | .isi a _ => a.vars
  | .index a b => a.vars ++ b.vars
  | .count a b => a.vars ++ b.vars
  | .idx a i => a.vars ++ i.vars
  | .sl a lo hi => a.vars ++ lo.vars ++ hi.vars
  | .stp a _ => a.vars
  | .lst es => es.vars
  | .tup es => es.vars
  | .comp e _ _ es c => e.vars ++ es.vars ++ c.vars
  | .orl a b => a.vars ++ b.vars
def CEs.vars : CEs → List Nat
  | .nil => []
  | .cons e es => e.vars ++ es.vars
end

abbrev Env := List (Option Val)
def getV (env : Env) (i : Nat) : Res Val := match env[i]? with
  | some (some v) => .ok v
  | _ => .stuck

def ints? : List D → Option (List Int)
  | [] => some []
  | .int i :: ds => (ints? ds).map (i :: ·)
  | _ :: _ => none
def bls? : List D → Option (List Bool)
  | [] => some []
  | .bl i :: ds => (bls? ds).map (i :: ·)
  | _ :: _ => none

/-- a flat thing that is compared by its value -/
def D.plain : D → Bool
  | .non => true
  | .bl _ => true
  | .int _ => true
  | .str x => PyData.strOk x
  | _ => false
mutual
def D.py : Nat → D → Bool
  | n + 1, .lst ds => pyAll n ds
  | n + 1, .tup ds => pyAll n ds
  | _, d => d.plain
def pyAll : Nat → List D → Bool
  | _, [] => true
  | n, d :: ds => D.py n d && pyAll n ds
end
mutual
def toPy : D → PyData
  | .non => .none
  | .bl b => .bool b
  | .int i => .int i
  | .str x => .str x
  | .lst ds => .list (toPys ds)
  | .tup ds => .tuple (toPys ds)
  | _ => .none
def toPys : List D → List PyData
  | [] => []
  | d :: ds => toPy d :: toPys ds
end
def eqD (a b : D) : Bool := PyData.eqv (toPy a) (toPy b)

def LIM : Nat := 1000000
def BIG : Nat := 9

def binI : Operator → Int → Int → Res Val
  | .Add, i, j => .ok (.int (i + j), 0, true)
  | .Sub, i, j => .ok (.int (i - j), 0, true)
  | .Mult, i, j => if i.natAbs.log2 + j.natAbs.log2 < 1000000 then .ok (.int (i * j), 0, true) else .stuck
  | .FloorDiv, i, j => if 0 < j ∧ j.natAbs.log2 < 9000 then .ok (.int (i / j), 0, true) else .stuck
  | .Mod, i, j => if 0 < j then .ok (.int (i % j), 0, true) else .stuck
  | .Pow, i, j => if 0 ≤ j ∧ j ≤ 1000000 ∧ i.natAbs < 2 ^ 64 then .ok (.int (i ^ j.toNat), 0, true) else .stuck
  | .LShift, i, j => if 0 ≤ j ∧ j ≤ 1000000 ∧ i.natAbs < 2 ^ 64 then .ok (.int (i * 2 ^ j.toNat), 0, true) else .stuck
  | .RShift, i, j => if 0 ≤ j then .ok (.int (i / 2 ^ j.toNat), 0, true) else .stuck
  | .BitAnd, i, j => .ok (.int (Builtin.bitAnd i j), 0, true)
  | _, _, _ => .stuck
def nwOf (v : Val) : Bool := v.2.2 || v.1.flat
/-- a list of flat things is new whatever it was made of -/
def nwD (b : Bool) (ds : List D) : Bool := b || ds.all D.flat
def binV (op : Operator) (x y : Val) : Res Val :=
  match op, x.1, y.1 with
  | op, .int i, .int j => binI op i j
  | .Add, .lst xs, .lst ys => if xs.length + ys.length ≤ LIM then .ok (.lst (xs ++ ys), 1, nwD (nwOf x && nwOf y) (xs ++ ys)) else .stuck
  | .Mult, .lst xs, .int n => if -(2 ^ 63) ≤ n ∧ n < 2 ^ 63 ∧ xs.length * n.toNat ≤ LIM then .ok (.lst (List.replicate n.toNat xs).flatten, 1, nwD (nwOf x) (List.replicate n.toNat xs).flatten) else .stuck
  | _, _, _ => .stuck
def negV (x : Val) : Res Val := match x.1 with
  | .int i => .ok (.int (-i), 0, true)
  | _ => .stuck
def okB (b : Bool) : Res Val := .ok (.bl b, 0, true)
def cmpD (op : CmpOp) (x y : D) : Res Bool :=
  match op, x, y with
  | .Lt, .int i, .int j => .ok (decide (i < j))
  | .LtE, .int i, .int j => .ok (decide (i ≤ j))
  | .Gt, .int i, .int j => .ok (decide (j < i))
  | .GtE, .int i, .int j => .ok (decide (j ≤ i))
  | .Eq, x, y => if x.py 9 && y.py 9 then .ok (eqD x y) else .stuck
  | .NotEq, x, y => if x.py 9 && y.py 9 then .ok (!eqD x y) else .stuck
  | .In, x, .lst ys => if x.plain && ys.all D.plain then .ok (ys.any fun y => eqD y x) else .stuck
  | .In, x, .tup ys => if x.plain && ys.all D.plain then .ok (ys.any fun y => eqD y x) else .stuck
  | .NotIn, x, .lst ys => if x.plain && ys.all D.plain then .ok (!(ys.any fun y => eqD y x)) else .stuck
  | .NotIn, x, .tup ys => if x.plain && ys.all D.plain then .ok (!(ys.any fun y => eqD y x)) else .stuck
  | .Is, x, .non => .ok (match x with | .non => true | _ => false)
  | .IsNot, x, .non => .ok (match x with | .non => false | _ => true)
  | .Is, .bl a, .bl b => .ok (a == b)
  | .IsNot, .bl a, .bl b => .ok (!(a == b))
  | _, _, _ => .stuck
def boolOf (v : Val) : Res Bool := match v.1 with
  | .bl b => .ok b
  | _ => .stuck
/-- truth, of bools and lists -/
def atD (xs : List D) (i : Int) : Res D := match atI xs i with
  | some d => .ok d
  | none => .stuck
def cutD {α : Type} (xs : List α) (lo hi : Option Int) : List α := (xs.drop (HT.sIx xs.length 0 lo)).take (HT.sIx xs.length xs.length hi - HT.sIx xs.length 0 lo)
def kOf (v : Val) : Nat := if v.1.flat then BIG else v.2.1
/-- the depth that all of them have that are not flat -/
def kUni (vs : List Val) : Nat := match vs.filter (fun v => !v.1.flat) with
  | [] => 0
  | v :: r => if r.all (fun w => w.2.1 == v.2.1) then v.2.1 else 0
def maxL : List Int → Int
  | [] => 0
  | [x] => x
  | x :: xs => max x (maxL xs)
def minL : List Int → Int
  | [] => 0
  | [x] => x
  | x :: xs => min x (minL xs)
def insI (x : Int) : List Int → List Int
  | [] => [x]
  | y :: ys => if x ≤ y then x :: y :: ys else y :: insI x ys
def sortI : List Int → List Int
  | [] => []
  | x :: xs => insI x (sortI xs)
def ddI : List Int → List Int
  | [] => []
  | x :: xs => if x ∈ xs then ddI xs else x :: ddI xs
def rangeI (a b : Int) : List Int := (List.range (b - a).toNat).map fun (i : Nat) => a + (i : Int)
def ok62 (a : Int) : Bool := decide (-(2 ^ 62) ≤ a) && decide (a < 2 ^ 62)

def lenV : List Val → Res Val
  | [(.lst xs, _, _)] => .ok (.int xs.length, 0, true)
  | [(.tup xs, _, _)] => .ok (.int xs.length, 0, true)
  | _ => .stuck
def sumV : List Val → Res Val
  | [(.lst xs, _, _)] => match ints? xs with
    | some ns => .ok (.int ns.sum, 0, true)
    | none => .stuck
  | _ => .stuck
def maxV : List Val → Res Val
  | [(.lst xs, _, _)] => match ints? xs with
    | some (n :: ns) => .ok (.int (maxL (n :: ns)), 0, true)
    | _ => .stuck
  | [(.int i, _, _), (.int j, _, _)] => .ok (.int (if j > i then j else i), 0, true)
  | _ => .stuck
def minV : List Val → Res Val
  | [(.lst xs, _, _)] => match ints? xs with
    | some (n :: ns) => .ok (.int (minL (n :: ns)), 0, true)
    | _ => .stuck
  | [(.int i, _, _), (.int j, _, _)] => .ok (.int (if j < i then j else i), 0, true)
  | _ => .stuck
def absV : List Val → Res Val
  | [(.int i, _, _)] => .ok (.int (if i < 0 then -i else i), 0, true)
  | _ => .stuck
def allV : List Val → Res Val
  | [(.lst xs, _, _)] => match bls? xs with
    | some bs => .ok (.bl (bs.all id), 0, true)
    | none => .stuck
  | _ => .stuck
def anyV : List Val → Res Val
  | [(.lst xs, _, _)] => match bls? xs with
    | some bs => .ok (.bl (bs.any id), 0, true)
    | none => .stuck
  | _ => .stuck
def sortedV : List Val → Res Val
  | [(.lst xs, _, _)] => match ints? xs with
    | some ns => .ok (.lst ((sortI ns).map D.int), 1, true)
    | none => .stuck
  | _ => .stuck
def listV : List Val → Res Val
  | [(.lst xs, k, nw)] => .ok (.lst xs, 1, nwD nw xs)
  | [(.tup xs, k, nw)] => if xs.length ≤ LIM then .ok (.lst xs, 1, nwD nw xs) else .stuck
  | _ => .stuck
def intV : List Val → Res Val
  | [(.bl b, _, _)] => .ok (.int (if b then 1 else 0), 0, true)
  | [(.int i, _, _)] => .ok (.int i, 0, true)
  | _ => .stuck
def lrangeV : List Val → Res Val
  | [(.int b, _, _)] => if ok62 b && decide (b.toNat ≤ LIM) then .ok (.lst ((rangeI 0 b).map D.int), 1, true) else .stuck
  | [(.int a, _, _), (.int b, _, _)] => if ok62 a && ok62 b && decide ((b - a).toNat ≤ LIM) then .ok (.lst ((rangeI a b).map D.int), 1, true) else .stuck
  | _ => .stuck
def ssetV : List Val → Res Val
  | [(.lst xs, _, _)] => match ints? xs with
    | some ns => if ns.length < 60 then .ok (.lst ((sortI (ddI ns)).map D.int), 1, true) else .stuck
    | none => .stuck
  | _ => .stuck
def bltV : Bl → List Val → Res Val
  | .len => lenV
  | .sum => sumV
  | .max => maxV
  | .min => minV
  | .abs => absV
  | .all => allV
  | .any => anyV
  | .sorted => sortedV
  | .list => listV
  | .int => intV
  | .lrange => lrangeV
  | .sset => ssetV
def isiD (d : D) (T : Ty) : Res Bool :=
  match T, d with
  | .int, .int _ => .ok true
  | .int, .bl _ => .ok true
  | .bool, .bl _ => .ok true
  | .list, .lst _ => .ok true
  | .tuple, .tup _ => .ok true
  | .str, .str _ => .ok true
  | .cls _, _ => .stuck
  | _, .glob _ => .stuck
  | _, .ins _ _ _ => .stuck
  | _, .scr _ => .stuck
  | _, _ => .ok false
/-- the first place of what is equal -/
def indexD (x : D) : List D → Option Nat
  | [] => none
  | y :: ys => if eqD y x then some 0 else (indexD x ys).map (· + 1)

/-- names, one behind another -/
def setM (env : Env) : List (Nat × D) → Nat → Bool → Env
  | [], _, _ => env
  | p :: ps, k, nw => setM (env.set p.1 (some (p.2, k, nw))) ps k nw
def setT (env : Env) : Tg → Val → Res Env
  | .one i, v => .ok (env.set i (some v))
  | .many is, (.tup ds, k, nw) => if ds.length = is.length then .ok (setM env (is.zip ds) (k - 1) nw) else .stuck
  | _, _ => .stuck
/-- the items that are walked -/
def itSeq : List Val → Res (List Val)
  | [(.lst xs, _, nw)] => .ok (xs.map fun d => (d, 0, nw))
  | [(.tup xs, _, nw)] => if xs.length ≤ LIM then .ok (xs.map fun d => (d, 0, nw)) else .stuck
  | _ => .stuck
def itRange : List Val → Res (List Val)
  | [(.int b, _, _)] => if ok62 b && decide (b.toNat ≤ LIM) then .ok ((rangeI 0 b).map fun i => (.int i, 0, true)) else .stuck
  | [(.int a, _, _), (.int b, _, _)] => if ok62 a && ok62 b && decide ((b - a).toNat ≤ LIM) then .ok ((rangeI a b).map fun i => (.int i, 0, true)) else .stuck
  | [(.int a, _, _), (.int b, _, _), (.int c, _, _)] =>
    if decide (0 ≤ a) && decide (a ≤ 1000000) && decide (0 ≤ b) && decide (b ≤ 1000000) && decide (0 < c) && decide (c ≤ 1000000) then
      .ok ((List.range (Builtin.Range.rangeSize a b c).toNat).map fun (i : Nat) => (.int (a + (i : Int) * c), 0, true)) else .stuck
  | _ => .stuck
def itZip : List Val → Res (List Val)
  | [(.lst xs, _, n1), (.lst ys, _, n2)] => .ok ((xs.zip ys).map fun p => (.tup [p.1, p.2], 0, n1 && n2))
  | _ => .stuck
def itEnum : List Val → Res (List Val)
  | [(.lst xs, _, nw)] => .ok (xs.zipIdx.map fun p => (.tup [.int (p.2 : Int), p.1], 0, nw))
  | _ => .stuck
def itemsOf : IK → List Val → Res (List Val)
  | .seq => itSeq
  | .range => itRange
  | .zip => itZip
  | .enum => itEnum
mutual
/-- how deep what comes is owned, at least -/
def CE.sdep : CE → Nat
  | .bin .Add _ _ => 0
  | .sl _ _ _ => 0
  | .lst es => 1 + es.sdep
  | .tup es => 1 + es.sdep
  | .comp e _ _ _ _ => 1 + e.sdep
  | .blt .list _ => 1
  | .blt .sorted _ => 1
  | .blt .lrange _ => 1
  | .blt .sset _ => 1
  | .bin .Mult _ _ => 1
  | _ => 0
def CEs.sdep : CEs → Nat
  | .nil => 0
  | .cons e .nil => e.sdep
  | .cons e es => min e.sdep es.sdep
end

section
variable (Γ : Str → List D → Res Val) (gl : Str → Option D)
/-- map with the first that is not well -/
def mapR {α β : Type} (f : α → Res β) : List α → Res (List β)
  | [] => .ok []
  | x :: xs => do
    let y ← f x
    let ys ← mapR f xs
    .ok (y :: ys)
/-- the loop of a comprehension -/
def compL (test : Env → Res Bool) (elt : Env → Res Val) (env : Env) (t : Tg) : List Val → Res (List Val)
  | [] => .ok []
  | x :: xs => do
    let e ← setT env t x
    let b ← test e
    if b then do
      let y ← elt e
      let ys ← compL test elt env t xs
      .ok (y :: ys)
    else compL test elt env t xs
mutual
def evalE : CE → Env → Res Val
  | .var i, env => do
    let v ← getV env i
    .ok (v.1, 0, v.2.2)
  | .cst d, _ => if d.flat then .ok (d, 0, true) else .stuck
  | .gcon x, _ => match gl x with
    | some d => if d.flat then .ok (d, 0, true) else .stuck
    | none => .stuck
  | .bin op a b, env => do
    let x ← evalE a env
    let y ← evalE b env
    binV op x y
  | .neg a, env => do
    let x ← evalE a env
    negV x
  | .cmp op a b, env => do
    let x ← evalE a env
    let y ← evalE b env
    let r ← cmpD op x.1 y.1
    okB r
  | .chain o1 o2 a b c, env => do
    let x ← evalE a env
    let y ← evalE b env
    let r ← cmpD o1 x.1 y.1
    if r then do
      let z ← evalE c env
      let r2 ← cmpD o2 y.1 z.1
      okB r2
    else okB false
  | .and a b, env => do
    let x ← evalE a env
    let r ← boolOf x
    if r then evalE b env else okB false
  | .or a b, env => do
    let x ← evalE a env
    let r ← boolOf x
    if r then okB true else evalE b env
  | .not a, env => do
    let x ← evalE a env
    let r ← boolOf x
    okB (!r)
  | .ite c a b, env => do
    let x ← evalE c env
    let r ← boolOf x
    if r then evalE a env else evalE b env
  | .call f es, env => do
    let vs ← evalEs es env
    match Γ f (vs.map (·.1)) with
    | .ok (d, k, nw) => .ok (d, k, nw || vs.all nwOf)
    | .exc c => .exc c
    | .stuck => .stuck
  | .blt f es, env => do
    let vs ← evalEs es env
    bltV f vs
  | .isi a T, env => do
    let x ← evalE a env
    let r ← isiD x.1 T
    okB r
  | .index a b, env => do
    let x ← evalE a env
    let y ← evalE b env
    match x.1 with
    | .lst xs => if y.1.plain && xs.all D.plain then (match indexD y.1 xs with | some j => .ok (.int j, 0, true) | none => .stuck) else .stuck
    | _ => .stuck
  | .count a b, env => do
    let x ← evalE a env
    let y ← evalE b env
    match x.1, y.1 with
    | .lst xs, .int n => (match ints? xs with | some ns => .ok (.int (ns.count n), 0, true) | none => .stuck)
    | _, _ => .stuck
  | .idx a i, env => do
    let x ← evalE a env
    let y ← evalE i env
    match x.1, y.1 with
    | .lst xs, .int j => do let d ← atD xs j; .ok (d, 0, x.2.2)
    | .tup xs, .int j => do let d ← atD xs j; .ok (d, 0, x.2.2)
    | _, _ => .stuck
  | .sl a lo hi, env => do
    let x ← evalE a env
    let l ← evalO lo env
    let h ← evalO hi env
    match x.1 with
    | .lst xs => .ok (.lst (cutD xs l h), 1, nwD x.2.2 (cutD xs l h))
    | .scr xs => if xs.length ≤ LIM then .ok (.lst ((cutD xs l h).map D.int), 1, true) else .stuck
    | _ => .stuck
  | .stp a n, env => .stuck
  | .lst es, env => do
    let vs ← evalEs es env
    if vs.length ≤ LIM then .ok (.lst (vs.map (·.1)), 1 + kUni vs, vs.all nwOf) else .stuck
  | .tup es, env => do
    let vs ← evalEs es env
    if vs.length ≤ LIM then .ok (.tup (vs.map (·.1)), 1 + kUni vs, vs.all nwOf) else .stuck
  | .comp e t k es c, env => do
    let vs ← evalEs es env
    let its ← itemsOf k vs
    let ys ← compL (fun en => (evalC c en).nx) (fun en => (evalE e en).nx) env t its
    if ys.all (fun v => v.1.flat || v.2.1 == e.sdep || e.sdep == 0) then .ok (.lst (ys.map (·.1)), 1 + e.sdep, ys.all nwOf) else .stuck
  | .orl a b, env => do
    let x ← evalE a env
    match x.1 with
    | .lst xs => if xs.isEmpty then evalE b env else .ok x
    | _ => .stuck
def evalEs : CEs → Env → Res (List Val)
  | .nil, _ => .ok []
  | .cons e es, env => do
    let v ← evalE e env
    let vs ← evalEs es env
    .ok (v :: vs)
/-- a comprehension's tests -/
def evalC : CEs → Env → Res Bool
  | .nil, _ => .ok true
  | .cons e .nil, env => do
    let v ← evalE e env
    boolOf v
  | .cons _ (.cons _ _), _ => .stuck
/-- a part of a slice -/
def evalO : CEs → Env → Res (Option Int)
  | .nil, _ => .ok none
  | .cons e .nil, env => do
    let v ← evalE e env
    match v.1 with
    | .int i => .ok (some i)
    | _ => .stuck
  | .cons _ (.cons _ _), _ => .stuck
end
end
end TT

set_option Elab.async false
set_option linter.all false
set_option maxRecDepth 100000
set_option maxHeartbeats 1000000
/-! TC: the interpreter's outcomes as readings; plain expressions. -/
namespace TT
open PySem L2

theorem _root_.L2.PE.imp {X : Cx} {e : Expr} {t t' : TE} (h : PE X e t) (i : ∀ σ H Q, t' σ H Q → t σ H Q) : PE X e t' := ⟨fun pins s σ H Q I q => h.run pins s σ H Q I (i σ H Q q)⟩
theorem _root_.L2.PT.imp {X : Cx} {e : Expr} {t t' : TT} (h : PT X e t) (i : ∀ σ H Q, t' σ H Q → t σ H Q) : PT X e t' := ⟨fun pins s σ H Q I q => h.run pins s σ H Q I (i σ H Q q)⟩
theorem _root_.L2.PW.imp {X : Cx} {e : Expr} {t t' : TT} (h : PW X e t) (i : ∀ σ H Q, t' σ H Q → t σ H Q) : PW X e t' := ⟨fun wh pins s σ H Q I q => h.run wh pins s σ H Q I (i σ H Q q)⟩
theorem _root_.L2.PA.imp {X : Cx} {es : List Expr} {t t' : TA} (h : PA X es t) (i : ∀ σ H Q, t' σ H Q → t σ H Q) : PA X es t' := ⟨fun pos pins s σ H Q I q => h.run pos pins s σ H Q I (i σ H Q q)⟩
theorem _root_.L2.PO.imp {X : Cx} {e : Option Expr} {t t' : TO} (h : PO X e t) (i : ∀ σ H Q, t' σ H Q → t σ H Q) : PO X e t' := ⟨fun pins s σ H Q I q => h.run pins s σ H Q I (i σ H Q q)⟩
theorem _root_.L2.PS.imp {X : Cx} {e : Stmt} {t t' : TS} (h : PS X e t) (i : ∀ D σ H, t' D σ H → t D σ H) : PS X e t' := ⟨fun pins s σ H D I q => h.run pins s σ H D I (i D σ H q)⟩
theorem _root_.L2.PSs.imp {X : Cx} {e : List Stmt} {t t' : TS} (h : PSs X e t) (i : ∀ D σ H, t' D σ H → t D σ H) : PSs X e t' := ⟨fun pins s σ H D I q => h.run pins s σ H D I (i D σ H q)⟩

/-- what stays the same through a def: the written part, its names, what the callees do, constants, the wish about errors -/
structure Gb where
  K : PySem.W.Frag
  mg : Str → Option Value
  Γ : Str → List D → Res Val
  gl : Str → Option D
  E : XK
section
variable (G : Gb)
def Exc (H : Hp) (c : Str) : Prop := ∀ H' C, Same H H' → G.mg c = some (.ref C) → G.E (.ref C) none H'
def Out (H : Hp) (Z : Zn) (r : Res Val) (Q : V → Hp → Prop) : Prop :=
  match r with
  | .ok v => ∀ x H' Z' F, Gr H H' Z Z' → F.Nodup → (∀ p ∈ F, H p = none ∧ Z' false p = none) → Rp G.K G.mg (Z' v.2.2) H' v.2.1 v.1 x F → Q x H'
  | .exc c => Exc G H c
  | .stuck => False
/-- an outcome that is no thing of the heap -/
def OutR {α : Type} (H : Hp) (Z : Zn) (r : Res α) (Q : α → Hp → Prop) : Prop :=
  match r with
  | .ok v => ∀ H' Z', Gr H H' Z Z' → Q v H'
  | .exc c => Exc G H c
  | .stuck => False
inductive RpA (Z : Zn) (H : Hp) : List Val → List V → List Addr → Prop
  | nil : RpA Z H [] [] []
  | cons {v : Val} {vs : List Val} {x : V} {xs : List V} {F F2 : List Addr} : Rp G.K G.mg (Z v.2.2) H v.2.1 v.1 x F → RpA Z H vs xs F2 → RpA Z H (v :: vs) (x :: xs) (F ++ F2)
inductive VwA (Z : Zn) : List Val → List V → Prop
  | nil : VwA Z [] []
  | cons {v : Val} {vs : List Val} {x : V} {xs : List V} : Vw G.K G.mg (Z v.2.2) v.1 x → VwA Z vs xs → VwA Z (v :: vs) (x :: xs)
def OutA (H : Hp) (Z : Zn) (r : Res (List Val)) (Q : List V → Hp → Prop) : Prop :=
  match r with
  | .ok vs => ∀ xs H' Z' F, Gr H H' Z Z' → F.Nodup → (∀ p ∈ F, H p = none ∧ Z' false p = none) → RpA G Z' H' vs xs F → Q xs H'
  | .exc c => Exc G H c
  | .stuck => False
def EOk (Z : Zn) (S : List Nat) (env : Env) (σ : L2.St) : Prop := env.length = σ.length ∧ ∀ i ∈ S, ∀ v : Val, env[i]? = some (some v) → ∃ x, σ[i]? = some (some x) ∧ Vw G.K G.mg (Z v.2.2) v.1 x
def tD (c : CE) : TE := fun σ H Q => ∃ Z env, Zk Z H ∧ EOk G Z c.vars env σ ∧ Out G H Z (evalE G.Γ G.gl c env) Q
def tA (c : CEs) : TA := fun σ H Q => ∃ Z env, Zk Z H ∧ EOk G Z c.vars env σ ∧ OutA G H Z (evalEs G.Γ G.gl c env) Q
def tDT (c : CE) : TT := fun σ H Q => ∃ Z env, Zk Z H ∧ EOk G Z c.vars env σ ∧ OutR G H Z (evalE G.Γ G.gl c env >>= boolOf) Q
end
section
variable {G : Gb} {H H1 H' : Hp} {Z Z1 Z' : Zn} {σ : L2.St} {env : Env}
theorem Exc.step {c : Str} (g : Same H H1) (h : Exc G H c) : Exc G H1 c := fun H' C s e => h H' C (g.trans s) e
theorem Out.step {r : Res Val} {Q : V → Hp → Prop} (g : Gr H H1 Z Z1) (h : Out G H Z r Q) : Out G H1 Z1 r Q := by
  cases r with
  | ok v => exact fun x H' Z' F g' nd fr rp => h x H' Z' F (g.trans g') nd (fun p hp => ⟨g.h.free (fr p hp).1, (fr p hp).2⟩) rp
  | exc c => exact Exc.step g.h h
  | stuck => exact h
theorem OutR.step {α : Type} {r : Res α} {Q : α → Hp → Prop} (g : Gr H H1 Z Z1) (h : OutR G H Z r Q) : OutR G H1 Z1 r Q := by
  cases r with
  | ok v => exact fun H' Z' g' => h H' Z' (g.trans g')
  | exc c => exact Exc.step g.h h
  | stuck => exact h
theorem OutA.step {r : Res (List Val)} {Q : List V → Hp → Prop} (g : Gr H H1 Z Z1) (h : OutA G H Z r Q) : OutA G H1 Z1 r Q := by
  cases r with
  | ok v => exact fun x H' Z' F g' nd fr rp => h x H' Z' F (g.trans g') nd (fun p hp => ⟨g.h.free (fr p hp).1, (fr p hp).2⟩) rp
  | exc c => exact Exc.step g.h h
  | stuck => exact h
/-- a flat answer -/
theorem Out.flat {v : Val} {x : V} {Q : V → Hp → Prop} (f : v.1.flat = true) (w : Vw G.K G.mg (Z v.2.2) v.1 x) (zk : Zk Z H) (h : Out G H Z (.ok v) Q) : Q x H :=
  h x H Z [] (Gr.refl zk) List.nodup_nil (fun p hp => nomatch hp) (rp_flat f w)
theorem Out.share {v : Val} {x : V} {Q : V → Hp → Prop} (k : v.2.1 = 0) (w : Vw G.K G.mg (Z v.2.2) v.1 x) (zk : Zk Z H) (h : Out G H Z (.ok v) Q) : Q x H :=
  h x H Z [] (Gr.refl zk) List.nodup_nil (fun p hp => nomatch hp) (by rw [k]; exact rp_sh w)
/-- a new list whose items are shared -/
theorem Out.newL {ds : List D} {nw : Bool} {vs : List V} {p : Addr} {Q : V → Hp → Prop} (zk : Zk Z H) (hp : H p = none) (z : vs.length ≤ sizeLine) (w : VwL G.K G.mg (Z nw) ds vs) (h : Out G H Z (.ok (.lst ds, 1, nw)) Q) : Q (.ref p) (upd H p (.lst vs)) := by
  refine h (.ref p) _ Z [p] ((Gr.refl zk).add hp) (by simp) (fun q hq => ?_) (rp_list1 upd_same z w)
  have e : q = p := by simpa using hq
  subst e
  exact ⟨hp, zk.s.free hp⟩
theorem EOk.mono {S : List Nat} (g : ∀ n, Same (Z n) (Z1 n)) (h : EOk G Z S env σ) : EOk G Z1 S env σ := ⟨h.1, fun i hi v e => by
  obtain ⟨x, e1, w⟩ := h.2 i hi v e
  exact ⟨x, e1, Vw.mono (g _) _ _ w⟩⟩
theorem EOk.sub {S T : List Nat} (s : ∀ i ∈ T, i ∈ S) (h : EOk G Z S env σ) : EOk G Z T env σ := ⟨h.1, fun i hi v e => h.2 i (s i hi) v e⟩
theorem EOk.l {S T : List Nat} (h : EOk G Z (S ++ T) env σ) : EOk G Z S env σ := h.sub fun _ hi => List.mem_append_left _ hi
theorem EOk.r {S T : List Nat} (h : EOk G Z (S ++ T) env σ) : EOk G Z T env σ := h.sub fun _ hi => List.mem_append_right _ hi
/-- the next expression: its value shared -/
theorem tD_bind {c : CE} {f : Val → Res Val} {Q : V → Hp → Prop} {Q' : V → Hp → Prop} (zk : Zk Z H) (eo : EOk G Z c.vars env σ) (o : Out G H Z (evalE G.Γ G.gl c env >>= f) Q)
    (h : ∀ v x H1 Z1, evalE G.Γ G.gl c env = .ok v → Gr H H1 Z Z1 → Vw G.K G.mg (Z1 v.2.2) v.1 x → Out G H1 Z1 (f v) Q → Q' x H1) : tD G c σ H Q' := by
  refine ⟨Z, env, zk, eo, ?_⟩
  cases e : evalE G.Γ G.gl c env with
  | ok v =>
    rw [e] at o
    intro x H' Z' F g nd fr rp
    have g2 := g.lay (F := F) (nw := v.2.2) fr
    exact h v x H' _ e g2 (Rp.lay (fun p hp => (fr p hp).2) g.k rp) (Out.step g2 o)
  | exc c => rw [e] at o; exact o
  | stuck => rw [e] at o; exact o
theorem tD_bindR {α : Type} {c : CE} {f : Val → Res α} {Q : α → Hp → Prop} {Q' : V → Hp → Prop} (zk : Zk Z H) (eo : EOk G Z c.vars env σ) (o : OutR G H Z (evalE G.Γ G.gl c env >>= f) Q)
    (h : ∀ v x H1 Z1, evalE G.Γ G.gl c env = .ok v → Gr H H1 Z Z1 → Vw G.K G.mg (Z1 v.2.2) v.1 x → OutR G H1 Z1 (f v) Q → Q' x H1) : tD G c σ H Q' := by
  refine ⟨Z, env, zk, eo, ?_⟩
  cases e : evalE G.Γ G.gl c env with
  | ok v =>
    rw [e] at o
    intro x H' Z' F g nd fr rp
    have g2 := g.lay (F := F) (nw := v.2.2) fr
    exact h v x H' _ e g2 (Rp.lay (fun p hp => (fr p hp).2) g.k rp) (OutR.step g2 o)
  | exc c => rw [e] at o; exact o
  | stuck => rw [e] at o; exact o
theorem tDT_bind {c : CE} {f : Bool → Res Val} {Q : V → Hp → Prop} {Q' : Bool → Hp → Prop} (zk : Zk Z H) (eo : EOk G Z c.vars env σ) (o : Out G H Z (evalE G.Γ G.gl c env >>= fun x => boolOf x >>= f) Q)
    (h : ∀ b H1 Z1, Gr H H1 Z Z1 → Out G H1 Z1 (f b) Q → Q' b H1) : tDT G c σ H Q' := by
  refine ⟨Z, env, zk, eo, ?_⟩
  cases e : evalE G.Γ G.gl c env with
  | ok v =>
    rw [e] at o
    simp only [Res.bind_ok] at o ⊢
    cases e2 : boolOf v with
    | ok b =>
      rw [e2] at o
      exact fun H' Z' g => h b H' Z' g (Out.step g o)
    | exc c => rw [e2] at o; exact o
    | stuck => rw [e2] at o; exact o
  | exc c => rw [e] at o; exact o
  | stuck => rw [e] at o; exact o
theorem tDT_bindR {α : Type} {c : CE} {f : Bool → Res α} {Q : α → Hp → Prop} {Q' : Bool → Hp → Prop} (zk : Zk Z H) (eo : EOk G Z c.vars env σ) (o : OutR G H Z (evalE G.Γ G.gl c env >>= fun x => boolOf x >>= f) Q)
    (h : ∀ b H1 Z1, Gr H H1 Z Z1 → OutR G H1 Z1 (f b) Q → Q' b H1) : tDT G c σ H Q' := by
  refine ⟨Z, env, zk, eo, ?_⟩
  cases e : evalE G.Γ G.gl c env with
  | ok v =>
    rw [e] at o
    simp only [Res.bind_ok] at o ⊢
    cases e2 : boolOf v with
    | ok b =>
      rw [e2] at o
      exact fun H' Z' g => h b H' Z' g (OutR.step g o)
    | exc c => rw [e2] at o; exact o
    | stuck => rw [e2] at o; exact o
  | exc c => rw [e] at o; exact o
  | stuck => rw [e] at o; exact o
theorem RpA.live : ∀ {vs : List Val} {xs : List V} {F : List Addr}, RpA G Z H vs xs F → ∀ p ∈ F, H p ≠ none
  | _, _, _, .nil => fun p hp => nomatch hp
  | _, _, _, .cons r rs => fun p hp => (List.mem_append.mp hp).elim (Rp.live _ _ _ _ r p) (RpA.live rs p)
theorem VwA.mono (g : ∀ n, Same (Z n) (Z1 n)) : ∀ {vs : List Val} {xs : List V}, VwA G Z vs xs → VwA G Z1 vs xs
  | _, _, .nil => .nil
  | _, _, .cons r rs => .cons (Vw.mono (g _) _ _ r) (VwA.mono g rs)
theorem RpA.mono {H2 : Hp} (g : ∀ n, Same (Z n) (Z1 n)) (hh : Same H H2) : ∀ {vs : List Val} {xs : List V} {F : List Addr}, RpA G Z H vs xs F → RpA G Z1 H2 vs xs F
  | _, _, _, .nil => .nil
  | _, _, _, .cons r rs => .cons (Rp.mono (g _) _ _ _ _ (fun _ _ _ q => hh _ _ q) r) (RpA.mono g hh rs)
theorem zlay_same {F : List Addr} {nw : Bool} (zk : Zk Z H1) (fr : ∀ p ∈ F, Z false p = none) (n : Bool) : Same (Z n) (zlay Z H1 F nw n) := fun a o e => by
  unfold zlay
  rw [if_neg (fun h => by rw [(zk.any n).free (fr a h.1)] at e; cases e)]
  exact e
/-- all of it laid into the zones -/
theorem RpA.lay {Z0 : Zn} : ∀ {vs : List Val} {xs : List V} {F : List Addr} {Z : Zn}, RpA G Z H1 vs xs F → Gr H H1 Z0 Z → F.Nodup → (∀ p ∈ F, H p = none ∧ Z false p = none) → ∃ Z2, Gr H H1 Z0 Z2 ∧ (∀ n, Same (Z n) (Z2 n)) ∧ VwA G Z2 vs xs
  | _, _, _, Z, .nil, g, _, _ => ⟨Z, g, fun _ => .refl _, .nil⟩
  | _, _, _, Z, .cons (v := v) (F := F) (F2 := F2) r rs, g, nd, fr => by
    have fr1 : ∀ p ∈ F, H p = none ∧ Z false p = none := fun p hp => fr p (List.mem_append_left _ hp)
    have g2 := g.lay (F := F) (nw := v.2.2) fr1
    have hz : ∀ n, Same (Z n) (zlay Z H1 F v.2.2 n) := zlay_same g.k fun p hp => (fr1 p hp).2
    obtain ⟨Z2, g3, s3, w⟩ := RpA.lay (RpA.mono (H2 := H1) hz (.refl _) rs) g2 (List.nodup_append.mp nd).2.1 (fun p hp => by
      have hp2 := fr p (List.mem_append_right _ hp)
      refine ⟨hp2.1, ?_⟩
      unfold zlay
      rw [if_neg (fun h => (List.nodup_append.mp nd).2.2 p h.1 p hp rfl)]
      exact hp2.2)
    exact ⟨Z2, g3, fun n => (hz n).trans (s3 n), .cons (Vw.mono (s3 _) _ _ (Rp.lay (fun p hp => (fr1 p hp).2) g.k r)) w⟩
theorem tA_bind {c : CEs} {f : List Val → Res Val} {Q : V → Hp → Prop} {Q' : List V → Hp → Prop} (zk : Zk Z H) (eo : EOk G Z c.vars env σ) (o : Out G H Z (evalEs G.Γ G.gl c env >>= f) Q)
    (h : ∀ vs xs H1 Z1, evalEs G.Γ G.gl c env = .ok vs → Gr H H1 Z Z1 → VwA G Z1 vs xs → Out G H1 Z1 (f vs) Q → Q' xs H1) : tA G c σ H Q' := by
  refine ⟨Z, env, zk, eo, ?_⟩
  cases e : evalEs G.Γ G.gl c env with
  | ok v =>
    rw [e] at o
    intro x H' Z' F g nd fr rp
    obtain ⟨Z2, g2, s2, w⟩ := RpA.lay rp g nd fr
    exact h v x H' _ e g2 w (Out.step g2 o)
  | exc c => rw [e] at o; exact o
  | stuck => rw [e] at o; exact o
end

/-! ### argument lists -/
section
variable {G : Gb} {X : Cx}
theorem pa_nilD : PA X [] (tA G .nil) := (pa_nil).imp fun σ H Q ⟨Z, env, zk, _, o⟩ => by
  simp only [evalEs] at o
  exact o [] H Z [] (Gr.refl zk) List.nodup_nil (fun p hp => nomatch hp) .nil
theorem pa_consD {e : Expr} {es : List Expr} {c : CE} {cs : CEs} (ha : PE X e (tD G c)) (hr : PA X es (tA G cs)) (hs : starEach (e :: es) X.env = (false, eval e X.env) :: starEach es X.env) : PA X (e :: es) (tA G (.cons c cs)) := by
  refine (pa_cons ha hr hs).imp fun σ H Q ⟨Z, env, zk, eo, o⟩ => ?_
  simp only [evalEs] at o
  refine ⟨Z, env, zk, eo.l, ?_⟩
  cases e1 : evalE G.Γ G.gl c env with
  | exc c => rw [e1] at o; exact o
  | stuck => rw [e1] at o; exact o
  | ok v =>
    rw [e1] at o
    intro x H1 Z1 F1 g1 nd1 fr1 rp1
    refine ⟨Z1, env, g1.k, EOk.mono g1.z eo.r, ?_⟩
    simp only [Res.bind_ok] at o
    cases e2 : evalEs G.Γ G.gl cs env with
    | exc c => rw [e2] at o; exact Exc.step g1.h o
    | stuck => rw [e2] at o; exact o
    | ok vs =>
      rw [e2] at o
      intro xs H2 Z2 F2 g2 nd2 fr2 rp2
      have live := Rp.live _ _ _ _ rp1
      refine o (x :: xs) H2 Z2 (F1 ++ F2) (g1.trans g2) (List.nodup_append.mpr ⟨nd1, nd2, fun a ha b hb eab => ?_⟩) (fun p hp => ?_) (.cons (Rp.mono (g2.z _) _ _ _ _ (fun _ _ _ q => g2.h _ _ q) rp1) rp2)
      · subst eab
        exact live a ha (fr2 a hb).1
      · rcases List.mem_append.mp hp with hp | hp
        · refine ⟨(fr1 p hp).1, ?_⟩
          cases q : Z2 false p with
          | none => rfl
          | some u => exact absurd (g2.f false p (fr1 p hp).2 (by rw [q]; exact fun z => nomatch z)) (live p hp)
        · exact ⟨g1.h.free (fr2 p hp).1, (fr2 p hp).2⟩

/-! ### names, constants -/
theorem pe_varD {i : Nat} {x : Str} {pos : Pos} (hN : X.N[i]? = some x) (hv : Vis X.env.scope x) (hd : (x == ("__debug__" : Str)) = false) (hcd : (x == ("__classdict__" : Str)) = false) : PE X (.Name x pos) (tD G (.var i)) := by
  refine (pe_var hN hv hd hcd).imp fun σ H Q ⟨Z, env, zk, eo, o⟩ => ?_
  simp only [evalE, getV] at o
  cases e : env[i]? with
  | none => rw [e] at o; exact o.elim
  | some w =>
    cases w with
    | none => rw [e] at o; exact o.elim
    | some v =>
      rw [e] at o
      obtain ⟨y, e1, w⟩ := eo.2 i (by simp [CE.vars]) v e
      exact ⟨y, e1, Out.share (v := (v.1, 0, v.2.2)) rfl w zk o⟩
theorem flat_out {d : D} {v : V} {H : Hp} {Z : Zn} {Q : V → Hp → Prop} (zk : Zk Z H) (w : ∀ B, Vw G.K G.mg B d v) (o : Out G H Z (if d.flat then .ok (d, 0, true) else .stuck) Q) : Q v H := by
  by_cases f : d.flat = true
  · rw [if_pos f] at o
    exact Out.flat (v := (d, 0, true)) f (w _) zk o
  · rw [if_neg f] at o
    exact o.elim
theorem pe_intD {i : Int} {j : Nat} {pos : Pos} : PE X (.Constant (.int i) j pos) (tD G (.cst (.int i))) := pe_int.imp fun σ H Q ⟨Z, env, zk, eo, o⟩ => by
  simp only [evalE] at o
  exact flat_out zk (fun _ => .int i) o
theorem pe_blD {b : Bool} {j : Nat} {pos : Pos} : PE X (.Constant (.bool b) j pos) (tD G (.cst (.bl b))) := pe_bl.imp fun σ H Q ⟨Z, env, zk, eo, o⟩ => by
  simp only [evalE] at o
  exact flat_out zk (fun _ => .bl b) o
theorem pe_nonD {j : Nat} {pos : Pos} : PE X (.Constant .none j pos) (tD G (.cst .non)) := pe_non.imp fun σ H Q ⟨Z, env, zk, eo, o⟩ => by
  simp only [evalE] at o
  exact flat_out zk (fun _ => .non) o
theorem pe_strD {x : Str} {j : Nat} {pos : Pos} : PE X (.Constant (.str x) j pos) (tD G (.cst (.str x))) := pe_str.imp fun σ H Q ⟨Z, env, zk, eo, o⟩ => by
  simp only [evalE] at o
  exact flat_out zk (fun _ => .str x) o
/-- a module's constant, a def or a class as a value -/
theorem pe_gconD {x : Str} {d : D} {u : Value} {v : V} {pos : Pos} (hg : Gl X x) (hm : X.mg x = some u) (r : RelV v u) (hw : ∀ B, Vw G.K G.mg B d v) (hd : G.gl x = some d) (hdb : (x == ("__debug__" : Str)) = false) : PE X (.Name x pos) (tD G (.gcon x)) :=
  (pe_glob hg hm r hdb).imp fun σ H Q ⟨Z, env, zk, eo, o⟩ => by
    simp only [evalE, hd] at o
    exact flat_out zk hw o

/-! ### arithmetic -/
def rBin (G : Gb) (op : Operator) : R2 := fun x y H Q => ∃ Z v w, Zk Z H ∧ Vw G.K G.mg (Z v.2.2) v.1 x ∧ Vw G.K G.mg (Z w.2.2) w.1 y ∧ Out G H Z (binV op v w) Q
theorem vw_int {K : PySem.W.Frag} {mg : Str → Option Value} {B : Hp} {i : Int} {x : V} (h : Vw K mg B (.int i) x) : x = .int i := by cases h; rfl
theorem vw_bl {K : PySem.W.Frag} {mg : Str → Option Value} {B : Hp} {i : Bool} {x : V} (h : Vw K mg B (.bl i) x) : x = .bl i := by cases h; rfl
theorem vw_lst {K : PySem.W.Frag} {mg : Str → Option Value} {B : Hp} {ds : List D} {x : V} (h : Vw K mg B (.lst ds) x) : ∃ a vs, x = .ref a ∧ B a = some (.lst vs) ∧ vs.length ≤ sizeLine ∧ VwL K mg B ds vs := by
  cases h with | lst q z r => exact ⟨_, _, rfl, q, z, r⟩
theorem vw_tup {K : PySem.W.Frag} {mg : Str → Option Value} {B : Hp} {ds : List D} {x : V} (h : Vw K mg B (.tup ds) x) : ∃ a vs, x = .ref a ∧ B a = some (.tup vs) ∧ VwL K mg B ds vs := by
  cases h with | tup q r => exact ⟨_, _, rfl, q, r⟩
theorem lim_size {n : Nat} (h : n ≤ LIM) : n ≤ sizeLine := Nat.le_trans h (by decide)
theorem nw_up {Z : Zn} {H : Hp} {b c : Bool} (zk : Zk Z H) (h : c = true → b = true) : Same (Z b) (Z c) := by
  cases c with
  | true => rw [h rfl]; exact .refl _
  | false => exact zk.any b
theorem vwL_up {G : Gb} {Z : Zn} {H : Hp} {ds : List D} {vs : List V} {b c : Bool} (zk : Zk Z H) (h : c = true → b = true) (w : VwL G.K G.mg (Z b) ds vs) : VwL G.K G.mg (Z c) ds vs := VwL.mono (nw_up zk h) _ _ w

theorem VwL.flats {K : PySem.W.Frag} {mg : Str → Option Value} {B B' : Hp} : ∀ {ds : List D} {vs : List V}, ds.all D.flat = true → VwL K mg B ds vs → VwL K mg B' ds vs
  | [], _, _, w => by cases w; exact .nil
  | d :: ds, _, h, w => by
    simp only [List.all_cons, Bool.and_eq_true] at h
    cases w with
    | cons w1 w2 => exact .cons (Vw.flat_any h.1 w1) (VwL.flats h.2 w2)
theorem VwL.nw {G : Gb} {Z : Zn} {b : Bool} {ds : List D} {vs : List V} (w : VwL G.K G.mg (Z b) ds vs) : VwL G.K G.mg (Z (nwD b ds)) ds vs := by
  unfold nwD
  cases b with
  | true => exact w
  | false =>
    rw [Bool.false_or]
    cases h : ds.all D.flat with
    | false => exact w
    | true => exact w.flats h
theorem op_bin {op : Operator} (hK : G.K = X.K) : OpR X (binaryOp op) (rBin G op) := by
  intro pins s σ H x y u w Q I rx ry h
  obtain ⟨Z, ⟨d1, k1, n1⟩, ⟨d2, k2, n2⟩, zk, w1, w2, o⟩ := h
  simp only [binV] at o
  split at o
  · rename_i i j
    have ex := vw_int w1
    have ey := vw_int w2
    subst ex ey
    have fin : ∀ {z : Int}, Out G H Z (.ok (.int z, 0, true)) Q → Q (.int z) H := fun {z} o => Out.flat (v := (.int z, 0, true)) rfl (.int z) zk o
    unfold binI at o
    split at o
    · exact op_add pins s σ H _ _ u w Q I rx ry ⟨i, j, rfl, rfl, fin o⟩
    · exact op_sub pins s σ H _ _ u w Q I rx ry ⟨i, j, rfl, rfl, fin o⟩
    · split at o
      · rename_i c; exact op_mulW pins s σ H _ _ u w Q I rx ry ⟨i, j, rfl, rfl, c, fin o⟩
      · exact o.elim
    · split at o
      · rename_i c; exact op_fdivW pins s σ H _ _ u w Q I rx ry ⟨i, j, rfl, rfl, c, fin o⟩
      · exact o.elim
    · split at o
      · rename_i c; exact op_mod pins s σ H _ _ u w Q I rx ry ⟨i, j, rfl, rfl, c, fin o⟩
      · exact o.elim
    · split at o
      · rename_i c; exact op_pow pins s σ H _ _ u w Q I rx ry ⟨i, j, rfl, rfl, c, fin o⟩
      · exact o.elim
    · split at o
      · rename_i c; exact op_shl pins s σ H _ _ u w Q I rx ry ⟨i, j, rfl, rfl, c, fin o⟩
      · exact o.elim
    · split at o
      · rename_i c; exact op_shr pins s σ H _ _ u w Q I rx ry ⟨i, j, rfl, rfl, c, fin o⟩
      · exact o.elim
    · exact op_and pins s σ H _ _ u w Q I rx ry ⟨i, j, rfl, rfl, fin o⟩
    · exact o.elim
  · rename_i xs ys
    split at o
    · rename_i c
      obtain ⟨a, vs, rfl, ha, _, r1⟩ := vw_lst w1
      obtain ⟨b, us, rfl, hb, _, r2⟩ := vw_lst w2
      have l1 := r1.length
      have l2 := r2.length
      refine op_cat pins s σ H _ _ u w Q I rx ry ⟨a, b, vs, us, rfl, rfl, zk.h _ _ _ ha, zk.h _ _ _ hb, by rw [← l1, ← l2]; exact lim_size c, fun p hp => ?_⟩
      refine Out.newL (G := G) zk hp (by rw [List.length_append, ← l1, ← l2]; exact lim_size c) ?_ o
      exact ((vwL_up zk (fun h => by simp only [nwOf, D.flat, Bool.or_false, Bool.and_eq_true] at h; exact h.1) r1).append (vwL_up zk (fun h => by simp only [nwOf, D.flat, Bool.or_false, Bool.and_eq_true] at h; exact h.2) r2)).nw
    · exact o.elim
  · rename_i xs n
    split at o
    · rename_i c
      obtain ⟨a, vs, rfl, ha, _, r1⟩ := vw_lst w1
      have ey := vw_int w2
      subst ey
      have l1 := r1.length
      refine op_rep pins s σ H _ _ u w Q I rx ry ⟨a, n, vs, rfl, rfl, zk.h _ _ _ ha, c.1, c.2.1, by rw [← l1]; exact lim_size c.2.2, fun p hp => ?_⟩
      refine Out.newL (G := G) zk hp ?_ ((vwL_up (c := nwOf (D.lst xs, k1, n1)) zk (fun h => by simpa [nwOf, D.flat] using h) r1).rep _).nw o
      rw [List.length_flatten, List.map_replicate, List.sum_replicate_nat, Nat.mul_comm, ← l1]
      exact lim_size c.2.2
    · exact o.elim
  · exact o.elim
theorem pe_binD {a b : Expr} {op : Operator} {ca cb : CE} {pos : Pos} (hK : G.K = X.K) (ha : PE X a (tD G ca)) (hb : PE X b (tD G cb)) : PE X (.BinOp a op b pos) (tD G (.bin op ca cb)) := by
  refine (pe_op (op_bin (G := G) hK) ha hb).imp fun σ H Q ⟨Z, env, zk, eo, o⟩ => ?_
  simp only [evalE] at o
  refine tD_bind zk eo.l o fun v x H1 Z1 e1 g1 w1 o1 => ?_
  refine tD_bind g1.k (EOk.mono g1.z eo.r) o1 fun w y H2 Z2 e2 g2 w2 o2 => ?_
  exact ⟨Z2, v, w, g2.k, Vw.mono (g2.z _) _ _ w1, w2, o2⟩
theorem pe_negD {a : Expr} {ca : CE} {pos : Pos} (ha : PE X a (tD G ca)) : PE X (.UnaryOp .USub a pos) (tD G (.neg ca)) := by
  refine (pe_un un_neg ha).imp fun σ H Q ⟨Z, env, zk, eo, o⟩ => ?_
  simp only [evalE] at o
  refine tD_bind zk eo o fun v x H1 Z1 e1 g1 w1 o1 => ?_
  obtain ⟨d, k, n⟩ := v
  simp only [negV] at o1
  split at o1
  · rename_i i
    have ex := vw_int w1
    subst ex
    exact ⟨i, rfl, Out.flat (v := (.int (-i), 0, true)) rfl (.int _) g1.k o1⟩
  · exact o1.elim
end
end TT

set_option Elab.async false
set_option linter.all false
set_option maxRecDepth 100000
set_option maxHeartbeats 1000000
/-! TD: comparisons, and / or / not / if-else, subscripts, slices, displays. -/
namespace TT
open PySem L2
/-! ### data as the library's plain data -/
section
variable {K : PySem.W.Frag} {mg : Str → Option Value} {B : Hp}
theorem plain_py {d : D} (h : d.plain = true) : PyData.canLay0 (toPy d) = true ∧ (toPy d).depth = 0 := by
  cases d with
  | non => exact ⟨by simp only [toPy, PyData.canLay0], by simp only [toPy, PyData.depth]⟩
  | bl b => exact ⟨by simp only [toPy, PyData.canLay0], by simp only [toPy, PyData.depth]⟩
  | int i => exact ⟨by simp only [toPy, PyData.canLay0], by simp only [toPy, PyData.depth]⟩
  | str x => exact ⟨by simp only [toPy, PyData.canLay0]; exact h, by simp only [toPy, PyData.depth]⟩
  | glob x => cases h
  | scr x => cases h
  | lst x => cases h
  | tup x => cases h
  | ins a b c => cases h
mutual
theorem py_ok : ∀ (d : D) (n : Nat), d.py n = true → PyData.canLay0 (toPy d) = true ∧ (toPy d).depth ≤ n
  | .lst ds, n, h => by
    cases n with
    | zero => simp [D.py, D.plain] at h
    | succ n =>
      have h2 := pyAll_ok ds n (by simpa [D.py] using h)
      simp only [toPy, PyData.canLay0, PyData.depth]
      exact ⟨h2.1, by omega⟩
  | .tup ds, n, h => by
    cases n with
    | zero => simp [D.py, D.plain] at h
    | succ n =>
      have h2 := pyAll_ok ds n (by simpa [D.py] using h)
      simp only [toPy, PyData.canLay0, PyData.depth]
      exact ⟨h2.1, by omega⟩
  | .non, n, h => by have := plain_py (d := .non) (by cases n <;> simpa [D.py] using h); exact ⟨this.1, by omega⟩
  | .bl b, n, h => by have := plain_py (d := .bl b) (by cases n <;> simpa [D.py] using h); exact ⟨this.1, by omega⟩
  | .int i, n, h => by have := plain_py (d := .int i) (by cases n <;> simpa [D.py] using h); exact ⟨this.1, by omega⟩
  | .str x, n, h => by have := plain_py (d := .str x) (by cases n <;> simpa [D.py] using h); exact ⟨this.1, by omega⟩
  | .glob x, n, h => by cases n <;> simp [D.py, D.plain] at h
  | .scr x, n, h => by cases n <;> simp [D.py, D.plain] at h
  | .ins _ _ _, n, h => by cases n <;> simp [D.py, D.plain] at h
theorem pyAll_ok : ∀ (ds : List D) (n : Nat), pyAll n ds = true → PyData.canLayAll0 (toPys ds) = true ∧ PyData.depthAll (toPys ds) ≤ n
  | [], n, h => by simp [toPys, PyData.canLayAll0, PyData.depthAll]
  | d :: ds, n, h => by
    simp only [pyAll, Bool.and_eq_true] at h
    have h1 := py_ok d n h.1
    have h2 := pyAll_ok ds n h.2
    simp only [toPys, PyData.canLayAll0, PyData.depthAll]
    exact ⟨by rw [h1.1, h2.1]; rfl, by omega⟩
end
theorem py_shaped {d : D} {n : Nat} (h : d.py n = true) (hn : n ≤ 64) : SeqAt.shaped (toPy d) = true := by
  have := py_ok d n h
  unfold SeqAt.shaped
  rw [this.1, decide_eq_true (by omega)]
  rfl
mutual
theorem Vw.dp : ∀ (d : D) (n : Nat) (v : V), d.py n = true → Vw K mg B d v → Dp K B v (toPy d)
  | .lst ds, n, v, h, w => by
    cases n with
    | zero => simp [D.py, D.plain] at h
    | succ n =>
      cases w with
      | lst q z r => exact .lst (.of q) (VwL.dp ds n _ (by simpa [D.py] using h) r)
  | .tup ds, n, v, h, w => by
    cases n with
    | zero => simp [D.py, D.plain] at h
    | succ n =>
      cases w with
      | tup q r => exact .tup (.of q) (VwL.dp ds n _ (by simpa [D.py] using h) r)
  | .non, n, v, h, w => by cases w; exact .non
  | .bl b, n, v, h, w => by cases w; exact .bl _
  | .int i, n, v, h, w => by cases w; exact .int _
  | .str x, n, v, h, w => by cases w; exact .str _
  | .glob x, n, v, h, w => by cases n <;> simp [D.py, D.plain] at h
  | .scr x, n, v, h, w => by cases n <;> simp [D.py, D.plain] at h
  | .ins _ _ _, n, v, h, w => by cases n <;> simp [D.py, D.plain] at h
theorem VwL.dp : ∀ (ds : List D) (n : Nat) (vs : List V), pyAll n ds = true → VwL K mg B ds vs → DpAll K B vs (toPys ds)
  | [], n, vs, h, w => by cases w; exact .nil
  | d :: ds, n, vs, h, w => by
    simp only [pyAll, Bool.and_eq_true] at h
    cases w with
    | cons w1 w2 => exact .cons (Vw.dp d n _ h.1 w1) (VwL.dp ds n _ h.2 w2)
end
theorem plain_flat {d : D} {v : V} (h : d.plain = true) (w : Vw K mg B d v) : flatV v = true := by
  cases w <;> first | rfl | cases h
theorem plain_eq {d e : D} {v u : V} (h : d.plain = true) (h2 : e.plain = true) (w : Vw K mg B d v) (w2 : Vw K mg B e u) : eqV v u = eqD d e := by
  cases w <;> cases w2 <;> first | rfl | (cases h; done) | (cases h2; done) | skip
  all_goals simp [eqV, eqD, toPy, PyData.eqv]
theorem all_flat : ∀ {ds : List D} {vs : List V}, ds.all D.plain = true → VwL K mg B ds vs → vs.all flatV = true
  | [], _, _, w => by cases w; rfl
  | d :: ds, _, h, w => by
    simp only [List.all_cons, Bool.and_eq_true] at h
    cases w with
    | cons w1 w2 => simp only [List.all_cons, plain_flat h.1 w1, all_flat h.2 w2, Bool.and_self]
theorem in_eq {x : D} {v : V} (hx : x.plain = true) (wx : Vw K mg B x v) : ∀ {ds : List D} {vs : List V}, ds.all D.plain = true → VwL K mg B ds vs → inV v vs = ds.any fun y => eqD y x
  | [], _, _, w => by cases w; rfl
  | d :: ds, _, h, w => by
    simp only [List.all_cons, Bool.and_eq_true] at h
    cases w with
    | cons w1 w2 =>
      have ih := in_eq hx wx h.2 w2
      unfold inV at ih ⊢
      simp only [List.any_cons, plain_eq h.1 hx w1 wx, ih]
end

/-! ### comparisons -/
section
variable {G : Gb} {X : Cx}
def rCmp (G : Gb) (op : CmpOp) : R2 := fun x y H Q => ∃ (Z : Zn) (n1 n2 : Bool) (d1 d2 : D), Zk Z H ∧ Vw G.K G.mg (Z n1) d1 x ∧ Vw G.K G.mg (Z n2) d2 y ∧ OutR G H Z (cmpD op d1 d2) (fun b H' => Q (.bl b) H')
theorem OutR.fin {α : Type} {H : Hp} {Z : Zn} {a : α} {Q : α → Hp → Prop} (zk : Zk Z H) (o : OutR G H Z (.ok a) Q) : Q a H := o H Z (Gr.refl zk)
theorem finB {H : Hp} {Z : Zn} {b : Bool} {Q : V → Hp → Prop} (zk : Zk Z H) (o : OutR G H Z (.ok b) (fun b H' => Q (.bl b) H')) : Q (.bl b) H := o H Z (Gr.refl zk)
theorem op_cmpD {op : CmpOp} (hK : G.K = X.K) (hu : X.A.units + 64 < cLine) : OpR X (compareOp op) (rCmp G op) := by
  intro pins s σ H x y u w Q I rx ry h
  obtain ⟨Z, n1, n2, d1, d2, zk, w1, w2, o⟩ := h
  have v1 : Vw G.K G.mg H d1 x := Vw.mono (zk.h _) _ _ w1
  have v2 : Vw G.K G.mg H d2 y := Vw.mono (zk.h _) _ _ w2
  rw [hK] at v1 v2
  unfold cmpD at o
  split at o
  · have e1 := vw_int v1; have e2 := vw_int v2; subst e1 e2
    exact op_lt pins s σ H _ _ u w Q I rx ry ⟨_, _, rfl, rfl, finB zk o⟩
  · have e1 := vw_int v1; have e2 := vw_int v2; subst e1 e2
    exact op_le pins s σ H _ _ u w Q I rx ry ⟨_, _, rfl, rfl, finB zk o⟩
  · have e1 := vw_int v1; have e2 := vw_int v2; subst e1 e2
    exact op_gt pins s σ H _ _ u w Q I rx ry ⟨_, _, rfl, rfl, finB zk o⟩
  · have e1 := vw_int v1; have e2 := vw_int v2; subst e1 e2
    exact op_ge pins s σ H _ _ u w Q I rx ry ⟨_, _, rfl, rfl, finB zk o⟩
  · split at o
    · rename_i c
      rw [Bool.and_eq_true] at c
      exact op_eqD hu pins s σ H _ _ u w Q I rx ry ⟨_, _, Vw.dp _ 9 _ c.1 v1, Vw.dp _ 9 _ c.2 v2, py_shaped c.1 (by decide), py_shaped c.2 (by decide), finB zk o⟩
    · exact o.elim
  · split at o
    · rename_i c
      rw [Bool.and_eq_true] at c
      exact op_neD hu pins s σ H _ _ u w Q I rx ry ⟨_, _, Vw.dp _ 9 _ c.1 v1, Vw.dp _ 9 _ c.2 v2, py_shaped c.1 (by decide), py_shaped c.2 (by decide), finB zk o⟩
    · exact o.elim
  · split at o
    · rename_i c
      rw [Bool.and_eq_true] at c
      obtain ⟨a, vs, rfl, ha, _, r⟩ := vw_lst v2
      refine op_in_seq pins s σ H _ _ u w Q I rx ry ⟨a, vs, rfl, .inl (.of ha), plain_flat c.1 v1, all_flat c.2 r, ?_⟩
      rw [in_eq c.1 v1 c.2 r]
      exact finB zk o
    · exact o.elim
  · split at o
    · rename_i c
      rw [Bool.and_eq_true] at c
      obtain ⟨a, vs, rfl, ha, r⟩ := vw_tup v2
      refine op_in_seq pins s σ H _ _ u w Q I rx ry ⟨a, vs, rfl, .inr (.of ha), plain_flat c.1 v1, all_flat c.2 r, ?_⟩
      rw [in_eq c.1 v1 c.2 r]
      exact finB zk o
    · exact o.elim
  · split at o
    · rename_i c
      rw [Bool.and_eq_true] at c
      obtain ⟨a, vs, rfl, ha, _, r⟩ := vw_lst v2
      refine op_notIn_seq pins s σ H _ _ u w Q I rx ry ⟨a, vs, rfl, .inl (.of ha), plain_flat c.1 v1, all_flat c.2 r, ?_⟩
      rw [in_eq c.1 v1 c.2 r]
      exact finB zk o
    · exact o.elim
  · split at o
    · rename_i c
      rw [Bool.and_eq_true] at c
      obtain ⟨a, vs, rfl, ha, r⟩ := vw_tup v2
      refine op_notIn_seq pins s σ H _ _ u w Q I rx ry ⟨a, vs, rfl, .inr (.of ha), plain_flat c.1 v1, all_flat c.2 r, ?_⟩
      rw [in_eq c.1 v1 c.2 r]
      exact finB zk o
    · exact o.elim
  · cases v2
    refine op_isN pins s σ H _ _ u w Q I rx ry ⟨rfl, ?_⟩
    have o1 := finB zk o
    cases v1 <;> exact o1
  · cases v2
    refine op_notN pins s σ H _ _ u w Q I rx ry ⟨rfl, ?_⟩
    have o1 := finB zk o
    cases v1 <;> exact o1
  · have e1 := vw_bl v1; have e2 := vw_bl v2; subst e1 e2
    refine op_isBl pins s σ H _ _ u w Q I rx ry ⟨_, _, rfl, rfl, ?_⟩
    rw [← Bool.beq_eq_decide_eq]
    exact finB zk o
  · have e1 := vw_bl v1; have e2 := vw_bl v2; subst e1 e2
    refine op_notBl pins s σ H _ _ u w Q I rx ry ⟨_, _, rfl, rfl, ?_⟩
    rw [← Bool.beq_eq_decide_eq]
    exact finB zk o
  · exact o.elim
theorem okB_out {H : Hp} {Z : Zn} {r : Res Bool} {Q : V → Hp → Prop} (o : Out G H Z (r >>= okB) Q) : OutR G H Z r (fun b H' => Q (.bl b) H') := by
  cases r with
  | ok b => exact fun H' Z' g => Out.flat (v := (.bl b, 0, true)) rfl (.bl b) g.k (Out.step g o)
  | exc c => exact o
  | stuck => exact o
variable {a b c : Expr} {ca cb cc : CE} {pos : Pos}
theorem pe_cmpD {op : CmpOp} (hK : G.K = X.K) (hu : X.A.units + 64 < cLine) (ha : PE X a (tD G ca)) (hb : PE X b (tD G cb)) (hm : behindInMarks op b = false) : PE X (.Compare a [op] [b] pos) (tD G (.cmp op ca cb)) := by
  refine (pe_cmpR (op_cmpD (G := G) hK hu) ha hb hm).imp fun σ H Q ⟨Z, env, zk, eo, o⟩ => ?_
  simp only [evalE] at o
  refine tD_bind zk eo.l o fun v x H1 Z1 e1 g1 w1 o1 => ?_
  refine tD_bind g1.k (EOk.mono g1.z eo.r) o1 fun w y H2 Z2 e2 g2 w2 o2 => ?_
  exact ⟨Z2, _, _, _, _, g2.k, Vw.mono (g2.z _) _ _ w1, w2, okB_out o2⟩
theorem okB_outT {H : Hp} {Z : Zn} {r : Res Bool} {Q : Bool → Hp → Prop} (o : OutR G H Z (r >>= okB >>= boolOf) Q) : OutR G H Z r Q := by
  cases r with
  | ok b => exact o
  | exc c => exact o
  | stuck => exact o
theorem assoc {α β γ : Type} (r : Res α) (f : α → Res β) (g : β → Res γ) : (r >>= f >>= g) = (r >>= fun a => f a >>= g) := by cases r <;> rfl
theorem pt_cmpD {op : CmpOp} (hK : G.K = X.K) (hu : X.A.units + 64 < cLine) (ha : PE X a (tD G ca)) (hb : PE X b (tD G cb)) (hm : behindInMarks op b = false) : PT X (.Compare a [op] [b] pos) (tDT G (.cmp op ca cb)) := by
  refine (pt_cmpR (op_cmpD (G := G) hK hu) ha hb hm).imp fun σ H Q ⟨Z, env, zk, eo, o⟩ => ?_
  simp only [evalE, assoc] at o
  refine tD_bindR zk eo.l o fun v x H1 Z1 e1 g1 w1 o1 => ?_
  refine tD_bindR g1.k (EOk.mono g1.z eo.r) o1 fun w y H2 Z2 e2 g2 w2 o2 => ?_
  refine ⟨Z2, _, _, _, _, g2.k, Vw.mono (g2.z _) _ _ w1, w2, ?_⟩
  have o3 := okB_outT (by rw [assoc]; exact o2)
  cases e : cmpD op v.1 w.1 with
  | ok b => rw [e] at o3; exact fun H' Z' g => ⟨b, rfl, o3 H' Z' g⟩
  | exc c => rw [e] at o3; exact o3
  | stuck => rw [e] at o3; exact o3
/-- a o1 b o2 c -/
theorem pe_chainD {o1 o2 : CmpOp} (hK : G.K = X.K) (hu : X.A.units + 64 < cLine) (ha : PE X a (tD G ca)) (hb : PE X b (tD G cb)) (hc : PE X c (tD G cc))
    (hm : lastMarks [o1, o2] [b, c] = false) : PE X (.Compare a [o1, o2] [b, c] pos) (tD G (.chain o1 o2 ca cb cc)) := by
  refine (pe_chain (op_cmpD (G := G) hK hu) (op_cmpD (G := G) hK hu) ha hb hc hm).imp fun σ H Q ⟨Z, env, zk, eo, o⟩ => ?_
  simp only [evalE] at o
  refine tD_bind zk eo.l.l o fun v x H1 Z1 e1 g1 w1 q1 => ?_
  refine tD_bind g1.k (EOk.mono g1.z eo.l.r) q1 fun w y H2 Z2 e2 g2 w2 q2 => ?_
  refine ⟨Z2, _, _, _, _, g2.k, Vw.mono (g2.z _) _ _ w1, w2, ?_⟩
  cases e : cmpD o1 v.1 w.1 with
  | exc c => rw [e] at q2; exact q2
  | stuck => rw [e] at q2; exact q2
  | ok r1 =>
    rw [e] at q2
    intro H3 Z3 g3
    refine ⟨r1, rfl, ?_⟩
    cases r1 with
    | true =>
      rw [if_pos rfl]
      simp only [Res.bind_ok, if_true] at q2
      refine tD_bind g3.k (EOk.mono (fun n => ((g1.z n).trans (g2.z n)).trans (g3.z n)) eo.r) (Out.step g3 q2) fun z1 z H4 Z4 e4 g4 w4 q4 => ?_
      exact ⟨Z4, _, _, _, _, g4.k, Vw.mono (fun a o h => g4.z _ _ _ (g3.z _ _ _ h)) _ _ w2, w4, okB_out q4⟩
    | false =>
      rw [if_neg Bool.false_ne_true]
      simp only [Res.bind_ok, Bool.false_eq_true, if_false] at q2
      exact Out.flat (v := (.bl false, 0, true)) rfl (.bl false) g3.k (Out.step g3 q2)
theorem pt_chainD {o1 o2 : CmpOp} (hK : G.K = X.K) (hu : X.A.units + 64 < cLine) (ha : PE X a (tD G ca)) (hb : PE X b (tD G cb)) (hc : PE X c (tD G cc))
    (hm : lastMarks [o1, o2] [b, c] = false) : PT X (.Compare a [o1, o2] [b, c] pos) (tDT G (.chain o1 o2 ca cb cc)) := by
  refine (pt_chain (op_cmpD (G := G) hK hu) (op_cmpD (G := G) hK hu) ha hb hc hm).imp fun σ H Q ⟨Z, env, zk, eo, o⟩ => ?_
  simp only [evalE, assoc] at o
  refine tD_bindR zk eo.l.l o fun v x H1 Z1 e1 g1 w1 q1 => ?_
  refine tD_bindR g1.k (EOk.mono g1.z eo.l.r) q1 fun w y H2 Z2 e2 g2 w2 q2 => ?_
  refine ⟨Z2, _, _, _, _, g2.k, Vw.mono (g2.z _) _ _ w1, w2, ?_⟩
  cases e : cmpD o1 v.1 w.1 with
  | exc c => rw [e] at q2; exact q2
  | stuck => rw [e] at q2; exact q2
  | ok r1 =>
    rw [e] at q2
    intro H3 Z3 g3
    refine ⟨r1, rfl, ?_⟩
    cases r1 with
    | true =>
      rw [if_pos rfl]
      simp only [Res.bind_ok, if_true, assoc] at q2
      refine tD_bindR g3.k (EOk.mono (fun n => ((g1.z n).trans (g2.z n)).trans (g3.z n)) eo.r) (OutR.step g3 q2) fun z1 z H4 Z4 e4 g4 w4 q4 => ?_
      refine ⟨Z4, _, _, _, _, g4.k, Vw.mono (fun a o h => g4.z _ _ _ (g3.z _ _ _ h)) _ _ w2, w4, ?_⟩
      have o3 := okB_outT (by rw [assoc]; exact q4)
      cases e : cmpD o2 w.1 z1.1 with
      | ok b => rw [e] at o3; exact fun H' Z' g => ⟨b, rfl, o3 H' Z' g⟩
      | exc c => rw [e] at o3; exact o3
      | stuck => rw [e] at o3; exact o3
    | false =>
      rw [if_neg Bool.false_ne_true]
      simp only [Res.bind_ok, Bool.false_eq_true, if_false] at q2
      exact ⟨false, rfl, q2 H3 Z3 g3⟩

/-! ### and, or, not, if-else -/
variable {rest : List Expr}
theorem pe_andD (ha : PE X a (tD G ca)) (hb : PE X (.BoolOp .And (b :: rest) pos) (tD G cb)) : PE X (.BoolOp .And (a :: b :: rest) pos) (tD G (.and ca cb)) := by
  refine (pe_and ha hb).imp fun σ H Q ⟨Z, env, zk, eo, o⟩ => ?_
  simp only [evalE] at o
  refine tD_bind zk eo.l o fun v x H1 Z1 e1 g1 w1 q1 => ?_
  obtain ⟨d, k, nw⟩ := v
  simp only [boolOf] at q1
  split at q1
  · rename_i r
    have ex := vw_bl w1
    subst ex
    refine ⟨r, rfl, ?_⟩
    cases r with
    | true =>
      rw [if_pos rfl]
      exact ⟨Z1, env, g1.k, EOk.mono g1.z eo.r, q1⟩
    | false =>
      rw [if_neg Bool.false_ne_true]
      exact Out.flat (v := (.bl false, 0, true)) rfl (.bl false) g1.k q1
  · exact q1.elim
theorem pe_orD (ha : PE X a (tD G ca)) (hb : PE X (.BoolOp .Or (b :: rest) pos) (tD G cb)) : PE X (.BoolOp .Or (a :: b :: rest) pos) (tD G (.or ca cb)) := by
  refine (pe_or ha hb).imp fun σ H Q ⟨Z, env, zk, eo, o⟩ => ?_
  simp only [evalE] at o
  refine tD_bind zk eo.l o fun v x H1 Z1 e1 g1 w1 q1 => ?_
  obtain ⟨d, k, nw⟩ := v
  simp only [boolOf] at q1
  split at q1
  · rename_i r
    have ex := vw_bl w1
    subst ex
    refine ⟨r, rfl, ?_⟩
    cases r with
    | false =>
      rw [if_neg Bool.false_ne_true]
      exact ⟨Z1, env, g1.k, EOk.mono g1.z eo.r, q1⟩
    | true =>
      rw [if_pos rfl]
      exact Out.flat (v := (.bl true, 0, true)) rfl (.bl true) g1.k q1
  · exact q1.elim
theorem pe_notD (ha : PE X a (tD G ca)) : PE X (.UnaryOp .Not a pos) (tD G (.not ca)) := by
  refine (pe_not ha).imp fun σ H Q ⟨Z, env, zk, eo, o⟩ => ?_
  simp only [evalE] at o
  refine tD_bind zk eo o fun v x H1 Z1 e1 g1 w1 q1 => ?_
  obtain ⟨d, k, nw⟩ := v
  simp only [boolOf] at q1
  split at q1
  · rename_i r
    have ex := vw_bl w1
    subst ex
    exact ⟨r, rfl, Out.flat (v := (.bl (!r), 0, true)) rfl (.bl _) g1.k q1⟩
  · exact q1.elim
/-- .. as tests -/
theorem pt_valD (ha : PE X a (tD G ca)) (he : ∀ whole, isTrue a X.env whole = (do let v ← whole; standAt a.pos; holding [v] (truthy v))) : PT X a (tDT G ca) := by
  refine (pt_val ha he).imp fun σ H Q ⟨Z, env, zk, eo, o⟩ => ?_
  refine tD_bindR zk eo o fun v x H1 Z1 e1 g1 w1 q1 => ?_
  obtain ⟨d, k, nw⟩ := v
  simp only [boolOf] at q1
  split at q1
  · rename_i r
    have ex := vw_bl w1
    subst ex
    exact ⟨r, rfl, OutR.fin g1.k q1⟩
  · exact q1.elim
theorem pt_notD (ha : PT X a (tDT G ca)) : PT X (.UnaryOp .Not a pos) (tDT G (.not ca)) := by
  refine (pt_not ha).imp fun σ H Q ⟨Z, env, zk, eo, o⟩ => ?_
  simp only [evalE, assoc] at o
  refine tDT_bindR zk eo o fun b H1 Z1 g1 q1 => ?_
  exact OutR.fin (G := G) (a := !b) g1.k q1
theorem pw_andD (ha : PT X a (tDT G ca)) (hb : PW X (.BoolOp .And (b :: rest) pos) (tDT G cb)) : PW X (.BoolOp .And (a :: b :: rest) pos) (tDT G (.and ca cb)) := by
  refine (pw_and ha hb).imp fun σ H Q ⟨Z, env, zk, eo, o⟩ => ?_
  simp only [evalE, assoc] at o
  refine tDT_bindR zk eo.l o fun r H1 Z1 g1 q1 => ?_
  cases r with
  | true =>
    rw [if_pos rfl]
    exact ⟨Z1, env, g1.k, EOk.mono g1.z eo.r, q1⟩
  | false =>
    rw [if_neg Bool.false_ne_true]
    exact OutR.fin (G := G) (a := false) g1.k q1
theorem pw_orD (ha : PT X a (tDT G ca)) (hb : PW X (.BoolOp .Or (b :: rest) pos) (tDT G cb)) : PW X (.BoolOp .Or (a :: b :: rest) pos) (tDT G (.or ca cb)) := by
  refine (pw_or ha hb).imp fun σ H Q ⟨Z, env, zk, eo, o⟩ => ?_
  simp only [evalE, assoc] at o
  refine tDT_bindR zk eo.l o fun r H1 Z1 g1 q1 => ?_
  cases r with
  | false =>
    rw [if_neg Bool.false_ne_true]
    exact ⟨Z1, env, g1.k, EOk.mono g1.z eo.r, q1⟩
  | true =>
    rw [if_pos rfl]
    exact OutR.fin (G := G) (a := true) g1.k q1
theorem pe_iteD (hc : PT X c (tDT G cc)) (ha : PE X a (tD G ca)) (hb : PE X b (tD G cb)) : PE X (.IfExp c a b pos) (tD G (.ite cc ca cb)) := by
  refine (pe_ifExp hc ha hb).imp fun σ H Q ⟨Z, env, zk, eo, o⟩ => ?_
  simp only [evalE] at o
  refine tDT_bind zk eo.l.l o fun r H1 Z1 g1 q1 => ?_
  cases r with
  | true =>
    rw [if_pos rfl]
    exact ⟨Z1, env, g1.k, EOk.mono g1.z eo.l.r, q1⟩
  | false =>
    rw [if_neg Bool.false_ne_true]
    exact ⟨Z1, env, g1.k, EOk.mono g1.z eo.r, q1⟩

/-! ### subscripts, slices -/
theorem VwL.at {K : PySem.W.Frag} {mg : Str → Option Value} {B : Hp} {ds : List D} {vs : List V} {i : Int} {d : D} (r : VwL K mg B ds vs) (h : atI ds i = some d) : ∃ v, atI vs i = some v ∧ Vw K mg B d v := by
  unfold atI at h ⊢
  rw [← r.length]
  cases e : ixN ds.length i with
  | none => rw [e] at h; cases h
  | some j =>
    rw [e] at h
    exact r.get h
theorem pe_idxD (hK : G.K = X.K) (ha : PE X a (tD G ca)) (hb : PE X b (tD G cb)) (hs : PlainIx b) : PE X (.Subscript a b pos) (tD G (.idx ca cb)) := by
  refine (pe_ix (ix_list.or ix_tup) ha hb hs).imp fun σ H Q ⟨Z, env, zk, eo, o⟩ => ?_
  simp only [evalE] at o
  refine tD_bind zk eo.l o fun v x H1 Z1 e1 g1 w1 q1 => ?_
  refine tD_bind g1.k (EOk.mono g1.z eo.r) q1 fun w y H2 Z2 e2 g2 w2 q2 => ?_
  replace w1 := Vw.mono (g2.z _) _ _ w1
  obtain ⟨d, k, nw⟩ := v
  obtain ⟨d', k', nw'⟩ := w
  simp only at q2
  split at q2
  · rename_i xs j
    have ey := vw_int w2
    subst ey
    obtain ⟨p, vs, rfl, hp, _, r⟩ := vw_lst w1
    simp only [atD] at q2
    split at q2
    · rename_i d e
      obtain ⟨u, hu, wu⟩ := r.at e
      exact .inl ⟨p, vs, j, u, rfl, rfl, .of (g2.k.h _ _ _ hp), hu, Out.share (v := (d, 0, nw)) rfl wu g2.k q2⟩
    · exact q2.elim
  · rename_i xs j
    have ey := vw_int w2
    subst ey
    obtain ⟨p, vs, rfl, hp, r⟩ := vw_tup w1
    simp only [atD] at q2
    split at q2
    · rename_i d e
      obtain ⟨u, hu, wu⟩ := r.at e
      exact .inr ⟨p, vs, j, u, rfl, rfl, .of (g2.k.h _ _ _ hp), hu, Out.share (v := (d, 0, nw)) rfl wu g2.k q2⟩
    · exact q2.elim
  · exact q2.elim
def tO (G : Gb) (c : CEs) : TO := fun σ H Q => ∃ Z env, Zk Z H ∧ EOk G Z c.vars env σ ∧ OutR G H Z (evalO G.Γ G.gl c env) Q
theorem po_noneD : PO X none (tO G .nil) := po_none.imp fun σ H Q ⟨Z, env, zk, eo, o⟩ => by
  simp only [evalO] at o
  exact OutR.fin zk o
theorem po_someD (ha : PE X a (tD G ca)) : PO X (some a) (tO G (.cons ca .nil)) := (po_some ha).imp fun σ H Q ⟨Z, env, zk, eo, o⟩ => by
  simp only [evalO] at o
  refine tD_bindR zk eo.l o fun v x H1 Z1 e1 g1 w1 q1 => ?_
  obtain ⟨d, k, nw⟩ := v
  simp only at q1
  split at q1
  · rename_i i
    have ex := vw_int w1
    subst ex
    exact ⟨i, rfl, OutR.fin g1.k q1⟩
  · exact q1.elim
theorem tO_bind {H : Hp} {Z : Zn} {σ : L2.St} {env : Env} {c : CEs} {f : Option Int → Res Val} {Q : V → Hp → Prop} {Q' : Option Int → Hp → Prop} (zk : Zk Z H) (eo : EOk G Z c.vars env σ) (o : Out G H Z (evalO G.Γ G.gl c env >>= f) Q)
    (h : ∀ b H1 Z1, Gr H H1 Z Z1 → Out G H1 Z1 (f b) Q → Q' b H1) : tO G c σ H Q' := by
  refine ⟨Z, env, zk, eo, ?_⟩
  cases e : evalO G.Γ G.gl c env with
  | ok v =>
    rw [e] at o
    exact fun H' Z' g => h v H' Z' g (Out.step g o)
  | exc c => rw [e] at o; exact o
  | stuck => rw [e] at o; exact o
theorem VwL.cut {K : PySem.W.Frag} {mg : Str → Option Value} {B : Hp} {ds : List D} {vs : List V} (r : VwL K mg B ds vs) (lo hi : Option Int) : VwL K mg B (cutD ds lo hi) (cutV vs lo hi) := by
  unfold cutD cutV
  rw [r.length]
  exact (r.drop _).take _
theorem cut_map {α β : Type} (f : α → β) (xs : List α) (lo hi : Option Int) : cutD (xs.map f) lo hi = (cutD xs lo hi).map f := by
  unfold cutD
  rw [List.length_map, ← List.map_drop, ← List.map_take]
theorem pe_slD {e : Expr} {lo hi : Option Expr} {cl ch : CEs} {p2 : Pos} (hK : G.K = X.K) (he : PE X e (tD G ca)) (hl : PO X lo (tO G cl)) (hh : PO X hi (tO G ch)) : PE X (.Subscript e (.Slice lo hi none p2) pos) (tD G (.sl ca cl ch)) := by
  refine (pe_slice sl_list he hl hh).imp fun σ H Q ⟨Z, env, zk, eo, o⟩ => ?_
  simp only [evalE] at o
  refine tD_bind zk eo.l.l o fun v x H1 Z1 e1 g1 w1 q1 => ?_
  refine tO_bind g1.k (EOk.mono g1.z eo.l.r) q1 fun l H2 Z2 g2 q2 => ?_
  refine tO_bind g2.k (EOk.mono (fun n => (g1.z n).trans (g2.z n)) eo.r) q2 fun h H3 Z3 g3 q3 => ?_
  replace w1 := Vw.mono (g3.z _) _ _ (Vw.mono (g2.z _) _ _ w1)
  obtain ⟨d, k, nw⟩ := v
  simp only at q3
  split at q3
  · rename_i xs
    obtain ⟨p, vs, rfl, hp, z, r⟩ := vw_lst w1
    exact ⟨p, vs, rfl, .of (g3.k.h _ _ _ hp), fun q hq => Out.newL (G := G) g3.k hq (Nat.le_trans (cutV_length _ _ _) z) (r.cut l h).nw q3⟩
  · rename_i xs
    split at q3
    rotate_left
    · exact q3.elim
    rename_i c
    cases w1 with
    | scr q =>
      rw [hK] at q
      refine ⟨_, _, rfl, sqL_mono (g3.k.h _) q, fun p hp => Out.newL (G := G) (ds := (cutD xs l h).map D.int) g3.k hp ?_ ?_ q3⟩
      · refine Nat.le_trans (cutV_length _ _ _) ?_
        rw [List.length_map]
        exact lim_size c
      · have e : cutV (xs.map V.int) l h = (cutD xs l h).map V.int := cut_map V.int xs l h
        rw [e]
        exact vwL_ints _
  · exact q3.elim
end
end TT

set_option Elab.async false
set_option linter.all false
set_option maxRecDepth 100000
set_option maxHeartbeats 1000000
/-! TE: displays, built-ins, isinstance. -/
namespace TT
open PySem L2
section
variable {G : Gb} {X : Cx}
theorem kUni_spec (vs : List Val) : kUni vs = 0 ∨ ∀ v ∈ vs, v.1.flat = true ∨ v.2.1 = kUni vs := by
  unfold kUni
  split
  · exact .inl rfl
  · rename_i v r e
    split
    · rename_i c
      refine .inr fun w hw => ?_
      by_cases f : w.1.flat = true
      · exact .inl f
      · have hm : w ∈ v :: r := by rw [← e]; exact List.mem_filter.mpr ⟨hw, by simp [f]⟩
        rcases List.mem_cons.mp hm with rfl | hm
        · exact .inr rfl
        · exact .inr (by simpa using List.all_eq_true.mp c w hm)
    · exact .inl rfl
theorem RpA.rpL {Z : Zn} {H : Hp} {k : Nat} {nw : Bool} (zk : Zk Z H) : ∀ {vs : List Val} {xs : List V} {F : List Addr}, RpA G Z H vs xs F → (∀ v ∈ vs, v.1.flat = true ∨ v.2.1 = k) → (nw = true → ∀ v ∈ vs, nwOf v = true) → RpL G.K G.mg (Z nw) H k (vs.map (·.1)) xs F
  | _, _, _, .nil, _, _ => .nil
  | _, _, _, .cons (v := v) r rs, hk, hn => by
    refine .cons ?_ (RpA.rpL zk rs (fun v hv => hk v (by simp [hv])) fun h v hv => hn h v (by simp [hv]))
    by_cases f : v.1.flat = true
    · obtain ⟨e, q⟩ := r.flat_inv f
      rw [e]
      exact rp_flat f (Vw.flat_any f q)
    · have e := (hk v (by simp)).resolve_left f
      rw [e] at r
      refine Rp.mono (nw_up zk fun h => ?_) _ _ _ _ (fun _ _ _ q => q) r
      have := hn h v (by simp)
      unfold nwOf at this
      simpa [f] using this
theorem VwA.vwL {Z : Zn} {H : Hp} {nw : Bool} (zk : Zk Z H) : ∀ {vs : List Val} {xs : List V}, VwA G Z vs xs → (nw = true → ∀ v ∈ vs, nwOf v = true) → VwL G.K G.mg (Z nw) (vs.map (·.1)) xs
  | _, _, .nil, _ => .nil
  | _, _, .cons (v := v) r rs, hn => by
    refine .cons ?_ (VwA.vwL zk rs fun h v hv => hn h v (by simp [hv]))
    by_cases f : v.1.flat = true
    · exact Vw.flat_any f r
    · refine Vw.mono (nw_up zk fun h => ?_) _ _ r
      have := hn h v (by simp)
      unfold nwOf at this
      simpa [f] using this
theorem VwA.length {Z : Zn} : ∀ {vs : List Val} {xs : List V}, VwA G Z vs xs → vs.length = xs.length
  | _, _, .nil => rfl
  | _, _, .cons r rs => by simp [VwA.length rs]
theorem RpA.length {Z : Zn} {H : Hp} : ∀ {vs : List Val} {xs : List V} {F : List Addr}, RpA G Z H vs xs F → vs.length = xs.length
  | _, _, _, .nil => rfl
  | _, _, _, .cons r rs => by simp [RpA.length rs]
/-- the root of a display -/
theorem disp_out {Q : V → Hp → Prop} {H H' : Hp} {Z Z' : Zn} {vs : List Val} {xs : List V} {F : List Addr} {p : Addr} {mk : List D → D} {ob : List V → HO} (hp : H' p = none)
    (hrp : ∀ {B Hx : Hp} {k : Nat} {ds : List D} {F : List Addr}, Hx p = some (ob xs) → RpL G.K G.mg B Hx k ds xs F → Rp G.K G.mg B Hx (k + 1) (mk ds) (.ref p) (p :: F))
    (g : Gr H H' Z Z') (nd : F.Nodup) (fr : ∀ p ∈ F, H p = none ∧ Z' false p = none) (rp : RpA G Z' H' vs xs F)
    (o : Out G H Z (.ok (mk (vs.map (·.1)), 1 + kUni vs, vs.all nwOf)) Q) : Q (.ref p) (upd H' p (ob xs)) := by
  have g1 : Gr H (upd H' p (ob xs)) Z Z' := g.add hp
  have hn : vs.all nwOf = true → ∀ v ∈ vs, nwOf v = true := fun h v hv => List.all_eq_true.mp h v hv
  have pz : Z' false p = none := g.k.s.free hp
  have hpH : H p = none := g.h.free hp
  have live := RpA.live rp
  have rp1 := RpA.mono (Z1 := Z') (fun _ => .refl _) (same_new (o := ob xs) hp) rp
  rcases kUni_spec vs with e | e
  · obtain ⟨Z2, g2, s2, w⟩ := RpA.lay rp g nd fr
    have pz2 : Z2 false p = none := g2.k.s.free hp
    refine o (.ref p) _ Z2 [p] (g2.add hp) (by simp) (fun q hq => ?_) ?_
    · have e : q = p := by simpa using hq
      subst e
      exact ⟨hpH, pz2⟩
    · rw [show (1 + kUni vs) = 0 + 1 by omega]
      exact hrp upd_same ((VwA.vwL g2.k w hn).rp)
  · refine o (.ref p) _ Z' (p :: F) g1 (List.nodup_cons.mpr ⟨fun h => live p h hp, nd⟩) (fun q hq => ?_) ?_
    · rcases List.mem_cons.mp hq with rfl | hq
      · exact ⟨hpH, pz⟩
      · exact fr q hq
    · rw [show (1 + kUni vs) = kUni vs + 1 by omega]
      exact hrp upd_same (RpA.rpL g1.k rp1 e hn)
variable {es : List Expr} {cs : CEs} {pos : Pos}
theorem tA_of {H : Hp} {Z : Zn} {σ : L2.St} {env : Env} {f : List Val → Res Val} {Q : V → Hp → Prop} {Q' : List V → Hp → Prop} (zk : Zk Z H) (eo : EOk G Z cs.vars env σ) (o : Out G H Z (evalEs G.Γ G.gl cs env >>= f) Q)
    (h : ∀ vs xs H1 Z1 F, evalEs G.Γ G.gl cs env = .ok vs → Gr H H1 Z Z1 → F.Nodup → (∀ p ∈ F, H p = none ∧ Z1 false p = none) → RpA G Z1 H1 vs xs F → Out G H Z (f vs) Q → Q' xs H1) : tA G cs σ H Q' := by
  refine ⟨Z, env, zk, eo, ?_⟩
  cases e : evalEs G.Γ G.gl cs env with
  | ok v =>
    rw [e] at o
    intro x H' Z' F g nd fr rp
    exact h v x H' _ F e g nd fr rp o
  | exc c => rw [e] at o; exact o
  | stuck => rw [e] at o; exact o
theorem pe_lstD (h : PA X es (tA G cs)) : PE X (.List es pos) (tD G (.lst cs)) := by
  refine (pe_lst h).imp fun σ H Q ⟨Z, env, zk, eo, o⟩ => ?_
  simp only [evalE] at o
  refine tA_of zk eo o fun vs xs H1 Z1 F e g nd fr rp o1 => ?_
  split at o1
  rotate_left
  · exact o1.elim
  rename_i c
  have hz : xs.length ≤ sizeLine := by rw [← RpA.length rp]; exact lim_size c
  exact ⟨hz, fun p hp => disp_out (mk := D.lst) (ob := HO.lst) hp (fun hx hr => .lst hx hz hr) g nd fr rp o1⟩
theorem pe_tupD {k : Nat} (h : PA X es (tA G cs)) : PE X (.Tuple es k pos) (tD G (.tup cs)) := by
  refine (pe_tup h).imp fun σ H Q ⟨Z, env, zk, eo, o⟩ => ?_
  simp only [evalE] at o
  refine tA_of zk eo o fun vs xs H1 Z1 F e g nd fr rp o1 => ?_
  split at o1
  rotate_left
  · exact o1.elim
  rename_i c
  have hz : xs.length ≤ sizeLine := by rw [← RpA.length rp]; exact lim_size c
  exact ⟨hz, fun p hp => disp_out (mk := D.tup) (ob := HO.tup) hp (fun hx hr => .tup hx hr) g nd fr rp o1⟩

/-! ### built-ins -/
def rBlt (G : Gb) (f : List Val → Res Val) : List V → Hp → VK → Prop := fun xs H Q => ∃ Z vs, Zk Z H ∧ VwA G Z vs xs ∧ Out G H Z (f vs) Q
theorem ints?_map : ∀ {ds : List D} {ns : List Int}, ints? ds = some ns → ds = ns.map D.int
  | [], ns, h => by cases h; rfl
  | .int i :: ds, ns, h => by
    simp only [ints?, Option.map_eq_some_iff] at h
    obtain ⟨ms, e, rfl⟩ := h
    rw [ints?_map e]; rfl
  | .non :: _, _, h => by simp [ints?] at h
  | .bl _ :: _, _, h => by simp [ints?] at h
  | .str _ :: _, _, h => by simp [ints?] at h
  | .glob _ :: _, _, h => by simp [ints?] at h
  | .scr _ :: _, _, h => by simp [ints?] at h
  | .lst _ :: _, _, h => by simp [ints?] at h
  | .tup _ :: _, _, h => by simp [ints?] at h
  | .ins _ _ _ :: _, _, h => by simp [ints?] at h
theorem bls?_map : ∀ {ds : List D} {ns : List Bool}, bls? ds = some ns → ds = ns.map D.bl
  | [], ns, h => by cases h; rfl
  | .bl i :: ds, ns, h => by
    simp only [bls?, Option.map_eq_some_iff] at h
    obtain ⟨ms, e, rfl⟩ := h
    rw [bls?_map e]; rfl
  | .non :: _, _, h => by simp [bls?] at h
  | .int _ :: _, _, h => by simp [bls?] at h
  | .str _ :: _, _, h => by simp [bls?] at h
  | .glob _ :: _, _, h => by simp [bls?] at h
  | .scr _ :: _, _, h => by simp [bls?] at h
  | .lst _ :: _, _, h => by simp [bls?] at h
  | .tup _ :: _, _, h => by simp [bls?] at h
  | .ins _ _ _ :: _, _, h => by simp [bls?] at h
theorem VwA.one {Z : Zn} {v : Val} {xs : List V} (h : VwA G Z [v] xs) : ∃ x, xs = [x] ∧ Vw G.K G.mg (Z v.2.2) v.1 x := by
  cases h with
  | cons a b => cases b; exact ⟨_, rfl, a⟩
theorem VwA.two {Z : Zn} {v w : Val} {xs : List V} (h : VwA G Z [v, w] xs) : ∃ x y, xs = [x, y] ∧ Vw G.K G.mg (Z v.2.2) v.1 x ∧ Vw G.K G.mg (Z w.2.2) w.1 y := by
  cases h with
  | cons a b =>
    cases b with
    | cons c d => cases d; exact ⟨_, _, rfl, a, c⟩
/-- a list of ints -/
theorem vw_ints {K : PySem.W.Frag} {mg : Str → Option Value} {B : Hp} {ds : List D} {ns : List Int} {x : V} (e : ints? ds = some ns) (h : Vw K mg B (.lst ds) x) : ∃ a, x = .ref a ∧ B a = some (.lst (ns.map V.int)) := by
  obtain ⟨a, vs, rfl, ha, _, r⟩ := vw_lst h
  rw [ints?_map e] at r
  rw [r.ints] at ha
  exact ⟨a, rfl, ha⟩
theorem vw_bls {K : PySem.W.Frag} {mg : Str → Option Value} {B : Hp} {ds : List D} {ns : List Bool} {x : V} (e : bls? ds = some ns) (h : Vw K mg B (.lst ds) x) : ∃ a, x = .ref a ∧ B a = some (.lst (ns.map V.bl)) := by
  obtain ⟨a, vs, rfl, ha, _, r⟩ := vw_lst h
  rw [bls?_map e] at r
  rw [r.bls] at ha
  exact ⟨a, rfl, ha⟩
theorem fin_int {H : Hp} {Z : Zn} {z : Int} {Q : V → Hp → Prop} (zk : Zk Z H) (o : Out G H Z (.ok (.int z, 0, true)) Q) : Q (.int z) H := Out.flat (v := (.int z, 0, true)) rfl (.int z) zk o
theorem fin_bl {H : Hp} {Z : Zn} {z : Bool} {Q : V → Hp → Prop} (zk : Zk Z H) (o : Out G H Z (.ok (.bl z, 0, true)) Q) : Q (.bl z) H := Out.flat (v := (.bl z, 0, true)) rfl (.bl z) zk o
theorem cr_lenD (hK : G.K = X.K) : CallR X (.builtin "len") (rBlt G lenV) := by
  intro pins s σ H xs us Q I r ⟨Z, vs, zk, w, o⟩
  unfold lenV at o
  split at o
  · obtain ⟨x, rfl, wx⟩ := w.one
    obtain ⟨a, ys, rfl, ha, _, rr⟩ := vw_lst wx
    refine call_len_seq pins s σ H _ us Q I r ⟨a, ys, rfl, .inl (.of (zk.h _ _ _ ha)), ?_⟩
    rw [← rr.length]; exact fin_int zk o
  · obtain ⟨x, rfl, wx⟩ := w.one
    obtain ⟨a, ys, rfl, ha, rr⟩ := vw_tup wx
    refine call_len_seq pins s σ H _ us Q I r ⟨a, ys, rfl, .inr (.of (zk.h _ _ _ ha)), ?_⟩
    rw [← rr.length]; exact fin_int zk o
  · exact o.elim
theorem cr_sumD (hc : X.calm = true) : CallR X (.builtin "sum") (rBlt G sumV) := by
  intro pins s σ H xs us Q I r ⟨Z, vs, zk, w, o⟩
  unfold sumV at o
  split at o
  · split at o
    · rename_i e
      obtain ⟨x, rfl, wx⟩ := w.one
      obtain ⟨a, rfl, ha⟩ := vw_ints e wx
      exact cr_sum hc pins s σ H _ us Q I r ⟨a, _, rfl, .of (zk.h _ _ _ ha), fin_int zk o⟩
    · exact o.elim
  · exact o.elim
theorem maxL_spec : ∀ (x : Int) (xs : List Int), maxL (x :: xs) ∈ x :: xs ∧ ∀ y ∈ x :: xs, y ≤ maxL (x :: xs)
  | x, [] => ⟨by simp [maxL], by simp [maxL]⟩
  | x, y :: ys => by
    obtain ⟨h1, h2⟩ := maxL_spec y ys
    have e : maxL (x :: y :: ys) = max x (maxL (y :: ys)) := rfl
    rw [e]
    constructor
    · rcases Int.le_total x (maxL (y :: ys)) with h | h
      · rw [Int.max_eq_right h]; exact List.mem_cons_of_mem _ h1
      · rw [Int.max_eq_left h]; exact List.mem_cons_self
    · intro z hz
      rcases List.mem_cons.mp hz with rfl | hz
      · exact Int.le_max_left _ _
      · exact Int.le_trans (h2 z hz) (Int.le_max_right _ _)
theorem minL_spec : ∀ (x : Int) (xs : List Int), minL (x :: xs) ∈ x :: xs ∧ ∀ y ∈ x :: xs, minL (x :: xs) ≤ y
  | x, [] => ⟨by simp [minL], by simp [minL]⟩
  | x, y :: ys => by
    obtain ⟨h1, h2⟩ := minL_spec y ys
    have e : minL (x :: y :: ys) = min x (minL (y :: ys)) := rfl
    rw [e]
    constructor
    · rcases Int.le_total x (minL (y :: ys)) with h | h
      · rw [Int.min_eq_left h]; exact List.mem_cons_self
      · rw [Int.min_eq_right h]; exact List.mem_cons_of_mem _ h1
    · intro z hz
      rcases List.mem_cons.mp hz with rfl | hz
      · exact Int.min_le_left _ _
      · exact Int.le_trans (Int.min_le_right _ _) (h2 z hz)
theorem max_one {m m' : Int} {ns : List Int} (h1 : m ∈ ns) (h2 : ∀ y ∈ ns, y ≤ m) (h3 : m' ∈ ns) (h4 : ∀ y ∈ ns, y ≤ m') : m = m' := by
  have a := h2 _ h3; have b := h4 _ h1; omega
theorem min_one {m m' : Int} {ns : List Int} (h1 : m ∈ ns) (h2 : ∀ y ∈ ns, m ≤ y) (h3 : m' ∈ ns) (h4 : ∀ y ∈ ns, m' ≤ y) : m = m' := by
  have a := h2 _ h3; have b := h4 _ h1; omega
theorem cr_maxD (hc : X.calm = true) : CallR X (.builtin "max") (rBlt G maxV) := by
  intro pins s σ H xs us Q I r ⟨Z, vs, zk, w, o⟩
  unfold maxV at o
  split at o
  · split at o
    · rename_i n ns e
      obtain ⟨x, rfl, wx⟩ := w.one
      obtain ⟨a, rfl, ha⟩ := vw_ints e wx
      refine cr_max hc pins s σ H _ us Q I r ⟨a, _, rfl, .of (zk.h _ _ _ ha), by simp, fun m h1 h2 => ?_⟩
      rw [max_one h1 h2 (maxL_spec n ns).1 (maxL_spec n ns).2]
      exact fin_int zk o
    · exact o.elim
  · obtain ⟨x, y, rfl, wx, wy⟩ := w.two
    have ex := vw_int wx; have ey := vw_int wy; subst ex ey
    exact call_max2 hc pins s σ H _ us Q I r ⟨_, _, rfl, fin_int zk o⟩
  · exact o.elim
theorem cr_minD (hc : X.calm = true) : CallR X (.builtin "min") (rBlt G minV) := by
  intro pins s σ H xs us Q I r ⟨Z, vs, zk, w, o⟩
  unfold minV at o
  split at o
  · split at o
    · rename_i n ns e
      obtain ⟨x, rfl, wx⟩ := w.one
      obtain ⟨a, rfl, ha⟩ := vw_ints e wx
      refine cr_min hc pins s σ H _ us Q I r ⟨a, _, rfl, .of (zk.h _ _ _ ha), by simp, fun m h1 h2 => ?_⟩
      rw [min_one h1 h2 (minL_spec n ns).1 (minL_spec n ns).2]
      exact fin_int zk o
    · exact o.elim
  · obtain ⟨x, y, rfl, wx, wy⟩ := w.two
    have ex := vw_int wx; have ey := vw_int wy; subst ex ey
    exact call_min2 hc pins s σ H _ us Q I r ⟨_, _, rfl, fin_int zk o⟩
  · exact o.elim
theorem cr_absD : CallR X (.builtin "abs") (rBlt G TT.absV) := by
  intro pins s σ H xs us Q I r ⟨Z, vs, zk, w, o⟩
  unfold TT.absV at o
  split at o
  · obtain ⟨x, rfl, wx⟩ := w.one
    have ex := vw_int wx; subst ex
    exact call_abs pins s σ H _ us Q I r ⟨_, rfl, fin_int zk o⟩
  · exact o.elim
theorem cr_allD (hc : X.calm = true) : CallR X (.builtin "all") (rBlt G allV) := by
  intro pins s σ H xs us Q I r ⟨Z, vs, zk, w, o⟩
  unfold allV at o
  split at o
  · split at o
    · rename_i e
      obtain ⟨x, rfl, wx⟩ := w.one
      obtain ⟨a, rfl, ha⟩ := vw_bls e wx
      exact cr_all hc pins s σ H _ us Q I r ⟨a, _, rfl, .of (zk.h _ _ _ ha), fin_bl zk o⟩
    · exact o.elim
  · exact o.elim
theorem cr_anyD (hc : X.calm = true) : CallR X (.builtin "any") (rBlt G anyV) := by
  intro pins s σ H xs us Q I r ⟨Z, vs, zk, w, o⟩
  unfold anyV at o
  split at o
  · split at o
    · rename_i e
      obtain ⟨x, rfl, wx⟩ := w.one
      obtain ⟨a, rfl, ha⟩ := vw_bls e wx
      exact cr_any hc pins s σ H _ us Q I r ⟨a, _, rfl, .of (zk.h _ _ _ ha), fin_bl zk o⟩
    · exact o.elim
  · exact o.elim
theorem insI_perm (x : Int) : ∀ xs, (insI x xs).Perm (x :: xs)
  | [] => .refl _
  | y :: ys => by
    unfold insI
    split
    · exact .refl _
    · exact ((insI_perm x ys).cons y).trans (.swap x y ys)
theorem sortI_perm : ∀ xs, (sortI xs).Perm xs
  | [] => .refl _
  | x :: xs => (insI_perm x (sortI xs)).trans ((sortI_perm xs).cons x)
theorem insI_sorted (x : Int) : ∀ {xs : List Int}, xs.Pairwise (· ≤ ·) → (insI x xs).Pairwise (· ≤ ·)
  | [], _ => by simp [insI]
  | y :: ys, h => by
    unfold insI
    have h1 := List.pairwise_cons.mp h
    split
    · rename_i c
      refine List.pairwise_cons.mpr ⟨fun z hz => ?_, h⟩
      rcases List.mem_cons.mp hz with rfl | hz
      · exact c
      · exact Int.le_trans c (h1.1 z hz)
    · rename_i c
      refine List.pairwise_cons.mpr ⟨fun z hz => ?_, insI_sorted x h1.2⟩
      rcases List.mem_cons.mp ((insI_perm x ys).mem_iff.mp hz) with rfl | hz
      · omega
      · exact h1.1 z hz
theorem sortI_sorted : ∀ xs, (sortI xs).Pairwise (· ≤ ·)
  | [] => .nil
  | x :: xs => insI_sorted x (sortI_sorted xs)
theorem sorted_one : ∀ {xs ys : List Int}, xs.Perm ys → xs.Pairwise (· ≤ ·) → ys.Pairwise (· ≤ ·) → xs = ys
  | [], ys, p, _, _ => by have := p.length_eq; cases ys with | nil => rfl | cons => simp at this
  | x :: xs, [], p, _, _ => by have := p.length_eq; simp at this
  | x :: xs, y :: ys, p, h1, h2 => by
    have a1 := List.pairwise_cons.mp h1
    have a2 := List.pairwise_cons.mp h2
    have e : x = y := by
      have m1 : x ∈ y :: ys := p.mem_iff.mp List.mem_cons_self
      have m2 : y ∈ x :: xs := p.mem_iff.mpr List.mem_cons_self
      rcases List.mem_cons.mp m1 with h | h
      · exact h
      · rcases List.mem_cons.mp m2 with h' | h'
        · exact h'.symm
        · have := a1.1 y h'; have := a2.1 x h; omega
    subst e
    rw [sorted_one (p.cons_inv) a1.2 a2.2]
/-- a new list of ints -/
theorem Out.newI {H : Hp} {Z : Zn} {ns : List Int} {p : Addr} {Q : V → Hp → Prop} (zk : Zk Z H) (hp : H p = none) (z : ns.length ≤ sizeLine) (h : Out G H Z (.ok (.lst (ns.map D.int), 1, true)) Q) : Q (.ref p) (upd H p (.lst (ns.map V.int))) :=
  Out.newL (G := G) zk hp (by rw [List.length_map]; exact z) (vwL_ints ns) h
theorem vw_intsZ {K : PySem.W.Frag} {mg : Str → Option Value} {B : Hp} {ds : List D} {ns : List Int} {x : V} (e : ints? ds = some ns) (h : Vw K mg B (.lst ds) x) : ns.length ≤ sizeLine := by
  obtain ⟨a, vs, rfl, ha, z, r⟩ := vw_lst h
  have l := r.length
  rw [ints?_map e, List.length_map] at l
  omega
theorem cr_sortedD : CallR X (.builtin "sorted") (rBlt G sortedV) := by
  intro pins s σ H xs us Q I r ⟨Z, vs, zk, w, o⟩
  unfold sortedV at o
  split at o
  · split at o
    · rename_i ns e
      obtain ⟨x, rfl, wx⟩ := w.one
      have z := vw_intsZ e wx
      obtain ⟨a, rfl, ha⟩ := vw_ints e wx
      refine cr_sortedI pins s σ H _ us Q I r ⟨a, _, rfl, .of (zk.h _ _ _ ha), fun ns' p hp hs hn => ?_⟩
      rw [sorted_one (hp.trans (sortI_perm ns).symm) hs (sortI_sorted ns)]
      exact Out.newI (G := G) zk hn (by rw [(sortI_perm ns).length_eq]; exact z) o
    · exact o.elim
  · exact o.elim
theorem cr_listD (hK : G.K = X.K) : CallR X (.type "list") (rBlt G listV) := by
  intro pins s σ H xs us Q I r ⟨Z, vs, zk, w, o⟩
  unfold listV at o
  split at o
  · obtain ⟨x, rfl, wx⟩ := w.one
    obtain ⟨a, ys, rfl, ha, z, rr⟩ := vw_lst wx
    exact call_list_of pins s σ H _ us Q I r ⟨a, ys, rfl, .inl (.of (zk.h _ _ _ ha)), fun p hp => Out.newL (G := G) zk hp z rr.nw o⟩
  · split at o
    · rename_i c
      obtain ⟨x, rfl, wx⟩ := w.one
      obtain ⟨a, ys, rfl, ha, rr⟩ := vw_tup wx
      exact call_list_of pins s σ H _ us Q I r ⟨a, ys, rfl, .inr (.of (zk.h _ _ _ ha)), fun p hp => Out.newL (G := G) zk hp (by rw [← rr.length]; exact lim_size c) rr.nw o⟩
    · exact o.elim
  · exact o.elim
theorem cr_intD : CallR X (.type "int") (rBlt G intV) := by
  intro pins s σ H xs us Q I r ⟨Z, vs, zk, w, o⟩
  unfold intV at o
  split at o
  · obtain ⟨x, rfl, wx⟩ := w.one
    have ex := vw_bl wx; subst ex
    exact call_int1 pins s σ H _ us Q I r (.inr ⟨_, rfl, fin_int zk o⟩)
  · obtain ⟨x, rfl, wx⟩ := w.one
    have ex := vw_int wx; subst ex
    exact call_int1 pins s σ H _ us Q I r (.inl ⟨_, rfl, fin_int zk o⟩)
  · exact o.elim
variable {e : Expr} {c : CE} {x : Str} {p : Pos}
theorem pe_bltD {f : Bl} {id : String} (hf : CallR X (.builtin id) (rBlt G (bltV f))) (hg : Gl X x) (hm : X.mg x = none) (hv : bootBuiltins x = some (.builtin id)) (ha : PA X (e :: es) (tA G cs)) (hn : x ≠ "__name__") (hdb : (x == ("__debug__" : Str)) = false)
    (he : starEach (e :: es) X.env = (false, eval e X.env) :: starEach es X.env) (hpl : (backTo pos (starEach es X.env)).any (·.1) = false) : PE X (.Call (.Name x p) (e :: es) [] pos) (tD G (.blt f cs)) := by
  refine (pe_callB hf hg hm hv ha hn hdb he hpl).imp fun σ H Q ⟨Z, env, zk, eo, o⟩ => ?_
  simp only [evalE] at o
  exact tA_bind zk eo o fun vs xs H1 Z1 e1 g w o1 => ⟨Z1, vs, g.k, w, o1⟩
theorem pe_bltTyD {f : Bl} {T : String} (hf : CallR X (.type T) (rBlt G (bltV f))) (hg : Gl X x) (hm : X.mg x = none) (hv : bootBuiltins x = some (.type T)) (ha : PA X (e :: es) (tA G cs)) (hn : x ≠ "__name__") (hdb : (x == ("__debug__" : Str)) = false)
    (he : starEach (e :: es) X.env = (false, eval e X.env) :: starEach es X.env) (hpl : (backTo pos (starEach es X.env)).any (·.1) = false) : PE X (.Call (.Name x p) (e :: es) [] pos) (tD G (.blt f cs)) := by
  refine (pe_callTy hf hg hm hv ha hn hdb he hpl).imp fun σ H Q ⟨Z, env, zk, eo, o⟩ => ?_
  simp only [evalE] at o
  exact tA_bind zk eo o fun vs xs H1 Z1 e1 g w o1 => ⟨Z1, vs, g.k, w, o1⟩
end
end TT

set_option Elab.async false
set_option linter.all false
set_option maxRecDepth 100000
set_option maxHeartbeats 4000000
/-! TSet: sorted(set(xs)) of a list of ints. -/
namespace TT
open PySem L2 PySem.Spec PyProof.Rows
/-- the set that is just made -/
abbrev setO0 (w : World) : Obj := { cls := .type "set", dict := none, data := .set #[] 0 (.fresh 0 0 (!w.params.followText "set-order")) }
section
variable {P : Program} {w : World} {A : Around} {E : Value → Shared → Prop} {s : Shared}
theorem set_of_list {l : Addr} {its : Array Value} (ns : List Int) {Q : Value → Shared → Prop} (ha : A.handled = none) (hL : s.heap.IsList l its) (hI : IntsAre its.toList ns) (hB : ns.length + 1 < scanBound)
    (fin : ∀ (h2 : Heap) (tk m : Nat), SetR w h2 s.heap.objs.size (fun j => decide (j ∈ ns)) m → m ≤ ns.length → (∀ b o, s.heap.get? b = some o → h2.get? b = some o) → Q (.ref s.heap.objs.size) { s with heap := h2, toks := tk }) :
    wpAny (model P w) A (call (.type "set") [.ref l]) Q E s := by
  have size : its.size = ns.length := by
    have q := IntsAre.length hI
    rwa [Array.length_toList] at q
  obtain ⟨c0, tl0, m1⟩ := F.called_set.mro
  have m2 := F.called_set.made
  have m3 := F.called_set.sub
  refine wpAny_call (codeAny_of_tree ?_)
  show wpAny _ _ (callAny (.type "set") _) _ _ _
  refine wpAny_pure ⟨Code.quiet_builtin _ (by decide +kernel), codeAny_builtin F.entry_type_call ?_⟩
  rw [Around.under_plain (weight_type_call_type "set" [.ref l] []) rfl]
  have m4 := F.called_set.notType
  have m5 := F.called_set.canCreate
  have m6 := F.typeCall_set_1 (.ref l)
  repeat (any_goals (first | assumption | wp_step))
  refine codeAny_mono (code_set_led1 (.ref l) (E := E) (Q₁ := fun ob s1 => ob = .ref s.heap.objs.size ∧ s1 = { s with heap := s.heap.push (setO0 w) }) ⟨rfl, rfl⟩) fun r s1 hr => ?_
  cases r with
  | error e => exact hr
  | ok fl =>
    cases fl with
    | ret ob =>
      obtain ⟨rfl, rfl⟩ := hr
      have at0 : (s.heap.push (setO0 w)).get? s.heap.objs.size = some (setO0 w) := Heap.get?_push_size _ rfl
      have ty0 : Shared.TypeIs { s with heap := s.heap.push (setO0 w) } (.ref s.heap.objs.size) "set" := ⟨_, at0, rfl⟩
      have i1 := F.called_set.init.lookup
      have i2 := F.called_set.init.bind (.ref s.heap.objs.size)
      repeat (any_goals (first | assumption | wp_step))
      refine codeAny_mono (codeAny_call_builtin (R := wants (fun r s2 => r = .none ∧ ∃ h2 tk m, s2 = { s with heap := h2, toks := tk } ∧ SetR w h2 s.heap.objs.size (fun j => decide (j ∈ ns)) m ∧ m ≤ ns.length ∧
          (∀ b o, s.heap.get? b = some o → h2.get? b = some o)) E) F.called_set.init.plain F.entry_set_init (check_set_init_1 ty0 ?_)) fun r2 s2 hr2 => ?_
      · obtain ⟨⟨oc, od, odt, osl⟩, l1, l2, nl, l3⟩ := hL
        simp only at l2 l3
        subst l2; subst l3
        have l4 : (s.heap.push (setO0 w)).get? l = some { cls := .type "list", dict := od, data := .seq its nl, slots := osl } := Heap.get?_push_of_some _ l1
        have n1 := F.sub_list_set
        have n2 := F.sub_list_frozenset
        have n3 : (Value.type "list" == Value.type "dict") = false := by decide
        have l5 : (s.heap.push (setO0 w)).IsList l its := ⟨_, l4, rfl, nl, rfl⟩
        unfold Builtin.«set.__init__» noKeywords Builtin.Frozenset.updateFrom
        generalize hPI : pyIter = PI
        wp_walk
        subst hPI
        refine wpAny_pyIter_list l5 ?_
        refine wpAny_bind (wpAny_runValue ?_)
        have lt : l < s.heap.objs.size := Heap.lt_size l1
        have a3 : A.in1.in1.in1.handled = none := by simp [ha]
        have ne1 : l ≠ (s.heap.push (setO0 w)).objs.size := by
          rw [Heap.size_push]
          exact Nat.ne_of_lt (Nat.lt_succ_of_lt lt)
        have ne2 : s.heap.objs.size ∉ [(s.heap.push (setO0 w)).objs.size, l] := by
          rw [Heap.size_push]
          intro z
          rcases List.mem_cons.mp z with z | z
          · exact absurd z (Nat.ne_of_lt (Nat.lt_succ_self _))
          · exact absurd (List.mem_singleton.mp z) (Nat.ne_of_gt lt)
        have vals : ∀ (i : Nat) (v : Value), its[i]? = some v → ∃ k t, ns[i]? = some k ∧ v = .int k t := fun i v hv => by
          have hi : i < ns.length := by rw [← size]; exact (Array.getElem?_eq_some_iff.mp hv).1
          obtain ⟨t, e⟩ := PyProof.Rows.IntsAre.int_at hI i v (by rw [Array.getElem?_toList]; exact hv)
          refine ⟨ns[i], t, List.getElem?_eq_getElem hi, ?_⟩
          rw [e, List.getD_eq_getElem?_getD, List.getElem?_eq_getElem hi] <;> rfl
        refine set_update_ints ((Walks.list a3 _ l ne1 its).toS) s.heap.objs.size ne2 ns size hB vals (its.size - 0) 0 _ (by omega) (Nat.zero_le _) ⟨⟨_, Heap.get?_push_size _ rfl, rfl, rfl⟩, (l5.push _)⟩ ?q0 ?qR
        case q0 =>
          refine ⟨0, Nat.le_refl 0, setR_new_at ?_⟩
          exact Heap.get?_push_of_some _ at0
        case qR =>
          intro s4 m hm hm2 hS4
          obtain ⟨h4, g4, d4, tk4, os4⟩ := s4
          obtain rfl : g4 = s.gens := hm.gens
          obtain rfl : d4 = s.drawn := hm.drawn
          obtain rfl : os4 = s.os := hm.os
          show wpAny _ _ _ _ _ _
          refine wpAny_pure ?_
          show wpAny _ _ (ret Value.none) _ _ _
          rw [size] at hm2
          refine wpAny_pure ⟨rfl, h4, tk4, m, rfl, hS4, hm2, fun b o e => ?_⟩
          have b0 : b < s.heap.objs.size := Heap.lt_size e
          refine hm.heap b o ?_ (Heap.get?_push_of_some _ (Heap.get?_push_of_some _ e))
          intro z
          rw [Heap.size_push] at z
          rcases List.mem_cons.mp z with z | z
          · exact absurd z (Nat.ne_of_lt b0)
          · exact absurd (List.mem_singleton.mp z) (Nat.ne_of_lt (Nat.lt_succ_of_lt b0))
      · cases r2 with
        | error e => exact hr2
        | ok fl2 =>
          cases fl2 with
          | ret r =>
            obtain ⟨rfl, h2, tk, m, rfl, q1, q2, q3⟩ := hr2
            repeat (any_goals (first | assumption | wp_step))
            exact fin _ _ _ q1 q2 q3
          | _ => exact hr2.elim
    | _ => exact hr.elim
end
section
variable {X : Cx} {G : Gb}
/-- set(xs): a new set of the ints -/
def rSetL (K : PySem.W.Frag) (w : World) : List V → Hp → VK → Prop := fun vs H Q => ∃ (a : Addr) (ns : List Int), vs = [.ref a] ∧ SqL K H a (ns.map V.int) ∧ ns.length < 60 ∧
  ∀ p m, H p = none → m ≤ ns.length → Q (.ref p) (upd H p (SetO w p (fun j => decide (j ∈ ns)) m))
theorem cr_setL (hc : X.calm = true) : CallR X (.type "set") (rSetL X.K X.w) := by
  intro pins s σ H vs us Q I r ⟨a, ns, e, hs, hn, q⟩
  subst e
  rw [Vals.ref1 r]
  obtain ⟨its, rv, pl, hz⟩ := I.list hs
  refine set_of_list ns (I.ok.hd hc) pl.isList (by simpa using rv.ints) (by unfold scanBound; omega) fun h2 tk m R hm k => ?_
  exact ⟨.ref s.heap.objs.size, _, I.laid k (Nat.le_refl _) (setO_new R), rfl, q _ m I.fresh hm⟩
theorem lt_one : ∀ {xs ys : List Int}, xs.Pairwise (· < ·) → ys.Pairwise (· < ·) → (∀ k, k ∈ xs ↔ k ∈ ys) → xs = ys := by
  intro xs ys h1 h2 h
  refine sorted_one ?_ (h1.imp fun h => Int.le_of_lt h) (h2.imp fun h => Int.le_of_lt h)
  refine (List.perm_ext_iff_of_nodup ?_ ?_).mpr h
  · exact h1.imp fun h => Int.ne_of_lt h
  · exact h2.imp fun h => Int.ne_of_lt h
theorem ddI_mem (k : Int) : ∀ xs : List Int, k ∈ ddI xs ↔ k ∈ xs
  | [] => by simp [ddI]
  | x :: xs => by
    unfold ddI
    split
    · rename_i c
      rw [ddI_mem k xs]
      constructor
      · exact fun h => List.mem_cons_of_mem _ h
      · intro h
        rcases List.mem_cons.mp h with rfl | h
        · exact c
        · exact h
    · rw [List.mem_cons, List.mem_cons, ddI_mem k xs]
theorem ddI_nodup : ∀ xs : List Int, (ddI xs).Nodup
  | [] => List.nodup_nil
  | x :: xs => by
    unfold ddI
    split
    · exact ddI_nodup xs
    · rename_i c
      exact List.nodup_cons.mpr ⟨fun h => c ((ddI_mem x xs).mp h), ddI_nodup xs⟩
theorem ddI_len : ∀ xs : List Int, (ddI xs).length ≤ xs.length
  | [] => Nat.le_refl _
  | x :: xs => by
    unfold ddI
    have := ddI_len xs
    split
    · simp; omega
    · simp; omega
theorem sort_lt {xs : List Int} (h : xs.Nodup) : (sortI xs).Pairwise (· < ·) := by
  have nd : (sortI xs).Nodup := (sortI_perm xs).nodup_iff.mpr h
  have a := sortI_sorted xs
  have := a.and nd
  exact this.imp fun ⟨h1, h2⟩ => by omega
variable {e : Expr} {c : CE} {p p1 pos pos1 : Pos}
/-- sorted(set(e)) -/
theorem pe_ssetD (hK : G.K = X.K) (hc : X.calm = true) (hg : Gl X "sorted") (hm : X.mg "sorted" = none) (hg2 : Gl X "set") (hm2 : X.mg "set" = none) (he : PE X e (tD G c)) (hs : starEach [e] X.env = [(false, eval e X.env)]) :
    PE X (.Call (.Name "sorted" p) [.Call (.Name "set" p1) [e] [] pos1] [] pos) (tD G (.blt .sset (.cons c .nil))) := by
  have inner := pe_callTy (pos := pos1) (p := p1) (cr_setL (X := X) hc) hg2 hm2 (by decide +kernel) (pa_consD he (pa_nilD (G := G)) hs) (by decide) (by decide) hs rfl
  refine (pe_callB (cr_sortedSet hc) hg hm (by decide +kernel) (pa_cons inner pa_nil)).imp fun σ H Q ⟨Z, env, zk, eo, o⟩ => ?_
  simp only [evalE] at o
  refine tA_bind zk eo o fun vs xs H1 Z1 e1 g w o1 => ?_
  simp only [bltV] at o1
  unfold ssetV at o1
  split at o1
  · split at o1
    · rename_i ns e2
      split at o1
      · rename_i hn
        obtain ⟨x, rfl, wx⟩ := w.one
        obtain ⟨a, rfl, ha⟩ := vw_ints e2 wx
        refine ⟨a, ns, rfl, .of (g.k.h _ _ _ ha), hn, fun q m hq hm => ?_⟩
        refine ⟨q, _, m, rfl, upd_same, by omega, fun ns' p' h1 h2 h3 h4 => ?_⟩
        have en : ns' = sortI (ddI ns) := lt_one h1 (sort_lt (ddI_nodup ns)) fun k => by
          rw [h2 k, decide_eq_true_eq, (sortI_perm (ddI ns)).mem_iff, ddI_mem]
        rw [en]
        have g2 : Gr H1 (upd H1 q (SetO X.w q (fun j => decide (j ∈ ns)) m)) Z1 Z1 := (Gr.refl g.k).add hq
        refine Out.newI (G := G) g2.k h4 ?_ (Out.step g2 o1)
        rw [(sortI_perm _).length_eq]
        have := ddI_len ns
        exact Nat.le_trans (by omega : (ddI ns).length ≤ 60) (by decide)
      · exact o1.elim
    · exact o1.elim
  · exact o1.elim
end
end TT

set_option Elab.async false
set_option linter.all false
set_option maxRecDepth 100000
set_option maxHeartbeats 1000000
/-! TF: isinstance, list(range()), index, count, calls of defs. -/
namespace TT
open PySem L2
section
variable {G : Gb} {X : Cx}
def tyN : D → Option String
  | .non => some "NoneType"
  | .bl _ => some "bool"
  | .int _ => some "int"
  | .str _ => some "str"
  | .lst _ => some "list"
  | .tup _ => some "tuple"
  | _ => none
theorem vw_ty {K : PySem.W.Frag} {mg : Str → Option Value} {H : Hp} {d : D} {x : V} {n : String} (e : tyN d = some n) (w : Vw K mg H d x) : TyX K H x (.type n) := by
  cases w <;> simp only [tyN, Option.some.injEq, reduceCtorEq] at e <;> subst e
  · exact .base .non
  · exact .base (.bl _)
  · exact .base (.int _)
  · exact .base (.str _)
  · rename_i q _ _; exact .base (.lst q)
  · rename_i q _; exact .base (.tup q)
def tyB : Ty → Option String
  | .int => some "int"
  | .bool => some "bool"
  | .list => some "list"
  | .tuple => some "tuple"
  | .str => some "str"
  | .cls _ => none
theorem isiD_spec {d : D} {T : Ty} {b : Bool} {m : String} (hT : tyB T = some m) (h : isiD d T = .ok b) : ∃ n, tyN d = some n ∧ kitB n m = some b := by
  cases T <;> simp only [tyB, Option.some.injEq, reduceCtorEq] at hT <;> subst hT <;> cases d <;> simp only [isiD, Res.ok.injEq, reduceCtorEq] at h <;> subst h <;> exact ⟨_, rfl, by decide +kernel⟩
theorem isiD_exc {d : D} {T : Ty} {c : Str} (h : isiD d T = .exc c) : False := by
  cases T <;> cases d <;> simp [isiD] at h
variable {a : Expr} {ca : CE} {p p2 pos : Pos}
theorem pe_isiD {T : Ty} {m : String} {y : Str} (hT : tyB T = some m) (hK : G.K = X.K) (hg : Gl X "isinstance") (hm : X.mg "isinstance" = none) (hg2 : Gl X y) (hm2 : X.mg y = none) (hv2 : bootBuiltins y = some (.type m)) (hn2 : y ≠ "__name__") (hd2 : (y == ("__debug__" : Str)) = false)
    (ha : PE X a (tD G ca)) (hs : starEach [a, .Name y p2] X.env = (false, eval a X.env) :: starEach [.Name y p2] X.env) : PE X (.Call (.Name "isinstance" p) [a, .Name y p2] [] pos) (tD G (.isi ca T)) := by
  refine (pe_callB call_isi hg hm (by decide +kernel) (pa_cons ha (pa_cons (pe_bltn (v := .ty m) hg2 hm2 hv2 rfl hn2 hd2) pa_nil) hs) (by decide) (by decide) hs rfl).imp fun σ H Q ⟨Z, env, zk, eo, o⟩ => ?_
  simp only [evalE] at o
  refine tD_bind zk eo o fun v x H1 Z1 e1 g1 w1 q1 => ?_
  cases e : isiD v.1 T with
  | ok b =>
    rw [e] at q1
    obtain ⟨n, h1, h2⟩ := isiD_spec hT e
    have w2 : Vw X.K G.mg H1 v.1 x := by rw [← hK]; exact Vw.mono (g1.k.h _) _ _ w1
    exact ⟨x, .ty m, .type n, .type m, b, rfl, .ty m, vw_ty h1 w2, kit_ty h2, fin_bl g1.k q1⟩
  | exc c => exact (isiD_exc e).elim
  | stuck => rw [e] at q1; exact q1.elim
/-- list(range(b)), list(range(a, b)) -/
theorem rg_map (a b : Int) : rgV a b = (rangeI a b).map V.int := by
  unfold rgV rangeI
  rw [List.map_map]
  rfl
theorem rangeI_len (a b : Int) : (rangeI a b).length = (b - a).toNat := by
  unfold rangeI
  rw [List.length_map, List.length_range]
theorem ok62_spec {a : Int} (h : ok62 a = true) : -(2 ^ 62) ≤ a ∧ a < 2 ^ 62 := by
  unfold ok62 at h
  simpa [Bool.and_eq_true] using h
theorem pe_lrange1D {p1 pos1 : Pos} (hc : X.calm = true) (hg : Gl X "list") (hm : X.mg "list" = none) (hg2 : Gl X "range") (hm2 : X.mg "range" = none) (ha : PE X a (tD G ca)) (hs : starEach [a] X.env = (false, eval a X.env) :: starEach [] X.env) :
    PE X (.Call (.Name "list" p) [.Call (.Name "range" p1) [a] [] pos1] [] pos) (tD G (.blt .lrange (.cons ca .nil))) := by
  refine (pe_listRg hc hg hm (prg_1 (pos := pos1) (p := p1) hg2 hm2 ha hs) rfl).imp fun σ H Q ⟨Z, env, zk, eo, o⟩ => ?_
  simp only [evalE, evalEs, assoc, Res.bind_ok, bltV] at o
  refine tD_bind zk eo.l o fun v x H1 Z1 e1 g1 w1 q1 => ?_
  obtain ⟨d, k, nw⟩ := v
  unfold lrangeV at q1
  split at q1
  · rename_i b _ _ e
    simp only [List.cons.injEq, Prod.mk.injEq, and_true] at e
    obtain ⟨rfl, rfl, rfl⟩ := e
    have ex := vw_int w1
    subst ex
    split at q1
    · rename_i c
      simp only [Bool.and_eq_true, decide_eq_true_eq] at c
      have h62 := ok62_spec c.1
      have hl := lim_size c.2
      refine ⟨b, rfl, ⟨by omega, by omega, h62.1, h62.2, by rw [Int.sub_zero]; exact hl⟩, fun q hq => ?_⟩
      rw [rg_map]
      exact Out.newI (G := G) g1.k hq (by rw [rangeI_len, Int.sub_zero]; exact hl) q1
    · exact q1.elim
  · rename_i e
    simp at e
  · exact q1.elim
theorem pe_lrange2D {b : Expr} {cb : CE} {p1 pos1 : Pos} (hc : X.calm = true) (hg : Gl X "list") (hm : X.mg "list" = none) (hg2 : Gl X "range") (hm2 : X.mg "range" = none) (ha : PE X a (tD G ca)) (hb : PE X b (tD G cb)) (hs : starEach [a, b] X.env = (false, eval a X.env) :: starEach [b] X.env) (hs2 : starEach [b] X.env = (false, eval b X.env) :: starEach [] X.env) :
    PE X (.Call (.Name "list" p) [.Call (.Name "range" p1) [a, b] [] pos1] [] pos) (tD G (.blt .lrange (.cons ca (.cons cb .nil)))) := by
  refine (pe_listRg hc hg hm (prg_2 (pos := pos1) (p := p1) hg2 hm2 ha hb hs hs2 (by rw [hs2]; rfl)) rfl).imp fun σ H Q ⟨Z, env, zk, eo, o⟩ => ?_
  simp only [evalE, evalEs, assoc, Res.bind_ok, bltV] at o
  refine tD_bind zk eo.l o fun v x H1 Z1 e1 g1 w1 q1 => ?_
  refine tD_bind g1.k (EOk.mono g1.z eo.r.l) q1 fun w y H2 Z2 e2 g2 w2 q2 => ?_
  obtain ⟨d, k, nw⟩ := v
  obtain ⟨d2, k2, nw2⟩ := w
  unfold lrangeV at q2
  split at q2
  · rename_i e
    simp at e
  · rename_i a b e
    simp only [List.cons.injEq, Prod.mk.injEq, and_true] at e
    obtain ⟨⟨rfl, rfl, rfl⟩, rfl, rfl, rfl⟩ := e
    have ex := vw_int w1
    have ey := vw_int w2
    subst ex ey
    split at q2
    · rename_i c
      simp only [Bool.and_eq_true, decide_eq_true_eq] at c
      have h62 := ok62_spec c.1.1
      have h63 := ok62_spec c.1.2
      have hl := lim_size c.2
      refine ⟨_, _, rfl, rfl, ⟨h62.1, h62.2, h63.1, h63.2, hl⟩, fun q hq => ?_⟩
      rw [rg_map]
      exact Out.newI (G := G) g2.k hq (by rw [rangeI_len]; exact hl) q2
    · exact q2.elim
  · exact q2.elim

/-! ### a def called -/
def zone0 (B : Hp) : Zn := fun n => if n = true then (fun _ => none) else B
theorem zone0_k {B H : Hp} (s : Same B H) : Zk (zone0 B) H := ⟨fun a o e => (by cases e), s⟩
def spC (G : Gb) (n : Nat) (C : List D → Res Val) : Sp := fun vs H Q E => ∃ B ds, Same B H ∧ VwL G.K G.mg B ds vs ∧ vs.length = n ∧ Out { G with E := E } H (zone0 B) (C ds) Q
def zun (A B : Hp) : Hp := fun a => match A a with
  | some o => some o
  | none => B a
theorem zun_l {A B : Hp} : Same A (zun A B) := fun a o e => by unfold zun; rw [e]
theorem zun_r {A B H : Hp} (h1 : Same A H) (h2 : Same B H) : Same B (zun A B) := fun a o e => by
  unfold zun
  cases q : A a with
  | none => exact e
  | some u =>
    have := h1 a u q
    rw [h2 a o e] at this
    exact this.symm
theorem zun_h {A B H : Hp} (h1 : Same A H) (h2 : Same B H) : Same (zun A B) H := fun a o e => by
  unfold zun at e
  cases q : A a with
  | none => rw [q] at e; exact h2 a o e
  | some u => rw [q] at e; exact h1 a o (q.trans e)
/-- from the callee's zones to the caller's -/
theorem call_out {H : Hp} {Z : Zn} {b : Bool} {r : Res Val} {Q : V → Hp → Prop} (zk : Zk Z H)
    (o : Out G H Z (match r with | .ok (d, k, nw) => .ok (d, k, nw || b) | .exc c => .exc c | .stuck => .stuck) Q) : Out G H (zone0 (Z b)) r Q := by
  cases r with
  | exc c => exact o
  | stuck => exact o
  | ok v =>
    obtain ⟨d, k, nw⟩ := v
    intro x H' Z' F g nd fr rp
    have s1 : ∀ n, Same (Z n) H' := fun n => (zk.h n).trans g.h
    have s2 : ∀ n, Same (Z' n) H' := fun n => g.k.h n
    let Z2 : Zn := fun n => if n = true then zun (Z true) (Z' (!b)) else zun (Z false) (Z' false)
    have e1 : Z2 true = zun (Z true) (Z' (!b)) := rfl
    have e0 : Z2 false = zun (Z false) (Z' false) := rfl
    have base : ∀ a, Z b a = none → Z' false a ≠ none → H a = none := fun a h1 h2 => g.f false a h1 h2
    have new : ∀ a, Z' true a ≠ none → H a = none := fun a h2 => g.f true a rfl h2
    refine o x H' Z2 F ⟨g.h, fun n => ?_, ⟨?_, ?_⟩, fun n a h1 h2 => ?_⟩ nd (fun p hp => ⟨(fr p hp).1, ?_⟩) ?_
    · cases n with
      | true => exact zun_l
      | false => exact zun_l
    · rw [e1, e0]
      intro a o e
      have hh : H' a = some o := zun_h (s1 true) (s2 _) a o e
      unfold zun at e ⊢
      cases q : Z false a with
      | some u => exact (s1 false a u q).symm.trans hh
      | none =>
        cases q2 : Z true a with
        | some u => rw [zk.t a u q2] at q; cases q
        | none =>
          rw [q2] at e
          exact g.k.any _ a o e
    · rw [e0]
      exact zun_h (s1 false) (s2 false)
    · cases n with
      | false =>
        have h2 : zun (Z false) (Z' false) a ≠ none := h2
        unfold zun at h2
        rw [h1] at h2
        refine base a ?_ h2
        cases q : Z b a with
        | none => rfl
        | some u => rw [zk.any b a u q] at h1; cases h1
      | true =>
        have h2 : zun (Z true) (Z' (!b)) a ≠ none := h2
        unfold zun at h2
        rw [h1] at h2
        cases b with
        | true => exact base a h1 h2
        | false => exact new a h2
    · show zun (Z false) (Z' false) p = none
      unfold zun
      rw [zk.s.free (fr p hp).1]
      exact (fr p hp).2
    · refine Rp.mono ?_ _ _ _ _ (fun _ _ _ q => q) rp
      show Same (Z' nw) (Z2 (nw || b))
      cases nw with
      | true =>
        show Same (Z' true) (zun (Z true) (Z' (!b)))
        cases b with
        | true => exact fun a o e => zun_r (s1 true) (s2 false) a o (g.k.t a o e)
        | false => exact zun_r (s1 true) (s2 true)
      | false =>
        cases b with
        | true => exact zun_r (s1 true) (s2 false)
        | false => exact zun_r (s1 false) (s2 false)
variable {e : Expr} {es : List Expr} {cs : CEs} {x : Str} {CX : CXT} {k : Nat} {f : Addr} {fd : FuncData} {ps : List Str}
theorem call_read {σ : L2.St} {H : Hp} {Q : VK} (h : tD G (.call x cs) σ H Q) (hn : ∀ ds v, G.Γ x ds = .ok v → ds.length = ps.length) (hnx : ∀ ds c, G.Γ x ds = .exc c → ds.length = ps.length) : tCall (spC G ps.length (G.Γ x)) [] G.E (tA G cs) σ H Q := by
  obtain ⟨Z, env, zk, eo, o⟩ := h
  simp only [evalE] at o
  refine tA_bind zk eo o fun vs xs H1 Z1 e1 g w o1 => ?_
  rw [List.append_nil]
  have wl := VwA.vwL (nw := vs.all nwOf) g.k w fun h v hv => List.all_eq_true.mp h v hv
  refine ⟨_, _, g.k.h (vs.all nwOf), wl, ?_, call_out g.k o1⟩
  rw [← wl.length]
  cases q : G.Γ x (vs.map (·.1)) with
  | ok v => exact hn _ _ q
  | exc c => exact hnx _ _ q
  | stuck => rw [q] at o1; exact o1.elim
theorem pe_userD (F : FnOk X.prog X.w X.K X.mg X.base CX k f fd ps (spC G ps.length (G.Γ x))) (hr : Room k X.A) (hg : Gl X x) (hm : X.mg x = some (.ref f)) (hk : PySem.W.keepIn X.K (.ref f) = true) (hb : Binds X.K fd ps []) (hx : Passes CX X G.E)
    (hn : ∀ ds v, G.Γ x ds = .ok v → ds.length = ps.length) (hnx : ∀ ds c, G.Γ x ds = .exc c → ds.length = ps.length) (ha : PA X (e :: es) (tA G cs)) (hdb : (x == ("__debug__" : Str)) = false) (he : starEach (e :: es) X.env = (false, eval e X.env) :: starEach es X.env) (hpl : (backTo pos (starEach es X.env)).any (·.1) = false) :
    PE X (.Call (.Name x p) (e :: es) [] pos) (tD G (.call x cs)) :=
  (pe_call F hr hg hm hk hb .nil hx ha hdb he hpl).imp fun σ H Q h => call_read h hn hnx
theorem pe_user0D (F : FnOk X.prog X.w X.K X.mg X.base CX k f fd ps (spC G ps.length (G.Γ x))) (hr : Room k X.A) (hg : Gl X x) (hm : X.mg x = some (.ref f)) (hk : PySem.W.keepIn X.K (.ref f) = true) (hb : Binds X.K fd ps []) (hx : Passes CX X G.E)
    (hn : ∀ ds v, G.Γ x ds = .ok v → ds.length = ps.length) (hnx : ∀ ds c, G.Γ x ds = .exc c → ds.length = ps.length) (hdb : (x == ("__debug__" : Str)) = false) :
    PE X (.Call (.Name x p) [] [] pos) (tD G (.call x .nil)) :=
  (pe_call0 F hr hg hm hk hb .nil hx hdb).imp fun σ H Q h => by
    have := call_read h hn hnx
    obtain ⟨Z, env, zk, eo, o⟩ := this
    simp only [evalEs] at o
    exact o [] H Z [] (Gr.refl zk) List.nodup_nil (fun p hp => nomatch hp) .nil
end
end TT

set_option Elab.async false
set_option linter.all false
set_option maxRecDepth 100000
set_option maxHeartbeats 1000000
/-! TG: what is walked; comprehensions. -/
namespace TT
open PySem L2
theorem _root_.L2.PI.imp {X : Cx} {tg it : Expr} {t t' : TI} (h : PI X tg it t) (i : ∀ σ H R, t' σ H R → t σ H R) : PI X tg it t' := ⟨fun pins s σ H R I q => h.run pins s σ H R I (i σ H R q)⟩
section
variable (G : Gb)
inductive ItemAt (Z : Zn) (H : Hp) (v : Val) (x : V) (H' : Hp) : Prop
  | old : H' = H → Vw G.K G.mg (Z v.2.2) v.1 x → ItemAt Z H v x H'
  | tup {T : Addr} {vs : List V} {ds : List D} : x = .ref T → H T = none → H' = upd H T (.tup vs) → v.1 = .tup ds → VwL G.K G.mg (Z v.2.2) ds vs → ItemAt Z H v x H'
/-- J hands out the items, whatever comes to the heap -/
def Feeds (J : It) (Z : Zn) (items : List Val) : Prop := ∀ H, Same (Z false) H → ∀ i, (∀ v, items[i]? = some v → J.go i H ∧ ∀ x H', J.yld i H x H' → ItemAt G Z H v x H') ∧ (items.length ≤ i → J.stop i H)
def OutI (H : Hp) (Z : Zn) (r : Res (List Val)) (R : It → Hp → Prop) : Prop :=
  match r with
  | .ok items => ∀ J H' Z', Gr H H' Z Z' → Feeds G J Z' items → items.length ≤ sizeLine → R J H'
  | .exc c => Exc G H c
  | .stuck => False
def iD (k : IK) (cs : CEs) : TI := fun σ H R => ∃ Z env, Zk Z H ∧ EOk G Z cs.vars env σ ∧ OutI G H Z (evalEs G.Γ G.gl cs env >>= itemsOf k) R
end
section
variable {G : Gb} {X : Cx} {tg : Expr}
theorem OutI.step {H H1 : Hp} {Z Z1 : Zn} {r : Res (List Val)} {R : It → Hp → Prop} (g : Gr H H1 Z Z1) (h : OutI G H Z r R) : OutI G H1 Z1 r R := by
  cases r with
  | ok items => exact fun J H' Z' g' f => h J H' Z' (g.trans g') f
  | exc c => exact Exc.step g.h h
  | stuck => exact h
theorem tA_bindI {cs : CEs} {H : Hp} {Z : Zn} {σ : L2.St} {env : Env} {f : List Val → Res (List Val)} {R : It → Hp → Prop} {Q' : List V → Hp → Prop} (zk : Zk Z H) (eo : EOk G Z cs.vars env σ) (o : OutI G H Z (evalEs G.Γ G.gl cs env >>= f) R)
    (h : ∀ vs xs H1 Z1, evalEs G.Γ G.gl cs env = .ok vs → Gr H H1 Z Z1 → VwA G Z1 vs xs → OutI G H1 Z1 (f vs) R → Q' xs H1) : tA G cs σ H Q' := by
  refine ⟨Z, env, zk, eo, ?_⟩
  cases e : evalEs G.Γ G.gl cs env with
  | ok v =>
    rw [e] at o
    intro x H' Z' F g nd fr rp
    obtain ⟨Z2, g2, s2, w⟩ := RpA.lay rp g nd fr
    exact h v x H' _ e g2 w (OutI.step g2 o)
  | exc c => rw [e] at o; exact o
  | stuck => rw [e] at o; exact o
theorem tD_bindI {c : CE} {H : Hp} {Z : Zn} {σ : L2.St} {env : Env} {f : Val → Res (List Val)} {R : It → Hp → Prop} {Q' : V → Hp → Prop} (zk : Zk Z H) (eo : EOk G Z c.vars env σ) (o : OutI G H Z (evalE G.Γ G.gl c env >>= f) R)
    (h : ∀ v x H1 Z1, evalE G.Γ G.gl c env = .ok v → Gr H H1 Z Z1 → Vw G.K G.mg (Z1 v.2.2) v.1 x → OutI G H1 Z1 (f v) R → Q' x H1) : tD G c σ H Q' := by
  refine ⟨Z, env, zk, eo, ?_⟩
  cases e : evalE G.Γ G.gl c env with
  | ok v =>
    rw [e] at o
    intro x H' Z' F g nd fr rp
    have g2 := g.lay (F := F) (nw := v.2.2) fr
    exact h v x H' _ e g2 (Rp.lay (fun p hp => (fr p hp).2) g.k rp) (OutI.step g2 o)
  | exc c => rw [e] at o; exact o
  | stuck => rw [e] at o; exact o
theorem feeds_list {K : PySem.W.Frag} {Z : Zn} {H0 : Hp} {a : Addr} {ds : List D} {vs : List V} {nw : Bool} (zk : Zk Z H0) (ha : Z nw a = some (.lst vs)) (r : VwL G.K G.mg (Z nw) ds vs) : Feeds G (Itl K a) Z (ds.map fun d => (d, 0, nw)) := by
  intro H s i
  have hH : SqL K H a vs := .of (s _ _ (zk.any nw _ _ ha))
  refine ⟨fun v e => ?_, fun h => ⟨vs, hH, by rw [← r.length]; simpa using h⟩⟩
  rw [List.getElem?_map, Option.map_eq_some_iff] at e
  obtain ⟨d, e, rfl⟩ := e
  obtain ⟨x, hx, wx⟩ := r.get e
  refine ⟨⟨vs, x, hH, hx⟩, fun y H' ⟨e1, e2⟩ => ?_⟩
  have := e2 vs hH
  rw [hx] at this
  cases this
  exact .old e1 wx
theorem feeds_tup {K : PySem.W.Frag} {Z : Zn} {H0 : Hp} {a : Addr} {ds : List D} {vs : List V} {nw : Bool} (zk : Zk Z H0) (ha : Z nw a = some (.tup vs)) (r : VwL G.K G.mg (Z nw) ds vs) : Feeds G (Itt K a) Z (ds.map fun d => (d, 0, nw)) := by
  intro H s i
  have hH : SqT K H a vs := .of (s _ _ (zk.any nw _ _ ha))
  refine ⟨fun v e => ?_, fun h => ⟨vs, hH, by rw [← r.length]; simpa using h⟩⟩
  rw [List.getElem?_map, Option.map_eq_some_iff] at e
  obtain ⟨d, e, rfl⟩ := e
  obtain ⟨x, hx, wx⟩ := r.get e
  refine ⟨⟨vs, x, hH, hx⟩, fun y H' ⟨e1, e2⟩ => ?_⟩
  have := e2 vs hH
  rw [hx] at this
  cases this
  exact .old e1 wx
variable {e : Expr} {c : CE}
/-- over a list or a tuple -/
theorem pi_seqD (he : PE X e (tD G c)) : PI X tg e (iD G .seq (.cons c .nil)) := by
  refine ⟨fun pins s σ H R I ⟨Z, env, zk, eo, o⟩ => ?_⟩
  simp only [evalEs, assoc, Res.bind_ok] at o
  cases q : evalE G.Γ G.gl c env with
  | exc ex => refine (pi_list (tg := tg) he).run pins s σ H R I ?_; exact ⟨Z, env, zk, eo.l, by rw [q] at o ⊢; exact o⟩
  | stuck => rw [q] at o; exact o.elim
  | ok v =>
    obtain ⟨d, k, nw⟩ := v
    have o0 := o
    rw [q] at o0
    simp only [Res.bind_ok, itemsOf] at o0
    unfold itSeq at o0
    split at o0
    · rename_i xs _ _ e2
      simp only [List.cons.injEq, Prod.mk.injEq, and_true] at e2
      obtain ⟨rfl, rfl, rfl⟩ := e2
      refine (pi_list (tg := tg) he).run pins s σ H R I (tD_bindI zk eo.l o fun v x H1 Z1 q1 g1 w1 o1 => ?_)
      rw [q] at q1
      cases q1
      obtain ⟨a, vs, rfl, ha, z, r⟩ := vw_lst w1
      exact ⟨a, rfl, ⟨vs, .of (g1.k.h _ _ _ ha)⟩, o1 _ H1 Z1 (Gr.refl g1.k) (feeds_list g1.k ha r) (by rw [List.length_map, r.length]; exact z)⟩
    · rename_i xs _ _ e2
      simp only [List.cons.injEq, Prod.mk.injEq, and_true] at e2
      obtain ⟨rfl, rfl, rfl⟩ := e2
      refine (pi_tup (tg := tg) he).run pins s σ H R I (tD_bindI zk eo.l o fun v x H1 Z1 q1 g1 w1 o1 => ?_)
      rw [q] at q1
      cases q1
      obtain ⟨a, vs, rfl, ha, r⟩ := vw_tup w1
      simp only [itemsOf, itSeq] at o1
      split at o1
      · rename_i hl
        exact ⟨a, rfl, ⟨vs, .of (g1.k.h _ _ _ ha)⟩, o1 _ H1 Z1 (Gr.refl g1.k) (feeds_tup g1.k ha r) (by rw [List.length_map]; exact lim_size hl)⟩
      · exact o1.elim
    · exact o0.elim
theorem feeds_range {Z : Zn} {a : Int} {n : Nat} : Feeds G (Itr a n) Z ((List.range n).map fun (i : Nat) => (.int (a + (i : Int)), 0, true)) := by
  intro H s i
  refine ⟨fun v e => ?_, fun h => by simpa [Itr] using h⟩
  rw [List.getElem?_map, Option.map_eq_some_iff] at e
  obtain ⟨j, e, rfl⟩ := e
  obtain ⟨hj, e⟩ := List.getElem?_eq_some_iff.mp e
  rw [List.getElem_range] at e
  subst e
  rw [List.length_range] at hj
  exact ⟨hj, fun x H' ⟨e1, e2⟩ => .old e1 (by rw [e2]; exact .int _)⟩
theorem feeds_rangeC {Z : Zn} {a c : Int} {n : Nat} : Feeds G (Itc a c n) Z ((List.range n).map fun (i : Nat) => (.int (a + (i : Int) * c), 0, true)) := by
  intro H s i
  refine ⟨fun v e => ?_, fun h => by simpa [Itc] using h⟩
  rw [List.getElem?_map, Option.map_eq_some_iff] at e
  obtain ⟨j, e, rfl⟩ := e
  obtain ⟨hj, e⟩ := List.getElem?_eq_some_iff.mp e
  rw [List.getElem_range] at e
  subst e
  rw [List.length_range] at hj
  exact ⟨hj, fun x H' ⟨e1, e2⟩ => .old e1 (by rw [e2]; exact .int _)⟩
theorem rangeI_items (a b : Int) : ((rangeI a b).map fun i => ((.int i, 0, true) : Val)) = (List.range (b - a).toNat).map fun (i : Nat) => (.int (a + (i : Int)), 0, true) := by
  unfold rangeI
  rw [List.map_map]
  rfl
variable {p pos : Pos} {a b a2 : Expr} {ca cb cc : CE}
theorem len_one {Z : Zn} {vs : List Val} {xs : List V} {e1 : CE} {env : Env} (h : evalEs G.Γ G.gl (.cons e1 .nil) env = .ok vs) : ∃ v, vs = [v] := by
  simp only [evalEs] at h
  cases q : evalE G.Γ G.gl e1 env with
  | ok v => rw [q] at h; exact ⟨v, (Res.ok.inj h).symm⟩
  | exc c => rw [q] at h; cases h
  | stuck => rw [q] at h; cases h
theorem pi_range1D (hg : Gl X "range") (hm : X.mg "range" = none) (ha : PA X [a] (tA G (.cons ca .nil))) (hs : starEach [a] X.env = [(false, eval a X.env)]) : PI X tg (.Call (.Name "range" p) [a] [] pos) (iD G .range (.cons ca .nil)) := by
  refine (pi_range1 hg hm ha hs).imp fun σ H R ⟨Z, env, zk, eo, o⟩ => ?_
  refine tA_bindI zk eo o fun vs xs H1 Z1 e1 g w o1 => ?_
  obtain ⟨v, rfl⟩ := len_one (Z := Z) (xs := xs) e1
  simp only [itemsOf] at o1
  unfold itRange at o1
  split at o1
  · rename_i e2
    cases e2
    split at o1
    · rename_i cnd
      simp only [Bool.and_eq_true, decide_eq_true_eq] at cnd
      obtain ⟨x, rfl, wx⟩ := w.one
      have ex := vw_int wx
      subst ex
      have h62 := ok62_spec cnd.1
      rw [rangeI_items] at o1
      refine ⟨_, rfl, h62.1, h62.2, ?_⟩
      have o2 := o1 (Itr 0 _) H1 Z1 (Gr.refl g.k) feeds_range (by rw [List.length_map, List.length_range, Int.sub_zero]; exact lim_size cnd.2)
      rw [Int.sub_zero] at o2
      exact o2
    · exact o1.elim
  · rename_i e2; cases e2
  · rename_i e2; cases e2
  · exact o1.elim
theorem len_two {vs : List Val} {e1 e2 : CE} {env : Env} (h : evalEs G.Γ G.gl (.cons e1 (.cons e2 .nil)) env = .ok vs) : ∃ v w, vs = [v, w] := by
  simp only [evalEs] at h
  cases q : evalE G.Γ G.gl e1 env with
  | ok v =>
    cases q2 : evalE G.Γ G.gl e2 env with
    | ok w => rw [q, q2] at h; exact ⟨v, w, (Res.ok.inj h).symm⟩
    | exc c => rw [q, q2] at h; cases h
    | stuck => rw [q, q2] at h; cases h
  | exc c => rw [q] at h; cases h
  | stuck => rw [q] at h; cases h
theorem pi_range2D (hg : Gl X "range") (hm : X.mg "range" = none) (ha : PA X [a, b] (tA G (.cons ca (.cons cb .nil)))) (hs : starEach [a, b] X.env = [(false, eval a X.env), (false, eval b X.env)]) (hs2 : starEach [b] X.env = [(false, eval b X.env)]) :
    PI X tg (.Call (.Name "range" p) [a, b] [] pos) (iD G .range (.cons ca (.cons cb .nil))) := by
  refine (pi_range2 hg hm ha hs hs2).imp fun σ H R ⟨Z, env, zk, eo, o⟩ => ?_
  refine tA_bindI zk eo o fun vs xs H1 Z1 e1 g w o1 => ?_
  obtain ⟨v, v2, rfl⟩ := len_two e1
  simp only [itemsOf] at o1
  unfold itRange at o1
  split at o1
  · rename_i e2; cases e2
  · rename_i e2
    cases e2
    split at o1
    · rename_i cnd
      simp only [Bool.and_eq_true, decide_eq_true_eq] at cnd
      obtain ⟨x, y, rfl, wx, wy⟩ := w.two
      have ex := vw_int wx
      have ey := vw_int wy
      subst ex ey
      have h62 := ok62_spec cnd.1.1
      have h63 := ok62_spec cnd.1.2
      rw [rangeI_items] at o1
      exact ⟨_, _, rfl, ⟨h62.1, h62.2, h63.1, h63.2⟩, o1 (Itr _ _) H1 Z1 (Gr.refl g.k) feeds_range (by rw [List.length_map, List.length_range]; exact lim_size cnd.2)⟩
    · exact o1.elim
  · rename_i e2; cases e2
  · exact o1.elim
theorem rsize_le {a b c : Int} (ha : 0 ≤ a) (hb : 0 ≤ b) (hb2 : b ≤ 1000000) (hc : 0 < c) : 0 ≤ Builtin.Range.rangeSize a b c ∧ Builtin.Range.rangeSize a b c ≤ 1000000 := by
  unfold Builtin.Range.rangeSize
  rw [if_pos (show c > 0 from hc)]
  split
  · have h1 : 0 ≤ (b - a - 1) / c := Int.ediv_nonneg (by omega) (by omega)
    have h2 : (b - a - 1) / c ≤ b - a - 1 := Int.ediv_le_self _ (by omega)
    omega
  · omega
theorem rgC_ok {a b c : Int} (ha : 0 ≤ a) (ha2 : a ≤ 1000000) (hb : 0 ≤ b) (hb2 : b ≤ 1000000) (hc : 0 < c) (hc2 : c ≤ 1000000) : RgC a b c (Builtin.Range.rangeSize a b c).toNat := by
  have hr := rsize_le ha hb hb2 hc
  refine ⟨by omega, by omega, ?_, by omega⟩
  unfold Builtin.Range.small
  simp only [Builtin.Range.rangeFitsLong, Bool.and_eq_true, Bool.or_eq_true, decide_eq_true_eq, beq_iff_eq, show c > 0 from hc, if_true]
  generalize Builtin.Range.rangeSize a b c = n at hr
  omega
theorem pi_range3D {cab : CEs} (hg : Gl X "range") (hm : X.mg "range" = none) (ha : PA X [a, b, a2] (tA G cab)) (hs : starEach [a, b, a2] X.env = (false, eval a X.env) :: starEach [b, a2] X.env) (hpl : (backTo pos (starEach [b, a2] X.env)).any (·.1) = false) (h3 : ∀ env vs, evalEs G.Γ G.gl cab env = .ok vs → ∃ u v w, vs = [u, v, w]) :
    PI X tg (.Call (.Name "range" p) [a, b, a2] [] pos) (iD G .range cab) := by
  refine (pi_range3 hg hm ha hs hpl).imp fun σ H R ⟨Z, env, zk, eo, o⟩ => ?_
  refine tA_bindI zk eo o fun vs xs H1 Z1 e1 g w o1 => ?_
  obtain ⟨u, v, v2, rfl⟩ := h3 _ _ e1
  simp only [itemsOf] at o1
  unfold itRange at o1
  split at o1
  · rename_i e2; cases e2
  · rename_i e2; cases e2
  · rename_i e2
    cases e2
    split at o1
    · rename_i cnd
      simp only [Bool.and_eq_true, decide_eq_true_eq] at cnd
      obtain ⟨⟨⟨⟨⟨q1, q2⟩, q3⟩, q4⟩, q5⟩, q6⟩ := cnd
      cases w with
      | cons wx w =>
        obtain ⟨y, z, rfl, wy, wz⟩ := w.two
        have ex := vw_int wx
        have ey := vw_int wy
        have ez := vw_int wz
        subst ex ey ez
        have hr := rsize_le q1 q3 q4 q5
        refine ⟨_, _, _, _, rfl, rgC_ok q1 q2 q3 q4 q5 q6, o1 (Itc _ _ _) H1 Z1 (Gr.refl g.k) feeds_rangeC ?_⟩
        rw [List.length_map, List.length_range]
        exact lim_size (show _ ≤ 1000000 by omega)
    · exact o1.elim
  · exact o1.elim
theorem feeds_zip {K : PySem.W.Frag} {Z : Zn} {H0 : Hp} {a b : Addr} {ds es : List D} {vs us : List V} {n1 n2 : Bool} (zk : Zk Z H0) (ha : Z n1 a = some (.lst vs)) (hb : Z n2 b = some (.lst us)) (r : VwL G.K G.mg (Z n1) ds vs) (r2 : VwL G.K G.mg (Z n2) es us) :
    Feeds G (Itz K a b) Z ((ds.zip es).map fun p => (.tup [p.1, p.2], 0, n1 && n2)) := by
  intro H s i
  have hA : SqL K H a vs := .of (s _ _ (zk.any n1 _ _ ha))
  have hB : SqL K H b us := .of (s _ _ (zk.any n2 _ _ hb))
  refine ⟨fun v e => ?_, fun h => ?_⟩
  · rw [List.getElem?_map, Option.map_eq_some_iff] at e
    obtain ⟨⟨d1, d2⟩, e, rfl⟩ := e
    obtain ⟨e1, e2⟩ := List.getElem?_zip_eq_some.mp e
    obtain ⟨x, hx, wx⟩ := r.get e1
    obtain ⟨y, hy, wy⟩ := r2.get e2
    refine ⟨⟨vs, us, x, y, hA, hB, hx, hy⟩, fun z H' ⟨T, x', y', ez, hT, eH, f1, f2⟩ => ?_⟩
    have q1 := f1 vs hA
    have q2 := f2 us hB
    rw [hx] at q1
    rw [hy] at q2
    cases q1
    cases q2
    exact .tup (ds := [d1, d2]) ez hT eH rfl (.cons (Vw.mono (nw_up zk fun h => (Bool.and_eq_true_iff.mp h).1) _ _ wx) (.cons (Vw.mono (nw_up zk fun h => (Bool.and_eq_true_iff.mp h).2) _ _ wy) .nil))
  · rw [List.length_map, List.length_zip, r.length, r2.length] at h
    refine ⟨vs, us, hA, hB, ?_⟩
    omega
theorem pi_zipD {elts : List Expr} {kk : Nat} {tpos : Pos} (hg : Gl X "zip") (hm : X.mg "zip" = none) (ha : PA X [a, b] (tA G (.cons ca (.cons cb .nil)))) (hs : starEach [a, b] X.env = (false, eval a X.env) :: starEach [b] X.env) (hpl : (backTo pos (starEach [b] X.env)).any (·.1) = false) :
    PI X (.Tuple elts kk tpos) (.Call (.Name "zip" p) [a, b] [] pos) (iD G .zip (.cons ca (.cons cb .nil))) := by
  refine (pi_zip hg hm ha hs hpl).imp fun σ H R ⟨Z, env, zk, eo, o⟩ => ?_
  refine tA_bindI zk eo o fun vs xs H1 Z1 e1 g w o1 => ?_
  simp only [itemsOf] at o1
  unfold itZip at o1
  split at o1
  · obtain ⟨x, y, rfl, wx, wy⟩ := w.two
    obtain ⟨l1, us1, rfl, h1, z1, r1⟩ := vw_lst wx
    obtain ⟨l2, us2, rfl, h2, z2, r2⟩ := vw_lst wy
    refine ⟨l1, l2, us1, us2, rfl, .of (g.k.h _ _ _ h1), .of (g.k.h _ _ _ h2), o1 _ H1 Z1 (Gr.refl g.k) (feeds_zip g.k h1 h2 r1 r2) ?_⟩
    rw [List.length_map, List.length_zip, r1.length]
    exact Nat.le_trans (Nat.min_le_left _ _) z1
  · exact o1.elim
theorem feeds_enum {K : PySem.W.Frag} {Z : Zn} {H0 : Hp} {a : Addr} {ds : List D} {vs : List V} {nw : Bool} (zk : Zk Z H0) (ha : Z nw a = some (.lst vs)) (r : VwL G.K G.mg (Z nw) ds vs) :
    Feeds G (Ite K a) Z (ds.zipIdx.map fun p => (.tup [.int (p.2 : Int), p.1], 0, nw)) := by
  intro H s i
  have hA : SqL K H a vs := .of (s _ _ (zk.any nw _ _ ha))
  refine ⟨fun v e => ?_, fun h => ?_⟩
  · rw [List.getElem?_map, Option.map_eq_some_iff] at e
    obtain ⟨⟨d1, j⟩, e, rfl⟩ := e
    rw [List.getElem?_zipIdx, Option.map_eq_some_iff] at e
    obtain ⟨d2, e1, e2⟩ := e
    simp only [Prod.mk.injEq, Nat.zero_add] at e2
    obtain ⟨rfl, rfl⟩ := e2
    obtain ⟨x, hx, wx⟩ := r.get e1
    refine ⟨⟨vs, x, hA, hx⟩, fun z H' ⟨T, x', ez, hT, eH, f1⟩ => ?_⟩
    have q1 := f1 vs hA
    rw [hx] at q1
    cases q1
    exact .tup (ds := [.int (i : Int), d2]) ez hT eH rfl (.cons (.int _) (.cons wx .nil))
  · rw [List.length_map, List.length_zipIdx, r.length] at h
    exact ⟨vs, hA, h⟩
theorem pi_enumD {elts : List Expr} {kk : Nat} {tpos : Pos} (hg : Gl X "enumerate") (hm : X.mg "enumerate" = none) (ha : PA X [a] (tA G (.cons ca .nil))) (hs : starEach [a] X.env = [(false, eval a X.env)]) :
    PI X (.Tuple elts kk tpos) (.Call (.Name "enumerate" p) [a] [] pos) (iD G .enum (.cons ca .nil)) := by
  refine (pi_enum hg hm ha hs).imp fun σ H R ⟨Z, env, zk, eo, o⟩ => ?_
  refine tA_bindI zk eo o fun vs xs H1 Z1 e1 g w o1 => ?_
  simp only [itemsOf] at o1
  unfold itEnum at o1
  split at o1
  · obtain ⟨x, rfl, wx⟩ := w.one
    obtain ⟨l1, us1, rfl, h1, z1, r1⟩ := vw_lst wx
    refine ⟨l1, us1, rfl, .of (g.k.h _ _ _ h1), o1 _ H1 Z1 (Gr.refl g.k) (feeds_enum g.k h1 r1) ?_⟩
    rw [List.length_map, List.length_zipIdx, r1.length]
    exact z1
  · exact o1.elim
end
end TT

set_option Elab.async false
set_option linter.all false
set_option maxRecDepth 100000
set_option maxHeartbeats 1000000
/-! TH: targets, comprehensions. -/
namespace TT
open PySem L2
def gTs : List Nat → TGs
  | [] => gNil
  | i :: is => gCons (gName i) (gTs is)
def gT (K : PySem.W.Frag) : Tg → TG
  | .one i => gName i
  | .many is => gTup K is.length (gTs is)
def Tg.slots : Tg → List Nat
  | .one i => [i]
  | .many is => is
/-- the slots, one behind another -/
def setS (σ : L2.St) : List Nat → List V → L2.St
  | i :: is, x :: xs => setS (σ.set i (some x)) is xs
  | _, _ => σ
theorem setS_len : ∀ (is : List Nat) (σ : L2.St) (xs : List V), (setS σ is xs).length = σ.length
  | [], _, _ => rfl
  | _ :: _, _, [] => rfl
  | i :: is, σ, x :: xs => by
    show (setS (σ.set i (some x)) is xs).length = _
    rw [setS_len is, List.length_set]
theorem gTs_ok : ∀ (is : List Nat) (xs : List V) (σ : L2.St) (H : Hp) (Q : L2.St → Hp → Prop), xs.length = is.length → Q (setS σ is xs) H → gTs is xs σ H Q
  | [], [], _, _, _, _, q => ⟨rfl, q⟩
  | [], _ :: _, _, _, _, h, _ => by simp at h
  | _ :: _, [], _, _, _, h, _ => by simp at h
  | i :: is, x :: xs, σ, H, Q, h, q => ⟨x, xs, rfl, gTs_ok is xs _ H Q (by simpa using h) q⟩
section
variable {G : Gb} {X : Cx}
theorem wipe_at {σ : L2.St} {i : Nat} : ∀ {vs : List Nat}, i ∉ vs → (wipe σ vs)[i]? = σ[i]? := wipe_out
theorem wipe_set (σ : L2.St) (i : Nat) (o : Option V) : ∀ {vs : List Nat}, i ∈ vs → wipe (σ.set i o) vs = wipe σ vs
  | v :: vs, h => by
    unfold wipe
    by_cases e : i ∈ vs
    · rw [wipe_set σ i o e]
    · have ev : i = v := (List.mem_cons.mp h).resolve_right e
      subst ev
      have key : ∀ (vs : List Nat) (σ : L2.St), i ∉ vs → wipe (σ.set i o) vs = (wipe σ vs).set i o := by
        intro vs
        induction vs with
        | nil => intro σ _; rfl
        | cons a vs ih =>
          intro σ hn
          unfold wipe
          rw [ih σ (fun z => hn (by simp [z]))]
          exact List.set_comm _ _ (fun z => hn (by simp [z]))
      rw [key vs σ e, List.set_set]
theorem wipe_wipe (σ : L2.St) (vs : List Nat) : wipe (wipe σ vs) vs = wipe σ vs := by
  have key : ∀ (ws : List Nat) (τ : L2.St), (∀ i ∈ ws, i ∈ vs) → wipe (wipe τ ws) vs = wipe τ vs := by
    intro ws
    induction ws with
    | nil => intro τ _; rfl
    | cons a ws ih =>
      intro τ hs
      show wipe ((wipe τ ws).set a none) vs = _
      rw [wipe_set _ _ _ (hs a (by simp))]
      exact ih τ fun i hi => hs i (by simp [hi])
  exact key vs σ fun _ h => h
theorem wipe_setS (vs : List Nat) : ∀ (is : List Nat) (σ : L2.St) (xs : List V), (∀ i ∈ is, i ∈ vs) → wipe (setS σ is xs) vs = wipe σ vs
  | [], _, _, _ => rfl
  | _ :: _, _, [], _ => rfl
  | i :: is, σ, x :: xs, h => by
    show wipe (setS (σ.set i (some x)) is xs) vs = _
    rw [wipe_setS vs is _ _ (fun j hj => h j (by simp [hj])), wipe_set _ _ _ (h i (by simp))]
/-- a slot is set -/
theorem EOk.set {Z : Zn} {S : List Nat} {env : Env} {σ : L2.St} {i : Nat} {v : Val} {x : V} (h : EOk G Z S env σ) (w : Vw G.K G.mg (Z v.2.2) v.1 x) : EOk G Z (i :: S) (env.set i (some v)) (σ.set i (some x)) := by
  refine ⟨by rw [List.length_set, List.length_set]; exact h.1, fun j hj u e => ?_⟩
  by_cases eij : i = j
  · subst eij
    have hl : i < env.length := by
      by_cases hl : i < env.length
      · exact hl
      · rw [List.getElem?_eq_none (by rw [List.length_set]; omega)] at e; cases e
    rw [List.getElem?_set_self hl] at e
    cases e
    exact ⟨x, List.getElem?_set_self (by rw [← h.1]; exact hl), w⟩
  · rw [List.getElem?_set_ne eij] at e
    have hj2 : j ∈ S := (List.mem_cons.mp hj).resolve_left fun z => eij z.symm
    obtain ⟨y, e1, w1⟩ := h.2 j hj2 u e
    exact ⟨y, by rw [List.getElem?_set_ne eij]; exact e1, w1⟩
theorem EOk.wipe {Z : Zn} {S vs : List Nat} {env : Env} {σ : L2.St} (h : EOk G Z S env σ) (hd : ∀ i ∈ S, i ∉ vs) : EOk G Z S env (wipe σ vs) := by
  refine ⟨by rw [wipe_length]; exact h.1, fun i hi u e => ?_⟩
  obtain ⟨y, e1, w1⟩ := h.2 i hi u e
  exact ⟨y, by rw [wipe_at (hd i hi)]; exact e1, w1⟩
theorem EOk.sets {Z : Zn} {nw : Bool} {k : Nat} : ∀ (is : List Nat) {ds : List D} {xs : List V} {S : List Nat} {env : Env} {σ : L2.St}, VwL G.K G.mg (Z nw) ds xs → ds.length = is.length → EOk G Z S env σ →
    EOk G Z (is.reverse ++ S) (setM env (is.zip ds) k nw) (setS σ is xs)
  | [], _, _, _, _, _, w, hl, h => by
    cases w with
    | nil => exact h
    | cons => simp at hl
  | i :: is, _, _, S, env, σ, w, hl, h => by
    cases w with
    | nil => simp at hl
    | cons w1 w2 =>
      rename_i d ds v vs
      have h1 := EOk.set (i := i) (v := (d, k, nw)) h w1
      have h2 := EOk.sets (k := k) is w2 (by simpa using hl) h1
      refine EOk.sub (fun j hj => ?_) h2
      simp only [List.reverse_cons, List.append_assoc, List.mem_append, List.mem_cons, List.not_mem_nil, or_false, List.mem_reverse] at hj ⊢
      rcases hj with h | h | h
      · exact .inl h
      · exact .inr (.inl h)
      · exact .inr (.inr h)
/-- the target takes the item -/
theorem tg_ok {Z : Zn} {S : List Nat} {env env2 : Env} {σ : L2.St} {H H' : Hp} {v : Val} {x : V} {t : Tg} {Q : L2.St → Hp → Prop} (hK : G.K = X.K) (zk : Zk Z H) (it : ItemAt G Z H v x H') (hs : setT env t v = .ok env2) (eo : EOk G Z S env σ)
    (h : ∀ σ2 Z2, Gr H H' Z Z2 → EOk G Z2 (t.slots.reverse ++ S) env2 σ2 → (∀ vs, (∀ i ∈ t.slots, i ∈ vs) → wipe σ2 vs = wipe σ vs) → Q σ2 H') : gT X.K t x σ H' Q := by
  cases t with
  | one i =>
    simp only [setT] at hs
    have hs := Res.ok.inj hs
    subst hs
    show Q (σ.set i (some x)) H'
    cases it with
    | old e w =>
      subst e
      exact h _ Z (Gr.refl zk) (EOk.set eo w) fun vs hv => wipe_set σ i _ (hv i (by simp [Tg.slots]))
    | tup ex hT eH ed r =>
      rename_i T vs ds
      subst ex eH
      have g : Gr H (upd H T (.tup vs)) Z Z := (Gr.refl zk).add hT
      have g2 := g.lay (F := [T]) (nw := v.2.2) (fun p hp => by
        have e : p = T := by simpa using hp
        subst e
        exact ⟨hT, zk.s.free hT⟩)
      refine h _ _ g2 (EOk.set (EOk.mono g2.z eo) ?_) fun vs hv => wipe_set σ i _ (hv i (by simp [Tg.slots]))
      rw [ed]
      refine .tup (vs := vs) ?_ (VwL.mono (g2.z _) _ _ r)
      rw [zlay_in (by simp)]
      exact upd_same
  | many is =>
    obtain ⟨d, k, nw⟩ := v
    cases d <;> simp only [setT, reduceCtorEq] at hs
    rename_i ds
    split at hs
    · rename_i hl
      have hs := Res.ok.inj hs
      subst hs
      cases it with
      | old e w =>
        subst e
        obtain ⟨a, vs, rfl, ha, r⟩ := vw_tup w
        refine ⟨a, vs, rfl, .of (zk.h _ _ _ ha), by rw [← r.length]; exact hl, gTs_ok is vs _ _ _ (by rw [← r.length]; exact hl) ?_⟩
        exact h _ Z (Gr.refl zk) (EOk.sets is r hl eo) fun ws hw => wipe_setS ws is _ _ hw
      | tup ex hT eH ed r =>
        rename_i T vs ds2
        subst ex eH
        cases ed
        refine ⟨T, vs, rfl, .of upd_same, by rw [← r.length]; exact hl, gTs_ok is vs _ _ _ (by rw [← r.length]; exact hl) ?_⟩
        exact h _ Z ((Gr.refl zk).add hT) (EOk.sets is r hl eo) fun ws hw => wipe_setS ws is _ _ hw
    · cases hs

/-! ### comprehensions -/
def _root_.TT.Gb.nox (G : Gb) : Gb := { G with E := fun _ _ _ => False }
def tDC (G : Gb) (c : CEs) : TT := fun σ H Q => ∃ Z env, Zk Z H ∧ EOk G Z c.vars env σ ∧ OutR G H Z (evalC G.Γ G.gl c env) Q
theorem pts_nilD : PTs X [] (tDC G .nil) := by
  refine ⟨fun pins s σ H Q I ⟨Z, env, zk, eo, o⟩ => pts_nil.run pins s σ H Q I ?_⟩
  simp only [evalC] at o
  exact OutR.fin zk o
theorem pts_oneD {c : Expr} {cc : CE} (h : PT X c (tDT G cc)) : PTs X [c] (tDC G (.cons cc .nil)) := by
  refine ⟨fun pins s σ H Q I ⟨Z, env, zk, eo, o⟩ => (pts_one h).run pins s σ H Q I ⟨Z, env, zk, eo.l, ?_⟩⟩
  simp only [evalC] at o
  exact o
/-- what a comprehension has made so far -/
inductive RpB (G : Gb) (k : Nat) (Z : Zn) (H : Hp) : List Val → List V → List Addr → Prop
  | nil : RpB G k Z H [] [] []
  | snoc {v : Val} {vs : List Val} {x : V} {xs : List V} {F F2 : List Addr} : RpB G k Z H vs xs F → Rp G.K G.mg (Z v.2.2) H k v.1 x F2 → RpB G k Z H (vs ++ [v]) (xs ++ [x]) (F ++ F2)
theorem RpB.mono {k : Nat} {Z Z1 : Zn} {H H1 : Hp} (g : ∀ n, Same (Z n) (Z1 n)) : ∀ {vs : List Val} {xs : List V} {F : List Addr}, (∀ p ∈ F, ∀ o, H p = some o → H1 p = some o) → RpB G k Z H vs xs F → RpB G k Z1 H1 vs xs F
  | _, _, _, _, .nil => .nil
  | _, _, _, h, .snoc r r2 => .snoc (RpB.mono g (fun p hp => h p (by simp [hp])) r) (Rp.mono (g _) _ _ _ _ (fun p hp => h p (by simp [hp])) r2)
theorem RpB.live {k : Nat} {Z : Zn} {H : Hp} : ∀ {vs : List Val} {xs : List V} {F : List Addr}, RpB G k Z H vs xs F → ∀ p ∈ F, H p ≠ none
  | _, _, _, .nil => fun p hp => nomatch hp
  | _, _, _, .snoc r r2 => fun p hp => (List.mem_append.mp hp).elim (RpB.live r p) (Rp.live _ _ _ _ r2 p)
theorem RpB.length {k : Nat} {Z : Zn} {H : Hp} : ∀ {vs : List Val} {xs : List V} {F : List Addr}, RpB G k Z H vs xs F → vs.length = xs.length
  | _, _, _, .nil => rfl
  | _, _, _, .snoc r r2 => by simp [RpB.length r]
theorem RpL.snoc {K : PySem.W.Frag} {mg : Str → Option Value} {B H : Hp} {k : Nat} {d : D} {v : V} {F2 : List Addr} (r2 : Rp K mg B H k d v F2) : ∀ {ds : List D} {vs : List V} {F : List Addr}, RpL K mg B H k ds vs F → RpL K mg B H k (ds ++ [d]) (vs ++ [v]) (F ++ F2)
  | [], _, _, h => by
    cases h
    have := RpL.cons r2 (RpL.nil (K := K) (mg := mg) (B := B) (H := H) (k := k))
    rw [List.append_nil] at this
    exact this
  | d :: ds, _, _, h => by
    cases h with
    | cons h1 h2 =>
      rw [List.append_assoc]
      exact .cons h1 (RpL.snoc r2 h2)
theorem RpB.rpL {k : Nat} {Z : Zn} {H : Hp} {nw : Bool} (zk : Zk Z H) : ∀ {vs : List Val} {xs : List V} {F : List Addr}, RpB G k Z H vs xs F → (nw = true → ∀ v ∈ vs, nwOf v = true) → RpL G.K G.mg (Z nw) H k (vs.map (·.1)) xs F
  | _, _, _, .nil, _ => .nil
  | _, _, _, .snoc (v := v) r r2, hn => by
    rw [List.map_append]
    refine RpL.snoc ?_ (RpB.rpL zk r fun h v hv => hn h v (by simp [hv]))
    by_cases f : v.1.flat = true
    · obtain ⟨e, q⟩ := r2.flat_inv f
      rw [e]
      exact rp_flat f (Vw.flat_any f q)
    · refine Rp.mono (nw_up zk fun h => ?_) _ _ _ _ (fun _ _ _ q => q) r2
      have := hn h v (by simp)
      unfold nwOf at this
      simpa [f] using this
theorem nx_exc {α : Type} {r : Res α} {c : Str} : r.nx ≠ .exc c := by cases r <;> exact fun h => by cases h
theorem nx_inv {α : Type} {r : Res α} {a : α} (h : r.nx = .ok a) : r = .ok a := by
  cases r with
  | ok b => exact h
  | exc c => cases h
  | stuck => cases h
theorem compL_exc {test : Env → Res Bool} {elt : Env → Res Val} {env : Env} {t : Tg} {c : Str} : ∀ items : List Val, compL (fun e => (test e).nx) (fun e => (elt e).nx) env t items ≠ .exc c
  | [], h => by cases h
  | v :: items, h => by
    unfold compL at h
    cases e1 : setT env t v with
    | exc c => cases t <;> (obtain ⟨d, k, nw⟩ := v; cases d <;> simp [setT] at e1) <;> (split at e1 <;> cases e1)
    | stuck => rw [e1] at h; cases h
    | ok e =>
      rw [e1] at h
      simp only [Res.bind_ok] at h
      cases e2 : (test e).nx with
      | exc c => exact nx_exc e2
      | stuck => rw [e2] at h; cases h
      | ok b =>
        rw [e2] at h
        simp only [Res.bind_ok] at h
        split at h
        · cases e3 : (elt e).nx with
          | exc c => exact nx_exc e3
          | stuck => rw [e3] at h; cases h
          | ok y =>
            rw [e3] at h
            simp only [Res.bind_ok] at h
            cases e4 : compL (fun e => (test e).nx) (fun e => (elt e).nx) env t items with
            | exc c => exact compL_exc items e4
            | stuck => rw [e4] at h; cases h
            | ok ys => rw [e4] at h; cases h
        · exact compL_exc items h
end
end TT

set_option Elab.async false
set_option linter.all false
set_option maxRecDepth 100000
set_option maxHeartbeats 1000000
/-! TI: the comprehension. -/
namespace TT
open PySem L2
section
variable {G : Gb} {X : Cx}
/-- the state of a comprehension's loop at turn i -/
structure LcSt (G : Gb) (H1 : Hp) (Z1 : Zn) (D : Addr) (sd : Nat) (env : Env) (t : Tg) (c : CEs) (ce : CE) (items ys : List Val) (i : Nat) (Hc : Hp) : Prop where
  le : i ≤ items.length
  ex : ∃ (Zc : Zn) (acc : List Val) (accV : List V) (F : List Addr) (rest : List Val), Gr H1 Hc Z1 Zc ∧ Hc D = some (.lst accV) ∧ RpB G sd Zc Hc acc accV F ∧ F.Nodup ∧ (∀ p ∈ F, H1 p = none ∧ Zc false p = none ∧ p ≠ D) ∧ Zc false D = none ∧
    compL (fun en => (evalC G.Γ G.gl c en).nx) (fun en => (evalE G.Γ G.gl ce en).nx) env t (items.drop i) = .ok rest ∧ ys = acc ++ rest ∧ acc.length ≤ i
theorem upd_other {H : Hp} {D : Addr} {o : HO} {p : Addr} (h : p ≠ D) : upd H D o p = H p := upd_ne h
theorem Gr.mut {H H' : Hp} {Z Z' : Zn} {D : Addr} {o : HO} (g : Gr H H' Z Z') (h1 : H D = none) (h2 : Z' false D = none) : Gr H (upd H' D o) Z Z' := by
  refine ⟨fun a u e => ?_, g.z, ⟨g.k.t, fun a u e => ?_⟩, g.f⟩
  · rw [upd_ne (ne_of_none e h1)]; exact g.h a u e
  · rw [upd_ne (ne_of_none e h2)]; exact g.k.s a u e
/-- one turn -/
theorem lc_turn {H1 : Hp} {Z1 : Zn} {D : Addr} {sd : Nat} {env : Env} {t : Tg} {c : CEs} {ce : CE} {items ys : List Val} {i : Nat} {Hc H' : Hp} {x : V} {v : Val} {σ : L2.St} {vs : List Nat}
    (hK : G.K = X.K) (hD : H1 D = none) (hz : items.length ≤ sizeLine) (hsd : sd = ce.sdep) (hys : ys.all (fun v => v.1.flat || v.2.1 == ce.sdep || ce.sdep == 0) = true) (hvs : t.slots = vs)
    (eo : EOk G Z1 ((ce.vars ++ c.vars).filter fun j => !(vs.contains j)) env σ) (st : LcSt G H1 Z1 D sd env t c ce items ys i Hc) (hv : items[i]? = some v) (it : ItemAt G Z1 Hc v x H') :
    gT X.K t x (wipe σ vs) H' fun σ2 H2 => wipe σ2 vs = wipe σ vs ∧ tDC G.nox c σ2 H2 fun b H3 =>
      if b = true then tD G.nox ce σ2 H3 fun y H4 => ∃ acc, H4 D = some (.lst acc) ∧ acc.length < sizeLine ∧ LcSt G H1 Z1 D sd env t c ce items ys (i + 1) (upd H4 D (.lst (acc ++ [y]))) else LcSt G H1 Z1 D sd env t c ce items ys (i + 1) H3 := by
  obtain ⟨hle, Zc, acc, accV, F, rest, g, hDc, rb, nd, fr, zD, hcl, eys, hal⟩ := st
  have hi : i < items.length := (List.getElem?_eq_some_iff.mp hv).1
  have hdrop : items.drop i = v :: items.drop (i + 1) := by
    rw [List.drop_eq_getElem_cons hi]
    congr 1
    exact (List.getElem?_eq_some_iff.mp hv).2
  rw [hdrop] at hcl
  unfold compL at hcl
  cases e1 : setT env t v with
  | exc c => rw [e1] at hcl; cases hcl
  | stuck => rw [e1] at hcl; cases hcl
  | ok env2 =>
  rw [e1] at hcl
  simp only [Res.bind_ok] at hcl
  cases e2 : (evalC G.Γ G.gl c env2).nx with
  | exc c => rw [e2] at hcl; cases hcl
  | stuck => rw [e2] at hcl; cases hcl
  | ok b =>
  rw [e2] at hcl
  simp only [Res.bind_ok] at hcl
  have e2' := nx_inv e2
  have it2 : ItemAt G Zc Hc v x H' := by
    cases it with
    | old a w => exact .old a (Vw.mono (g.z _) _ _ w)
    | tup a b' c' d w => exact .tup a b' c' d (VwL.mono (g.z _) _ _ w)
  have eo1 : EOk G Zc ((ce.vars ++ c.vars).filter fun j => !(vs.contains j)) env (wipe σ vs) := EOk.wipe (EOk.mono g.z eo) fun j hj => by
    have := (List.mem_filter.mp hj).2
    simpa using this
  refine tg_ok hK g.k it2 e1 eo1 fun σ2 Z2 g2 eo2 hw => ⟨(hw vs (fun j hj => by rw [← hvs]; exact hj)).trans (wipe_wipe σ vs), ?_⟩
  have eo3 : EOk G Z2 (ce.vars ++ c.vars) env2 σ2 := EOk.sub (fun j hj => by
    by_cases hjv : j ∈ vs
    · exact List.mem_append_left _ (List.mem_reverse.mpr (by rw [hvs]; exact hjv))
    · exact List.mem_append_right _ (List.mem_filter.mpr ⟨hj, by simpa using hjv⟩)) eo2
  refine ⟨Z2, env2, g2.k, eo3.r, ?_⟩
  show OutR G.nox H' Z2 (evalC G.Γ G.gl c env2) _
  rw [e2']
  intro H3 Z3 g3
  have gc3 : Gr Hc H3 Zc Z3 := g2.trans g3
  cases b with
  | false =>
    rw [if_neg Bool.false_ne_true]
    simp only [Bool.false_eq_true, if_false] at hcl
    have zD3 : Z3 false D = none := by
      cases q : Z3 false D with
      | none => rfl
      | some u =>
        have := gc3.f false D zD (by rw [q]; exact fun z => nomatch z)
        rw [hDc] at this; cases this
    refine ⟨hi, Z3, acc, accV, F, rest, g.trans gc3, gc3.h _ _ hDc, RpB.mono gc3.z (fun p _ o q => gc3.h p o q) rb, nd, fun p hp => ⟨(fr p hp).1, ?_, (fr p hp).2.2⟩, zD3, hcl, eys, Nat.le_succ_of_le hal⟩
    cases q : Z3 false p with
    | none => rfl
    | some u => exact absurd (gc3.f false p (fr p hp).2.1 (by rw [q]; exact fun z => nomatch z)) (RpB.live rb p hp)
  | true =>
    rw [if_pos rfl]
    simp only [if_true] at hcl
    refine ⟨Z3, env2, g3.k, EOk.mono g3.z eo3.l, ?_⟩
    show Out G.nox H3 Z3 (evalE G.Γ G.gl ce env2) _
    cases e3 : (evalE G.Γ G.gl ce env2).nx with
    | exc c => rw [e3] at hcl; cases hcl
    | stuck => rw [e3] at hcl; cases hcl
    | ok yv =>
    rw [e3] at hcl
    simp only [Res.bind_ok] at hcl
    cases e4 : compL (fun en => (evalC G.Γ G.gl c en).nx) (fun en => (evalE G.Γ G.gl ce en).nx) env t (items.drop (i + 1)) with
    | exc c => rw [e4] at hcl; cases hcl
    | stuck => rw [e4] at hcl; cases hcl
    | ok rest2 =>
    rw [e4] at hcl
    have hcl := Res.ok.inj hcl
    rw [nx_inv e3]
    intro y H4 Z4 F4 g4 nd4 fr4 rp4
    have gc4 : Gr Hc H4 Zc Z4 := gc3.trans g4
    have hD4 : H4 D = some (.lst accV) := gc4.h _ _ hDc
    have hD3 : H3 D = some (.lst accV) := gc3.h _ _ hDc
    have zD4 : Z4 false D = none := by
      cases q : Z4 false D with
      | none => rfl
      | some u =>
        have := gc4.f false D zD (by rw [q]; exact fun z => nomatch z)
        rw [hDc] at this; cases this
    have nF4 : ∀ p ∈ F4, p ≠ D := fun p hp e => by
      have := (fr4 p hp).1
      rw [e, hD3] at this; cases this
    have frz : ∀ p ∈ F, Z4 false p = none := fun p hp => by
      cases q : Z4 false p with
      | none => rfl
      | some u => exact absurd (gc4.f false p (fr p hp).2.1 (by rw [q]; exact fun z => nomatch z)) (RpB.live rb p hp)
    have hmem : yv ∈ ys := by rw [eys, ← hcl]; simp
    have hyv := List.all_eq_true.mp hys yv hmem
    have hlen : accV.length < sizeLine := by rw [← RpB.length rb]; omega
    refine ⟨accV, hD4, hlen, ?_⟩
    have hacc : (acc ++ [yv]).length ≤ i + 1 := by simp; omega
    have heq : ys = (acc ++ [yv]) ++ rest2 := by rw [eys, ← hcl]; simp
    -- either owned to the depth, or laid
    by_cases hsh : sd = 0 ∧ yv.1.flat = false
    · -- laid into the zones
      have g4l := g4.lay (F := F4) (nw := yv.2.2) fr4
      have w4 := Rp.lay (fun p hp => (fr4 p hp).2) g4.k rp4
      have gl : Gr Hc H4 Zc (zlay Z4 H4 F4 yv.2.2) := gc3.trans g4l
      have zDl : zlay Z4 H4 F4 yv.2.2 false D = none := by
        unfold zlay
        rw [if_neg (fun h => nF4 D h.1 rfl)]
        exact zD4
      refine ⟨hi, _, acc ++ [yv], accV ++ [y], F ++ [], rest2, (g.trans gl).mut hD zDl, upd_same, ?_, by simpa using nd, fun p hp => ?_, zDl, e4, heq, hacc⟩
      · refine .snoc (RpB.mono gl.z (fun p hp o q => ?_) rb) ?_
        · rw [upd_ne (fr p hp).2.2]; exact gl.h p o q
        · rw [hsh.1]; exact rp_sh w4
      · rw [List.append_nil] at hp
        refine ⟨(fr p hp).1, ?_, (fr p hp).2.2⟩
        unfold zlay
        rw [if_neg (fun h => RpB.live rb p hp (gc3.h.free (fr4 p h.1).1))]
        exact frz p hp
    · have rk : Rp G.K G.mg (Z4 yv.2.2) H4 sd yv.1 y F4 := by
        by_cases hf : yv.1.flat = true
        · obtain ⟨e, q⟩ := rp4.flat_inv hf
          rw [e]
          exact rp_flat hf q
        · have hf : yv.1.flat = false := by simpa using hf
          have hs0 : sd ≠ 0 := fun z => hsh ⟨z, hf⟩
          rw [hsd] at hs0 ⊢
          simp only [hf, Bool.false_or, Bool.or_eq_true, beq_iff_eq] at hyv
          rcases hyv with h | h
          · rw [h] at rp4; exact rp4
          · exact absurd h hs0
      refine ⟨hi, Z4, acc ++ [yv], accV ++ [y], F ++ F4, rest2, (g.trans gc4).mut hD zD4, upd_same, ?_, List.nodup_append.mpr ⟨nd, nd4, fun a ha b hb e => ?_⟩, fun p hp => ?_, zD4, e4, heq, hacc⟩
      · refine .snoc (RpB.mono gc4.z (fun p hp o q => ?_) rb) (Rp.mono (.refl _) _ _ _ _ (fun p hp o q => ?_) rk)
        · rw [upd_ne (fr p hp).2.2]; exact gc4.h p o q
        · rw [upd_ne (nF4 p hp)]; exact q
      · subst e
        exact RpB.live rb a ha (gc3.h.free (fr4 a hb).1)
      · rcases List.mem_append.mp hp with hp | hp
        · exact ⟨(fr p hp).1, frz p hp, (fr p hp).2.2⟩
        · exact ⟨(g.trans gc3).h.free (fr4 p hp).1, (fr4 p hp).2, nF4 p hp⟩
theorem pe_compD {elt tg iter : Expr} {ifs : List Expr} {scope : Scope} {own : List (Str × Nat)} {pos : Pos} {t : Tg} {k : IK} {cs c : CEs} {ce : CE} (hK : G.K = X.K) (hc : X.calm = true) (hN : X.N.Nodup) (hi : PI X tg iter (iD G k cs)) (ok : BlkOk X.N X.env.scope scope own) (hown : t.slots = own.map (·.2))
    (hg : ∀ (s : Shared) (H : Hp) (C : Addr) (cl : List (Str × Addr)) (fp : List Addr), PG (X.blk s H scope (compEnvC scope cl C X.env) fp) tg (gT X.K t)) (ht : ∀ (s : Shared) (H : Hp) (C : Addr) (cl : List (Str × Addr)) (fp : List Addr), PTs (X.blk s H scope (compEnvC scope cl C X.env) fp) ifs (tDC G.nox c))
    (he : ∀ (s : Shared) (H : Hp) (C : Addr) (cl : List (Str × Addr)) (fp : List Addr), PE (X.blk s H scope (compEnvC scope cl C X.env) fp) elt (tD G.nox ce)) (hs : ∀ x, foldedSetIterable iter X.env x = pure x) :
    PE X (.ListComp elt [⟨tg, iter, ifs, 0⟩] scope pos) (tD G (.comp ce t k cs c)) := by
  refine (pe_lc hc hN hi ok hg ht he hs).imp fun σ H Q h => ?_
  exact lc_read hK hown h
where
  lc_read {σ : L2.St} {H : Hp} {Q : VK} {own : List (Str × Nat)} {t : Tg} {k : IK} {cs c : CEs} {ce : CE} (hK : G.K = X.K) (hown : t.slots = own.map (·.2)) (h : tD G (.comp ce t k cs c) σ H Q) : tLc (iD G k cs) (gT X.K t) (tDC G.nox c) (tD G.nox ce) (own.map (·.2)) σ H Q := by
    obtain ⟨Z, env, zk, eo, o⟩ := h
    simp only [evalE] at o
    refine ⟨Z, env, zk, eo.l.r, ?_⟩
    cases q1 : evalEs G.Γ G.gl cs env with
    | exc c => rw [q1] at o; exact o
    | stuck => rw [q1] at o; exact o
    | ok vs =>
    rw [q1] at o
    simp only [Res.bind_ok] at o ⊢
    cases q2 : itemsOf k vs with
    | exc c => rw [q2] at o; exact o
    | stuck => rw [q2] at o; exact o
    | ok items =>
    rw [q2] at o
    intro J H1 Z1 g1 feeds hz D hD
    simp only [Res.bind_ok] at o
    cases q3 : compL (fun en => (evalC G.Γ G.gl c en).nx) (fun en => (evalE G.Γ G.gl ce en).nx) env t items with
    | exc c => exact absurd q3 (compL_exc items)
    | stuck => rw [q3] at o; exact o.elim
    | ok ys =>
    rw [q3] at o
    simp only [Res.bind_ok] at o
    split at o
    rotate_left
    · exact o.elim
    rename_i hys
    have zD1 : Z1 false D = none := g1.k.s.free hD
    have eo1 : EOk G Z1 ((ce.vars ++ c.vars).filter fun j => !((own.map (·.2)).contains j)) env σ := EOk.sub (fun j hj => by
      have := (List.mem_filter.mp hj).1
      simp only [CE.vars, List.mem_append] at this ⊢
      rcases this with h | h
      · exact .inl (.inl h)
      · exact .inr h) (EOk.mono g1.z eo)
    refine ⟨fun i m Hc => m = items.length - i ∧ LcSt G H1 Z1 D ce.sdep env t c ce items ys i Hc, ⟨items.length, by simp, Nat.zero_le _, Z1, [], [], [], ys, (Gr.refl g1.k).add hD, upd_same, .nil, List.nodup_nil, (fun p hp => nomatch hp), zD1, by rw [List.drop_zero]; exact q3, rfl, Nat.le_refl _⟩, ?_⟩
    rintro i m Hc ⟨rfl, st⟩
    by_cases hlt : i < items.length
    · have hv : items[i]? = some items[i] := List.getElem?_eq_getElem hlt
      have sc : Same (Z1 false) Hc := by
        obtain ⟨_, Zc, _, _, _, _, g, _⟩ := st
        exact (g.z false).trans g.k.s
      have fd := (feeds Hc sc i).1 _ hv
      refine .inr ⟨fd.1, LcSt G H1 Z1 D ce.sdep env t c ce items ys (i + 1), fun H' p' => ⟨items.length - (i + 1), by omega, rfl, p'⟩, fun x H' y => ?_⟩
      exact lc_turn hK hD hz rfl hys hown eo1 st hv (fd.2 x H' y)
    · have ei : i = items.length := by have := st.le; omega
      subst ei
      obtain ⟨_, Zc, acc, accV, F, rest, g, hDc, rb, nd, fr, zD, hcl, eys, hal⟩ := st
      rw [List.drop_length] at hcl
      have er : rest = [] := (Res.ok.inj hcl).symm
      subst er
      rw [List.append_nil] at eys
      subst eys
      have sc : Same (Z1 false) Hc := (g.z false).trans g.k.s
      refine .inl ⟨(feeds Hc sc _).2 (Nat.le_refl _), ?_⟩
      refine o (.ref D) Hc Zc (D :: F) (g1.trans g) (List.nodup_cons.mpr ⟨fun h => (fr D h).2.2 rfl, nd⟩) (fun p hp => ?_) ?_
      · rcases List.mem_cons.mp hp with rfl | hp
        · exact ⟨g1.h.free hD, zD⟩
        · exact ⟨g1.h.free (fr p hp).1, (fr p hp).2.1⟩
      · show Rp G.K G.mg (Zc _) Hc (1 + ce.sdep) _ _ _
        rw [show 1 + ce.sdep = ce.sdep + 1 by omega]
        refine .lst hDc ?_ (RpB.rpL g.k rb fun h v hv => List.all_eq_true.mp h v hv)
        rw [← RpB.length rb]
        exact Nat.le_trans hal hz
end
end TT

set_option Elab.async false
set_option linter.all false
set_option maxRecDepth 100000
set_option maxHeartbeats 1000000
/-! TJ: the state between statements: what the slots own. -/
namespace TT
open PySem L2
mutual
/-- nothing of it lies deeper than what is owned -/
def shut : Nat → D → Bool
  | k + 1, .lst ds => shutL k ds
  | k + 1, .tup ds => shutL k ds
  | k + 1, .ins _ _ ds => shutL k ds
  | _, d => d.flat
def shutL : Nat → List D → Bool
  | _, [] => true
  | k, d :: ds => shut k d && shutL k ds
end
def ownS (env : Env) (i : Nat) : Bool := match env[i]? with
  | some (some v) => !v.1.flat && v.2.1 != 0
  | _ => false
def demF (S : List Nat) : Nat → Env → Env
  | _, [] => []
  | n, o :: r => (if S.contains n then o.map (fun v => (v.1, 0, v.2.2)) else o) :: demF S (n + 1) r
def keep (env : Env) (S : List Nat) (sh : Bool) : Env := if sh || !(S.any (ownS env)) then env else demF S 0 env
theorem demF_len (S : List Nat) : ∀ (n : Nat) (env : Env), (demF S n env).length = env.length
  | _, [] => rfl
  | n, o :: r => by simp [demF, demF_len S (n + 1) r]
theorem demF_get (S : List Nat) : ∀ (n : Nat) (env : Env) (i : Nat), (demF S n env)[i]? = env[i]?.map fun o => if S.contains (n + i) then o.map (fun v => (v.1, 0, v.2.2)) else o
  | _, [], i => by simp [demF]
  | n, o :: r, 0 => by simp [demF]
  | n, o :: r, i + 1 => by
    have := demF_get S (n + 1) r i
    simp only [demF, List.getElem?_cons_succ, this]
    rw [show n + 1 + i = n + (i + 1) by omega]
theorem keep_len (env : Env) (S : List Nat) (sh : Bool) : (keep env S sh).length = env.length := by
  unfold keep
  split
  · rfl
  · exact demF_len S 0 env
section
variable {K : PySem.W.Frag} {mg : Str → Option Value} {B B' H : Hp}
mutual
theorem Rp.shut : ∀ (d : D) (k : Nat) (v : V) (F : List Addr), TT.shut k d = true → Rp K mg B H k d v F → Rp K mg B' H k d v F
  | .lst ds, k, v, F, h, r => by
    cases r with
    | sh c q =>
      rcases c with rfl | c
      · simp [TT.shut, D.flat] at h
      · cases c
    | lst q z r => exact .lst q z (RpL.shut ds _ _ _ (by simpa [TT.shut] using h) r)
  | .tup ds, k, v, F, h, r => by
    cases r with
    | sh c q =>
      rcases c with rfl | c
      · simp [TT.shut, D.flat] at h
      · cases c
    | tup q r => exact .tup q (RpL.shut ds _ _ _ (by simpa [TT.shut] using h) r)
  | .ins c ns ds, k, v, F, h, r => by
    cases r with
    | sh c q =>
      rcases c with rfl | c
      · simp [TT.shut, D.flat] at h
      · cases c
    | ins q m l r => exact .ins q m l (RpL.shut ds _ _ _ (by simpa [TT.shut] using h) r)
  | .non, k, v, F, h, r => by obtain ⟨rfl, q⟩ := r.flat_inv rfl; exact rp_flat rfl (Vw.flat_any rfl q)
  | .bl _, k, v, F, h, r => by obtain ⟨rfl, q⟩ := r.flat_inv rfl; exact rp_flat rfl (Vw.flat_any rfl q)
  | .int _, k, v, F, h, r => by obtain ⟨rfl, q⟩ := r.flat_inv rfl; exact rp_flat rfl (Vw.flat_any rfl q)
  | .str _, k, v, F, h, r => by obtain ⟨rfl, q⟩ := r.flat_inv rfl; exact rp_flat rfl (Vw.flat_any rfl q)
  | .glob _, k, v, F, h, r => by obtain ⟨rfl, q⟩ := r.flat_inv rfl; exact rp_flat rfl (Vw.flat_any rfl q)
  | .scr _, k, v, F, h, r => by cases k <;> simp [TT.shut, D.flat] at h
theorem RpL.shut : ∀ (ds : List D) (k : Nat) (vs : List V) (F : List Addr), shutL k ds = true → RpL K mg B H k ds vs F → RpL K mg B' H k ds vs F
  | [], _, _, _, _, h => by cases h; exact .nil
  | d :: ds, _, _, _, h, r => by
    simp only [shutL, Bool.and_eq_true] at h
    cases r with
    | cons h1 h2 => exact .cons (Rp.shut d _ _ _ h.1 h1) (RpL.shut ds _ _ _ h.2 h2)
end
/-- what owns nothing -/
theorem Rp.owns {k : Nat} {d : D} {v : V} {F : List Addr} (h : d.flat = true ∨ k = 0) (r : Rp K mg B H k d v F) : F = [] := by
  rcases h with h | rfl
  · exact (r.flat_inv h).1
  · cases r; rfl
end
/-- the state: Z what is shared, Fs i what slot i owns; H0, B0 the heap and what was shared at the entry -/
structure SOk (G : Gb) (H0 : Hp) (B0 : Zn) (env : Env) (σ : L2.St) (H : Hp) (Z : Zn) (Fs : Nat → List Addr) : Prop where
  zk : Zk Z H
  h0 : Same H0 H
  b0 : ∀ n, Same (B0 n) (Z n)
  bf : ∀ a, B0 false a = none → Z false a ≠ none → H0 a = none
  nw : ∀ a, H0 a ≠ none → Z true a = none
  len : env.length = σ.length
  sl : ∀ (i : Nat) (v : Val), env[i]? = some (some v) → ∃ x, σ[i]? = some (some x) ∧ Rp G.K G.mg (Z v.2.2) H v.2.1 v.1 x (Fs i)
  em : ∀ i : Nat, (∀ v : Val, env[i]? ≠ some (some v)) → Fs i = []
  nd : ∀ i, (Fs i).Nodup
  dj : ∀ i j, i ≠ j → ∀ p ∈ Fs i, p ∉ Fs j
  out : ∀ i, ∀ p ∈ Fs i, Z false p = none ∧ H0 p = none
section
variable {G : Gb} {H0 H : Hp} {B0 : Zn} {env : Env} {σ : L2.St} {Z : Zn} {Fs : Nat → List Addr}
open Classical in
/-- the zones with what the slots S own -/
noncomputable def zex (Z : Zn) (H : Hp) (env : Env) (Fs : Nat → List Addr) (S : List Nat) : Zn := fun n a => if (∃ i ∈ S, a ∈ Fs i ∧ (n = true → ∃ v, env[i]? = some (some v) ∧ v.2.2 = true)) then H a else Z n a
theorem zex_z (s : SOk G H0 B0 env σ H Z Fs) (S : List Nat) (n : Bool) : Same (Z n) (zex Z H env Fs S n) := fun a o e => by
  unfold zex
  rw [if_neg]
  · exact e
  · rintro ⟨i, _, hp, _⟩
    have := (s.out i a hp).1
    rw [s.zk.any n a o e] at this
    cases this
theorem zex_k (s : SOk G H0 B0 env σ H Z Fs) (S : List Nat) : Zk (zex Z H env Fs S) H := by
  refine ⟨fun a o e => ?_, fun a o e => ?_⟩
  · unfold zex at e ⊢
    split at e
    · rename_i h
      obtain ⟨i, hi, hp, _⟩ := h
      rw [if_pos ⟨i, hi, hp, fun z => nomatch z⟩]
      exact e
    · split
      · exact s.zk.h true a o e
      · exact s.zk.t a o e
  · unfold zex at e
    split at e
    · exact e
    · exact s.zk.s a o e
theorem zex_out (s : SOk G H0 B0 env σ H Z Fs) (S : List Nat) {n : Bool} {a : Addr} (h : zex Z H env Fs S n a ≠ none) : (∃ i ∈ S, a ∈ Fs i) ∨ Z n a ≠ none := by
  unfold zex at h
  split at h
  · rename_i q
    obtain ⟨i, hi, hp, _⟩ := q
    exact .inl ⟨i, hi, hp⟩
  · exact .inr h
theorem zex_eo (s : SOk G H0 B0 env σ H Z Fs) (S : List Nat) : EOk G (zex Z H env Fs S) S env σ := by
  refine ⟨s.len, fun i hi v e => ?_⟩
  obtain ⟨x, e1, r⟩ := s.sl i v e
  refine ⟨x, e1, r.freeze (zex_z s S _) _ _ _ _ fun p hp o q => ?_⟩
  unfold zex
  rw [if_pos ⟨i, hi, hp, fun h => ⟨v, e, h⟩⟩]
  exact q
theorem SOk.live (s : SOk G H0 B0 env σ H Z Fs) {i : Nat} {p : Addr} (hp : p ∈ Fs i) : H p ≠ none := by
  by_cases h : ∃ v, env[i]? = some (some v)
  · obtain ⟨v, e⟩ := h
    obtain ⟨x, _, r⟩ := s.sl i v e
    exact Rp.live _ _ _ _ r p hp
  · rw [s.em i (fun v e => h ⟨v, e⟩)] at hp
    cases hp
/-- the zones without what the slots S own -/
noncomputable def zcut (Z : Zn) (Fs : Nat → List Addr) (S : List Nat) : Zn := open Classical in fun n a => if (∃ i ∈ S, a ∈ Fs i) then none else Z n a
/-- behind a growth of the zones: nothing is given up -/
theorem SOk.grow {H' : Hp} {Z' : Zn} (s : SOk G H0 B0 env σ H Z Fs) (S : List Nat) (g : Gr H H' (zex Z H env Fs S) Z') : SOk G H0 B0 env σ H' (zcut Z' Fs S) Fs := by
  have zs : ∀ n, Same (Z n) (zcut Z' Fs S n) := fun n a o e => by
    unfold zcut
    rw [if_neg]
    · exact g.z n a o (zex_z s S n a o e)
    · rintro ⟨i, _, hp⟩
      have := (s.out i a hp).1
      rw [s.zk.any n a o e] at this
      cases this
  have zi : ∀ n a, zcut Z' Fs S n a ≠ none → Z' n a ≠ none ∧ ∀ i ∈ S, a ∉ Fs i := fun n a h => by
    unfold zcut at h
    split at h
    · exact absurd rfl h
    · rename_i q
      exact ⟨h, fun i hi hp => q ⟨i, hi, hp⟩⟩
  have zo : ∀ n a o, zcut Z' Fs S n a = some o → Z' n a = some o := fun n a o e => by
    unfold zcut at e
    split at e
    · cases e
    · exact e
  refine ⟨⟨fun a o e => ?_, fun a o e => g.k.s a o (zo _ _ _ e)⟩, s.h0.trans g.h, fun n => (s.b0 n).trans (zs n), fun a h1 h2 => ?_, fun a h1 => ?_, s.len, fun i v e => ?_, s.em, s.nd, s.dj, fun i p hp => ⟨?_, (s.out i p hp).2⟩⟩
  · have h1 := zi true a (by rw [e]; exact fun z => nomatch z)
    unfold zcut
    rw [if_neg (fun ⟨i, hi, hp⟩ => h1.2 i hi hp)]
    exact g.k.t a o (zo _ _ _ e)
  · obtain ⟨h3, h4⟩ := zi false a h2
    cases q : zex Z H env Fs S false a with
    | none => exact s.h0.free (g.f false a q h3)
    | some o =>
      rcases zex_out s S (n := false) (a := a) (by rw [q]; exact fun z => nomatch z) with ⟨i, hi, hp⟩ | h
      · exact (s.out i a hp).2
      · exact s.bf a h1 h
  · cases q2 : zcut Z' Fs S true a with
    | none => rfl
    | some u =>
      obtain ⟨h3, h4⟩ := zi true a (by rw [q2]; exact fun z => nomatch z)
      cases q : zex Z H env Fs S true a with
      | none => exact absurd (s.h0.free (g.f true a q h3)) h1
      | some o =>
        rcases zex_out s S (n := true) (a := a) (by rw [q]; exact fun z => nomatch z) with ⟨i, hi, hp⟩ | h
        · exact absurd (s.out i a hp).2 h1
        · exact absurd (s.nw a h1) h
  · obtain ⟨x, e1, r⟩ := s.sl i v e
    exact ⟨x, e1, r.mono (zs _) _ _ _ _ fun p _ o q => g.h p o q⟩
  · unfold zcut
    split
    · rfl
    · rename_i hn
      cases q : Z' false p with
      | none => rfl
      | some o =>
        exfalso
        have live := s.live hp
        cases q3 : zex Z H env Fs S false p with
        | none => exact live (g.f false p q3 (by rw [q]; exact fun z => nomatch z))
        | some u =>
          rcases zex_out s S (n := false) (a := p) (by rw [q3]; exact fun z => nomatch z) with ⟨j, hj, hpj⟩ | h
          · exact hn ⟨j, hj, hpj⟩
          · exact h (s.out i p hp).1
/-- .. the slots S are given up -/
theorem SOk.give {H' : Hp} {Z' : Zn} (s : SOk G H0 B0 env σ H Z Fs) (S : List Nat) (g : Gr H H' (zex Z H env Fs S) Z') : SOk G H0 B0 (demF S 0 env) σ H' Z' (fun i => if i ∈ S then [] else Fs i) := by
  have zs : ∀ n, Same (Z n) (Z' n) := fun n a o e => g.z n a o (zex_z s S n a o e)
  have eo := zex_eo s S
  refine ⟨g.k, s.h0.trans g.h, fun n => (s.b0 n).trans (zs n), fun a h1 h2 => ?_, fun a h1 => ?_, by rw [demF_len]; exact s.len, fun i v e => ?_, fun i hv => ?_, fun i => ?_, fun i j hij p hp => ?_, fun i p hp => ?_⟩
  · cases q : zex Z H env Fs S false a with
    | none => exact s.h0.free (g.f false a q h2)
    | some o =>
      rcases zex_out s S (n := false) (a := a) (by rw [q]; exact fun z => nomatch z) with ⟨i, hi, hp⟩ | h
      · exact (s.out i a hp).2
      · exact s.bf a h1 h
  · cases q2 : Z' true a with
    | none => rfl
    | some u =>
      cases q : zex Z H env Fs S true a with
      | none => exact absurd (s.h0.free (g.f true a q (by rw [q2]; exact fun z => nomatch z))) h1
      | some o =>
        rcases zex_out s S (n := true) (a := a) (by rw [q]; exact fun z => nomatch z) with ⟨i, hi, hp⟩ | h
        · exact absurd (s.out i a hp).2 h1
        · exact absurd (s.nw a h1) h
  · rw [demF_get, Option.map_eq_some_iff] at e
    obtain ⟨o, e1, e2⟩ := e
    rw [Nat.zero_add] at e2
    by_cases hi : i ∈ S
    · rw [if_pos (by simpa using hi), Option.map_eq_some_iff] at e2
      obtain ⟨w, rfl, rfl⟩ := e2
      obtain ⟨x, ex, wx⟩ := eo.2 i hi w e1
      refine ⟨x, ex, ?_⟩
      rw [if_pos hi]
      exact rp_sh (Vw.mono (g.z _) _ _ wx)
    · rw [if_neg (by simpa using hi)] at e2
      subst e2
      obtain ⟨x, ex, r⟩ := s.sl i v e1
      refine ⟨x, ex, ?_⟩
      rw [if_neg hi]
      exact r.mono (zs _) _ _ _ _ fun p _ o q => g.h p o q
  · by_cases hi : i ∈ S
    · rw [if_pos hi]
    · rw [if_neg hi]
      refine s.em i fun v e => hv v ?_
      rw [demF_get, e, Nat.zero_add]
      simp [hi]
  · show (if i ∈ S then [] else Fs i).Nodup
    split
    · exact List.nodup_nil
    · exact s.nd i
  · by_cases hi : i ∈ S
    · rw [if_pos hi] at hp; cases hp
    · rw [if_neg hi] at hp
      by_cases hj : j ∈ S
      · rw [if_pos hj]; exact fun z => nomatch z
      · rw [if_neg hj]; exact s.dj i j hij p hp
  · by_cases hi : i ∈ S
    · rw [if_pos hi] at hp; cases hp
    · rw [if_neg hi] at hp
      refine ⟨?_, (s.out i p hp).2⟩
      cases q : Z' false p with
      | none => rfl
      | some o =>
        exfalso
        have live := s.live hp
        cases q3 : zex Z H env Fs S false p with
        | none => exact live (g.f false p q3 (by rw [q]; exact fun z => nomatch z))
        | some u =>
          rcases zex_out s S (n := false) (a := p) (by rw [q3]; exact fun z => nomatch z) with ⟨j, hj, hpj⟩ | h
          · by_cases hij : i = j
            · subst hij; exact hi hj
            · exact s.dj i j hij p hp hpj
          · exact h (s.out i p hp).1
/-- a thing more, in a slot of its own behind the others -/
theorem SOk.push {v : Val} {x : V} {F : List Addr} (s : SOk G H0 B0 env σ H Z Fs) (r : Rp G.K G.mg (Z v.2.2) H v.2.1 v.1 x F) (nd : F.Nodup) (fr : ∀ p ∈ F, Z false p = none ∧ H0 p = none ∧ ∀ i, p ∉ Fs i) :
    SOk G H0 B0 (env ++ [some v]) (σ ++ [some x]) H Z (fun i => if i = env.length then F else Fs i) := by
  have hn : ∀ p, p ∉ Fs env.length := fun p hp => by
    rw [s.em env.length (fun v e => by rw [List.getElem?_eq_none (Nat.le_refl _)] at e; cases e)] at hp
    cases hp
  refine ⟨s.zk, s.h0, s.b0, s.bf, s.nw, by simp [s.len], fun i w e => ?_, fun i hw => ?_, fun i => ?_, fun i j hij p hp => ?_, fun i p hp => ?_⟩
  · by_cases hi : i = env.length
    · subst hi
      rw [List.getElem?_append_right (Nat.le_refl _), Nat.sub_self] at e
      have e : some v = some w := Option.some.inj e
      cases e
      refine ⟨x, ?_, ?_⟩
      · rw [s.len, List.getElem?_append_right (Nat.le_refl _), Nat.sub_self]; rfl
      · rw [if_pos rfl]; exact r
    · by_cases hl : i < env.length
      · rw [List.getElem?_append_left hl] at e
        obtain ⟨y, e1, r1⟩ := s.sl i w e
        refine ⟨y, ?_, ?_⟩
        · rw [List.getElem?_append_left (by rw [← s.len]; exact hl)]; exact e1
        · rw [if_neg hi]; exact r1
      · rw [List.getElem?_eq_none (by simp; omega)] at e
        cases e
  · by_cases hi : i = env.length
    · subst hi
      exact absurd (by rw [List.getElem?_append_right (Nat.le_refl _), Nat.sub_self]; rfl) (hw v)
    · rw [if_neg hi]
      refine s.em i fun w e => ?_
      by_cases hl : i < env.length
      · exact hw w (by rw [List.getElem?_append_left hl]; exact e)
      · rw [List.getElem?_eq_none (by omega)] at e; cases e
  · show (if i = env.length then F else Fs i).Nodup
    split
    · exact nd
    · exact s.nd i
  · by_cases hi : i = env.length
    · rw [if_pos hi] at hp
      rw [if_neg (fun z => hij (hi.trans z.symm))]
      exact (fr p hp).2.2 j
    · rw [if_neg hi] at hp
      by_cases hj : j = env.length
      · rw [if_pos hj]
        exact fun z => (fr p z).2.2 i hp
      · rw [if_neg hj]
        exact s.dj i j hij p hp
  · by_cases hi : i = env.length
    · rw [if_pos hi] at hp
      exact ⟨(fr p hp).1, (fr p hp).2.1⟩
    · rw [if_neg hi] at hp
      exact s.out i p hp
end
end TT

set_option Elab.async false
set_option linter.all false
set_option maxRecDepth 100000
set_option maxHeartbeats 1000000
/-! TK: expressions in the state between statements. -/
namespace TT
open PySem L2
section
variable {G : Gb} {H0 H : Hp} {B0 : Zn} {env : Env} {σ : L2.St} {Z : Zn} {Fs : Nat → List Addr}
/-- some state with these slots -/
def St1 (G : Gb) (H0 : Hp) (B0 : Zn) (env : Env) (σ : L2.St) (H : Hp) : Prop := ∃ Z Fs, SOk G H0 B0 env σ H Z Fs
theorem SOk.none_own (s : SOk G H0 B0 env σ H Z Fs) {S : List Nat} (h : S.any (ownS env) = false) : ∀ i ∈ S, Fs i = [] := fun i hi => by
  have q : ownS env i = false := by
    cases e : ownS env i with
    | false => rfl
    | true => rw [List.any_eq_true.mpr ⟨i, hi, e⟩] at h; cases h
  by_cases hv : ∃ v, env[i]? = some (some v)
  · obtain ⟨v, e⟩ := hv
    obtain ⟨x, _, r⟩ := s.sl i v e
    refine r.owns ?_
    unfold ownS at q
    rw [e] at q
    simp only [Bool.and_eq_false_iff, Bool.not_eq_false', bne_eq_false_iff_eq] at q
    exact q
  · exact s.em i fun v e => hv ⟨v, e⟩
theorem zcut_none {Z : Zn} {S : List Nat} (h : ∀ i ∈ S, Fs i = []) : zcut Z Fs S = Z := by
  funext n a
  unfold zcut
  rw [if_neg]
  rintro ⟨i, hi, hp⟩
  rw [h i hi] at hp
  cases hp
/-- the state behind an evaluation, the values in slots of their own -/
theorem SOk.after {S : List Nat} {H' : Hp} {Z' : Zn} {sh : Bool} (s : SOk G H0 B0 env σ H Z Fs) (g : Gr H H' (zex Z H env Fs S) Z') :
    ∃ Z2 Fs2, SOk G H0 B0 (keep env S sh) σ H' Z2 Fs2 ∧ (∀ p, H p = none → ∀ i, p ∉ Fs2 i) ∧ (∀ p, Z' false p = none → Z2 false p = none) ∧ (sh = false → Z2 = Z') := by
  have live : ∀ p, H p = none → ∀ i, p ∉ Fs i := fun p hp i hi => s.live hi hp
  unfold keep
  by_cases h1 : sh = true
  · rw [h1, Bool.true_or, if_pos rfl]
    refine ⟨_, _, s.grow S g, live, fun p hp => ?_, fun h => by cases h⟩
    unfold zcut
    split
    · rfl
    · exact hp
  · have h1 : sh = false := by simpa using h1
    subst h1
    by_cases h2 : S.any (ownS env) = false
    · rw [h2, Bool.not_false, Bool.or_true, if_pos rfl]
      have e := zcut_none (Z := Z') (s.none_own h2)
      refine ⟨Z', Fs, ?_, live, fun p hp => hp, fun _ => rfl⟩
      have := s.grow S g
      rw [e] at this
      exact this
    · have h2 : S.any (ownS env) = true := by simpa using h2
      rw [h2, Bool.not_true, Bool.or_false, if_neg Bool.false_ne_true]
      refine ⟨Z', _, s.give S g, fun p hp i hi => ?_, fun p hp => hp, fun _ => rfl⟩
      by_cases q : i ∈ S
      · rw [if_pos q] at hi; cases hi
      · rw [if_neg q] at hi; exact live p hp i hi
theorem sok_tD {c : CE} {Q : V → Hp → Prop} (s : SOk G H0 B0 env σ H Z Fs)
    (h : match evalE G.Γ G.gl c env with | .ok v => ∀ x H', Same H H' → St1 G H0 B0 (keep env c.vars (shut v.2.1 v.1) ++ [some v]) (σ ++ [some x]) H' → Q x H' | .exc e => Exc G H e | .stuck => False) : tD G c σ H Q := by
  refine ⟨_, env, zex_k s c.vars, zex_eo s c.vars, ?_⟩
  cases e : evalE G.Γ G.gl c env with
  | exc c => rw [e] at h; exact h
  | stuck => rw [e] at h; exact h
  | ok v =>
    rw [e] at h
    intro x H' Z' F g nd fr rp
    obtain ⟨Z2, Fs2, s2, f1, f2, f3⟩ := s.after (sh := shut v.2.1 v.1) g
    refine h x H' g.h ⟨_, _, s2.push ?_ nd fun p hp => ⟨f2 p (fr p hp).2, s.h0.free (fr p hp).1, f1 p (fr p hp).1⟩⟩
    cases q : shut v.2.1 v.1 with
    | true => exact Rp.shut _ _ _ _ q rp
    | false => rw [f3 q]; exact rp
theorem sok_tDT {c : CE} {Q : Bool → Hp → Prop} (s : SOk G H0 B0 env σ H Z Fs)
    (h : match evalE G.Γ G.gl c env >>= boolOf with | .ok b => ∀ H', Same H H' → St1 G H0 B0 env σ H' → Q b H' | .exc e => Exc G H e | .stuck => False) : tDT G c σ H Q := by
  refine ⟨_, env, zex_k s c.vars, zex_eo s c.vars, ?_⟩
  cases e : evalE G.Γ G.gl c env >>= boolOf with
  | exc c => rw [e] at h; exact h
  | stuck => rw [e] at h; exact h
  | ok v =>
    rw [e] at h
    intro H' Z' g
    exact h H' g.h ⟨_, _, s.grow c.vars g⟩
/-- several values, each in a slot of its own -/
theorem SOk.pushes {vs : List Val} {xs : List V} {F : List Addr} : SOk G H0 B0 env σ H Z Fs → RpA G Z H vs xs F → F.Nodup → (∀ p ∈ F, Z false p = none ∧ H0 p = none ∧ ∀ i, p ∉ Fs i) → ∃ Fs2, SOk G H0 B0 (env ++ vs.map some) (σ ++ xs.map some) H Z Fs2 := by
  intro s r nd fr
  induction r generalizing env σ Fs with
  | nil => exact ⟨Fs, by simpa using s⟩
  | cons a b ih =>
    rename_i v vs x xs F F2
    have nd1 := List.nodup_append.mp nd
    have s1 := s.push a nd1.1 fun p hp => fr p (by simp [hp])
    obtain ⟨Fs2, s2⟩ := ih s1 nd1.2.1 fun p hp => ⟨(fr p (by simp [hp])).1, (fr p (by simp [hp])).2.1, fun i hi => by
      by_cases q : i = env.length
      · rw [if_pos q] at hi; exact nd1.2.2 p hi p hp rfl
      · rw [if_neg q] at hi; exact (fr p (by simp [hp])).2.2 i hi⟩
    exact ⟨Fs2, by simpa using s2⟩
theorem RpA.shut {Z Z' : Zn} : ∀ {vs : List Val} {xs : List V} {F : List Addr}, vs.all (fun v => TT.shut v.2.1 v.1) = true → RpA G Z H vs xs F → RpA G Z' H vs xs F
  | _, _, _, _, .nil => .nil
  | _, _, _, h, .cons a b => by
    simp only [List.all_cons, Bool.and_eq_true] at h
    exact .cons (Rp.shut _ _ _ _ h.1 a) (RpA.shut h.2 b)
theorem sok_tA {c : CEs} {Q : List V → Hp → Prop} (s : SOk G H0 B0 env σ H Z Fs)
    (h : match evalEs G.Γ G.gl c env with | .ok vs => ∀ xs H', Same H H' → St1 G H0 B0 (keep env c.vars (vs.all fun v => shut v.2.1 v.1) ++ vs.map some) (σ ++ xs.map some) H' → vs.length = xs.length → Q xs H' | .exc e => Exc G H e | .stuck => False) : tA G c σ H Q := by
  refine ⟨_, env, zex_k s c.vars, zex_eo s c.vars, ?_⟩
  cases e : evalEs G.Γ G.gl c env with
  | exc c => rw [e] at h; exact h
  | stuck => rw [e] at h; exact h
  | ok vs =>
    rw [e] at h
    intro xs H' Z' F g nd fr rp
    obtain ⟨Z2, Fs2, s2, f1, f2, f3⟩ := s.after (sh := vs.all fun v => TT.shut v.2.1 v.1) g
    have rp2 : RpA G Z2 H' vs xs F := by
      cases q : (vs.all fun v => TT.shut v.2.1 v.1) with
      | true => exact RpA.shut q rp
      | false => rw [f3 q]; exact rp
    obtain ⟨Fs3, s3⟩ := s2.pushes rp2 nd fun p hp => ⟨f2 p (fr p hp).2, s.h0.free (fr p hp).1, f1 p (fr p hp).1⟩
    exact h xs H' g.h ⟨_, _, s3⟩ (RpA.length rp)
/-- the last slot goes to slot i -/
theorem SOk.move {v : Val} {x : V} {i : Nat} (s : SOk G H0 B0 (env ++ [some v]) (σ ++ [some x]) H Z Fs) : ∃ Fs2, SOk G H0 B0 (env.set i (some v)) (σ.set i (some x)) H Z Fs2 ∧ ∀ j, ∀ p ∈ Fs2 j, ∃ l, p ∈ Fs l := by
  have len : env.length = σ.length := by have := s.len; simpa using this
  obtain ⟨x', ex, rx⟩ := s.sl env.length v (by rw [List.getElem?_append_right (Nat.le_refl _), Nat.sub_self]; rfl)
  rw [len, List.getElem?_append_right (Nat.le_refl _), Nat.sub_self] at ex
  have ex : some x = some x' := Option.some.inj ex
  cases ex
  have get : ∀ j, j < env.length → (env ++ [some v])[j]? = env[j]? := fun j hj => List.getElem?_append_left hj
  refine ⟨fun j => if j = i ∧ i < env.length then Fs env.length else if j < env.length then Fs j else [], ⟨s.zk, s.h0, s.b0, s.bf, s.nw, by simp [len], fun j w e => ?_, fun j hw => ?_, fun j => ?_, fun j l hjl p hp => ?_, fun j p hp => ?_⟩, fun j p hp => ?_⟩
  · have hj : j < env.length := by
      by_cases hj : j < env.length
      · exact hj
      · rw [List.getElem?_eq_none (by rw [List.length_set]; omega)] at e; cases e
    by_cases hji : j = i
    · subst hji
      rw [List.getElem?_set_self hj] at e
      cases e
      refine ⟨x, List.getElem?_set_self (by rw [← len]; exact hj), ?_⟩
      rw [if_pos ⟨rfl, hj⟩]
      exact rx
    · rw [List.getElem?_set_ne (Ne.symm hji)] at e
      obtain ⟨y, ey, ry⟩ := s.sl j w (by rw [get j hj]; exact e)
      rw [List.getElem?_append_left (by rw [← len]; exact hj)] at ey
      refine ⟨y, by rw [List.getElem?_set_ne (Ne.symm hji)]; exact ey, ?_⟩
      rw [if_neg (fun h => hji h.1), if_pos hj]
      exact ry
  · by_cases hj : j < env.length
    · by_cases hji : j = i
      · subst hji
        exact absurd (List.getElem?_set_self hj) (hw v)
      · rw [if_neg (fun h => hji h.1), if_pos hj]
        refine s.em j fun w e => hw w ?_
        rw [List.getElem?_set_ne (Ne.symm hji), ← get j hj]
        exact e
    · rw [if_neg (fun h => hj (by rw [h.1]; exact h.2)), if_neg hj]
  · show (if j = i ∧ i < env.length then Fs env.length else if j < env.length then Fs j else []).Nodup
    split
    · exact s.nd _
    · split
      · exact s.nd _
      · exact List.nodup_nil
  · by_cases h1 : j = i ∧ i < env.length
    · rw [if_pos h1] at hp
      rw [if_neg (fun h => hjl (h1.1.trans h.1.symm))]
      split
      · rename_i hl
        exact s.dj _ _ (by omega) p hp
      · exact fun z => nomatch z
    · rw [if_neg h1] at hp
      split at hp
      · rename_i hj
        by_cases h2 : l = i ∧ i < env.length
        · rw [if_pos h2]
          exact s.dj _ _ (by omega) p hp
        · rw [if_neg h2]
          split
          · exact s.dj _ _ hjl p hp
          · exact fun z => nomatch z
      · cases hp
  · by_cases h1 : j = i ∧ i < env.length
    · rw [if_pos h1] at hp
      exact s.out _ p hp
    · rw [if_neg h1] at hp
      split at hp
      · exact s.out _ p hp
      · cases hp
  · dsimp only at hp
    by_cases h1 : j = i ∧ i < env.length
    · rw [if_pos h1] at hp
      exact ⟨_, hp⟩
    · rw [if_neg h1] at hp
      split at hp
      · exact ⟨_, hp⟩
      · cases hp
/-- the last slots are dropped -/
theorem SOk.drop {e2 : Env} {t2 : L2.St} (s : SOk G H0 B0 (env ++ e2) (σ ++ t2) H Z Fs) (len : env.length = σ.length) : ∃ Fs2, SOk G H0 B0 env σ H Z Fs2 ∧ ∀ j, ∀ p ∈ Fs2 j, j < env.length ∧ p ∈ Fs j := by
  refine ⟨fun j => if j < env.length then Fs j else [], ⟨s.zk, s.h0, s.b0, s.bf, s.nw, len, fun j w e => ?_, fun j hw => ?_, fun j => ?_, fun j l hjl p hp => ?_, fun j p hp => ?_⟩, fun j p hp => ?_⟩
  · have hj : j < env.length := by
      by_cases hj : j < env.length
      · exact hj
      · rw [List.getElem?_eq_none (by omega)] at e; cases e
    obtain ⟨y, ey, ry⟩ := s.sl j w (by rw [List.getElem?_append_left hj]; exact e)
    rw [List.getElem?_append_left (by rw [← len]; exact hj)] at ey
    refine ⟨y, ey, ?_⟩
    rw [if_pos hj]
    exact ry
  · split
    · rename_i hj
      exact s.em j fun w e => hw w (by rw [List.getElem?_append_left hj] at e; exact e)
    · rfl
  · show (if j < env.length then Fs j else []).Nodup
    split
    · exact s.nd _
    · exact List.nodup_nil
  · split at hp
    · split
      · exact s.dj _ _ hjl p hp
      · exact fun z => nomatch z
    · cases hp
  · split at hp
    · exact s.out _ p hp
    · cases hp
  · dsimp only at hp
    split at hp
    · rename_i hj
      exact ⟨hj, hp⟩
    · cases hp
end
end TT

set_option Elab.async false
set_option linter.all false
set_option maxRecDepth 100000
set_option maxHeartbeats 1000000
/-! TL: paths into what is owned; a list at the end of a path changed. -/
namespace TT
open PySem L2
inductive Px where
  | ix (i : Int) | fl (x : Str)
def idxF (ns : List Str) (x : Str) : Option Nat := match ns with
  | [] => none
  | n :: r => if n = x then some 0 else (idxF r x).map (· + 1)
/-- the place of a step -/
def stepN : D → Px → Option Nat
  | .lst ds, .ix i => ixN ds.length i
  | .tup ds, .ix i => ixN ds.length i
  | .ins _ ns _, .fl x => idxF ns x
  | _, _ => none
def kids : D → List D
  | .lst ds => ds
  | .tup ds => ds
  | .ins _ _ ds => ds
  | _ => []
def withKids : D → List D → D
  | .lst _, ds => .lst ds
  | .tup _, ds => .tup ds
  | .ins c ns _, ds => .ins c ns ds
  | d, _ => d
def lstOf : D → Option (List D)
  | .lst ds => some ds
  | _ => none
/-- the list at the end of a path -/
def getP : List Px → D → Option (List D)
  | [], d => lstOf d
  | p :: ps, d => match stepN d p with
    | some j => (match (kids d)[j]? with | some e => getP ps e | none => none)
    | none => none
/-- another list there -/
def setP : List Px → D → List D → D
  | [], _, ds => .lst ds
  | p :: ps, d, ds => match stepN d p with
    | some j => (match (kids d)[j]? with | some e => withKids d ((kids d).set j (setP ps e ds)) | none => d)
    | none => d
def Foll (H : Hp) : V → List Px → Addr → Prop
  | v, [], p => v = .ref p
  | v, .ix i :: ps, p => ∃ a vs w, v = .ref a ∧ (H a = some (.lst vs) ∨ H a = some (.tup vs)) ∧ atI vs i = some w ∧ Foll H w ps p
  | v, .fl x :: ps, p => ∃ a C dx fs w, v = .ref a ∧ H a = some (.ins C dx fs) ∧ fs.lookup x = some w ∧ Foll H w ps p
section
variable {K : PySem.W.Frag} {mg : Str → Option Value} {B H : Hp}
theorem RpL.split : ∀ {ds : List D} {k : Nat} {vs : List V} {F : List Addr} {j : Nat} {d : D}, RpL K mg B H k ds vs F → ds[j]? = some d →
    ∃ v F1 Fd F2, vs[j]? = some v ∧ Rp K mg B H k d v Fd ∧ F = F1 ++ Fd ++ F2 ∧
      ∀ (B' H' : Hp) (d' : D) (Fd' : List Addr), Same B B' → (∀ p ∈ F1 ++ F2, ∀ o, H p = some o → H' p = some o) → Rp K mg B' H' k d' v Fd' → RpL K mg B' H' k (ds.set j d') vs (F1 ++ Fd' ++ F2)
  | [], _, _, _, _, _, _, e => by simp at e
  | d0 :: ds, k, _, _, 0, d, h, e => by
    cases h with
    | cons h1 h2 =>
      rename_i v vs F G
      simp at e
      subst e
      refine ⟨v, [], F, G, rfl, h1, by simp, fun B' H' d' Fd' sb hh r => ?_⟩
      simp only [List.set_cons_zero, List.nil_append] at hh ⊢
      exact .cons r (RpL.mono sb _ _ _ _ hh h2)
  | d0 :: ds, k, _, _, j + 1, d, h, e => by
    cases h with
    | cons h1 h2 =>
      rename_i v0 vs F G
      obtain ⟨v, F1, Fd, F2, e1, r, rfl, up⟩ := RpL.split (j := j) (d := d) h2 (by simpa using e)
      refine ⟨v, F ++ F1, Fd, F2, by simpa using e1, r, by simp, fun B' H' d' Fd' sb hh r' => ?_⟩
      have h1' := Rp.mono (H' := H') sb _ _ _ _ (fun p hp => hh p (by simp [hp])) h1
      have h2' := up B' H' d' Fd' sb (fun p hp => hh p (by simp only [List.mem_append] at hp ⊢; rcases hp with hp | hp <;> simp [hp])) r'
      have := RpL.cons h1' h2'
      simpa [List.append_assoc] using this
theorem zip_idx : ∀ {ns : List Str} {vs : List V} {x : Str} {j : Nat} {v : V}, idxF ns x = some j → vs[j]? = some v → ns.length = vs.length → (ns.zip vs).lookup x = some v
  | [], _, _, _, _, h, _, _ => by simp [idxF] at h
  | n :: ns, [], _, _, _, _, _, hl => by simp at hl
  | n :: ns, u :: vs, x, j, v, h, hv, hl => by
    unfold idxF at h
    split at h
    · rename_i e
      cases h
      subst e
      simp at hv
      subst hv
      simp [List.zip_cons_cons, List.lookup]
    · rename_i e
      cases q : idxF ns x with
      | none => rw [q] at h; cases h
      | some i =>
        rw [q] at h
        simp at h
        subst h
        have := zip_idx (ns := ns) (vs := vs) (x := x) (v := v) q (by simpa using hv) (by simpa using hl)
        rw [List.zip_cons_cons, List.lookup]
        have e2 : (x == n) = false := by simpa using fun z => e z.symm
        rw [e2]
        exact this
/-- the list at the end of a path, and how it is changed -/
theorem Rp.focus : ∀ (ps : List Px) {k : Nat} {d : D} {v : V} {F : List Addr} {ds : List D}, Rp K mg B H k d v F → getP ps d = some ds → ps.length < k →
    ∃ p vs G F1 F2, Foll H v ps p ∧ H p = some (.lst vs) ∧ vs.length ≤ sizeLine ∧ RpL K mg B H (k - ps.length - 1) ds vs G ∧ F = F1 ++ (p :: G) ++ F2 ∧
      ∀ (B' H' : Hp) (ds' : List D) (vs' : List V) (G' : List Addr), Same B B' → (∀ q ∈ F1 ++ F2, ∀ o, H q = some o → H' q = some o) → H' p = some (.lst vs') → vs'.length ≤ sizeLine →
        RpL K mg B' H' (k - ps.length - 1) ds' vs' G' → Rp K mg B' H' k (setP ps d ds') v (F1 ++ (p :: G') ++ F2)
  | [], k, d, v, F, ds, r, e, hk => by
    cases r with
    | sh c q =>
      rcases c with rfl | c
      · simp at hk
      · cases d <;> simp [getP, lstOf] at e
        cases c
    | lst q z r =>
      rename_i k p vs ds0 F
      simp [getP, lstOf] at e
      subst e
      refine ⟨p, vs, F, [], [], rfl, q, z, by simpa using r, by simp, fun B' H' ds' vs' G' sb hh hp hz r' => ?_⟩
      simp only [setP, List.nil_append, List.append_nil]
      exact .lst hp hz (by simpa using r')
    | tup q r => simp [getP, lstOf] at e
    | ins q m l r => simp [getP, lstOf] at e
  | p :: ps, k, d, v, F, ds, r, e, hk => by
    unfold getP at e
    cases e1 : stepN d p with
    | none => rw [e1] at e; simp at e
    | some j =>
    rw [e1] at e
    simp only at e
    cases e2 : (kids d)[j]? with
    | none => rw [e2] at e; simp at e
    | some c =>
    rw [e2] at e
    simp only at e
    have es : ∀ ds', setP (p :: ps) d ds' = withKids d ((kids d).set j (setP ps c ds')) := fun ds' => by
      rw [setP, e1]; simp only [e2]
    cases r with
    | sh c' q =>
      rcases c' with rfl | c'
      · simp at hk
      · cases d <;> first | (cases p <;> simp [stepN] at e1; done) | cases c'
    | lst q z r =>
      rename_i k a vs ds0 F
      obtain ⟨w, F1, Fd, F2, ew, rw', rfl, up⟩ := r.split (j := j) (d := c) e2
      obtain ⟨p', vs2, G, G1, G2, fo, hp, hz, rl, rfl, up2⟩ := Rp.focus ps rw' e (by simpa using hk)
      cases p with
      | fl x => simp [stepN] at e1
      | ix i =>
      simp only [stepN] at e1
      have hat : atI vs i = some w := by unfold atI; rw [← r.length, e1]; exact ew
      refine ⟨p', vs2, G, a :: (F1 ++ G1), G2 ++ F2, ⟨a, vs, w, rfl, .inl q, hat, fo⟩, hp, hz, by simpa using rl, by simp, fun B' H' ds' vs' G' sb hh hp' hz' r' => ?_⟩
      rw [es]
      have hin := up2 B' H' ds' vs' G' sb (fun q hq => hh q (by simp only [List.mem_append, List.mem_cons] at hq ⊢; rcases hq with h | h <;> simp [h])) hp' hz' (by simpa using r')
      have := up B' H' _ _ sb (fun q hq => hh q (by simp only [List.mem_append, List.mem_cons] at hq ⊢; rcases hq with h | h <;> simp [h])) hin
      have fin := Rp.lst (k := k) (hh a (by simp) _ q) z this
      simpa [List.append_assoc, kids, withKids] using fin
    | tup q r =>
      rename_i k a vs ds0 F
      obtain ⟨w, F1, Fd, F2, ew, rw', rfl, up⟩ := r.split (j := j) (d := c) e2
      obtain ⟨p', vs2, G, G1, G2, fo, hp, hz, rl, rfl, up2⟩ := Rp.focus ps rw' e (by simpa using hk)
      cases p with
      | fl x => simp [stepN] at e1
      | ix i =>
      simp only [stepN] at e1
      have hat : atI vs i = some w := by unfold atI; rw [← r.length, e1]; exact ew
      refine ⟨p', vs2, G, a :: (F1 ++ G1), G2 ++ F2, ⟨a, vs, w, rfl, .inr q, hat, fo⟩, hp, hz, by simpa using rl, by simp, fun B' H' ds' vs' G' sb hh hp' hz' r' => ?_⟩
      rw [es]
      have hin := up2 B' H' ds' vs' G' sb (fun q hq => hh q (by simp only [List.mem_append, List.mem_cons] at hq ⊢; rcases hq with h | h <;> simp [h])) hp' hz' (by simpa using r')
      have := up B' H' _ _ sb (fun q hq => hh q (by simp only [List.mem_append, List.mem_cons] at hq ⊢; rcases hq with h | h <;> simp [h])) hin
      have fin := Rp.tup (k := k) (hh a (by simp) _ q) this
      simpa [List.append_assoc, kids, withKids] using fin
    | ins q m l r =>
      rename_i k a C dx cn ns vs ds0 F
      obtain ⟨w, F1, Fd, F2, ew, rw', rfl, up⟩ := r.split (j := j) (d := c) e2
      obtain ⟨p', vs2, G, G1, G2, fo, hp, hz, rl, rfl, up2⟩ := Rp.focus ps rw' e (by simpa using hk)
      cases p with
      | ix i => simp [stepN] at e1
      | fl x =>
      simp only [stepN] at e1
      refine ⟨p', vs2, G, a :: (F1 ++ G1), G2 ++ F2, ⟨a, C, dx, _, w, rfl, q, zip_idx e1 ew l, fo⟩, hp, hz, by simpa using rl, by simp, fun B' H' ds' vs' G' sb hh hp' hz' r' => ?_⟩
      rw [es]
      have hin := up2 B' H' ds' vs' G' sb (fun q hq => hh q (by simp only [List.mem_append, List.mem_cons] at hq ⊢; rcases hq with h | h <;> simp [h])) hp' hz' (by simpa using r')
      have := up B' H' _ _ sb (fun q hq => hh q (by simp only [List.mem_append, List.mem_cons] at hq ⊢; rcases hq with h | h <;> simp [h])) hin
      have fin := Rp.ins (k := k) (hh a (by simp) _ q) m l this
      simpa [List.append_assoc, kids, withKids] using fin
theorem RpL.zero : ∀ {ds : List D} {vs : List V} {F : List Addr}, RpL K mg B H 0 ds vs F → F = [] ∧ VwL K mg B ds vs
  | [], _, _, h => by cases h; exact ⟨rfl, .nil⟩
  | d :: ds, _, _, h => by
    cases h with
    | cons h1 h2 =>
      obtain ⟨rfl, w⟩ := RpL.zero h2
      cases h1 with
      | sh c q => exact ⟨rfl, .cons q w⟩
end
section
variable {G : Gb} {H0 H : Hp} {B0 : Zn} {env : Env} {σ : L2.St} {Z : Zn} {Fs : Nat → List Addr}
/-- what slot i owns is changed at p -/
theorem SOk.put {i : Nat} {v v' : Val} {x : V} {p : Addr} {o : HO} {F' : List Addr} (s : SOk G H0 B0 env σ H Z Fs) (e : env[i]? = some (some v)) (ex : σ[i]? = some (some x)) (hp : p ∈ Fs i)
    (r : Rp G.K G.mg (Z v'.2.2) (upd H p o) v'.2.1 v'.1 x F') (nd : F'.Nodup) (sub : ∀ q ∈ F', q ∈ Fs i) :
    SOk G H0 B0 (env.set i (some v')) σ (upd H p o) Z (fun j => if j = i then F' else Fs j) := by
  have hpo := s.out i p hp
  have hi : i < env.length := (List.getElem?_eq_some_iff.mp e).1
  refine ⟨⟨s.zk.t, fun a u q => ?_⟩, fun a u q => ?_, s.b0, s.bf, s.nw, by rw [List.length_set]; exact s.len, fun j w ej => ?_, fun j hj => ?_, fun j => ?_, fun j l hjl q hq => ?_, fun j q hq => ?_⟩
  · rw [upd_ne (ne_of_none q hpo.1)]; exact s.zk.s a u q
  · rw [upd_ne (ne_of_none q hpo.2)]; exact s.h0 a u q
  · by_cases h : j = i
    · subst h
      rw [List.getElem?_set_self hi] at ej
      cases ej
      refine ⟨x, ex, ?_⟩
      rw [if_pos rfl]
      exact r
    · rw [List.getElem?_set_ne (Ne.symm h)] at ej
      obtain ⟨y, ey, ry⟩ := s.sl j w ej
      refine ⟨y, ey, ?_⟩
      rw [if_neg h]
      refine ry.mono (.refl _) _ _ _ _ fun q hq u hu => ?_
      rw [upd_ne (fun z => s.dj j i h q hq (by rw [z]; exact hp))]
      exact hu
  · by_cases h : j = i
    · subst h
      exact absurd (List.getElem?_set_self hi) (hj v')
    · rw [if_neg h]
      exact s.em j fun w ew => hj w (by rw [List.getElem?_set_ne (Ne.symm h)]; exact ew)
  · show (if j = i then F' else Fs j).Nodup
    split
    · exact nd
    · exact s.nd j
  · by_cases h : j = i
    · rw [if_pos h] at hq
      rw [if_neg (fun z => hjl (h.trans z.symm))]
      exact s.dj i l (fun z => hjl (h.trans z)) q (sub q hq)
    · rw [if_neg h] at hq
      by_cases h2 : l = i
      · rw [if_pos h2]
        exact fun z => s.dj j i h q hq (sub q z)
      · rw [if_neg h2]
        exact s.dj j l hjl q hq
  · by_cases h : j = i
    · rw [if_pos h] at hq
      exact s.out i q (sub q hq)
    · rw [if_neg h] at hq
      exact s.out j q hq
/-- a list of shared things at the end of a path -/
theorem SOk.put0 {i : Nat} {d : D} {k : Nat} {nw : Bool} {ps : List Px} {ds : List D} (s : SOk G H0 B0 env σ H Z Fs) (e : env[i]? = some (some (d, k, nw))) (hg : getP ps d = some ds) (hk : k = ps.length + 1) :
    ∃ x p vs, σ[i]? = some (some x) ∧ Foll H x ps p ∧ H p = some (.lst vs) ∧ vs.length ≤ sizeLine ∧ VwL G.K G.mg (Z nw) ds vs ∧
      ∀ (nw' : Bool) (ds' : List D) (vs' : List V), (nw' = true → nw = true) → VwL G.K G.mg (Z nw') ds' vs' → vs'.length ≤ sizeLine → St1 G H0 B0 (env.set i (some (setP ps d ds', k, nw'))) σ (upd H p (.lst vs')) := by
  obtain ⟨x, ex, r⟩ := s.sl i _ e
  obtain ⟨p, vs, G1, F1, F2, fo, hp, hz, rl, eF, up⟩ := Rp.focus ps r hg (by show ps.length < k; omega)
  have hk0 : k - ps.length - 1 = 0 := by omega
  rw [hk0] at rl
  obtain ⟨rfl, w⟩ := rl.zero
  refine ⟨x, p, vs, ex, fo, hp, hz, w, fun nw' ds' vs' hn w' hz' => ?_⟩
  have eF' : Fs i = F1 ++ [p] ++ F2 := eF
  have nd := s.nd i
  rw [eF'] at nd
  have pn : p ∉ F1 ++ F2 := by
    have nd2 : (p :: (F1 ++ F2)).Nodup := (List.perm_middle.nodup_iff).mp (by simpa using nd)
    exact (List.nodup_cons.mp nd2).1
  have r2 := up (Z nw') (upd H p (.lst vs')) ds' vs' [] (nw_up s.zk hn) (fun q hq o h => by rw [upd_ne (fun z => pn (by rw [← z]; exact hq))]; exact h) upd_same hz' (by rw [hk0]; exact w'.rp)
  exact ⟨Z, _, s.put (v := (d, k, nw)) (v' := (setP ps d ds', k, nw')) e ex (by rw [eF']; simp) r2 nd (fun q hq => by rw [eF']; exact hq)⟩
end
end TT

set_option Elab.async false
set_option linter.all false
set_option maxRecDepth 100000
set_option maxHeartbeats 1000000
/-! TM: statements over plain data. -/
namespace TT
open PySem L2
inductive Fl where
  | nx (e : Env) | rt (v : Val)
def sxI (env : Env) : Sx → Res Int
  | .v i => match env[i]? with
    | some (some (.int j, _, _)) => .ok j
    | _ => .stuck
  | .c i => .ok i
def plX (env : Env) : Pl → Res Px
  | .ix s => match sxI env s with
    | .ok i => .ok (.ix i)
    | _ => .stuck
  | .fl x => .ok (.fl x)
def pathX (env : Env) : List Pl → Res (List Px)
  | [] => .ok []
  | p :: ps => match plX env p, pathX env ps with
    | .ok q, .ok qs => .ok (q :: qs)
    | _, _ => .stuck
/-- the list of shared things at slot i, path px, changed -/
def withL (env : Env) (i : Nat) (px : List Px) (f : List D → Res (List D × Bool)) : Res Env :=
  match env[i]? with
  | some (some (d, k, nw)) => if k = px.length + 1 then (match getP px d with
    | some ds => (match f ds with
      | .ok (ds', b) => if ds'.length ≤ LIM then .ok (env.set i (some (setP px d ds', k, nw && b))) else .stuck
      | _ => .stuck)
    | none => .stuck) else .stuck
  | _ => .stuck
def fApp (v : Val) (ds : List D) : Res (List D × Bool) := .ok (ds ++ [v.1], nwOf v)
def fExt (v : Val) (ds : List D) : Res (List D × Bool) := match v.1 with
  | .lst ys => .ok (ds ++ ys, v.2.2)
  | _ => .stuck
def fIns (j : Val) (v : Val) (ds : List D) : Res (List D × Bool) := match j.1 with
  | .int n => if 0 ≤ n ∧ n < 2 ^ 63 then .ok (ds.take n.toNat ++ [v.1] ++ ds.drop n.toNat, nwOf v) else .stuck
  | _ => .stuck
def fIns2 : List Val → List D → Res (List D × Bool)
  | [n, v] => fIns n v
  | _ => fun _ => .stuck
def fSet (j : Val) (v : Val) (ds : List D) : Res (List D × Bool) := match j.1 with
  | .int n => (match ixN ds.length n with
    | some m => .ok (ds.set m v.1, nwOf v)
    | none => .stuck)
  | _ => .stuck
def fAug (op : Operator) (j : Val) (v : Val) (ds : List D) : Res (List D × Bool) := match j.1, v.1 with
  | .int n, .int b => (match ixN ds.length n with
    | some m => (match ds[m]?, op with
      | some (.int a), .Add => .ok (ds.set m (.int (a + b)), true)
      | some (.int a), .Sub => .ok (ds.set m (.int (a - b)), true)
      | _, _ => .stuck)
    | none => .stuck)
  | _, _ => .stuck
def fPop (ds : List D) : Res (List D × Bool) := if ds.isEmpty then .stuck else .ok (ds.dropLast, true)
def fRev (ds : List D) : Res (List D × Bool) := .ok (ds.reverse, true)
/-- what is popped, as a thing shared -/
def popV (env : Env) (i : Nat) (px : List Px) : Res Val :=
  match env[i]? with
  | some (some (d, _, nw)) => (match getP px d with
    | some ds => (match ds.getLast? with
      | some e => .ok (e, 0, nw)
      | none => .stuck)
    | none => .stuck)
  | _ => .stuck
def forL (body : Env → Res Fl) (t : Tg) : List Val → Env → Res Fl
  | [], env => .ok (.nx env)
  | x :: xs, env => do
    let e ← setT env t x
    let r ← body e
    match r with
    | .nx e2 => forL body t xs e2
    | .rt v => .ok (.rt v)
def whileL (test : Env → Res Bool) (body : Env → Res Fl) : Nat → Env → Res Fl
  | 0, _ => .stuck
  | n + 1, env => do
    let b ← test env
    if b then do
      let r ← body env
      match r with
      | .nx e2 => whileL test body n e2
      | .rt v => .ok (.rt v)
    else .ok (.nx env)
def setMany (env : Env) : List Nat → List Val → Env
  | i :: is, v :: vs => setMany (env.set i (some v)) is vs
  | _, _ => env
section
variable (Γ : Str → List D → Res Val) (gl : Str → Option D) (fu : Nat)
mutual
def execS : CS → Env → Res Fl
  | .asg t e, env => do
    let v ← evalE Γ gl e env
    let e2 ← setT (keep env e.vars (shut v.2.1 v.1)) t v
    .ok (.nx e2)
  | .par is es, env => do
    let vs ← evalEs Γ gl es env
    if vs.length = is.length then .ok (.nx (setMany (keep env es.vars (vs.all fun v => shut v.2.1 v.1)) is vs)) else .stuck
  | .aug i op e, env => do
    let x ← getV env i
    let y ← evalE Γ gl e env
    match x.1, y.1, op with
    | .int a, .int b, .Add => .ok (.nx (env.set i (some (.int (a + b), 0, true))))
    | .int a, .int b, .Sub => .ok (.nx (env.set i (some (.int (a - b), 0, true))))
    | _, _, _ => .stuck
  | .setI i ps j e, env => do
    let v ← evalE Γ gl e env
    let env2 := keep env e.vars (shut v.2.1 v.1)
    let px ← pathX env2 ps
    let n ← (evalE Γ gl j env2).nx
    let e3 ← withL env2 i px (fSet n v)
    .ok (.nx e3)
  | .augI i ps j op e, env => do
    let px ← pathX env ps
    let n ← (evalE Γ gl j env).nx
    let v ← (evalE Γ gl e env).nx
    let e3 ← withL env i px (fAug op n v)
    .ok (.nx e3)
  | .app i ps e, env => do
    let px ← pathX env ps
    let v ← (evalE Γ gl e env).nx
    let e3 ← withL (keep env e.vars (shut v.2.1 v.1)) i px (fApp v)
    .ok (.nx e3)
  | .ext i ps e, env => do
    let px ← pathX env ps
    let v ← (evalE Γ gl e env).nx
    let e3 ← withL (keep env e.vars (shut v.2.1 v.1)) i px (fExt v)
    .ok (.nx e3)
  | .insr i ps j e, env => do
    let px ← pathX env ps
    let vs ← (evalEs Γ gl (.cons j (.cons e .nil)) env).nx
    let e3 ← withL (keep env (CEs.vars (.cons j (.cons e .nil))) (vs.all fun v => shut v.2.1 v.1)) i px (fIns2 vs)
    .ok (.nx e3)
  | .pop t i ps, env => do
    let px ← pathX env ps
    let v ← popV env i px
    let e3 ← withL env i px fPop
    match t with
    | some j => .ok (.nx (e3.set j (some v)))
    | none => .ok (.nx e3)
  | .rev i ps, env => do
    let px ← pathX env ps
    let e3 ← withL env i px fRev
    .ok (.nx e3)
  | .par2 i j a b x y, env => do
    let v ← evalE Γ gl (.tup (.cons x (.cons y .nil))) env
    match v.1 with
    | .tup [p, q] => if p.flat && q.flat then do
        let n ← (evalE Γ gl a env).nx
        let e2 ← withL env i [] (fSet n (p, 0, true))
        let m ← (evalE Γ gl b e2).nx
        let e3 ← withL e2 j [] (fSet m (q, 0, true))
        .ok (.nx e3) else .stuck
    | _ => .stuck
  | .ife c a b, env => do
    let r ← evalE Γ gl c env >>= boolOf
    if r then execSs a env else execSs b env
  | .fors t k es b, env => do
    let vs ← evalEs Γ gl es env
    let its ← itemsOf k vs
    forL (execSs b) t its (keep env es.vars false)
  | .whl c b, env => whileL (fun e => evalE Γ gl c e >>= boolOf) (execSs b) fu env
  | .ret (.var i), env => do
    let v ← getV env i
    .ok (.rt v)
  | .ret e, env => do
    let v ← evalE Γ gl e env
    .ok (.rt v)
  | .retN, _ => .ok (.rt (.non, 0, true))
  | .expr e, env => do
    let v ← evalE Γ gl e env
    .ok (.nx (keep env e.vars (shut v.2.1 v.1)))
  | .pass, env => .ok (.nx env)
  | .rais c, _ => .exc c
def execSs : CSs → Env → Res Fl
  | .nil, env => .ok (.nx env)
  | .cons s ss, env => do
    let r ← execS s env
    match r with
    | .nx e2 => execSs ss e2
    | .rt v => .ok (.rt v)
end
/-- a def's run -/
def runD (body : CSs) (slots : Nat) (ds : List D) : Res Val := do
  let r ← execSs Γ gl fu body (ds.map (fun d => some (d, 0, false)) ++ List.replicate (slots - ds.length) none)
  match r with
  | .nx _ => .ok (.non, 0, true)
  | .rt v => .ok v
end

/-! ### what is wanted behind a statement -/
section
variable (G : Gb)
def Ret (H0 : Hp) (B0 : Zn) (v : Val) (x : V) (H' : Hp) : Prop := ∃ Z' F, Gr H0 H' B0 Z' ∧ F.Nodup ∧ (∀ p ∈ F, H0 p = none ∧ Z' false p = none) ∧ Rp G.K G.mg (Z' v.2.2) H' v.2.1 v.1 x F
def OutS (H0 : Hp) (B0 : Zn) (r : Res Fl) (D : Ends) : Prop := match r with
  | .ok (.nx env) => ∀ σ' H', St1 G H0 B0 env σ' H' → D.nx σ' H'
  | .ok (.rt v) => ∀ x H', Ret G H0 B0 v x H' → D.rt x H'
  | .exc c => Exc G H0 c
  | .stuck => False
def tS (fu : Nat) (c : CS) : TS := fun D σ H => ∃ H0 B0 env, St1 G H0 B0 env σ H ∧ OutS G H0 B0 (execS G.Γ G.gl fu c env) D
def tSs (fu : Nat) (c : CSs) : TS := fun D σ H => ∃ H0 B0 env, St1 G H0 B0 env σ H ∧ OutS G H0 B0 (execSs G.Γ G.gl fu c env) D
end
section
variable {G : Gb} {H0 H H' : Hp} {B0 : Zn} {env : Env} {σ : L2.St} {Z Z' : Zn} {Fs : Nat → List Addr} {X : Cx} {fu : Nat} {pos : Pos}
theorem zex_nil : zex Z H env Fs [] = Z := by
  funext n a
  unfold zex
  rw [if_neg]
  rintro ⟨i, hi, _⟩
  cases hi
theorem SOk.grow0 (s : SOk G H0 B0 env σ H Z Fs) (g : Gr H H' Z Z') : SOk G H0 B0 env σ H' Z' Fs := by
  have := s.grow [] (H' := H') (Z' := Z') (by rw [zex_nil]; exact g)
  rw [zcut_none (by intro i hi; cases hi)] at this
  exact this
theorem SOk.gr (s : SOk G H0 B0 env σ H Z Fs) : Gr H0 H B0 Z := by
  refine ⟨s.h0, s.b0, s.zk, fun n a h1 h2 => ?_⟩
  cases n with
  | false => exact s.bf a h1 h2
  | true =>
    cases q : H0 a with
    | none => rfl
    | some o => exact absurd (s.nw a (by rw [q]; exact fun z => nomatch z)) h2
/-- the zones as the new ground -/
theorem SOk.rebase (s : SOk G H0 B0 env σ H Z Fs) : SOk G H0 Z env σ H Z Fs :=
  ⟨s.zk, s.h0, fun _ => .refl _, fun a h1 h2 => absurd h1 h2, s.nw, s.len, s.sl, s.em, s.nd, s.dj, s.out⟩
theorem SOk.debase {env2 : Env} {σ2 : L2.St} {H2 : Hp} {Z2 : Zn} {Fs2 : Nat → List Addr} (s : SOk G H0 B0 env σ H Z Fs) (s2 : SOk G H0 Z env2 σ2 H2 Z2 Fs2) : SOk G H0 B0 env2 σ2 H2 Z2 Fs2 :=
  ⟨s2.zk, s2.h0, fun n => (s.b0 n).trans (s2.b0 n), fun a h1 h2 => by
    by_cases q : Z false a = none
    · exact s2.bf a q h2
    · exact s.bf a h1 q, s2.nw, s2.len, s2.sl, s2.em, s2.nd, s2.dj, s2.out⟩
theorem Ret.debase {v : Val} {x : V} (s : SOk G H0 B0 env σ H Z Fs) (r : Ret G H0 Z v x H') : Ret G H0 B0 v x H' := by
  obtain ⟨Z', F, g, nd, fr, rp⟩ := r
  refine ⟨Z', F, ⟨g.h, fun n => (s.b0 n).trans (g.z n), g.k, fun n a h1 h2 => ?_⟩, nd, fr, rp⟩
  by_cases q : Z n a = none
  · exact g.f n a q h2
  · exact s.gr.f n a h1 q
theorem OutS.rebase {r : Res Fl} {D : Ends} (s : SOk G H0 B0 env σ H Z Fs) (o : OutS G H0 B0 r D) : OutS G H0 Z r D := by
  cases r with
  | ok f =>
    cases f with
    | nx e => exact fun σ' H' ⟨Z2, Fs2, s2⟩ => o σ' H' ⟨Z2, Fs2, s.debase s2⟩
    | rt v => exact fun x H' r => o x H' (r.debase s)
  | exc c => exact o
  | stuck => exact o
theorem Exc.h0 {c : Str} (s : SOk G H0 B0 env σ H Z Fs) (h : Exc G H0 c) : Exc G H c := Exc.step s.h0 h

/-! ### blocks, tests -/
theorem pss_nilD : PSs X [] (tSs G fu .nil) := pss_nil.imp fun D σ H ⟨H0, B0, env, st, o⟩ => by
  simp only [execSs] at o
  exact o σ H st
theorem pss_consD {a : Stmt} {b : List Stmt} {ca : CS} {cb : CSs} (h1 : PS X a (tS G fu ca)) (h2 : PSs X b (tSs G fu cb)) : PSs X (a :: b) (tSs G fu (.cons ca cb)) := by
  refine (pss_cons h1 h2).imp fun D σ H ⟨H0, B0, env, st, o⟩ => ?_
  simp only [execSs] at o
  refine ⟨H0, B0, env, st, ?_⟩
  cases e : execS G.Γ G.gl fu ca env with
  | exc c => rw [e] at o; exact o
  | stuck => rw [e] at o; exact o
  | ok f =>
    rw [e] at o
    cases f with
    | nx e2 => exact fun σ' H' st' => ⟨H0, B0, e2, st', o⟩
    | rt v => exact o
theorem ps_passD : PS X (.Pass pos) (tS G fu .pass) := ps_pass.imp fun D σ H ⟨H0, B0, env, st, o⟩ => by
  simp only [execS] at o
  exact o σ H st
theorem ps_docD {x : Str} {j : Nat} {p p2 : Pos} : PS X (.Expr (.Constant (.str x) j p) p2) (tS G fu .pass) := ps_doc.imp fun D σ H ⟨H0, B0, env, st, o⟩ => by
  simp only [execS] at o
  exact o σ H st
theorem ps_ifD {c : Expr} {a b : List Stmt} {cc : CE} {ca cb : CSs} (hc : PT X c (tDT G cc)) (ha : PSs X a (tSs G fu ca)) (hb : PSs X b (tSs G fu cb)) : PS X (.If c a b pos) (tS G fu (.ife cc ca cb)) := by
  refine (ps_if hc ha hb).imp fun D σ H ⟨H0, B0, env, ⟨Z, Fs, s⟩, o⟩ => ?_
  simp only [execS] at o
  refine sok_tDT s ?_
  cases e : evalE G.Γ G.gl cc env >>= boolOf with
  | exc c => rw [e] at o; exact Exc.h0 s o
  | stuck => rw [e] at o; exact o
  | ok b =>
    rw [e] at o
    intro H' _ st
    cases b with
    | true => rw [if_pos rfl]; exact ⟨H0, B0, env, st, o⟩
    | false => rw [if_neg Bool.false_ne_true]; exact ⟨H0, B0, env, st, o⟩
theorem ps_exprD {e : Expr} {c : CE} (he : PE X e (tD G c)) (hs : swapsWith e none pos.line X.env = pure false) : PS X (.Expr e pos) (tS G fu (.expr c)) := by
  refine (ps_expr he hs).imp fun D σ H ⟨H0, B0, env, ⟨Z, Fs, s⟩, o⟩ => ?_
  simp only [execS] at o
  refine sok_tD s ?_
  cases e : evalE G.Γ G.gl c env with
  | exc c => rw [e] at o; exact Exc.h0 s o
  | stuck => rw [e] at o; exact o
  | ok v =>
    rw [e] at o
    intro x H' _ ⟨Z', Fs', s'⟩
    obtain ⟨Fs2, s2, _⟩ := s'.drop (by rw [keep_len]; exact s.len)
    exact o σ H' ⟨Z', Fs2, s2⟩
/-! ### return -/
theorem ret_of {v : Val} {x : V} {i : Nat} (s : SOk G H0 B0 env σ H Z Fs) (e : env[i]? = some (some v)) (ex : σ[i]? = some (some x)) : Ret G H0 B0 v x H := by
  obtain ⟨y, ey, r⟩ := s.sl i v e
  rw [ex] at ey
  cases ey
  exact ⟨Z, Fs i, s.gr, s.nd i, fun p hp => ⟨(s.out i p hp).2, (s.out i p hp).1⟩, r⟩
theorem last_get {α : Type} {l : List α} {a : α} : (l ++ [a])[l.length]? = some a := by
  rw [List.getElem?_append_right (Nat.le_refl _), Nat.sub_self]; rfl
theorem ps_retD {e : Expr} {c : CE} (he : PE X e (tD G c)) (hv : ∀ i, c ≠ .var i) : PS X (.Return (some e) pos) (tS G fu (.ret c)) := by
  refine (ps_ret he).imp fun D σ H ⟨H0, B0, env, ⟨Z, Fs, s⟩, o⟩ => ?_
  have o1 : OutS G H0 B0 (evalE G.Γ G.gl c env >>= fun v => .ok (.rt v)) D := by
    cases c <;> first | exact absurd rfl (hv _) | (simp only [execS] at o; exact o)
  refine sok_tD s ?_
  cases e : evalE G.Γ G.gl c env with
  | exc c => rw [e] at o1; exact Exc.h0 s o1
  | stuck => rw [e] at o1; exact o1
  | ok v =>
    rw [e] at o1
    intro x H' _ ⟨Z', Fs', s'⟩
    refine o1 x H' (ret_of s' (i := (keep env c.vars (shut v.2.1 v.1)).length) last_get ?_)
    rw [keep_len, s.len]
    exact last_get
theorem ps_retVD {i : Nat} {x : Str} {p : Pos} (hN : X.N[i]? = some x) (hv : Vis X.env.scope x) (hd : (x == ("__debug__" : Str)) = false) (hcd : (x == ("__classdict__" : Str)) = false) : PS X (.Return (some (.Name x p)) pos) (tS G fu (.ret (.var i))) := by
  refine (ps_ret (pe_var hN hv hd hcd)).imp fun D σ H ⟨H0, B0, env, ⟨Z, Fs, s⟩, o⟩ => ?_
  simp only [execS, getV] at o
  cases e : env[i]? with
  | none => rw [e] at o; exact o.elim
  | some w =>
    cases w with
    | none => rw [e] at o; exact o.elim
    | some v =>
      rw [e] at o
      obtain ⟨y, ey, r⟩ := s.sl i v e
      exact ⟨y, ey, o y H (ret_of s e ey)⟩
theorem ps_retND : PS X (.Return none pos) (tS G fu .retN) := ps_retN.imp fun D σ H ⟨H0, B0, env, ⟨Z, Fs, s⟩, o⟩ => by
  simp only [execS] at o
  exact o .non H ⟨Z, [], s.gr, List.nodup_nil, (fun p hp => nomatch hp), rp_flat rfl .non⟩
end
end TT

set_option Elab.async false
set_option linter.all false
set_option maxRecDepth 100000
set_option maxHeartbeats 1000000
/-! TN: assignments, mutations. -/
namespace TT
open PySem L2
section
variable {G : Gb} {H0 H H' : Hp} {B0 : Zn} {env : Env} {σ : L2.St} {Z Z' : Zn} {Fs : Nat → List Addr} {X : Cx} {fu : Nat} {pos : Pos}
theorem SOk.setsA {vs : List Val} {xs : List V} {F : List Addr} (r : RpA G Z H vs xs F) : ∀ (is : List Nat) {env : Env} {σ : L2.St} {Fs : Nat → List Addr}, SOk G H0 B0 env σ H Z Fs → is.length = vs.length → F.Nodup → (∀ p ∈ F, Z false p = none ∧ H0 p = none ∧ ∀ i, p ∉ Fs i) →
    ∃ Fs2, SOk G H0 B0 (setMany env is vs) (setS σ is xs) H Z Fs2 := by
  induction r with
  | nil =>
    intro is env σ Fs s hl nd fr
    cases is with
    | nil => exact ⟨Fs, s⟩
    | cons => simp at hl
  | cons a b ih =>
    rename_i v vs x xs F F2
    intro is env σ Fs s hl nd fr
    cases is with
    | nil => simp at hl
    | cons i is =>
      have nd1 := List.nodup_append.mp nd
      have s1 := s.push a nd1.1 fun p hp => fr p (by simp [hp])
      obtain ⟨Fs2, s2, sub⟩ := s1.move (i := i)
      refine ih is s2 (by simpa using hl) nd1.2.1 fun p hp => ⟨(fr p (by simp [hp])).1, (fr p (by simp [hp])).2.1, fun j hj => ?_⟩
      obtain ⟨l, hl2⟩ := sub j p hj
      split at hl2
      · exact nd1.2.2 p hl2 p hp rfl
      · exact (fr p (by simp [hp])).2.2 l hl2
theorem setM_eq : ∀ (is : List Nat) (ds : List D) (env : Env) (k : Nat) (nw : Bool), setM env (is.zip ds) k nw = setMany env is (ds.map fun d => (d, k, nw))
  | [], _, _, _, _ => rfl
  | _ :: _, [], _, _, _ => rfl
  | i :: is, d :: ds, env, k, nw => setM_eq is ds _ k nw
theorem RpL.rpA {k : Nat} {nw : Bool} : ∀ {ds : List D} {xs : List V} {F : List Addr}, RpL G.K G.mg (Z nw) H k ds xs F → RpA G Z H (ds.map fun d => (d, k, nw)) xs F
  | [], _, _, h => by cases h; exact .nil
  | d :: ds, _, _, h => by
    cases h with
    | cons h1 h2 => exact .cons (v := (d, k, nw)) h1 (RpL.rpA h2)
/-- a, b = .. -/
theorem asg_read {t : Tg} {c : CE} {D : Ends} (hK : G.K = X.K) (h : tS G fu (.asg t c) D σ H) : tAsg (tD G c) (gT X.K t) D σ H := by
  obtain ⟨H0, B0, env, ⟨Z, Fs, s⟩, o⟩ := h
  simp only [execS] at o
  refine sok_tD s ?_
  cases e : evalE G.Γ G.gl c env with
  | exc c => rw [e] at o; exact Exc.h0 s o
  | stuck => rw [e] at o; exact o
  | ok v =>
    rw [e] at o
    simp only [Res.bind_ok] at o
    intro x H' _ ⟨Z', Fs', s'⟩
    have len2 : (keep env c.vars (shut v.2.1 v.1)).length = σ.length := by rw [keep_len]; exact s.len
    cases t with
    | one i =>
      simp only [setT, Res.bind_ok] at o
      obtain ⟨Fs2, s2, _⟩ := s'.move (i := i)
      exact o _ H' ⟨Z', Fs2, s2⟩
    | many is =>
      obtain ⟨d, k, nw⟩ := v
      cases d <;> simp only [setT, Res.bind_stuck] at o <;> first | exact o.elim | skip
      rename_i ds
      split at o
      rotate_left
      · exact o.elim
      rename_i hl
      simp only [Res.bind_ok] at o
      obtain ⟨y, ey, r⟩ := s'.sl _ _ last_get
      rw [len2, last_get] at ey
      have ey : some x = some y := Option.some.inj ey
      cases ey
      have go : ∀ (a : Addr) (vs : List V) (k2 : Nat) (F : List Addr), x = .ref a → H' a = some (.tup vs) → RpL G.K G.mg (Z' nw) H' k2 ds vs F → k - 1 = k2 → F.Nodup → (∀ p ∈ F, p ∈ Fs' (keep env c.vars (shut k (.tup ds))).length) → gT X.K (.many is) x σ H' D.nx := by
        intro a vs k2 F ex ha rl hk nd sub
        have hl2 : vs.length = is.length := by rw [← rl.length]; exact hl
        obtain ⟨Fs2, s2, sub2⟩ := s'.drop len2
        obtain ⟨Fs3, s3⟩ := SOk.setsA rl.rpA is s2 (by simpa using hl.symm) nd fun p hp => ⟨(s'.out _ p (sub p hp)).1, (s'.out _ p (sub p hp)).2, fun j hj => by
          obtain ⟨hj1, hj2⟩ := sub2 j p hj
          exact s'.dj j _ (Nat.ne_of_lt hj1) p hj2 (sub p hp)⟩
        rw [← setM_eq, ← hk] at s3
        exact ⟨a, vs, ex, .of ha, hl2, gTs_ok is vs _ _ _ hl2 (o _ H' ⟨Z', Fs3, s3⟩)⟩
      cases hr : Fs' (keep env c.vars (shut k (.tup ds))).length with
      | nil =>
        rw [hr] at r
        cases r with
        | sh cc q =>
          obtain ⟨a, vs, rfl, ha, rv⟩ := vw_tup q
          rcases cc with hk | hk
          · have hk : k = 0 := hk
            exact go a vs 0 [] rfl (s'.zk.h _ _ _ ha) rv.rp (by rw [hk]) List.nodup_nil (fun p hp => nomatch hp)
          · cases hk
      | cons p0 F0 =>
        have nd := s'.nd (keep env c.vars (shut k (.tup ds))).length
        have hr' := hr
        rw [hr] at r nd
        generalize hkk : ((.tup ds, k, nw) : Val).2.1 = kk at r
        have hkk : k = kk := hkk
        cases r with
        | tup ha rl =>
          exact go _ _ _ F0 rfl ha rl (by rw [hkk]; rfl) (List.nodup_cons.mp nd).2 (fun p hp => by rw [hr]; exact List.mem_cons_of_mem _ hp)
/-- values laid into the zones -/
theorem SOk.layV {d : D} {k : Nat} {nw : Bool} {x : V} {F : List Addr} (s : SOk G H0 B0 env σ H Z Fs) (r : Rp G.K G.mg (Z nw) H k d x F) (fr : ∀ p ∈ F, Z false p = none ∧ H0 p = none ∧ ∀ i, p ∉ Fs i) :
    SOk G H0 B0 env σ H (zlay Z H F nw) Fs ∧ Vw G.K G.mg (zlay Z H F nw nw) d x ∧ ∀ n, Same (Z n) (zlay Z H F nw n) := by
  have g2 := s.gr.lay (F := F) (nw := nw) fun p hp => ⟨(fr p hp).2.1, (fr p hp).1⟩
  have zs : ∀ n, Same (Z n) (zlay Z H F nw n) := zlay_same s.zk fun p hp => (fr p hp).1
  refine ⟨⟨g2.k, g2.h, g2.z, g2.f false, fun a ha => ?_, s.len, fun i v e => ?_, s.em, s.nd, s.dj, fun i p hp => ⟨?_, (s.out i p hp).2⟩⟩, Rp.lay (fun p hp => (fr p hp).1) s.zk r, zs⟩
  · cases q : zlay Z H F nw true a with
    | none => rfl
    | some o =>
      have b : B0 true a = none := by
        cases q2 : B0 true a with
        | none => rfl
        | some u =>
          have := s.nw a ha
          rw [s.b0 true a u q2] at this
          cases this
      exact absurd (g2.f true a b (by rw [q]; exact fun z => nomatch z)) ha
  · obtain ⟨x, ex, r⟩ := s.sl i v e
    exact ⟨x, ex, r.mono (zs _) _ _ _ _ fun p _ o q => q⟩
  · unfold zlay
    rw [if_neg (fun h => (fr p h.1).2.2 i hp)]
    exact (s.out i p hp).1
theorem SOk.layA {vs : List Val} {xs : List V} {F : List Addr} (r : RpA G Z H vs xs F) : SOk G H0 B0 env σ H Z Fs → F.Nodup → (∀ p ∈ F, Z false p = none ∧ H0 p = none ∧ ∀ i, p ∉ Fs i) →
    ∃ Z', SOk G H0 B0 env σ H Z' Fs ∧ VwA G Z' vs xs ∧ ∀ n, Same (Z n) (Z' n) := by
  intro s nd fr
  generalize hF : F = F0 at r
  induction vs generalizing Z xs F0 F with
  | nil => cases r; exact ⟨Z, s, .nil, fun _ => .refl _⟩
  | cons v vs ih =>
    cases r with
    | cons a b =>
      rename_i x xs F1 F2
      subst hF
      have nd1 := List.nodup_append.mp nd
      obtain ⟨s1, w, zs⟩ := s.layV a fun p hp => fr p (by simp [hp])
      obtain ⟨Z2, s2, w2, zs2⟩ := ih (F := F2) (F0 := F2) s1 nd1.2.1 (fun p hp => ⟨by
        unfold zlay
        rw [if_neg (fun h => nd1.2.2 p h.1 p hp rfl)]
        exact (fr p (by simp [hp])).1, (fr p (by simp [hp])).2⟩) rfl (RpA.mono zs (.refl _) b)
      exact ⟨Z2, s2, .cons (Vw.mono (zs2 _) _ _ w) w2, fun n => (zs n).trans (zs2 n)⟩
theorem SOk.afterA {S : List Nat} {vs : List Val} {xs : List V} {F : List Addr} (s : SOk G H0 B0 env σ H Z Fs) (g : Gr H H' (zex Z H env Fs S) Z') (nd : F.Nodup) (fr : ∀ p ∈ F, H p = none ∧ Z' false p = none) (rp : RpA G Z' H' vs xs F) :
    ∃ Z2 Fs2, SOk G H0 B0 (keep env S (vs.all fun v => TT.shut v.2.1 v.1)) σ H' Z2 Fs2 ∧ RpA G Z2 H' vs xs F ∧ ∀ p ∈ F, Z2 false p = none ∧ H0 p = none ∧ ∀ i, p ∉ Fs2 i := by
  obtain ⟨Z2, Fs2, s2, f1, f2, f3⟩ := s.after (sh := vs.all fun v => TT.shut v.2.1 v.1) g
  refine ⟨Z2, Fs2, s2, ?_, fun p hp => ⟨f2 p (fr p hp).2, s.h0.free (fr p hp).1, f1 p (fr p hp).1⟩⟩
  cases q : (vs.all fun v => TT.shut v.2.1 v.1) with
  | true => exact RpA.shut q rp
  | false => rw [f3 q]; exact rp
theorem sok_tA0 {c : CEs} {Q : List V → Hp → Prop} (s : SOk G H0 B0 env σ H Z Fs)
    (h : match evalEs G.Γ G.gl c env with | .ok vs => ∀ xs H' Z2 Fs2 F, Same H H' → SOk G H0 B0 (keep env c.vars (vs.all fun v => shut v.2.1 v.1)) σ H' Z2 Fs2 → RpA G Z2 H' vs xs F → F.Nodup → (∀ p ∈ F, Z2 false p = none ∧ H0 p = none ∧ ∀ i, p ∉ Fs2 i) → Q xs H' | .exc e => Exc G H e | .stuck => False) : tA G c σ H Q := by
  refine ⟨_, env, zex_k s c.vars, zex_eo s c.vars, ?_⟩
  cases e : evalEs G.Γ G.gl c env with
  | exc c => rw [e] at h; exact h
  | stuck => rw [e] at h; exact h
  | ok vs =>
    rw [e] at h
    intro xs H' Z' F g nd fr rp
    obtain ⟨Z2, Fs2, s2, rp2, fr2⟩ := s.afterA g nd fr rp
    exact h xs H' Z2 Fs2 F g.h s2 rp2 nd fr2
/-- the arguments' values as shared things -/
theorem sok_tAv {c : CEs} {Q : List V → Hp → Prop} (s : SOk G H0 B0 env σ H Z Fs)
    (h : match evalEs G.Γ G.gl c env with | .ok vs => ∀ xs H' Z2 Fs2, Same H H' → SOk G H0 B0 (keep env c.vars (vs.all fun v => shut v.2.1 v.1)) σ H' Z2 Fs2 → VwA G Z2 vs xs → Q xs H' | .exc e => Exc G H e | .stuck => False) : tA G c σ H Q := by
  refine sok_tA0 s ?_
  cases e : evalEs G.Γ G.gl c env with
  | exc c => rw [e] at h; exact h
  | stuck => rw [e] at h; exact h
  | ok vs =>
    rw [e] at h
    intro xs H' Z2 Fs2 F hh s2 rp nd fr
    obtain ⟨Z3, s3, w, _⟩ := SOk.layA rp s2 nd fr
    exact h xs H' Z3 Fs2 hh s3 w
theorem sok_tDv {c : CE} {Q : V → Hp → Prop} (s : SOk G H0 B0 env σ H Z Fs)
    (h : match evalE G.Γ G.gl c env with | .ok v => ∀ x H' Z2 Fs2, Same H H' → SOk G H0 B0 (keep env c.vars (shut v.2.1 v.1)) σ H' Z2 Fs2 → Vw G.K G.mg (Z2 v.2.2) v.1 x → Q x H' | .exc e => Exc G H e | .stuck => False) : tD G c σ H Q := by
  refine ⟨_, env, zex_k s c.vars, zex_eo s c.vars, ?_⟩
  cases e : evalE G.Γ G.gl c env with
  | exc c => rw [e] at h; exact h
  | stuck => rw [e] at h; exact h
  | ok v =>
    rw [e] at h
    intro x H' Z' F g nd fr rp
    have rpA : RpA G Z' H' [v] [x] F := by
      have := RpA.cons rp RpA.nil
      rw [List.append_nil] at this
      exact this
    obtain ⟨Z2, Fs2, s2, rp2, fr2⟩ := s.afterA g nd fr rpA
    obtain ⟨Z3, s3, w, _⟩ := SOk.layA rp2 s2 nd fr2
    obtain ⟨y, ey, wy⟩ := w.one
    cases ey
    have hs : ([v].all fun v => TT.shut v.2.1 v.1) = TT.shut v.2.1 v.1 := by simp
    rw [hs] at s3
    exact h x H' Z3 Fs2 g.h s3 wy
theorem zcut_same (s : SOk G H0 B0 env σ H Z Fs) {S : List Nat} (g : Gr H H' (zex Z H env Fs S) Z') (n : Bool) : Same (Z n) (zcut Z' Fs S n) := fun a o e => by
  unfold zcut
  rw [if_neg]
  · exact g.z n a o (zex_z s S n a o e)
  · rintro ⟨i, _, hp⟩
    have := (s.out i a hp).1
    rw [s.zk.any n a o e] at this
    cases this
/-- an int's value -/
theorem sok_tDi {c : CE} {Q : V → Hp → Prop} (s : SOk G H0 B0 env σ H Z Fs)
    (h : match evalE G.Γ G.gl c env with | .ok v => ∃ n, v.1 = .int n ∧ ∀ H' Z', Same H H' → (∀ n, Same (Z n) (Z' n)) → SOk G H0 B0 env σ H' Z' Fs → Q (.int n) H' | .exc e => Exc G H e | .stuck => False) : tD G c σ H Q := by
  refine ⟨_, env, zex_k s c.vars, zex_eo s c.vars, ?_⟩
  cases e : evalE G.Γ G.gl c env with
  | exc c => rw [e] at h; exact h
  | stuck => rw [e] at h; exact h
  | ok v =>
    rw [e] at h
    obtain ⟨n, ev, h⟩ := h
    intro x H' Z' F g nd fr rp
    have f : v.1.flat = true := by rw [ev]; rfl
    obtain ⟨_, w⟩ := rp.flat_inv f
    rw [ev] at w
    have ex := vw_int w
    subst ex
    exact h H' _ g.h (zcut_same s g) (s.grow c.vars g)

/-! ### paths -/
def PlOk (σ : L2.St) : List Pl → List Px → Prop
  | [], [] => True
  | .ix (.v j) :: ps, .ix n :: px => σ[j]? = some (some (.int n)) ∧ PlOk σ ps px
  | .ix (.c m) :: ps, .ix n :: px => m = n ∧ PlOk σ ps px
  | .fl x :: ps, .fl y :: px => x = y ∧ PlOk σ ps px
  | _, _ => False
theorem PlOk.snoc {q : Pl} : ∀ {ps : List Pl} {pxx : List Px}, PlOk σ (ps ++ [q]) pxx → ∃ px x, pxx = px ++ [x] ∧ PlOk σ ps px ∧ PlOk σ [q] [x]
  | [], pxx, h => by
    cases pxx with
    | nil => cases q with
      | ix s => cases s <;> exact h.elim
      | fl x => exact h.elim
    | cons x r =>
      cases r with
      | nil => exact ⟨[], x, rfl, trivial, h⟩
      | cons y r =>
        exfalso
        cases q with
        | ix s => cases s <;> cases x <;> first | exact h | exact h.2
        | fl z => cases x <;> first | exact h | exact h.2
  | p :: ps, pxx, h => by
    cases pxx with
    | nil => exfalso; cases p with
      | ix s => cases s <;> exact h
      | fl x => exact h
    | cons x r =>
      have key : ∀ A : Prop, (A ∧ PlOk σ (ps ++ [q]) r) → ∃ px y, r = px ++ [y] ∧ PlOk σ ps px ∧ PlOk σ [q] [y] ∧ A := fun A ⟨a, h⟩ => by
        obtain ⟨px, y, e, h1, h2⟩ := PlOk.snoc h
        exact ⟨px, y, e, h1, h2, a⟩
      cases p with
      | ix s =>
        cases x with
        | fl z => cases s <;> exact h.elim
        | ix m =>
          cases s with
          | v j =>
            obtain ⟨px, y, e, h1, h2, a⟩ := key _ h
            exact ⟨.ix m :: px, y, by rw [e]; rfl, ⟨a, h1⟩, h2⟩
          | c j =>
            obtain ⟨px, y, e, h1, h2, a⟩ := key _ h
            exact ⟨.ix m :: px, y, by rw [e]; rfl, ⟨a, h1⟩, h2⟩
      | fl z =>
        cases x with
        | ix m => exact h.elim
        | fl w =>
          obtain ⟨px, y, e, h1, h2, a⟩ := key _ h
          exact ⟨.fl w :: px, y, by rw [e]; rfl, ⟨a, h1⟩, h2⟩
theorem Foll.snocI {n : Int} {p : Addr} : ∀ {px : List Px} {v : V}, Foll H v (px ++ [.ix n]) p → ∃ a vs, Foll H v px a ∧ (H a = some (.lst vs) ∨ H a = some (.tup vs)) ∧ atI vs n = some (.ref p)
  | [], v, h => by
    obtain ⟨a, vs, w, e, ha, hw, f⟩ := h
    have f : w = .ref p := f
    subst f
    exact ⟨a, vs, e, ha, hw⟩
  | .ix i :: px, v, h => by
    obtain ⟨a, vs, w, e, ha, hw, f⟩ := h
    obtain ⟨b, us, f1, f2, f3⟩ := Foll.snocI f
    exact ⟨b, us, ⟨a, vs, w, e, ha, hw, f1⟩, f2, f3⟩
  | .fl x :: px, v, h => by
    obtain ⟨a, C, dx, fs, w, e, ha, hw, f⟩ := h
    obtain ⟨b, us, f1, f2, f3⟩ := Foll.snocI f
    exact ⟨b, us, ⟨a, C, dx, fs, w, e, ha, hw, f1⟩, f2, f3⟩
theorem Foll.mono (hh : Same H H') {p : Addr} : ∀ {px : List Px} {v : V}, Foll H v px p → Foll H' v px p
  | [], v, h => h
  | .ix i :: px, v, h => by
    obtain ⟨a, vs, w, e, ha, hw, f⟩ := h
    exact ⟨a, vs, w, e, ha.imp (hh _ _) (hh _ _), hw, Foll.mono hh f⟩
  | .fl x :: px, v, h => by
    obtain ⟨a, C, dx, fs, w, e, ha, hw, f⟩ := h
    exact ⟨a, C, dx, fs, w, e, hh _ _ ha, hw, Foll.mono hh f⟩
theorem Foll.det {p q : Addr} : ∀ {px : List Px} {v : V}, Foll H v px p → Foll H v px q → p = q
  | [], v, h, h' => by
    have h : v = .ref p := h
    have h' : v = .ref q := h'
    rw [h] at h'
    exact V.ref.inj h'
  | .ix i :: px, v, h, h' => by
    obtain ⟨a, vs, w, e, ha, hw, f⟩ := h
    obtain ⟨a', vs', w', e', ha', hw', f'⟩ := h'
    rw [e] at e'
    cases e'
    have ev : vs = vs' := by
      rcases ha with ha | ha <;> rcases ha' with ha' | ha' <;> rw [ha] at ha' <;> first | (cases ha'; rfl) | cases ha'
    subst ev
    rw [hw] at hw'
    cases hw'
    exact Foll.det f f'
  | .fl x :: px, v, h, h' => by
    obtain ⟨a, C, dx, fs, w, e, ha, hw, f⟩ := h
    obtain ⟨a', C', dx', fs', w', e', ha', hw', f'⟩ := h'
    rw [e] at e'
    cases e'
    rw [ha] at ha'
    cases ha'
    rw [hw] at hw'
    cases hw'
    exact Foll.det f f'
theorem pathX_ok (s : SOk G H0 B0 env σ H Z Fs) : ∀ {ps : List Pl} {px : List Px}, pathX env ps = .ok px → PlOk σ ps px
  | [], px, h => by cases h; trivial
  | p :: ps, px, h => by
    unfold pathX at h
    split at h
    · rename_i q qs e1 e2
      cases h
      have ih := pathX_ok s e2
      cases p with
      | ix sx =>
        simp only [plX] at e1
        split at e1
        · rename_i i e3
          cases e1
          cases sx with
          | c m => cases e3; exact ⟨rfl, ih⟩
          | v j =>
            simp only [sxI] at e3
            split at e3
            · rename_i n k nw e4
              cases e3
              obtain ⟨x, ex, r⟩ := s.sl j _ e4
              obtain ⟨_, w⟩ := r.flat_inv rfl
              have := vw_int w
              subst this
              exact ⟨ex, ih⟩
            · cases e3
        · cases e1
      | fl x => cases e1; exact ⟨rfl, ih⟩
    · cases h
def tPth (i : Nat) (ps : List Pl) : TE := fun σ H Q => ∃ x px p, σ[i]? = some (some x) ∧ PlOk σ ps px ∧ Foll H x px p ∧ Q (.ref p) H
theorem pe_pth0 {i : Nat} {x : Str} (hN : X.N[i]? = some x) (hv : Vis X.env.scope x) (hd : (x == ("__debug__" : Str)) = false) (hcd : (x == ("__classdict__" : Str)) = false) : PE X (.Name x pos) (tPth i []) :=
  (pe_var hN hv hd hcd).imp fun σ H Q ⟨x, px, p, ex, hp, f, q⟩ => by
    cases px with
    | nil =>
      have f : x = .ref p := f
      subst f
      exact ⟨_, ex, q⟩
    | cons => exact hp.elim
def tSx : Sx → TE
  | .v j => fun σ H Q => ∃ n, σ[j]? = some (some (.int n)) ∧ Q (.int n) H
  | .c n => fun σ H Q => Q (.int n) H
theorem pe_sxV {i : Nat} {x : Str} (hN : X.N[i]? = some x) (hv : Vis X.env.scope x) (hd : (x == ("__debug__" : Str)) = false) (hcd : (x == ("__classdict__" : Str)) = false) : PE X (.Name x pos) (tSx (.v i)) :=
  (pe_var hN hv hd hcd).imp fun σ H Q ⟨n, e, q⟩ => ⟨_, e, q⟩
theorem pe_sxC {n : Int} {j : Nat} : PE X (.Constant (.int n) j pos) (tSx (.c n)) := pe_int.imp fun σ H Q q => q
theorem pe_pthS {e b : Expr} {i : Nat} {ps : List Pl} {sx : Sx} (he : PE X e (tPth i ps)) (hb : PE X b (tSx sx)) (hs : PlainIx b) : PE X (.Subscript e b pos) (tPth i (ps ++ [.ix sx])) := by
  refine (pe_ix (ix_list.or ix_tup) he hb hs).imp fun σ H Q ⟨x, pxx, p, ex, hp, f, q⟩ => ?_
  obtain ⟨px, y, rfl, h1, h2⟩ := hp.snoc
  cases sx with
  | v j =>
    cases y with
    | fl z => exact h2.elim
    | ix n =>
      obtain ⟨a, vs, f1, ha, hat⟩ := f.snocI
      refine ⟨x, px, a, ex, h1, f1, n, h2.1, ?_⟩
      rcases ha with ha | ha
      · exact .inl ⟨a, vs, n, _, rfl, rfl, .of ha, hat, q⟩
      · exact .inr ⟨a, vs, n, _, rfl, rfl, .of ha, hat, q⟩
  | c m =>
    cases y with
    | fl z => exact h2.elim
    | ix n =>
      obtain ⟨a, vs, f1, ha, hat⟩ := f.snocI
      have : m = n := h2.1
      subst this
      refine ⟨x, px, a, ex, h1, f1, ?_⟩
      rcases ha with ha | ha
      · exact .inl ⟨a, vs, m, _, rfl, rfl, .of ha, hat, q⟩
      · exact .inr ⟨a, vs, m, _, rfl, rfl, .of ha, hat, q⟩
end
end TT

set_option Elab.async false
set_option linter.all false
set_option maxRecDepth 100000
set_option maxHeartbeats 1000000
/-! TO: lists changed, loops. -/
namespace TT
open PySem L2 PySem.Spec PyProof.Rows
section
variable {G : Gb} {H0 H H' : Hp} {B0 : Zn} {env : Env} {σ : L2.St} {Z Z' : Zn} {Fs : Nat → List Addr} {X : Cx} {fu : Nat} {pos : Pos}
theorem par_read {is : List Nat} {cs : CEs} {Q : L2.St → Hp → Prop} {D : Ends} (hq : ∀ σ H, D.nx σ H → Q σ H) (h : tS G fu (.par is cs) D σ H) : tA G cs σ H fun xs H1 => xs.length = is.length ∧ Q (setS σ is xs) H1 := by
  obtain ⟨H0, B0, env, ⟨Z, Fs, s⟩, o⟩ := h
  simp only [execS] at o
  refine sok_tA0 s ?_
  cases e : evalEs G.Γ G.gl cs env with
  | exc c => rw [e] at o; exact Exc.h0 s o
  | stuck => rw [e] at o; exact o
  | ok vs =>
    rw [e] at o
    simp only [Res.bind_ok] at o
    split at o
    rotate_left
    · exact o.elim
    rename_i hl
    intro xs H' Z2 Fs2 F _ s2 rp nd fr
    obtain ⟨Fs3, s3⟩ := SOk.setsA rp is s2 hl.symm nd fr
    exact ⟨by rw [← RpA.length rp]; exact hl, hq _ _ (o _ H' ⟨Z2, Fs3, s3⟩)⟩
theorem ps_parD {i j : Nat} {x y : Str} {a b : Expr} {cs : CEs} {px py pt : Pos} {kt k2 : Nat} {pt2 : Pos} (hc : X.calm = true) (hN : X.N.Nodup) (hi : X.N[i]? = some x) (hj : X.N[j]? = some y) (hij : i ≠ j)
    (hx : X.env.scope.names.lookup x = some .local) (hy : X.env.scope.names.lookup y = some .local) (ha : PA X [a, b] (tA G cs))
    (hw : swappedStores [.Tuple [.Name x px, .Name y py] kt pt] (.Tuple [a, b] k2 pt2) X.env = pure (some [x, y])) (hs : swapsWithSole [.Tuple [.Name x px, .Name y py] kt pt] (.Tuple [a, b] k2 pt2) pos.line X.env = pure false) :
    PS X (.Assign [.Tuple [.Name x px, .Name y py] kt pt] (.Tuple [a, b] k2 pt2) pos) (tS G fu (.par [i, j] cs)) := by
  refine (ps_par hc hN hi hj hij hx hy ha hw hs).imp fun D σ H h => ?_
  obtain ⟨Z, env, zk, eo, o⟩ := par_read (fun _ _ q => q) h
  refine ⟨Z, env, zk, eo, ?_⟩
  cases e : evalEs G.Γ G.gl cs env with
  | exc c => rw [e] at o; exact o
  | stuck => rw [e] at o; exact o
  | ok vs =>
    rw [e] at o
    intro xs H' Z' F g nd fr rp
    obtain ⟨h1, h2⟩ := o xs H' Z' F g nd fr rp
    match xs, h1, h2 with
    | [u, v], _, h2 => exact ⟨u, v, rfl, h2⟩
theorem ps_par3D {i j l : Nat} {x y z : Str} {a b c : Expr} {cs : CEs} {px py pz pt : Pos} {kt k2 : Nat} {pt2 : Pos} (hc : X.calm = true) (hN : X.N.Nodup) (hi : X.N[i]? = some x) (hj : X.N[j]? = some y) (hl : X.N[l]? = some z) (hij : i ≠ j) (hil : i ≠ l) (hjl : j ≠ l)
    (hx : X.env.scope.names.lookup x = some .local) (hy : X.env.scope.names.lookup y = some .local) (hz : X.env.scope.names.lookup z = some .local) (ha : PA X [a, b, c] (tA G cs))
    (hw : swappedStores [.Tuple [.Name x px, .Name y py, .Name z pz] kt pt] (.Tuple [a, b, c] k2 pt2) X.env = pure (some [x, y, z])) (hs : swapsWithSole [.Tuple [.Name x px, .Name y py, .Name z pz] kt pt] (.Tuple [a, b, c] k2 pt2) pos.line X.env = pure false) :
    PS X (.Assign [.Tuple [.Name x px, .Name y py, .Name z pz] kt pt] (.Tuple [a, b, c] k2 pt2) pos) (tS G fu (.par [i, j, l] cs)) := by
  refine (ps_par3 hc hN hi hj hl hij hil hjl hx hy hz ha hw hs).imp fun D σ H h => ?_
  obtain ⟨Z, env, zk, eo, o⟩ := par_read (fun _ _ q => q) h
  refine ⟨Z, env, zk, eo, ?_⟩
  cases e : evalEs G.Γ G.gl cs env with
  | exc c => rw [e] at o; exact o
  | stuck => rw [e] at o; exact o
  | ok vs =>
    rw [e] at o
    intro xs H' Z' F g nd fr rp
    obtain ⟨h1, h2⟩ := o xs H' Z' F g nd fr rp
    match xs, h1, h2 with
    | [u, v, w], _, h2 => exact ⟨u, v, w, rfl, h2⟩
/-- a slot takes an int -/
theorem SOk.setI {i : Nat} {n : Int} (s : SOk G H0 B0 env σ H Z Fs) : St1 G H0 B0 (env.set i (some (.int n, 0, true))) (σ.set i (some (.int n))) H := by
  have s1 := s.push (v := (.int n, 0, true)) (x := .int n) (F := []) (rp_flat rfl (.int n)) List.nodup_nil (fun p hp => nomatch hp)
  obtain ⟨Fs2, s2, _⟩ := s1.move (i := i)
  exact ⟨Z, Fs2, s2⟩
theorem getV_ok {i : Nat} {v : Val} (h : getV env i = .ok v) : env[i]? = some (some v) := by
  unfold getV at h
  split at h
  · rename_i w e; cases h; exact e
  · cases h
theorem getV_exc {i : Nat} {c : Str} : getV env i ≠ .exc c := by
  unfold getV
  split <;> exact fun h => by cases h
theorem ps_augD {i : Nat} {x : Str} {e : Expr} {c : CE} {op : Operator} {pos' : Pos} (hop : op = .Add ∨ op = .Sub) (hN : X.N.Nodup) (hi : X.N[i]? = some x) (hx : Loc X.env.scope x) (he : PE X e (tD G c)) (hf : X.fn x = true ∨ X.env.scope.names.lookup x = some .local) :
    PS X (.AugAssign (.Name x pos') op e pos) (tS G fu (.aug i op c)) := by
  have main : ∀ (f : Int → Int → Int) (D : Ends) (σ : L2.St) (H : Hp) (H0 : Hp) (B0 : Zn) (env : Env), St1 G H0 B0 env σ H → OutS G H0 B0 (do
      let x ← getV env i
      let y ← evalE G.Γ G.gl c env
      match x.1, y.1 with
      | .int a, .int b => .ok (.nx (env.set i (some (.int (f a b), 0, true))))
      | _, _ => .stuck) D → tAug i (tD G c) (ipI f) D σ H := by
    intro f D σ H H0 B0 env ⟨Z, Fs, s⟩ o
    cases e1 : getV env i with
    | exc c => exact absurd e1 getV_exc
    | stuck => rw [e1] at o; exact o.elim
    | ok v =>
    rw [e1] at o
    simp only [Res.bind_ok] at o
    obtain ⟨xv, ex, r⟩ := s.sl i v (getV_ok e1)
    refine ⟨xv, ex, sok_tDi s ?_⟩
    cases e2 : evalE G.Γ G.gl c env with
    | exc c => rw [e2] at o; exact Exc.h0 s o
    | stuck => rw [e2] at o; exact o
    | ok w =>
    rw [e2] at o
    simp only [Res.bind_ok] at o
    split at o
    · rename_i a b ea eb
      refine ⟨b, eb, fun H' Z' _ _ s' => ?_⟩
      have fl : v.1.flat = true := by rw [ea]; rfl
      obtain ⟨_, wv⟩ := r.flat_inv fl
      rw [ea] at wv
      have := vw_int wv
      subst this
      exact ⟨a, b, rfl, rfl, o _ H' s'.setI⟩
    · exact o.elim
  rcases hop with rfl | rfl
  · refine (ps_aug hN hi hx he ip_add hf).imp fun D σ H ⟨H0, B0, env, st, o⟩ => main (fun a b => a + b) D σ H H0 B0 env st ?_
    simp only [execS] at o
    refine cast ?_ o
    congr 1
    congr 1
    funext x
    congr 1
    funext y
    cases x.1 <;> cases y.1 <;> rfl
  · refine (ps_aug hN hi hx he ip_sub hf).imp fun D σ H ⟨H0, B0, env, st, o⟩ => main (fun a b => a - b) D σ H H0 B0 env st ?_
    simp only [execS] at o
    refine cast ?_ o
    congr 1
    congr 1
    funext x
    congr 1
    funext y
    cases x.1 <;> cases y.1 <;> rfl

/-! ### the list at the end of a path -/
theorem withL_exc {env : Env} {i : Nat} {px : List Px} {f : List TT.D → Res (List TT.D × Bool)} {c : Str} : withL env i px f ≠ .exc c := by
  unfold withL
  repeat' split
  all_goals exact fun h => by cases h
theorem withL_ok {env env3 : Env} {i : Nat} {px : List Px} {f : List TT.D → Res (List TT.D × Bool)} (s : SOk G H0 B0 env σ H Z Fs) (h : withL env i px f = .ok env3) :
    ∃ x p us ds nw ds' b, σ[i]? = some (some x) ∧ Foll H x px p ∧ H p = some (.lst us) ∧ VwL G.K G.mg (Z nw) ds us ∧ f ds = .ok (ds', b) ∧ ds'.length ≤ LIM ∧
      ∀ us', VwL G.K G.mg (Z (nw && b)) ds' us' → St1 G H0 B0 env3 σ (upd H p (.lst us')) := by
  unfold withL at h
  split at h
  rotate_left
  · cases h
  rename_i d k nw e
  split at h
  rotate_left
  · cases h
  rename_i hk
  split at h
  rotate_left
  · cases h
  rename_i ds hg
  split at h
  rotate_left
  · cases h
  rename_i ds' b hf
  split at h
  rotate_left
  · cases h
  rename_i hz
  cases h
  obtain ⟨x, p, us, ex, fo, hp, hzz, w, up⟩ := s.put0 e hg hk
  refine ⟨x, p, us, ds, nw, ds', b, ex, fo, hp, w, hf, hz, fun us' w' => up (nw && b) ds' us' (fun h => (Bool.and_eq_true_iff.mp h).1) w' (by rw [← w'.length]; exact lim_size hz)⟩
theorem lim_lt {n : Nat} (h : n ≤ LIM) : n < sizeLine := Nat.lt_of_le_of_lt h (by decide)
/-- the receiver of a method -/
theorem recv_ok {i : Nat} {ps : List Pl} {px : List Px} {x : V} {p : Addr} {Q : V → Hp → Prop} (s : SOk G H0 B0 env σ H Z Fs) (hp : pathX env ps = .ok px) (ex : σ[i]? = some (some x)) (fo : Foll H x px p) (q : Q (.ref p) H) : tPth i ps σ H Q :=
  ⟨x, px, p, ex, pathX_ok s hp, fo, q⟩
theorem pathX_exc {env : Env} {c : Str} : ∀ {ps : List Pl}, pathX env ps ≠ .exc c
  | [] => fun h => by cases h
  | p :: ps => by
    unfold pathX
    split
    · exact fun h => by cases h
    · exact fun h => by cases h
theorem sxI_keep {env : Env} {S : List Nat} {sh : Bool} (x : Sx) : sxI (keep env S sh) x = sxI env x := by
  cases x with
  | c i => rfl
  | v i =>
    simp only [sxI]
    unfold keep
    by_cases hc : (sh || !(S.any (ownS env))) = true
    · rw [if_pos hc]
    · rw [if_neg hc, demF_get, Nat.zero_add]
      cases env[i]? with
      | none => rfl
      | some o =>
        simp only [Option.map_some]
        by_cases h : S.contains i = true
        · rw [if_pos h]
          cases o with
          | none => rfl
          | some v => obtain ⟨d, k, nw⟩ := v; cases d <;> rfl
        · rw [if_neg h]
theorem pathX_keep {env : Env} {S : List Nat} {sh : Bool} : ∀ (ps : List Pl), pathX (keep env S sh) ps = pathX env ps
  | [] => rfl
  | p :: ps => by
    unfold pathX
    rw [pathX_keep ps]
    have : plX (keep env S sh) p = plX env p := by
      cases p with
      | ix s => simp only [plX, sxI_keep]
      | fl x => rfl
    rw [this]
/-- the list there, before: what is needed to look at it -/
theorem keep_get {env : Env} {S : List Nat} {sh : Bool} {i : Nat} {v : Val} (h : (keep env S sh)[i]? = some (some v)) : ∃ k, env[i]? = some (some (v.1, k, v.2.2)) ∧ (v.2.1 ≠ 0 → k = v.2.1) := by
  unfold keep at h
  split at h
  · exact ⟨v.2.1, h, fun _ => rfl⟩
  · rw [demF_get, Option.map_eq_some_iff] at h
    obtain ⟨o, e1, e2⟩ := h
    split at e2
    · rw [Option.map_eq_some_iff] at e2
      obtain ⟨w, rfl, rfl⟩ := e2
      exact ⟨w.2.1, e1, fun z => absurd rfl z⟩
    · subst e2
      exact ⟨v.2.1, e1, fun _ => rfl⟩
theorem withL_before {env env3 : Env} {S : List Nat} {sh : Bool} {i : Nat} {px : List Px} {f : List TT.D → Res (List TT.D × Bool)} (s : SOk G H0 B0 env σ H Z Fs) (h : withL (keep env S sh) i px f = .ok env3) :
    ∃ x p us, σ[i]? = some (some x) ∧ Foll H x px p ∧ H p = some (.lst us) := by
  unfold withL at h
  split at h
  rotate_left
  · cases h
  rename_i d k nw e
  split at h
  rotate_left
  · cases h
  rename_i hk
  split at h
  rotate_left
  · cases h
  rename_i ds hg
  obtain ⟨k', e', hk'⟩ := keep_get e
  have hk2 : k' = k := hk' (by show k ≠ 0; omega)
  subst hk2
  obtain ⟨x, p, us, ex, fo, hp, _⟩ := s.put0 e' hg hk
  exact ⟨x, p, us, ex, fo, hp⟩

/-! ### append, extend, insert -/
variable {o e : Expr} {apos cpos : Pos} {i : Nat} {ps : List Pl} {c : CE}
/-- a method of a list with arguments that raise nothing -/
theorem meth_read {cs : CEs} {r : V → List V → Hp → VK → Prop} {f : List Val → List TT.D → Res (List TT.D × Bool)} {D : Ends} {env : Env} (s : SOk G H0 B0 env σ H Z Fs)
    (hr : ∀ (Z2 : Zn) (H' : Hp) (p : Addr) (us : List V) (ds : List TT.D) (nw : Bool) (vs : List Val) (xs : List V) (ds' : List TT.D) (b : Bool) (R : VK), Zk Z2 H' → H' p = some (.lst us) → VwL G.K G.mg (Z2 nw) ds us → VwA G Z2 vs xs → f vs ds = .ok (ds', b) → ds'.length ≤ LIM →
      (∀ us', VwL G.K G.mg (Z2 (nw && b)) ds' us' → R .non (upd H' p (.lst us'))) → r (.ref p) xs H' R)
    (o : OutS G H0 B0 (do
      let px ← pathX env ps
      let vs ← (evalEs G.Γ G.gl cs env).nx
      let e3 ← withL (keep env cs.vars (vs.all fun v => shut v.2.1 v.1)) i px (f vs)
      .ok (.nx e3)) D) : tDrop (tBM X.K "list" r (tPth i ps) (tA G cs)) D σ H := by
  cases e1 : pathX env ps with
  | exc c => exact absurd e1 pathX_exc
  | stuck => rw [e1] at o; exact o.elim
  | ok px =>
  rw [e1] at o
  simp only [Res.bind_ok] at o
  cases e2 : (evalEs G.Γ G.gl cs env).nx with
  | exc c => exact absurd e2 nx_exc
  | stuck => rw [e2] at o; exact o.elim
  | ok vs =>
  rw [e2] at o
  simp only [Res.bind_ok] at o
  cases e3 : withL (keep env cs.vars (vs.all fun v => shut v.2.1 v.1)) i px (f vs) with
  | exc c => exact absurd e3 withL_exc
  | stuck => rw [e3] at o; exact o.elim
  | ok env3 =>
  rw [e3] at o
  simp only [Res.bind_ok] at o
  obtain ⟨x, p, us, ex, fo, hp⟩ := withL_before s e3
  show tPth i ps σ H (fun x H1 => tyV X.K "list" x H1 ∧ tA G cs σ H1 fun xs H2 => r x xs H2 fun _ H3 => D.nx σ H3)
  refine recv_ok s e1 ex fo ⟨.inl ⟨rfl, us, .of hp⟩, ?_⟩
  refine sok_tAv s ?_
  rw [nx_inv e2]
  intro xs H' Z2 Fs2 hh s2 w
  obtain ⟨x', p', us', ds, nw, ds', b, ex', fo', hp', wl, hf, hz, up⟩ := withL_ok s2 e3
  rw [ex] at ex'
  cases ex'
  have := (fo.mono hh).det fo'
  subst this
  exact hr Z2 H' p us' ds nw vs xs ds' b _ s2.zk hp' wl w hf hz fun us2 w2 => o _ _ (up us2 w2)
theorem vw_to {v : Val} {y : V} {c : Bool} (zk : Zk Z H) (h : c = true → nwOf v = true) (w : Vw G.K G.mg (Z v.2.2) v.1 y) : Vw G.K G.mg (Z c) v.1 y := by
  by_cases f : v.1.flat = true
  · exact Vw.flat_any f w
  · refine Vw.mono (nw_up zk fun hc => ?_) _ _ w
    have := h hc
    unfold nwOf at this
    simpa [f] using this
theorem and_l {a b : Bool} (h : (a && b) = true) : a = true := (Bool.and_eq_true_iff.mp h).1
theorem and_r {a b : Bool} (h : (a && b) = true) : b = true := (Bool.and_eq_true_iff.mp h).2
theorem nx_one {c : CE} {env : Env} : (evalEs G.Γ G.gl (.cons c .nil) env).nx = ((evalE G.Γ G.gl c env).nx >>= fun v => .ok [v]) := by
  simp only [evalEs]
  cases evalE G.Γ G.gl c env <;> rfl
def f1 (f : Val → List TT.D → Res (List TT.D × Bool)) : List Val → List TT.D → Res (List TT.D × Bool)
  | [v] => f v
  | _ => fun _ => .stuck
theorem one_out {c : CE} {f : Val → List TT.D → Res (List TT.D × Bool)} {D : Ends} {env : Env} (o : OutS G H0 B0 (do
    let px ← pathX env ps
    let v ← (evalE G.Γ G.gl c env).nx
    let e3 ← withL (keep env c.vars (shut v.2.1 v.1)) i px (f v)
    .ok (.nx e3)) D) : OutS G H0 B0 (do
      let px ← pathX env ps
      let vs ← (evalEs G.Γ G.gl (.cons c .nil) env).nx
      let e3 ← withL (keep env (CEs.vars (.cons c .nil)) (vs.all fun v => shut v.2.1 v.1)) i px (f1 f vs)
      .ok (.nx e3)) D := by
  rw [nx_one]
  refine cast ?_ o
  congr 1
  cases pathX env ps <;> first | rfl | skip
  simp only [Res.bind_ok]
  cases (evalE G.Γ G.gl c env).nx <;> first | rfl | skip
  rename_i v
  simp only [Res.bind_ok, CEs.vars, List.append_nil, List.all_cons, List.all_nil, Bool.and_true, f1]
theorem app_read {D : Ends} (h : tS G fu (.app i ps c) D σ H) : tDrop (tBM X.K "list" rAppend (tPth i ps) (tA G (.cons c .nil))) D σ H := by
  obtain ⟨H0, B0, env, ⟨Z, Fs, s⟩, o⟩ := h
  simp only [execS] at o
  refine meth_read (f := f1 fApp) s ?_ (one_out o)
  intro Z2 H' p us ds nw vs xs ds' b R zk hp wl w hf hz up
  unfold f1 at hf
  split at hf
  · rename_i v
    cases hf
    obtain ⟨y, rfl, wy⟩ := w.one
    have hl := wl.length
    refine ⟨p, us, y, rfl, rfl, hp, lim_lt (by rw [List.length_append, List.length_singleton] at hz; omega), up _ ?_⟩
    exact (vwL_up zk and_l wl).append (.cons (vw_to zk and_r wy) .nil)
  · cases hf
theorem ext_read {D : Ends} (h : tS G fu (.ext i ps c) D σ H) : tDrop (tBM X.K "list" rExtend (tPth i ps) (tA G (.cons c .nil))) D σ H := by
  obtain ⟨H0, B0, env, ⟨Z, Fs, s⟩, o⟩ := h
  simp only [execS] at o
  refine meth_read (f := f1 fExt) s ?_ (one_out o)
  intro Z2 H' p us ds nw vs xs ds' b R zk hp wl w hf hz up
  unfold f1 at hf
  split at hf
  · rename_i v
    obtain ⟨d, k, n2⟩ := v
    unfold fExt at hf
    simp only at hf
    split at hf
    · cases hf
      obtain ⟨y, rfl, wy⟩ := w.one
      obtain ⟨a, ys, rfl, ha, hz2, wl2⟩ := vw_lst wy
      have hl := wl.length
      have hl2 := wl2.length
      refine ⟨p, a, us, ys, rfl, rfl, hp, zk.h _ _ _ ha, lim_size (by rw [List.length_append] at hz; omega), up _ ?_⟩
      exact (vwL_up zk and_l wl).append (vwL_up zk and_r wl2)
    · cases hf
  · cases hf
theorem ins_read {j : CE} {D : Ends} (h : tS G fu (.insr i ps j c) D σ H) : tDrop (tBM X.K "list" (fun x vs H Q => ∃ (l : Addr) (xs : List V) (i : Int) (y : V), x = .ref l ∧ vs = [.int i, y] ∧ H l = some (.lst xs) ∧ xs.length < sizeLine ∧ 0 ≤ i ∧ i < 2 ^ 63 ∧
    Q .non (upd H l (.lst (xs.take i.toNat ++ [y] ++ xs.drop i.toNat)))) (tPth i ps) (tA G (.cons j (.cons c .nil)))) D σ H := by
  obtain ⟨H0, B0, env, ⟨Z, Fs, s⟩, o⟩ := h
  simp only [execS] at o
  refine meth_read (f := fIns2) s ?_ o
  · intro Z2 H' p us ds nw vs xs ds' b R zk hp wl w hf hz up
    unfold fIns2 at hf
    split at hf
    · rename_i n v
      obtain ⟨dn, kn, nn⟩ := n
      unfold fIns at hf
      simp only at hf
      split at hf
      rotate_left
      · cases hf
      rename_i m
      split at hf
      rotate_left
      · cases hf
      rename_i hm
      cases hf
      obtain ⟨x1, y, rfl, w1, wy⟩ := w.two
      have ex := vw_int w1
      subst ex
      have hl := wl.length
      refine ⟨p, us, m, y, rfl, rfl, hp, lim_lt (by simp at hz; omega), hm.1, hm.2, up _ ?_⟩
      have wl' := vwL_up zk (c := nw && nwOf v) and_l wl
      exact ((wl'.take _).append (.cons (vw_to zk and_r wy) .nil)).append (wl'.drop _)
    · cases hf
end
end TT

set_option Elab.async false
set_option linter.all false
set_option maxRecDepth 100000
set_option maxHeartbeats 1000000
/-! TP: stores to items, loops, raise, a def. -/
namespace TT
open PySem L2 PySem.Spec PyProof.Rows
section
variable {G : Gb} {H0 H H' : Hp} {B0 : Zn} {env : Env} {σ : L2.St} {Z Z' : Zn} {Fs : Nat → List Addr} {X : Cx} {fu : Nat} {pos : Pos}
variable {i : Nat} {ps : List Pl} {c j : CE}
theorem fSet_ok {n v : Val} {ds ds' : List TT.D} {b : Bool} (h : fSet n v ds = .ok (ds', b)) : ∃ m k, n.1 = .int m ∧ ixN ds.length m = some k ∧ ds' = ds.set k v.1 ∧ b = nwOf v := by
  unfold fSet at h
  split at h
  · rename_i m e
    split at h
    · rename_i k hk
      cases h
      exact ⟨m, k, e, hk, rfl, rfl⟩
    · cases h
  · cases h
/-- the store itself -/
theorem set_fin {n v : Val} {x y : V} {px : List Px} {p : Addr} {env2 env3 : Env} {R : Hp → Prop} (s : SOk G H0 B0 env2 σ H Z Fs) (e3 : withL env2 i px (fSet n v) = .ok env3) (ex : σ[i]? = some (some x)) (fo : Foll H x px p) (wv : Vw G.K G.mg (Z v.2.2) v.1 y) {m : Int} (hm : n.1 = .int m)
    (q : ∀ H', St1 G H0 B0 env3 σ H' → R H') : L2.rSetL (.ref p) (.int m) y H R := by
  obtain ⟨x', p', us, ds, nw, ds', b, ex', fo', hp, wl, hf, hz, up⟩ := withL_ok s e3
  rw [ex] at ex'
  cases ex'
  have := fo.det fo'
  subst this
  obtain ⟨m', k, e1, hk, rfl, rfl⟩ := fSet_ok hf
  rw [hm] at e1
  cases e1
  have hl := wl.length
  refine ⟨p, us, m, k, rfl, rfl, hp, by rw [← hl]; exact hk, q _ (up _ ?_)⟩
  exact VwL.set k (vwL_up s.zk and_l wl) (vw_to s.zk and_r wv)
theorem set_read {D : Ends} (h : tS G fu (.setI i ps j c) D σ H) : tAsg (tD G c) (gSub (tPth i ps) (tD G j) L2.rSetL) D σ H := by
  obtain ⟨H0, B0, env, ⟨Z, Fs, s⟩, o⟩ := h
  simp only [execS] at o
  refine sok_tDv s ?_
  cases e : evalE G.Γ G.gl c env with
  | exc c => rw [e] at o; exact Exc.h0 s o
  | stuck => rw [e] at o; exact o
  | ok v =>
  rw [e] at o
  simp only [Res.bind_ok] at o
  intro y H' Z2 Fs2 _ s2 wv
  generalize he2 : keep env c.vars (shut v.2.1 v.1) = env2 at o s2
  cases e1 : pathX env2 ps with
  | exc c => exact absurd e1 pathX_exc
  | stuck => rw [e1] at o; exact o.elim
  | ok px =>
  rw [e1] at o
  simp only [Res.bind_ok] at o
  cases e2 : (evalE G.Γ G.gl j env2).nx with
  | exc c => exact absurd e2 nx_exc
  | stuck => rw [e2] at o; exact o.elim
  | ok n =>
  rw [e2] at o
  simp only [Res.bind_ok] at o
  cases e3 : withL env2 i px (fSet n v) with
  | exc c => exact absurd e3 withL_exc
  | stuck => rw [e3] at o; exact o.elim
  | ok env3 =>
  rw [e3] at o
  simp only [Res.bind_ok] at o
  obtain ⟨x, p, us, ds, nw, ds', b, ex, fo, hp, wl, hf, hz, up⟩ := withL_ok s2 e3
  obtain ⟨m, k, hm, hk, _, _⟩ := fSet_ok hf
  refine recv_ok s2 e1 ex fo (sok_tDi s2 ?_)
  rw [nx_inv e2]
  exact ⟨m, hm, fun H2 Z3 hh zs s3 => set_fin s3 e3 ex (fo.mono hh) (Vw.mono (zs _) _ _ wv) hm fun H3 st => o _ H3 st⟩
theorem ps_setD {o ix e : Expr} {pos' : Pos} (ho : PE X o (tPth i ps)) (hi : PE X ix (tD G j)) (he : PE X e (tD G c))
    (ha : ∀ v, assign (.Subscript o ix pos') X.env v = (do
      let ov ← holding [v] (eval o X.env)
      let iv ← holding [v, ov] (eval ix X.env)
      standAt pos'
      holding [v, ov, iv] (setItem ov iv v)
      release [v, ov, iv] []))
    (hs : swapsWithSole [.Subscript o ix pos'] e pos.line X.env = pure false) (hw : swappedStores [.Subscript o ix pos'] e X.env = pure none) (h1 : (assignEach [.Subscript o ix pos'] X.env).map (·.2) = [assign (.Subscript o ix pos') X.env]) :
    PS X (.Assign [.Subscript o ix pos'] e pos) (tS G fu (.setI i ps j c)) :=
  (ps_asg he (pg_sub ho hi set_list ha) hs hw h1).imp fun D σ H h => set_read h

/-! ### o[i] op= e -/
theorem get_list : PGet X (rIxL X.K) := by
  intro pins s σ H o i ov iv Q I ro ri h
  obtain ⟨p, xs, k, v, rfl, rfl, hq, he, q⟩ := h
  cases ro
  obtain ⟨t, rfl⟩ := ri
  obtain ⟨its, r, pl, hz⟩ := I.list hq
  obtain ⟨j, h1, h2, h3, h4, h5⟩ := atI_get he
  obtain ⟨w, ew, rw'⟩ := r.get h2
  have hl := r.length
  have hn := line63
  have fin : EP X pins σ Q w s := ⟨v, H, I, rw', q⟩
  by_cases h0 : 0 ≤ k
  · have hj : k.toNat = j := by
      rw [seqIndex_of h0 h5] at h1
      exact Option.some.inj h1
    exact wpAny_getItem_list pl.isList h0 (by omega) (by rw [hj]; simpa using ew) fin
  · have hj : (k + (its.toArray.size : Int)).toNat = j := by
      rw [seqIndex_neg (by omega) h4] at h1
      rw [List.size_toArray, ← hl]
      exact Option.some.inj h1
    exact wpAny_getItem_list_neg pl.isList (by omega) (by rw [List.size_toArray] <;> omega) (by omega) (by rw [hj]; simpa using ew) fin
theorem fAug_ok {op : Operator} {n v : Val} {ds ds' : List TT.D} {b : Bool} (h : fAug op n v ds = .ok (ds', b)) : ∃ m k x y z, n.1 = .int m ∧ v.1 = .int y ∧ ixN ds.length m = some k ∧ ds[k]? = some (.int x) ∧ ds' = ds.set k (.int z) ∧ b = true ∧ ((op = .Add ∧ z = x + y) ∨ (op = .Sub ∧ z = x - y)) := by
  unfold fAug at h
  split at h
  · rename_i m y e1 e2
    split at h
    · rename_i k hk
      split at h
      · rename_i x hx
        cases h
        exact ⟨m, k, x, y, _, e1, e2, hk, hx, rfl, rfl, .inl ⟨rfl, rfl⟩⟩
      · rename_i x hx
        cases h
        exact ⟨m, k, x, y, _, e1, e2, hk, hx, rfl, rfl, .inr ⟨rfl, rfl⟩⟩
      · cases h
    · cases h
  · cases h
theorem aug_read {op : Operator} {f : Int → Int → Int} {D : Ends} (hop : (op = .Add ∧ f = fun a b => a + b) ∨ (op = .Sub ∧ f = fun a b => a - b)) (h : tS G fu (.augI i ps j op c) D σ H) : tAugS (tPth i ps) (tD G j) (tD G c) (rIxL X.K) (ipI f) L2.rSetL D σ H := by
  obtain ⟨H0, B0, env, ⟨Z, Fs, s⟩, o⟩ := h
  simp only [execS] at o
  cases e1 : pathX env ps with
  | exc c => exact absurd e1 pathX_exc
  | stuck => rw [e1] at o; exact o.elim
  | ok px =>
  rw [e1] at o
  simp only [Res.bind_ok] at o
  cases e2 : (evalE G.Γ G.gl j env).nx with
  | exc c => exact absurd e2 nx_exc
  | stuck => rw [e2] at o; exact o.elim
  | ok n =>
  rw [e2] at o
  simp only [Res.bind_ok] at o
  cases e4 : (evalE G.Γ G.gl c env).nx with
  | exc c => exact absurd e4 nx_exc
  | stuck => rw [e4] at o; exact o.elim
  | ok v =>
  rw [e4] at o
  simp only [Res.bind_ok] at o
  cases e3 : withL env i px (fAug op n v) with
  | exc c => exact absurd e3 withL_exc
  | stuck => rw [e3] at o; exact o.elim
  | ok env3 =>
  rw [e3] at o
  simp only [Res.bind_ok] at o
  obtain ⟨x, p, us, ds, nw, ds', b, ex, fo, hp, wl, hf, hz, up⟩ := withL_ok s e3
  obtain ⟨m, k, a, y, z, hm, hy, hk, ha, rfl, rfl, hz2⟩ := fAug_ok hf
  refine recv_ok s e1 ex fo (sok_tDi s ?_)
  rw [nx_inv e2]
  refine ⟨m, hm, fun H2 Z2 hh2 zs2 s2 => ?_⟩
  obtain ⟨av, hav, wav⟩ := wl.get ha
  have := vw_int wav
  subst this
  have hl := wl.length
  refine ⟨p, us, m, .int a, rfl, rfl, .of (hh2 _ _ hp), by unfold atI; rw [← hl, hk]; exact hav, sok_tDi s2 ?_⟩
  rw [nx_inv e4]
  refine ⟨y, hy, fun H3 Z3 hh3 zs3 s3 => ⟨a, y, rfl, rfl, ?_⟩⟩
  have hzf : z = f a y := by
    rcases hop with ⟨rfl, rfl⟩ | ⟨rfl, rfl⟩ <;> rcases hz2 with ⟨h1, h2⟩ | ⟨h1, h2⟩ <;> first | exact h2 | cases h1
  subst hzf
  obtain ⟨x', p', us', ds2, nw2, ds2', b2, ex', fo', hp', wl', hf', hz', up'⟩ := withL_ok s3 e3
  rw [ex] at ex'
  cases ex'
  have := (fo.mono (hh2.trans hh3)).det fo'
  subst this
  have hus : us' = us := by
    have := (hh2.trans hh3) _ _ hp
    rw [hp'] at this
    cases this
    rfl
  subst hus
  obtain ⟨m', k', a', y', z', hm', hy', hk', ha', rfl, rfl, hz3⟩ := fAug_ok hf'
  rw [hm] at hm'
  rw [hy] at hy'
  cases hm'
  cases hy'
  have hl' := wl'.length
  have ek : k' = k := by rw [hl', ← hl, hk] at hk'; exact (Option.some.inj hk').symm
  subst ek
  obtain ⟨av', hav', wav'⟩ := wl'.get ha'
  have := vw_int wav'
  subst this
  rw [hav] at hav'
  cases hav'
  have hzf' : z' = f a y := by
    rcases hop with ⟨rfl, rfl⟩ | ⟨rfl, rfl⟩ <;> rcases hz3 with ⟨h1, h2⟩ | ⟨h1, h2⟩ <;> first | exact h2 | cases h1
  subst hzf'
  refine ⟨p, us', m, k', rfl, rfl, hp', by rw [← hl']; exact hk', o _ _ (up' _ ?_)⟩
  exact VwL.set k' (vwL_up s3.zk and_l wl') (.int _)
theorem ps_augID {o ix e : Expr} {op : Operator} {tpos : Pos} (hop : op = .Add ∨ op = .Sub) (ho : PE X o (tPth i ps)) (hi : PE X ix (tD G j)) (he : PE X e (tD G c))
    (ha : ∀ ov iv new, augStore ix ov iv new = (do holding [new, ov, iv] (setItem ov iv new); release [new, ov, iv] []; pure .next)) :
    PS X (.AugAssign (.Subscript o ix tpos) op e pos) (tS G fu (.augI i ps j op c)) := by
  rcases hop with rfl | rfl
  · exact (ps_augS ho hi get_list he ip_add set_list ha).imp fun D σ H h => aug_read (.inl ⟨rfl, rfl⟩) h
  · exact (ps_augS ho hi get_list he ip_sub set_list ha).imp fun D σ H h => aug_read (.inr ⟨rfl, rfl⟩) h

/-! ### pop, reverse -/
theorem pop_core {px : List Px} {v : Val} {env3 : Env} (s : SOk G H0 B0 env σ H Z Fs) (e2 : popV env i px = .ok v) (e3 : withL env i px fPop = .ok env3) :
    ∃ x p us y, σ[i]? = some (some x) ∧ Foll H x px p ∧ H p = some (.lst us) ∧ us[us.length - 1]? = some y ∧ ∃ Z2 Fs2, SOk G H0 B0 env3 σ (upd H p (.lst us.dropLast)) Z2 Fs2 ∧ Vw G.K G.mg (Z2 v.2.2) v.1 y := by
  unfold popV at e2
  unfold withL at e3
  split at e2
  rotate_left
  · cases e2
  rename_i d k nw e
  rw [e] at e3
  simp only at e3
  split at e2
  rotate_left
  · cases e2
  rename_i ds hg
  rw [hg] at e3
  simp only at e3
  split at e2
  rotate_left
  · cases e2
  rename_i last hlast
  cases e2
  split at e3
  rotate_left
  · cases e3
  rename_i hk
  unfold fPop at e3
  split at e3
  rotate_left
  · cases e3
  rename_i ds' b hf
  split at hf
  · cases hf
  cases hf
  split at e3
  rotate_left
  · cases e3
  rename_i hz
  cases e3
  obtain ⟨x, ex, r⟩ := s.sl i _ e
  obtain ⟨p, vs, G1, F1, F2, fo, hp, hzz, rl, eF, up⟩ := Rp.focus px r hg (by show px.length < k; omega)
  have hk0 : k - px.length - 1 = 0 := by omega
  rw [hk0] at rl
  obtain ⟨rfl, w⟩ := rl.zero
  have hl := w.length
  have hne : ds ≠ [] := by rintro rfl; simp at hlast
  have hget : ds[ds.length - 1]? = some last := by rw [← hlast, List.getLast?_eq_getElem?]
  obtain ⟨y, hy, wy⟩ := w.get hget
  have eF' : Fs i = F1 ++ [p] ++ F2 := eF
  have nd := s.nd i
  rw [eF'] at nd
  have pn : p ∉ F1 ++ F2 := by
    have nd2 : (p :: (F1 ++ F2)).Nodup := (List.perm_middle.nodup_iff).mp (by simpa using nd)
    exact (List.nodup_cons.mp nd2).1
  have w' : VwL G.K G.mg (Z nw) ds.dropLast vs.dropLast := by
    rw [List.dropLast_eq_take, List.dropLast_eq_take, hl]
    exact w.take _
  have r2 := up (Z nw) (upd H p (.lst vs.dropLast)) ds.dropLast vs.dropLast [] (.refl _) (fun q hq o h => by rw [upd_ne (fun z => pn (by rw [← z]; exact hq))]; exact h) upd_same (by rw [List.length_dropLast]; omega) (by rw [hk0]; exact w'.rp)
  have s2 := s.put (v := (d, k, nw)) (v' := (setP px d ds.dropLast, k, nw)) e ex (by rw [eF']; simp) r2 nd (fun q hq => by rw [eF']; exact hq)
  rw [Bool.and_true]
  exact ⟨x, p, vs, y, ex, fo, hp, by rw [← hl]; exact hy, Z, _, s2, wy⟩
theorem pop_read {t : Nat} {D : Ends} (h : tS G fu (.pop (some t) i ps) D σ H) : tAsg (tBM0 X.K "list" rPop (tPth i ps)) (gName t) D σ H := by
  obtain ⟨H0, B0, env, ⟨Z, Fs, s⟩, o⟩ := h
  simp only [execS] at o
  cases e1 : pathX env ps with
  | exc c => exact absurd e1 pathX_exc
  | stuck => rw [e1] at o; exact o.elim
  | ok px =>
  rw [e1] at o
  simp only [Res.bind_ok] at o
  cases e2 : popV env i px with
  | exc c => unfold popV at e2; repeat' split at e2
             all_goals cases e2
  | stuck => rw [e2] at o; exact o.elim
  | ok v =>
  rw [e2] at o
  simp only [Res.bind_ok] at o
  cases e3 : withL env i px fPop with
  | exc c => exact absurd e3 withL_exc
  | stuck => rw [e3] at o; exact o.elim
  | ok env3 =>
  rw [e3] at o
  simp only [Res.bind_ok] at o
  obtain ⟨x, p, us, y, ex, fo, hp, hy, Z2, Fs2, s2, wy⟩ := pop_core s e2 e3
  show tPth i ps σ H (fun x H1 => tyV X.K "list" x H1 ∧ rPop x [] H1 fun z H2 => D.nx (σ.set t (some z)) H2)
  refine recv_ok s e1 ex fo ⟨.inl ⟨rfl, us, .of hp⟩, p, us, y, rfl, rfl, hp, hy, ?_⟩
  have hv : v.2.1 = 0 := by
    unfold popV at e2
    repeat' split at e2
    all_goals first | cases e2; rfl | cases e2
  have s3 := s2.push (v := v) (x := y) (F := []) (by rw [hv]; exact rp_sh wy) List.nodup_nil (fun p hp => nomatch hp)
  obtain ⟨Fs4, s4, _⟩ := s3.move (i := t)
  exact o _ _ ⟨Z2, Fs4, s4⟩
theorem pop0_read {D : Ends} (h : tS G fu (.pop none i ps) D σ H) : tDrop (tBM0 X.K "list" rPop (tPth i ps)) D σ H := by
  obtain ⟨H0, B0, env, ⟨Z, Fs, s⟩, o⟩ := h
  simp only [execS] at o
  cases e1 : pathX env ps with
  | exc c => exact absurd e1 pathX_exc
  | stuck => rw [e1] at o; exact o.elim
  | ok px =>
  rw [e1] at o
  simp only [Res.bind_ok] at o
  cases e2 : popV env i px with
  | exc c => unfold popV at e2; repeat' split at e2
             all_goals cases e2
  | stuck => rw [e2] at o; exact o.elim
  | ok v =>
  rw [e2] at o
  simp only [Res.bind_ok] at o
  cases e3 : withL env i px fPop with
  | exc c => exact absurd e3 withL_exc
  | stuck => rw [e3] at o; exact o.elim
  | ok env3 =>
  rw [e3] at o
  simp only [Res.bind_ok] at o
  obtain ⟨x, p, us, y, ex, fo, hp, hy, Z2, Fs2, s2, wy⟩ := pop_core s e2 e3
  show tPth i ps σ H (fun x H1 => tyV X.K "list" x H1 ∧ rPop x [] H1 fun z H2 => D.nx σ H2)
  exact recv_ok s e1 ex fo ⟨.inl ⟨rfl, us, .of hp⟩, p, us, y, rfl, rfl, hp, hy, o _ _ ⟨Z2, Fs2, s2⟩⟩
theorem rev_read {D : Ends} (h : tS G fu (.rev i ps) D σ H) : tDrop (tBM0 X.K "list" rReverse (tPth i ps)) D σ H := by
  obtain ⟨H0, B0, env, ⟨Z, Fs, s⟩, o⟩ := h
  simp only [execS] at o
  cases e1 : pathX env ps with
  | exc c => exact absurd e1 pathX_exc
  | stuck => rw [e1] at o; exact o.elim
  | ok px =>
  rw [e1] at o
  simp only [Res.bind_ok] at o
  cases e3 : withL env i px fRev with
  | exc c => exact absurd e3 withL_exc
  | stuck => rw [e3] at o; exact o.elim
  | ok env3 =>
  rw [e3] at o
  simp only [Res.bind_ok] at o
  obtain ⟨x, p, us, ds, nw, ds', b, ex, fo, hp, wl, hf, hz, up⟩ := withL_ok s e3
  cases hf
  show tPth i ps σ H (fun x H1 => tyV X.K "list" x H1 ∧ rReverse x [] H1 fun z H2 => D.nx σ H2)
  refine recv_ok s e1 ex fo ⟨.inl ⟨rfl, us, .of hp⟩, p, us, rfl, rfl, hp, o _ _ (up _ ?_)⟩
  rw [Bool.and_true]
  exact wl.reverse
end
end TT

set_option Elab.async false
set_option linter.all false
set_option maxRecDepth 100000
set_option maxHeartbeats 1000000
/-! TQ: two items stored at once, loops, raise, a def. -/
namespace TT
open PySem L2 PySem.Spec PyProof.Rows
section
variable {G : Gb} {H0 H H' : Hp} {B0 : Zn} {env : Env} {σ : L2.St} {Z Z' : Zn} {Fs : Nat → List Addr} {X : Cx} {fu : Nat} {pos : Pos}
theorem St1.sok (st : St1 G H0 B0 env σ H) : ∃ Z Fs, SOk G H0 B0 env σ H Z Fs := st
/-- one of the two stores -/
theorem par2_one {i : Nat} {a : CE} {n : Val} {d : TT.D} {u : V} {env2 : Env} {Q : L2.St → Hp → Prop} (s : SOk G H0 B0 env σ H Z Fs) (e2 : (evalE G.Γ G.gl a env).nx = .ok n) (e3 : withL env i [] (fSet n (d, 0, true)) = .ok env2) (fl : d.flat = true) (w : ∀ B, Vw G.K G.mg B d u)
    (q : ∀ H', St1 G H0 B0 env2 σ H' → Q σ H') : gSub (tPth i []) (tD G a) L2.rSetL u σ H Q := by
  obtain ⟨x, p, us, ds, nw, ds', b, ex, fo, hp, wl, hf, hz, up⟩ := withL_ok s e3
  obtain ⟨m, k, hm, hk, _, _⟩ := fSet_ok hf
  refine recv_ok s (px := []) rfl ex fo (sok_tDi s ?_)
  rw [nx_inv e2]
  exact ⟨m, hm, fun H2 Z3 hh zs s3 => set_fin s3 e3 ex (fo.mono hh) (w _) hm fun H3 st => q H3 st⟩
theorem vwL_two {K : PySem.W.Frag} {mg : Str → Option Value} {B : Hp} {p q : TT.D} {vs : List V} (h : VwL K mg B [p, q] vs) : ∃ u w, vs = [u, w] ∧ Vw K mg B p u ∧ Vw K mg B q w := by
  cases h with
  | cons h1 h2 =>
    cases h2 with
    | cons h3 h4 => cases h4; exact ⟨_, _, rfl, h1, h3⟩
theorem par2_read {i j : Nat} {a b x y : CE} {D : Ends} (h : tS G fu (.par2 i j a b x y) D σ H) :
    tAsg (tD G (.tup (.cons x (.cons y .nil)))) (gTup X.K 2 (gCons (gSub (tPth i []) (tD G a) L2.rSetL) (gCons (gSub (tPth j []) (tD G b) L2.rSetL) gNil))) D σ H := by
  obtain ⟨H0, B0, env, ⟨Z, Fs, s⟩, o⟩ := h
  simp only [execS] at o
  refine ⟨_, env, zex_k s _, zex_eo s _, ?_⟩
  cases e : evalE G.Γ G.gl (.tup (.cons x (.cons y .nil))) env with
  | exc c => rw [e] at o; exact Exc.h0 s o
  | stuck => rw [e] at o; exact o
  | ok v =>
  rw [e] at o
  simp only [Res.bind_ok] at o
  obtain ⟨d, k, nw⟩ := v
  simp only at o
  split at o
  rotate_left
  · exact o.elim
  rename_i p q
  split at o
  rotate_left
  · exact o.elim
  rename_i hfl
  obtain ⟨f1, f2⟩ := Bool.and_eq_true_iff.mp hfl
  cases e2 : (evalE G.Γ G.gl a env).nx with
  | exc c => exact absurd e2 nx_exc
  | stuck => rw [e2] at o; exact o.elim
  | ok n =>
  rw [e2] at o
  simp only [Res.bind_ok] at o
  cases e3 : withL env i [] (fSet n (p, 0, true)) with
  | exc c => exact absurd e3 withL_exc
  | stuck => rw [e3] at o; exact o.elim
  | ok env2 =>
  rw [e3] at o
  simp only [Res.bind_ok] at o
  cases e4 : (evalE G.Γ G.gl b env2).nx with
  | exc c => exact absurd e4 nx_exc
  | stuck => rw [e4] at o; exact o.elim
  | ok m =>
  rw [e4] at o
  simp only [Res.bind_ok] at o
  cases e5 : withL env2 j [] (fSet m (q, 0, true)) with
  | exc c => exact absurd e5 withL_exc
  | stuck => rw [e5] at o; exact o.elim
  | ok env3 =>
  rw [e5] at o
  simp only [Res.bind_ok] at o
  intro t H' Z' F g nd fr rp
  have s' := s.grow _ g
  have key : ∃ A u w, t = .ref A ∧ H' A = some (.tup [u, w]) ∧ (∀ B, Vw G.K G.mg B p u) ∧ (∀ B, Vw G.K G.mg B q w) := by
    generalize hk : ((.tup [p, q], k, nw) : Val).2.1 = kk at rp
    cases rp with
    | sh c w =>
      obtain ⟨A, vs, rfl, ha, r⟩ := vw_tup w
      obtain ⟨u, w, rfl, w1, w2⟩ := vwL_two r
      exact ⟨A, u, w, rfl, g.k.h _ _ _ ha, fun B => Vw.flat_any f1 w1, fun B => Vw.flat_any f2 w2⟩
    | tup ha r =>
      rename_i A vs F
      cases r with
      | cons r1 r2 =>
        cases r2 with
        | cons r3 r4 =>
          cases r4
          exact ⟨_, _, _, rfl, ha, fun B => Vw.flat_any f1 (r1.flat_inv f1).2, fun B => Vw.flat_any f2 (r3.flat_inv f2).2⟩
  obtain ⟨A, u, w, rfl, ha, w1, w2⟩ := key
  refine ⟨A, [u, w], rfl, .of ha, rfl, u, [w], rfl, ?_⟩
  refine par2_one s' e2 e3 f1 w1 fun H2 ⟨Z2, Fs2, s2⟩ => ⟨w, [], rfl, ?_⟩
  exact par2_one s2 e4 e5 f2 w2 fun H3 st => ⟨rfl, o _ H3 st⟩

/-! ### loops -/
theorem SOk.item {v : Val} {x : V} {t : Tg} {env2 : Env} {Q : L2.St → Hp → Prop} (hK : G.K = X.K) (s : SOk G H0 B0 env σ H Z Fs) (it : ItemAt G Z H v x H') (hv : v.2.1 = 0) (hs : setT env t v = .ok env2)
    (q : ∀ σ2, St1 G H0 B0 env2 σ2 H' → Q σ2 H') : gT X.K t x σ H' Q := by
  -- the item as a shared thing
  have key : ∃ Z2, SOk G H0 B0 env σ H' Z2 Fs ∧ Vw G.K G.mg (Z2 v.2.2) v.1 x := by
    cases it with
    | old e w => subst e; exact ⟨Z, s, w⟩
    | tup ex hT eH ed r =>
      rename_i T vs ds
      subst ex eH
      have g : Gr H (upd H T (.tup vs)) Z Z := (Gr.refl s.zk).add hT
      have g2 := g.lay (F := [T]) (nw := v.2.2) (fun p hp => by
        have e : p = T := by simpa using hp
        subst e
        exact ⟨hT, s.zk.s.free hT⟩)
      refine ⟨_, s.grow0 g2, ?_⟩
      rw [ed]
      refine .tup (vs := vs) ?_ (VwL.mono (g2.z _) _ _ r)
      rw [zlay_in (by simp)]
      exact upd_same
  obtain ⟨Z2, s2, w⟩ := key
  cases t with
  | one i =>
    simp only [setT] at hs
    have hs := Res.ok.inj hs
    subst hs
    have s3 := s2.push (v := v) (x := x) (F := []) (by rw [hv]; exact rp_sh w) List.nodup_nil (fun p hp => nomatch hp)
    obtain ⟨Fs4, s4, _⟩ := s3.move (i := i)
    exact q _ ⟨Z2, Fs4, s4⟩
  | many is =>
    obtain ⟨d, k, nw⟩ := v
    cases d <;> simp only [setT, reduceCtorEq] at hs
    rename_i ds
    split at hs
    rotate_left
    · cases hs
    rename_i hl
    have hs := Res.ok.inj hs
    subst hs
    have hv : k = 0 := hv
    subst hv
    obtain ⟨a, vs, rfl, ha, r⟩ := vw_tup w
    have hl2 : vs.length = is.length := by rw [← r.length]; exact hl
    obtain ⟨Fs3, s3⟩ := SOk.setsA r.rp.rpA is s2 (by simpa using hl.symm) List.nodup_nil (fun p hp => nomatch hp)
    rw [← setM_eq] at s3
    exact ⟨a, vs, rfl, .of (s2.zk.h _ _ _ ha), hl2, gTs_ok is vs _ _ _ hl2 (q _ ⟨Z2, Fs3, s3⟩)⟩
theorem setT_exc {env : Env} {t : Tg} {v : Val} {c : Str} : setT env t v ≠ .exc c := by
  intro h
  cases t with
  | one i => cases h
  | many is =>
    obtain ⟨d, k, nw⟩ := v
    cases d <;> simp only [setT, reduceCtorEq] at h
    split at h <;> cases h
theorem items_zero {k : IK} {vs items : List Val} (h : itemsOf k vs = .ok items) : ∀ v ∈ items, v.2.1 = 0 := by
  intro v hv
  cases k with
  | seq =>
    simp only [itemsOf] at h
    unfold itSeq at h
    split at h
    · cases h; obtain ⟨d, _, rfl⟩ := List.mem_map.mp hv; rfl
    · split at h
      · cases h; obtain ⟨d, _, rfl⟩ := List.mem_map.mp hv; rfl
      · cases h
    · cases h
  | range =>
    simp only [itemsOf] at h
    unfold itRange at h
    split at h
    · split at h
      · cases h; obtain ⟨d, _, rfl⟩ := List.mem_map.mp hv; rfl
      · cases h
    · split at h
      · cases h; obtain ⟨d, _, rfl⟩ := List.mem_map.mp hv; rfl
      · cases h
    · split at h
      · cases h; obtain ⟨d, _, rfl⟩ := List.mem_map.mp hv; rfl
      · cases h
    · cases h
  | zip =>
    simp only [itemsOf] at h
    unfold itZip at h
    split at h
    · cases h; obtain ⟨d, _, rfl⟩ := List.mem_map.mp hv; rfl
    · cases h
  | enum =>
    simp only [itemsOf] at h
    unfold itEnum at h
    split at h
    · cases h; obtain ⟨d, _, rfl⟩ := List.mem_map.mp hv; rfl
    · cases h
theorem ps_forD {tg iter : Expr} {body : List Stmt} {t : Tg} {k : IK} {cs : CEs} {b : CSs} (hK : G.K = X.K) (hp : PassesOwn (model X.prog X.w) X.A X.env X.xe) (hc : X.calm = true) (hi : PI X tg iter (iD G k cs)) (hg : PG X tg (gT X.K t)) (hb : PSs X body (tSs G fu b))
    (hs : ∀ x, foldedSetIterable iter X.env x = pure x) : PS X (.For tg iter body [] pos) (tS G fu (.fors t k cs b)) := by
  refine (ps_for hp hc hi hg hb hs).imp fun D σ H ⟨H0, B0, env, ⟨Z, Fs, s⟩, o⟩ => ?_
  simp only [execS] at o
  refine ⟨_, env, zex_k s cs.vars, zex_eo s cs.vars, ?_⟩
  cases q1 : evalEs G.Γ G.gl cs env with
  | exc c => rw [q1] at o; exact Exc.h0 s o
  | stuck => rw [q1] at o; exact o
  | ok vs =>
  rw [q1] at o
  simp only [Res.bind_ok] at o ⊢
  cases q2 : itemsOf k vs with
  | exc c => rw [q2] at o; exact Exc.h0 s o
  | stuck => rw [q2] at o; exact o
  | ok items =>
  rw [q2] at o
  simp only [Res.bind_ok] at o
  intro J H1 Z1 g1 feeds hz
  obtain ⟨Z2, Fs2, s2, _, _, f3⟩ := s.after (sh := false) g1
  have ez := f3 rfl
  subst ez
  have o2 := OutS.rebase s2 o
  generalize hr : forL (execSs G.Γ G.gl fu b) t items (keep env cs.vars false) = r at o2
  refine ⟨fun i m σ H => m = items.length - i ∧ i ≤ items.length ∧ ∃ e, St1 G H0 Z2 e σ H ∧ forL (execSs G.Γ G.gl fu b) t (items.drop i) e = r, ⟨items.length, by simp, Nat.zero_le _, _, ⟨Z2, Fs2, s2.rebase⟩, by rw [List.drop_zero]; exact hr⟩, ?_⟩
  rintro i m σ3 H3 ⟨rfl, hile, e, ⟨Z3, Fs3, s3⟩, hfor⟩
  have sc : Same (Z2 false) H3 := (s3.b0 false).trans s3.zk.s
  by_cases hlt : i < items.length
  · have hv : items[i]? = some items[i] := List.getElem?_eq_getElem hlt
    have fd := (feeds H3 sc i).1 _ hv
    have hdrop : items.drop i = items[i] :: items.drop (i + 1) := List.drop_eq_getElem_cons hlt
    rw [hdrop] at hfor
    unfold forL at hfor
    refine .inr ⟨fd.1, fun σ' H' => i + 1 ≤ items.length ∧ ∃ e, St1 G H0 Z2 e σ' H' ∧ forL (execSs G.Γ G.gl fu b) t (items.drop (i + 1)) e = r, fun σ' H' p' => ⟨items.length - (i + 1), by omega, rfl, p'⟩, fun x H' y => ?_⟩
    cases e1 : setT e t items[i] with
    | exc c => exact absurd e1 setT_exc
    | stuck => rw [e1] at hfor; rw [← hfor] at o2; exact o2.elim
    | ok env2 =>
    rw [e1] at hfor
    simp only [Res.bind_ok] at hfor
    have it : ItemAt G Z3 H3 items[i] x H' := by
      cases fd.2 x H' y with
      | old a w => exact .old a (Vw.mono (s3.b0 _) _ _ w)
      | tup a b' c' d w => exact .tup a b' c' d (VwL.mono (s3.b0 _) _ _ w)
    refine s3.item hK it (items_zero q2 _ (List.getElem_mem hlt)) e1 fun σ4 st4 => ⟨H0, Z2, env2, st4, ?_⟩
    cases e2 : execSs G.Γ G.gl fu b env2 with
    | exc c => rw [e2] at hfor; rw [← hfor] at o2; exact o2
    | stuck => rw [e2] at hfor; rw [← hfor] at o2; exact o2
    | ok f =>
      rw [e2] at hfor
      cases f with
      | nx e3 => exact fun σ' H' st => ⟨hlt, e3, st, hfor⟩
      | rt v => rw [← hfor] at o2; exact o2
  · have ei : i = items.length := by omega
    subst ei
    rw [List.drop_length] at hfor
    unfold forL at hfor
    refine .inl ⟨(feeds H3 sc _).2 (Nat.le_refl _), ?_⟩
    rw [← hfor] at o2
    exact o2 σ3 H3 ⟨Z3, Fs3, s3⟩
theorem ps_whileD {c : Expr} {body : List Stmt} {cc : CE} {b : CSs} (hp : PassesOwn (model X.prog X.w) X.A X.env X.xe) (hc : PT X c (tDT G cc)) (hb : PSs X body (tSs G fu b)) : PS X (.While c body [] pos) (tS G fu (.whl cc b)) := by
  refine (ps_while hp hc hb).imp fun D σ H ⟨H0, B0, env, st, o⟩ => ?_
  simp only [execS] at o
  generalize hr : whileL (fun e => evalE G.Γ G.gl cc e >>= boolOf) (execSs G.Γ G.gl fu b) fu env = r at o
  refine ⟨fun m σ H => ∃ e, St1 G H0 B0 e σ H ∧ whileL (fun e => evalE G.Γ G.gl cc e >>= boolOf) (execSs G.Γ G.gl fu b) m e = r, ⟨fu, env, st, hr⟩, ?_⟩
  rintro m σ3 H3 ⟨e, ⟨Z3, Fs3, s3⟩, hw⟩
  cases m with
  | zero =>
    unfold whileL at hw
    rw [← hw] at o
    exact o.elim
  | succ m =>
    unfold whileL at hw
    refine sok_tDT s3 ?_
    cases e1 : evalE G.Γ G.gl cc e >>= boolOf with
    | exc c => rw [e1] at hw; rw [← hw] at o; exact Exc.h0 s3 o
    | stuck => rw [e1] at hw; rw [← hw] at o; exact o
    | ok b1 =>
    rw [e1] at hw
    simp only [Res.bind_ok] at hw
    intro H4 _ st4
    cases b1 with
    | false =>
      rw [if_neg Bool.false_ne_true] at hw ⊢
      rw [← hw] at o
      exact o σ3 H4 st4
    | true =>
      rw [if_pos rfl] at hw ⊢
      refine ⟨fun σ' H' => ∃ e, St1 G H0 B0 e σ' H' ∧ whileL (fun e => evalE G.Γ G.gl cc e >>= boolOf) (execSs G.Γ G.gl fu b) m e = r, fun σ' H' p' => ⟨m, Nat.lt_succ_self m, p'⟩, H0, B0, e, st4, ?_⟩
      cases e2 : execSs G.Γ G.gl fu b e with
      | exc c => rw [e2] at hw; rw [← hw] at o; exact o
      | stuck => rw [e2] at hw; rw [← hw] at o; exact o
      | ok f =>
        rw [e2] at hw
        cases f with
        | nx e3 => exact fun σ' H' st => ⟨e3, st, hw⟩
        | rt v => rw [← hw] at o; exact o

/-! ### raise -/
theorem ps_raiseD {x m : Str} {jj : Nat} {p p2 p3 : Pos} {C : Addr} {bmB : List Value} {B newId initId : String} (hmg : X.mg = G.mg) (hc : X.calm = true) (tk : Takes X (fun cls d _ H => G.E cls d H)) (F : ExcBaseFacts B newId initId bmB) (q : PySem.W.excIn X.K C bmB newId = true) (gC : X.mg x = some (.ref C)) (kC : PySem.W.keepIn X.K (.ref C) = true) (r : Raises X (.ref C)) (hg : Gl X x) (hdb : (x == ("__debug__" : Str)) = false) :
    PS X (.Raise (some (.Call (.Name x p) [.Constant (.str m) jj p2] [] p3)) none pos) (tS G fu (.rais x)) := by
  refine (ps_raise hc tk (pmk_own F q gC kC r hg hdb)).imp fun D σ H ⟨H0, B0, env, ⟨Z, Fs, s⟩, o⟩ => ?_
  simp only [execS] at o
  exact Exc.h0 s o H C (.refl _) (by rw [← hmg]; exact gC)
end
/-! ### a def -/
section
variable {G : Gb} {P : Program} {w : World} {K : PySem.W.Frag} {mg : Str → Option Value} {base : Heap}
theorem start_get {N : List Str} {vs : List V} {i : Nat} {x : V} (h : (L2.start N vs)[i]? = some (some x)) : vs[i]? = some x := by
  unfold L2.start at h
  by_cases hi : i < vs.length
  · rw [List.getElem?_append_left (by simpa using hi)] at h
    simpa using h
  · rw [List.getElem?_append_right (by simp; omega), List.getElem?_replicate] at h
    split at h <;> cases h
/-- the promise of a def by its core body -/
theorem fn_okD {x qual : Str} {st : Stmt} {f : Addr} {fd : FuncData} {N ps : List Str} {k fu : Nat} {body : CSs} (F : Fun K x qual st f fd) (S : FnScope N ps (defScope st)) (hKG : G.K = K) (hps : ps.length ≤ N.length)
    (hbody : ∀ (cdv : Value) (A : Around) (outer : List PySem.Env) (s : Shared) (H : Hp) (E : XK), Room k (A.deeper (envOfC qual (defScope st) s.heap.objs.size f cdv)) →
      PSs (cxOf (L2.CX P w) P w K mg base N qual (defScope st) f cdv A outer s H E) (defBody st) (tSs { G with E := E } fu body)) :
    FnOk P w K mg base (L2.CX P w) (k + 1) f fd ps (spC G ps.length (runD G.Γ G.gl fu body N.length)) := by
  refine F.okX S (fun vs H Q E ⟨B, ds, _, _, hl, _⟩ => hl) fun cdv A outer s H vs Q E hr ⟨B, ds, hB, hw, hl, o⟩ => ?_
  refine ⟨_, hbody cdv A outer s H E hr, H, zone0 B, ds.map (fun d => some (d, 0, false)) ++ List.replicate (N.length - ds.length) none, ⟨zone0 B, fun _ => [], ?_⟩, ?_⟩
  · have hlen := hw.length
    refine ⟨zone0_k hB, .refl _, fun _ => .refl _, fun a h1 h2 => absurd h1 h2, fun a _ => rfl, ?_, fun i v e => ?_, fun i _ => rfl, fun i => List.nodup_nil, (fun i j _ p hp => nomatch hp), (fun i p hp => nomatch hp)⟩
    · unfold L2.start
      simp [hlen]
    · by_cases hi : i < ds.length
      · rw [List.getElem?_append_left (by simpa using hi), List.getElem?_map, Option.map_eq_some_iff] at e
        obtain ⟨d, e1, e2⟩ := e
        cases e2
        obtain ⟨y, hy, wy⟩ := hw.get e1
        refine ⟨y, ?_, rp_sh wy⟩
        unfold L2.start
        rw [List.getElem?_append_left (by simp; omega), List.getElem?_map, hy]
        rfl
      · rw [List.getElem?_append_right (by simp; omega), List.getElem?_replicate] at e
        split at e <;> cases e
  · unfold runD at o
    show OutS { G with E := E } H (zone0 B) (execSs G.Γ G.gl fu body _) _
    cases e : execSs G.Γ G.gl fu body (ds.map (fun d => some (d, 0, false)) ++ List.replicate (N.length - ds.length) none) with
    | exc c => rw [e] at o; exact o
    | stuck => rw [e] at o; exact o
    | ok fl =>
      rw [e] at o
      cases fl with
      | nx e2 =>
        intro σ' H' ⟨Z', Fs', s'⟩
        exact o .non H' Z' [] s'.gr List.nodup_nil (fun p hp => nomatch hp) (rp_flat rfl .non)
      | rt v =>
        intro y H' ⟨Z', F', g, nd, fr, rp⟩
        exact o y H' Z' F' g nd fr rp
end
end TT

set_option Elab.async false
set_option linter.all false
set_option maxRecDepth 100000
set_option maxHeartbeats 4000000
/-! TR: from the model's syntax to the core: expressions. -/
namespace TT
open PySem L2 PySem.Spec PyProof.Rows
structure Ck where
  N : List Str
  sc : Scope
  fns : List (Str × Nat)
  cons : List Str
  excs : List Str
def Ck.kind (C : Ck) (x : Str) : Option NameKind := C.sc.names.lookup x
def Ck.vis (C : Ck) (x : Str) : Bool := match C.kind x with
  | some .local => true
  | some .cell => true
  | some .free => true
  | _ => false
def Ck.gl (C : Ck) (x : Str) : Bool := match C.kind x with
  | some .globalImplicit => true
  | _ => false
def okName (x : Str) : Bool := !(x == ("__debug__" : Str)) && !(x == ("__classdict__" : Str)) && !(x == ("__name__" : Str))
def strName (C : Ck) (x : Str) : Option CE :=
  if okName x then
    (if C.vis x then (idxF C.N x).map CE.var else if C.gl x && C.cons.contains x then some (.gcon x) else none)
  else none
def strConst : Const → Option CE
  | .int i => some (.cst (.int i))
  | .bool b => some (.cst (.bl b))
  | .none => some (.cst .non)
  | .str x => some (.cst (.str x))
  | _ => none
def bltB (x : Str) : Option (Bl × String) := if x = ("len" : Str) then some (.len, "len") else if x = ("sum" : Str) then some (.sum, "sum") else if x = ("max" : Str) then some (.max, "max")
    else if x = ("min" : Str) then some (.min, "min") else if x = ("abs" : Str) then some (.abs, "abs") else if x = ("all" : Str) then some (.all, "all")
    else if x = ("any" : Str) then some (.any, "any") else if x = ("sorted" : Str) then some (.sorted, "sorted") else none
def bltT (x : Str) : Option (Bl × String) := if x = ("list" : Str) then some (.list, "list") else if x = ("int" : Str) then some (.int, "int") else none
def tyOf (x : Str) : Option (Ty × String) := if x = ("int" : Str) then some (.int, "int") else if x = ("bool" : Str) then some (.bool, "bool") else if x = ("list" : Str) then some (.list, "list")
    else if x = ("tuple" : Str) then some (.tuple, "tuple") else if x = ("str" : Str) then some (.str, "str") else none
/-- the names of built-ins that a module may not have of its own -/
def bltNames : List Str := ["len", "sum", "max", "min", "abs", "all", "any", "sorted", "list", "int", "bool", "tuple", "str", "isinstance", "range", "zip", "enumerate", "set"]
def strList (f : Expr → Option CE) : List Expr → Option CEs
  | [] => some .nil
  | e :: es => match f e, strList f es with
    | some c, some cs => some (.cons c cs)
    | _, _ => none
def strOpt (f : Expr → Option CE) : Option Expr → Option CEs
  | none => some .nil
  | some e => match f e with
    | some c => some (.cons c .nil)
    | none => none
/-- a target's names -/
def namesOf : List Expr → Option (List Str)
  | [] => some []
  | .Name x _ :: es => (namesOf es).map (x :: ·)
  | _ :: _ => none
def slotsOf (N : List Str) : List Str → Option (List Nat)
  | [] => some []
  | x :: xs => match idxF N x, slotsOf N xs with
    | some i, some is => some (i :: is)
    | _, _ => none
def strTg (N : List Str) : Expr → Option (Tg × List (Str × Nat))
  | .Name x _ => (idxF N x).map fun i => (.one i, [(x, i)])
  | .Tuple es _ _ => match namesOf es with
    | some xs => (slotsOf N xs).map fun is => (.many is, xs.zip is)
    | none => none
  | _ => none
def isTup : Expr → Bool
  | .Tuple _ _ _ => true
  | _ => false
def noIf : Expr → Bool
  | .IfExp _ _ _ _ => false
  | _ => true
def relS (scope sc : Scope) : Scope := { scope with names := scope.names.map fun (n, k) => if (k == .free && sc.kind == .function && sc.names.lookup n == some .cell) then (n, .cell) else (n, k) }
def ownLoc (scope : Scope) (own : List (Str × Nat)) : Bool := own.all fun p => match scope.names.lookup p.1 with
  | some .local => true
  | some .cell => true
  | _ => false
def strIt (f : Expr → Option CE) (C : Ck) (tup : Bool) : Expr → Option (IK × CEs)
  | .Call (.Name x p) args [] pos =>
    if C.gl x && x == ("range" : Str) && (args.length == 1 || args.length == 2 || args.length == 3) then (strList f args).map fun cs => (.range, cs)
    else if C.gl x && x == ("zip" : Str) && args.length == 2 && tup then (strList f args).map fun cs => (.zip, cs)
    else if C.gl x && x == ("enumerate" : Str) && args.length == 1 && tup then (strList f args).map fun cs => (.enum, cs)
    else match f (.Call (.Name x p) args [] pos) with
      | some c => some (.seq, .cons c .nil)
      | none => none
  | e => match f e with
    | some c => some (.seq, .cons c .nil)
    | none => none
def isRange (C : Ck) : List Expr → Option (List Expr)
  | [.Call (.Name y _) [a] [] _] => if C.gl y && y == ("range" : Str) then some [a] else none
  | [.Call (.Name y _) [a, b] [] _] => if C.gl y && y == ("range" : Str) then some [a, b] else none
  | _ => none
def isSet (C : Ck) : List Expr → Option Expr
  | [.Call (.Name y _) [a] [] _] => if C.gl y && y == ("set" : Str) then some a else none
  | _ => none
def isInst (C : Ck) : List Expr → Option (Expr × Ty)
  | [a, .Name y _] => if C.gl y then (tyOf y).map fun t => (a, t.1) else none
  | _ => none
def bltArgs : List Expr → Bool
  | [] => false
  | _ :: _ => true
def strCall (f : Expr → Option CE) (C : Ck) (x : Str) (args : List Expr) : Option CE :=
  if !(okName x && C.gl x) then none
  else match C.fns.lookup x with
  | some n => if args.length = n then (strList f args).map fun cs => .call x cs else none
  | none =>
    if x = ("isinstance" : Str) then (match isInst C args with
      | some (a, T) => (f a).map fun c => .isi c T
      | none => none)
    else if x = ("list" : Str) && (isRange C args).isSome then (match isRange C args with
      | some as => (strList f as).map fun cs => .blt .lrange cs
      | none => none)
    else if x = ("sorted" : Str) && (isSet C args).isSome then (match isSet C args with
      | some a => (f a).map fun c => .blt .sset (.cons c .nil)
      | none => none)
    else if bltArgs args then (match bltB x with
      | some (b, _) => (strList f args).map fun cs => .blt b cs
      | none => (match bltT x with
        | some (b, _) => (strList f args).map fun cs => .blt b cs
        | none => none))
    else none
def strComp (f g : Expr → Option CE) (gi : Expr → Option CE) (C : Ck) (elt : Expr) (scope : Scope) (gens : List Comprehension) : Option CE := match gens with
  | [⟨tg, iter, ifs, 0⟩] => (match strTg C.N tg with
    | some (t, own) => if blkC C.N C.sc scope own && ownLoc scope own && ifs.all noIf && decide (ifs.length ≤ 1) then (match strIt f C (isTup tg) iter, strList gi ifs, g elt with
      | some (k, cs), some ci, some ce => some (.comp ce t k cs ci)
      | _, _, _ => none) else none
    | none => none)
  | _ => none
def strE : Nat → Ck → Expr → Option CE
  | 0, _, _ => none
  | n + 1, C, e => match e with
    | .Name x _ => strName C x
    | .Constant k _ _ => strConst k
    | .BinOp a op b _ => (match strE n C a, strE n C b with
      | some ca, some cb => some (.bin op ca cb)
      | _, _ => none)
    | .UnaryOp op a _ => (match op, strE n C a with
      | .USub, some c => some (.neg c)
      | .Not, some c => if noIf a then some (.not c) else none
      | _, _ => none)
    | .Compare a [o] [b] _ => (match strE n C a, strE n C b with
      | some ca, some cb => if behindInMarks o b then none else some (.cmp o ca cb)
      | _, _ => none)
    | .Compare a [o1, o2] [b, c] _ => (match strE n C a, strE n C b, strE n C c with
      | some ca, some cb, some cc => if lastMarks [o1, o2] [b, c] then none else some (.chain o1 o2 ca cb cc)
      | _, _, _ => none)
    | .BoolOp op [a] _ => if noIf a then strE n C a else none
    | .BoolOp op (a :: b :: r) pos => (match op, strE n C a, strE n C (.BoolOp op (b :: r) pos) with
      | .And, some ca, some cb => if noIf a then some (.and ca cb) else none
      | .Or, some ca, some cb => if noIf a then some (.or ca cb) else none
      | _, _, _ => none)
    | .IfExp c a b _ => (match strE n C c, strE n C a, strE n C b with
      | some cc, some ca, some cb => if noIf c then some (.ite cc ca cb) else none
      | _, _, _ => none)
    | .Call (.Name x _) args [] _ => strCall (strE n C) C x args
    | .Subscript a (.Slice lo hi none _) _ => (match strE n C a, strOpt (strE n C) lo, strOpt (strE n C) hi with
      | some ca, some cl, some ch => some (.sl ca cl ch)
      | _, _, _ => none)
    | .Subscript a b _ => (match strE n C a, strE n C b with
      | some ca, some cb => some (.idx ca cb)
      | _, _ => none)
    | .List es _ => (strList (strE n C) es).map .lst
    | .Tuple es _ _ => (strList (strE n C) es).map .tup
    | .ListComp elt gens scope _ => strComp (strE n C) (strE n { C with sc := relS scope C.sc }) (strE n { C with sc := relS scope C.sc }) C elt scope gens
    | _ => none

/-! ### what is known where one stands -/
structure CtxOk (C : Ck) (X : Cx) (G : Gb) : Prop where
  N : X.N = C.N
  sc : X.env.scope = C.sc
  nd : X.N.Nodup
  K : G.K = X.K
  mg : X.mg = G.mg
  calm : X.calm = true
  un : X.A.units + 64 < cLine
  kind : C.sc.kind = .function
  pas : Passes (L2.CX X.prog X.w) X G.E
  blt : ∀ x ∈ bltNames, X.mg x = none
  fns : ∀ f n, C.fns.lookup f = some n → ∃ (k : Nat) (a : Addr) (fd : FuncData) (ps : List Str), ps.length = n ∧ FnOk X.prog X.w X.K X.mg X.base (L2.CX X.prog X.w) k a fd ps (spC G n (G.Γ f)) ∧ Room k X.A ∧ X.mg f = some (.ref a) ∧ PySem.W.keepIn X.K (.ref a) = true ∧ Binds X.K fd ps []
  gam : ∀ f n, C.fns.lookup f = some n → (∀ ds v, G.Γ f ds = .ok v → ds.length = n) ∧ (∀ ds c, G.Γ f ds = .exc c → ds.length = n)
  cons : ∀ x ∈ C.cons, ∃ (u : Value) (v : V) (d : D), X.mg x = some u ∧ RelV v u ∧ (∀ B, Vw G.K G.mg B d v) ∧ G.gl x = some d
section
variable {C : Ck} {X : Cx} {G : Gb}
theorem idxF_get : ∀ {ns : List Str} {x : Str} {i : Nat}, idxF ns x = some i → ns[i]? = some x
  | [], _, _, h => by simp [idxF] at h
  | n :: ns, x, i, h => by
    unfold idxF at h
    split at h
    · rename_i e; cases h; subst e; rfl
    · rw [Option.map_eq_some_iff] at h
      obtain ⟨j, e, rfl⟩ := h
      simpa using idxF_get e
theorem vis_of (ok : CtxOk C X G) {x : Str} (h : C.vis x = true) : Vis X.env.scope x := by
  unfold Ck.vis Ck.kind at h
  rw [← ok.sc] at h
  unfold Vis
  split at h
  · rename_i e; exact .inl e
  · rename_i e; exact .inr (.inl e)
  · rename_i e; exact .inr (.inr e)
  · cases h
theorem gl_of (ok : CtxOk C X G) {x : Str} (h : C.gl x = true) : Gl X x := by
  unfold Ck.gl Ck.kind at h
  rw [← ok.sc] at h
  unfold Gl Env.kindOf
  split at h
  · rename_i e; exact e
  · cases h
theorem okName_spec {x : Str} (h : okName x = true) : (x == ("__debug__" : Str)) = false ∧ (x == ("__classdict__" : Str)) = false ∧ x ≠ "__name__" := by
  unfold okName at h
  simp only [Bool.and_eq_true, Bool.not_eq_true'] at h
  obtain ⟨⟨h1, h2⟩, h3⟩ := h
  exact ⟨h1, h2, fun z => by rw [z] at h3; simp at h3⟩
theorem nameE (ok : CtxOk C X G) {x : Str} {c : CE} {pos : Pos} (h : strName C x = some c) : PE X (.Name x pos) (tD G c) := by
  unfold strName at h
  split at h
  rotate_left
  · cases h
  rename_i ho
  obtain ⟨h1, h2, h3⟩ := okName_spec ho
  split at h
  · rename_i hv
    rw [Option.map_eq_some_iff] at h
    obtain ⟨i, e, rfl⟩ := h
    exact pe_varD (by rw [ok.N]; exact idxF_get e) (vis_of ok hv) h1 h2
  · split at h
    · rename_i hc
      obtain ⟨hg, hm⟩ := Bool.and_eq_true_iff.mp hc
      cases h
      obtain ⟨u, v, d, e1, r, w, e2⟩ := ok.cons x (by simpa using hm)
      exact pe_gconD (gl_of ok hg) e1 r w e2 h1
    · cases h
theorem constE {k : Const} {c : CE} {j : Nat} {pos : Pos} (h : strConst k = some c) : PE X (.Constant k j pos) (tD G c) := by
  unfold strConst at h
  split at h <;> first | cases h | skip
  · exact pe_intD
  · exact pe_blD
  · exact pe_nonD
  · exact pe_strD
theorem star_one {e : Expr} {es : List Expr} {env : PySem.Env} (h : ∀ a b, e ≠ .Starred a b) : starEach (e :: es) env = (false, eval e env) :: starEach es env := by
  cases e <;> first | rfl | exact absurd rfl (h _ _)
theorem noStar {n : Nat} {e : Expr} {c : CE} (h : strE n C e = some c) : ∀ a b, e ≠ .Starred a b := by
  rintro a b rfl
  cases n <;> simp [strE] at h
theorem noSet {n : Nat} {e : Expr} {c : CE} (h : strE n C e = some c) : ∀ a b d, e ≠ .Set a b d := by
  rintro a b d rfl
  cases n <;> simp [strE] at h
theorem noSlice {n : Nat} {e : Expr} {c : CE} (h : strE n C e = some c) : ∀ a b d f, e ≠ .Slice a b d f := by
  rintro a b d f rfl
  cases n <;> simp [strE] at h
theorem plain_of {e : Expr} (h : ∀ a b d f, e ≠ .Slice a b d f) : PlainIx e := by
  intro o i
  unfold subscripted
  cases e <;> first | rfl | exact absurd rfl (h _ _ _ _)
theorem fold_of {e : Expr} {env : PySem.Env} (h : ∀ a b d, e ≠ .Set a b d) : ∀ x, foldedSetIterable e env x = pure x := by
  intro x
  cases e <;> first | rfl | exact absurd rfl (h _ _ _)
theorem stars_none {f : Expr → Option CE} (hf : ∀ e c, f e = some c → ∀ a b, e ≠ .Starred a b) {env : PySem.Env} {pos : Pos} : ∀ {es : List Expr} {cs : CEs}, strList f es = some cs → (backTo pos (starEach es env)).any (·.1) = false
  | [], _, _ => rfl
  | e :: es, cs, h => by
    unfold strList at h
    split at h
    · rename_i c cs' e1 e2
      have ih := stars_none hf (env := env) (pos := pos) e2
      rw [star_one (hf _ _ e1)]
      unfold backTo at ih ⊢
      simp only [List.map_cons, List.any_cons, Bool.false_or]
      exact ih
    · cases h
theorem listA {f : Expr → Option CE} (hs : ∀ e c, f e = some c → ∀ a b, e ≠ .Starred a b) (hf : ∀ e c, f e = some c → PE X e (tD G c)) : ∀ {es : List Expr} {cs : CEs}, strList f es = some cs → PA X es (tA G cs)
  | [], _, h => by cases h; exact pa_nilD
  | e :: es, cs, h => by
    unfold strList at h
    split at h
    · rename_i c cs' e1 e2
      cases h
      exact pa_consD (hf _ _ e1) (listA hs hf e2) (star_one (hs _ _ e1))
    · cases h
theorem optO {f : Expr → Option CE} (hf : ∀ e c, f e = some c → PE X e (tD G c)) {o : Option Expr} {cs : CEs} (h : strOpt f o = some cs) : PO X o (tO G cs) := by
  unfold strOpt at h
  split at h
  · cases h; exact po_noneD
  · split at h
    · rename_i e1; cases h; exact po_someD (hf _ _ e1)
    · cases h
theorem blt_mem (ok : CtxOk C X G) {x : Str} (h : x ∈ bltNames) : X.mg x = none := ok.blt x h
end
end TT

set_option Elab.async false
set_option linter.all false
set_option maxRecDepth 100000
set_option maxHeartbeats 4000000
/-! TS: the checker of expressions is sound. -/
namespace TT
open PySem L2 PySem.Spec PyProof.Rows
section
variable {C : Ck} {X : Cx} {G : Gb}
theorem assignEach_names {env : PySem.Env} : ∀ {es : List Expr} {xs : List Str}, namesOf es = some xs → (assignEach es env).length = xs.length ∧ (assignEach es env).findIdx? (·.1) = none ∧ es.length = xs.length
  | [], _, h => by cases h; exact ⟨rfl, rfl, rfl⟩
  | e :: es, xs, h => by
    cases e <;> simp only [namesOf, reduceCtorEq] at h
    rename_i x p
    rw [Option.map_eq_some_iff] at h
    obtain ⟨ys, e1, rfl⟩ := h
    obtain ⟨h1, h2, h3⟩ := assignEach_names (env := env) e1
    refine ⟨by show (assignEach es env).length + 1 = _; rw [h1]; rfl, ?_, by simp [h3]⟩
    show ((false, assign (.Name x p) env) :: assignEach es env).findIdx? (·.1) = none
    rw [List.findIdx?_cons]
    simp [h2]
theorem tgsG {X' : Cx} : ∀ {es : List Expr} {xs : List Str} {is : List Nat}, namesOf es = some xs → slotsOf C.N xs = some is → (∀ x i pos, (x, i) ∈ xs.zip is → PG X' (.Name x pos) (gName i)) → PGs X' es (gTs is)
  | [], xs, is, h1, h2, hn => by cases h1; cases h2; exact pgs_nil
  | e :: es, xs, is, h1, h2, hn => by
    cases e <;> simp only [namesOf, reduceCtorEq] at h1
    rename_i x p
    rw [Option.map_eq_some_iff] at h1
    obtain ⟨ys, e1, rfl⟩ := h1
    unfold slotsOf at h2
    split at h2
    · rename_i i js e2 e3
      cases h2
      exact pgs_cons (hn x i p (by simp)) (tgsG e1 e3 fun y j q hm => hn y j q (by simp [hm])) rfl
    · cases h2
theorem slotsOf_len : ∀ {xs : List Str} {is : List Nat}, slotsOf C.N xs = some is → xs.length = is.length
  | [], _, h => by cases h; rfl
  | x :: xs, is, h => by
    unfold slotsOf at h
    split at h
    · rename_i i js e2 e3
      cases h
      simp [slotsOf_len e3]
    · cases h
theorem tgG {X' : Cx} {tg : Expr} {t : Tg} {own : List (Str × Nat)} (h : strTg C.N tg = some (t, own)) (hc : X'.calm = true) (hn : ∀ x i pos, (x, i) ∈ own → PG X' (.Name x pos) (gName i)) : PG X' tg (gT X'.K t) ∧ t.slots = own.map (·.2) := by
  unfold strTg at h
  split at h
  · rename_i x p
    rw [Option.map_eq_some_iff] at h
    obtain ⟨i, e, h⟩ := h
    cases h
    exact ⟨hn x i p (by simp), rfl⟩
  · rename_i es k p
    split at h
    · rename_i xs e1
      rw [Option.map_eq_some_iff] at h
      obtain ⟨is, e2, h⟩ := h
      cases h
      have hl := slotsOf_len e2
      obtain ⟨a1, a2, a3⟩ := assignEach_names (env := X'.env) e1
      refine ⟨pg_tup hc (tgsG e1 e2 hn) (by rw [a1, hl]) a2, ?_⟩
      show is = _
      rw [List.map_snd_zip (Nat.le_of_eq hl.symm)]
    · cases h
  · cases h
theorem tg_slots {tg : Expr} {t : Tg} {own : List (Str × Nat)} (h : strTg C.N tg = some (t, own)) : t.slots = own.map (·.2) := by
  unfold strTg at h
  split at h
  · rw [Option.map_eq_some_iff] at h
    obtain ⟨i, e, h⟩ := h
    cases h
    rfl
  · split at h
    · rw [Option.map_eq_some_iff] at h
      obtain ⟨is, e2, h⟩ := h
      cases h
      have hl := slotsOf_len e2
      show is = _
      rw [List.map_snd_zip (Nat.le_of_eq hl.symm)]
    · cases h
  · cases h
theorem strTg_own {tg : Expr} {t : Tg} {own : List (Str × Nat)} (h : strTg C.N tg = some (t, own)) : ∀ p ∈ own, C.N[p.2]? = some p.1 := by
  unfold strTg at h
  split at h
  · rw [Option.map_eq_some_iff] at h
    obtain ⟨i, e, h⟩ := h
    cases h
    intro p hp
    rcases List.mem_singleton.mp hp with rfl
    exact idxF_get e
  · split at h
    · rename_i xs e1
      rw [Option.map_eq_some_iff] at h
      obtain ⟨is, e2, h⟩ := h
      cases h
      clear e1
      have key : ∀ {xs : List Str} {is : List Nat}, slotsOf C.N xs = some is → ∀ p ∈ xs.zip is, C.N[p.2]? = some p.1 := by
        intro xs
        induction xs with
        | nil => intro is h p hp; cases h; simp at hp
        | cons x xs ih =>
          intro is h p hp
          unfold slotsOf at h
          split at h
          · rename_i i js e2 e3
            cases h
            rcases List.mem_cons.mp hp with rfl | hp
            · exact idxF_get e2
            · exact ih e3 p hp
          · cases h
      exact key e2
    · cases h
  · cases h
theorem lookup_map {x : Str} {g : Str × NameKind → Str × NameKind} (hg : ∀ p, (g p).1 = p.1) : ∀ {l : List (Str × NameKind)} {k : NameKind}, l.lookup x = some k → (l.map g).lookup x = some (g (x, k)).2
  | [], _, h => by cases h
  | (n, j) :: l, k, h => by
    rw [List.map_cons]
    rw [List.lookup] at h
    rw [show g (n, j) = (n, (g (n, j)).2) from Prod.ext (hg (n, j)) rfl, List.lookup]
    cases e : x == n with
    | true =>
      rw [e] at h
      have h : j = k := Option.some.inj h
      subst h
      rw [beq_iff_eq] at e
      subst e
      rfl
    | false =>
      rw [e] at h
      exact lookup_map hg h
theorem rel_lookup {scope sc : Scope} {x : Str} {k : NameKind} (h : scope.names.lookup x = some k) (hk : k = .local ∨ k = .cell) : (relS scope sc).names.lookup x = some k := by
  unfold relS
  simp only
  rw [lookup_map (fun p => by split <;> rfl) h]
  have : (k == NameKind.free) = false := by rcases hk with rfl | rfl <;> rfl
  simp only [this, Bool.false_and, Bool.false_eq_true, if_false]
/-- a comprehension's block -/
theorem CtxOk.blk (ok : CtxOk C X G) {scope : Scope} {own : List (Str × Nat)} (bk : BlkOk C.N C.sc scope own) (s : Shared) (H : Hp) (A : Addr) (cl : List (Str × Addr)) (fp : List Addr) :
    CtxOk { C with sc := relS scope C.sc } (X.blk s H scope (compEnvC scope cl A X.env) fp) G.nox where
  N := ok.N
  sc := by
    show relabel scope X.env = relS scope C.sc
    rw [← ok.sc]
    rfl
  nd := ok.nd
  K := ok.K
  mg := ok.mg
  calm := ok.calm
  un := ok.un
  kind := bk.kind
  pas := passL
  blt := ok.blt
  fns := ok.fns
  gam := ok.gam
  cons := ok.cons
theorem itI {f : Expr → Option CE} (ok : CtxOk C X G) (hs : ∀ e c, f e = some c → ∀ a b, e ≠ .Starred a b) (hz : ∀ e c, f e = some c → ∀ a b d, e ≠ .Set a b d) (hf : ∀ e c, f e = some c → PE X e (tD G c)) {tg iter : Expr} {k : IK} {cs : CEs} (h : strIt f C (isTup tg) iter = some (k, cs)) :
    PI X tg iter (iD G k cs) ∧ ∀ a b d, iter ≠ .Set a b d := by
  unfold strIt at h
  split at h
  · rename_i x p args pos
    refine ⟨?_, fun a b d z => nomatch z⟩
    split at h
    · rename_i c
      simp only [Bool.and_eq_true, Bool.or_eq_true, beq_iff_eq] at c
      obtain ⟨⟨hg, rfl⟩, hl⟩ := c
      rw [Option.map_eq_some_iff] at h
      obtain ⟨cs', e1, h⟩ := h
      cases h
      have hm : X.mg "range" = none := ok.blt _ (by decide +kernel)
      have hg := gl_of ok hg
      have ha := listA hs hf e1
      match args, hl with
      | [a], _ =>
        unfold strList at e1
        split at e1
        · rename_i c cs2 q1 q2
          cases e1; cases q2
          exact pi_range1D hg hm ha (star_one (hs _ _ q1))
        · cases e1
      | [a, b], _ =>
        unfold strList at e1
        split at e1
        · rename_i c cs2 q1 q2
          cases e1
          unfold strList at q2
          split at q2
          · rename_i c3 cs3 q3 q4
            cases q2; cases q4
            exact pi_range2D hg hm ha (by rw [star_one (hs _ _ q1), star_one (hs _ _ q3)]; rfl) (star_one (hs _ _ q3))
          · cases q2
        · cases e1
      | [a, b, d], _ =>
        unfold strList at e1
        split at e1
        · rename_i c cs2 q1 q2
          cases e1
          have hst := stars_none hs (env := X.env) (pos := pos) q2
          unfold strList at q2
          split at q2
          · rename_i c3 cs3 q3 q4
            cases q2
            unfold strList at q4
            split at q4
            · rename_i c5 cs5 q5 q6
              cases q4; cases q6
              refine pi_range3D hg hm ha (star_one (hs _ _ q1)) hst fun env vs hv => ?_
              simp only [evalEs] at hv
              cases e1 : evalE G.Γ G.gl c env with
              | exc => rw [e1] at hv; cases hv
              | stuck => rw [e1] at hv; cases hv
              | ok u =>
              cases e2 : evalE G.Γ G.gl c3 env with
              | exc => rw [e1, e2] at hv; cases hv
              | stuck => rw [e1, e2] at hv; cases hv
              | ok v =>
              cases e3 : evalE G.Γ G.gl c5 env with
              | exc => rw [e1, e2, e3] at hv; cases hv
              | stuck => rw [e1, e2, e3] at hv; cases hv
              | ok w => rw [e1, e2, e3] at hv; exact ⟨u, v, w, (Res.ok.inj hv).symm⟩
            · cases q4
          · cases q2
        · cases e1
    split at h
    · rename_i c
      simp only [Bool.and_eq_true, beq_iff_eq] at c
      obtain ⟨⟨⟨hg, rfl⟩, hl⟩, ht⟩ := c
      rw [Option.map_eq_some_iff] at h
      obtain ⟨cs', e1, h⟩ := h
      cases h
      have hm : X.mg "zip" = none := ok.blt _ (by decide +kernel)
      have hg := gl_of ok hg
      have ha := listA hs hf e1
      cases tg <;> first | cases ht | skip
      match args, hl with
      | [a, b], _ =>
        unfold strList at e1
        split at e1
        · rename_i c cs2 q1 q2
          cases e1
          have hst := stars_none hs (env := X.env) (pos := pos) q2
          unfold strList at q2
          split at q2
          · rename_i c3 cs3 q3 q4
            cases q2; cases q4
            exact pi_zipD hg hm ha (star_one (hs _ _ q1)) hst
          · cases q2
        · cases e1
    split at h
    · rename_i c
      simp only [Bool.and_eq_true, beq_iff_eq] at c
      obtain ⟨⟨⟨hg, rfl⟩, hl⟩, ht⟩ := c
      rw [Option.map_eq_some_iff] at h
      obtain ⟨cs', e1, h⟩ := h
      cases h
      have hm : X.mg "enumerate" = none := ok.blt _ (by decide +kernel)
      have hg := gl_of ok hg
      have ha := listA hs hf e1
      cases tg <;> first | cases ht | skip
      match args, hl with
      | [a], _ =>
        unfold strList at e1
        split at e1
        · rename_i c cs2 q1 q2
          cases e1; cases q2
          exact pi_enumD hg hm ha (star_one (hs _ _ q1))
        · cases e1
    split at h
    · rename_i c e1
      cases h
      exact pi_seqD (hf _ _ e1)
    · cases h
  · split at h
    · rename_i c e1
      cases h
      exact ⟨pi_seqD (hf _ _ e1), hz _ _ e1⟩
    · cases h
theorem bltR (ok : CtxOk C X G) {x : Str} {b : Bl} {id : String} (h : bltB x = some (b, id)) : CallR X (.builtin id) (rBlt G (bltV b)) ∧ bootBuiltins x = some (.builtin id) ∧ x ∈ bltNames := by
  have hK := ok.K
  have hc := ok.calm
  unfold bltB at h
  split at h
  · rename_i e; cases h; subst e; exact ⟨cr_lenD hK, by decide +kernel, by decide +kernel⟩
  split at h
  · rename_i e; cases h; subst e; exact ⟨cr_sumD hc, by decide +kernel, by decide +kernel⟩
  split at h
  · rename_i e; cases h; subst e; exact ⟨cr_maxD hc, by decide +kernel, by decide +kernel⟩
  split at h
  · rename_i e; cases h; subst e; exact ⟨cr_minD hc, by decide +kernel, by decide +kernel⟩
  split at h
  · rename_i e; cases h; subst e; exact ⟨cr_absD, by decide +kernel, by decide +kernel⟩
  split at h
  · rename_i e; cases h; subst e; exact ⟨cr_allD hc, by decide +kernel, by decide +kernel⟩
  split at h
  · rename_i e; cases h; subst e; exact ⟨cr_anyD hc, by decide +kernel, by decide +kernel⟩
  split at h
  · rename_i e; cases h; subst e; exact ⟨cr_sortedD, by decide +kernel, by decide +kernel⟩
  cases h
theorem bltTR (ok : CtxOk C X G) {x : Str} {b : Bl} {id : String} (h : bltT x = some (b, id)) : CallR X (.type id) (rBlt G (bltV b)) ∧ bootBuiltins x = some (.type id) ∧ x ∈ bltNames := by
  have hK := ok.K
  unfold bltT at h
  split at h
  · rename_i e; cases h; subst e; exact ⟨cr_listD hK, by decide +kernel, by decide +kernel⟩
  split at h
  · rename_i e; cases h; subst e; exact ⟨cr_intD, by decide +kernel, by decide +kernel⟩
  cases h
theorem tyOf_spec {y : Str} {T : Ty} {m : String} (h : tyOf y = some (T, m)) : tyB T = some m ∧ bootBuiltins y = some (.type m) ∧ y ∈ bltNames ∧ y ≠ "__name__" ∧ (y == ("__debug__" : Str)) = false := by
  unfold tyOf at h
  split at h
  · rename_i e; cases h; subst e; exact ⟨rfl, by decide +kernel, by decide +kernel, by decide +kernel, by decide +kernel⟩
  split at h
  · rename_i e; cases h; subst e; exact ⟨rfl, by decide +kernel, by decide +kernel, by decide +kernel, by decide +kernel⟩
  split at h
  · rename_i e; cases h; subst e; exact ⟨rfl, by decide +kernel, by decide +kernel, by decide +kernel, by decide +kernel⟩
  split at h
  · rename_i e; cases h; subst e; exact ⟨rfl, by decide +kernel, by decide +kernel, by decide +kernel, by decide +kernel⟩
  split at h
  · rename_i e; cases h; subst e; exact ⟨rfl, by decide +kernel, by decide +kernel, by decide +kernel, by decide +kernel⟩
  cases h
theorem isRange_spec {args as : List Expr} (h : isRange C args = some as) : ∃ p pos, C.gl ("range" : Str) = true ∧ args = [.Call (.Name ("range" : Str) p) as [] pos] ∧ ((∃ a, as = [a]) ∨ ∃ a b, as = [a, b]) := by
  unfold isRange at h
  split at h
  · split at h
    · rename_i hy
      obtain ⟨hgy, ey⟩ := Bool.and_eq_true_iff.mp hy
      cases h
      rw [beq_iff_eq] at ey
      subst ey
      exact ⟨_, _, hgy, rfl, .inl ⟨_, rfl⟩⟩
    · cases h
  · split at h
    · rename_i hy
      obtain ⟨hgy, ey⟩ := Bool.and_eq_true_iff.mp hy
      cases h
      rw [beq_iff_eq] at ey
      subst ey
      exact ⟨_, _, hgy, rfl, .inr ⟨_, _, rfl⟩⟩
    · cases h
  · cases h
theorem isSet_spec {args : List Expr} {a : Expr} (h : isSet C args = some a) : ∃ p pos, C.gl ("set" : Str) = true ∧ args = [.Call (.Name ("set" : Str) p) [a] [] pos] := by
  unfold isSet at h
  split at h
  · split at h
    · rename_i hy
      obtain ⟨hgy, ey⟩ := Bool.and_eq_true_iff.mp hy
      cases h
      rw [beq_iff_eq] at ey
      subst ey
      exact ⟨_, _, hgy, rfl⟩
    · cases h
  · cases h
theorem callE {f : Expr → Option CE} (ok : CtxOk C X G) (hs : ∀ e c, f e = some c → ∀ a b, e ≠ .Starred a b) (hf : ∀ e c, f e = some c → PE X e (tD G c)) {x : Str} {args : List Expr} {c : CE} {p pos : Pos} (h : strCall f C x args = some c) : PE X (.Call (.Name x p) args [] pos) (tD G c) := by
  unfold strCall at h
  split at h
  · cases h
  rename_i hx
  simp only [Bool.not_eq_true', Bool.not_eq_false, Bool.and_eq_true] at hx
  obtain ⟨h1, h2, h3⟩ := okName_spec hx.1
  have hg := gl_of ok hx.2
  split at h
  · rename_i n hn
    split at h
    rotate_left
    · cases h
    rename_i hl
    rw [Option.map_eq_some_iff] at h
    obtain ⟨cs, e1, rfl⟩ := h
    obtain ⟨k, a, fd, ps, hps, F, hr, hm, hk, hb⟩ := ok.fns x n hn
    obtain ⟨g1, g2⟩ := ok.gam x n hn
    subst hps
    cases args with
    | nil =>
      cases e1
      exact pe_user0D F hr hg hm hk hb ok.pas g1 g2 h1
    | cons e es =>
      have ha := listA hs hf e1
      unfold strList at e1
      split at e1
      · rename_i c cs' q1 q2
        cases e1
        exact pe_userD F hr hg hm hk hb ok.pas g1 g2 ha h1 (star_one (hs _ _ q1)) (stars_none hs q2)
      · cases e1
  · split at h
    · rename_i e
      subst e
      split at h
      · rename_i a T hi
        rw [Option.map_eq_some_iff] at h
        obtain ⟨ca, e1, rfl⟩ := h
        unfold isInst at hi
        split at hi
        · rename_i a' y p2
          split at hi
          · rename_i hgy
            rw [Option.map_eq_some_iff] at hi
            obtain ⟨⟨T', m⟩, q1, q2⟩ := hi
            cases q2
            obtain ⟨t1, t2, t3, t4, t5⟩ := tyOf_spec q1
            exact pe_isiD t1 ok.K hg (ok.blt _ (by decide +kernel)) (gl_of ok hgy) (ok.blt _ t3) t2 t4 t5 (hf _ _ e1) (star_one (hs _ _ e1))
          · cases hi
        · cases hi
      · cases h
    split at h
    · rename_i hc
      obtain ⟨hx2, _⟩ := Bool.and_eq_true_iff.mp hc
      have hx2 : x = ("list" : Str) := by simpa using hx2
      subst hx2
      split at h
      · rename_i as hi
        rw [Option.map_eq_some_iff] at h
        obtain ⟨cs, e1, rfl⟩ := h
        obtain ⟨p2, p3, hgy, rfl, h12⟩ := isRange_spec hi
        rcases h12 with ⟨a, rfl⟩ | ⟨a, b, rfl⟩
        · unfold strList at e1
          split at e1
          · rename_i c cs' q1 q2
            cases e1; cases q2
            exact pe_lrange1D ok.calm hg (ok.blt _ (by decide +kernel)) (gl_of ok hgy) (ok.blt _ (by decide +kernel)) (hf _ _ q1) (star_one (hs _ _ q1))
          · cases e1
        · unfold strList at e1
          split at e1
          · rename_i c cs' q1 q2
            cases e1
            unfold strList at q2
            split at q2
            · rename_i c3 cs3 q3 q4
              cases q2; cases q4
              exact pe_lrange2D ok.calm hg (ok.blt _ (by decide +kernel)) (gl_of ok hgy) (ok.blt _ (by decide +kernel)) (hf _ _ q1) (hf _ _ q3) (star_one (hs _ _ q1)) (star_one (hs _ _ q3))
            · cases q2
          · cases e1
      · cases h
    split at h
    · rename_i hc
      obtain ⟨hx2, _⟩ := Bool.and_eq_true_iff.mp hc
      have hx2 : x = ("sorted" : Str) := by simpa using hx2
      subst hx2
      split at h
      · rename_i a hi
        rw [Option.map_eq_some_iff] at h
        obtain ⟨ca, e1, rfl⟩ := h
        obtain ⟨p2, p3, hgy, rfl⟩ := isSet_spec hi
        exact pe_ssetD ok.K ok.calm hg (ok.blt _ (by decide +kernel)) (gl_of ok hgy) (ok.blt _ (by decide +kernel)) (hf _ _ e1) (star_one (hs _ _ e1))
      · cases h
    split at h
    rotate_left
    · cases h
    rename_i hne
    cases args with
    | nil => cases hne
    | cons e es =>
    split at h
    · rename_i b id hb
      rw [Option.map_eq_some_iff] at h
      obtain ⟨cs, e1, rfl⟩ := h
      obtain ⟨r, hv, hmem⟩ := bltR ok hb
      have ha := listA hs hf e1
      unfold strList at e1
      split at e1
      · rename_i c cs' q1 q2
        cases e1
        exact pe_bltD r hg (ok.blt _ hmem) hv ha h3 h1 (star_one (hs _ _ q1)) (stars_none hs q2)
      · cases e1
    · split at h
      · rename_i b id hb
        rw [Option.map_eq_some_iff] at h
        obtain ⟨cs, e1, rfl⟩ := h
        obtain ⟨r, hv, hmem⟩ := bltTR ok hb
        have ha := listA hs hf e1
        unfold strList at e1
        split at e1
        · rename_i c cs' q1 q2
          cases e1
          exact pe_bltTyD r hg (ok.blt _ hmem) hv ha h3 h1 (star_one (hs _ _ q1)) (stars_none hs q2)
        · cases e1
      · cases h
end
end TT

set_option Elab.async false
set_option linter.all false
set_option maxRecDepth 100000
set_option maxHeartbeats 4000000
/-! TU: strE is sound. -/
namespace TT
open PySem L2 PySem.Spec PyProof.Rows
theorem compE {C : Ck} {X : Cx} {G : Gb} {f g : Expr → Option CE} (ok : CtxOk C X G) (hs : ∀ e c, f e = some c → ∀ a b, e ≠ .Starred a b) (hz : ∀ e c, f e = some c → ∀ a b d, e ≠ .Set a b d) (hf : ∀ e c, f e = some c → PE X e (tD G c))
    {elt : Expr} {scope : Scope} {gens : List Comprehension} {c : CE}
    (hg : ∀ X' G', CtxOk { C with sc := relS scope C.sc } X' G' → ∀ e c, g e = some c → PE X' e (tD G' c)) (hgT : ∀ X' G', CtxOk { C with sc := relS scope C.sc } X' G' → ∀ e c, noIf e = true → g e = some c → PT X' e (tDT G' c))
    (h : strComp f g g C elt scope gens = some c) :
    ∃ tg iter ifs t k cs ci ce own, gens = [⟨tg, iter, ifs, 0⟩] ∧ c = .comp ce t k cs ci ∧ PI X tg iter (iD G k cs) ∧ BlkOk X.N X.env.scope scope own ∧ t.slots = own.map (·.2) ∧
      (∀ (s : Shared) (H : Hp) (A : Addr) (cl : List (Str × Addr)) (fp : List Addr), PG (X.blk s H scope (compEnvC scope cl A X.env) fp) tg (gT X.K t)) ∧
      (∀ (s : Shared) (H : Hp) (A : Addr) (cl : List (Str × Addr)) (fp : List Addr), PTs (X.blk s H scope (compEnvC scope cl A X.env) fp) ifs (tDC G.nox ci)) ∧
      (∀ (s : Shared) (H : Hp) (A : Addr) (cl : List (Str × Addr)) (fp : List Addr), PE (X.blk s H scope (compEnvC scope cl A X.env) fp) elt (tD G.nox ce)) ∧ ∀ x, foldedSetIterable iter X.env x = pure x := by
  unfold strComp at h
  split at h
  rotate_left
  · cases h
  rename_i tg iter ifs
  split at h
  rotate_left
  · cases h
  rename_i t own ht
  split at h
  rotate_left
  · cases h
  rename_i hcond
  simp only [Bool.and_eq_true, decide_eq_true_eq] at hcond
  obtain ⟨⟨⟨hb, hown⟩, hni⟩, hlen⟩ := hcond
  split at h
  rotate_left
  · cases h
  rename_i k cs ci ce e1 e2 e3
  cases h
  have bk : BlkOk C.N C.sc scope own := blkOk_by hb
  obtain ⟨pi, hset⟩ := itI ok hs hz hf e1
  have bk2 : BlkOk X.N X.env.scope scope own := by rw [ok.N, ok.sc]; exact bk
  have nm : ∀ (s : Shared) (H : Hp) (A : Addr) (cl : List (Str × Addr)) (fp : List Addr) (x : Str) (i : Nat) (pos : Pos), (x, i) ∈ own → PG (X.blk s H scope (compEnvC scope cl A X.env) fp) (.Name x pos) (gName i) := by
    intro s H A cl fp x i pos hm
    have hl := List.all_eq_true.mp hown _ hm
    simp only at hl
    have hN : C.N[i]? = some x := strTg_own ht _ hm
    refine pg_name (i := i) ok.nd (by show X.N[i]? = some x; rw [ok.N]; exact hN) ?_ ?_
    · show Loc (relabel scope X.env) x
      have er : relabel scope X.env = relS scope X.env.scope := rfl
      rw [er]
      split at hl
      · rename_i e; exact .inl (rel_lookup e (.inl rfl))
      · rename_i e; exact .inr (rel_lookup e (.inr rfl))
      · cases hl
    · split at hl
      · rename_i e
        refine .inr ?_
        have er : relabel scope X.env = relS scope X.env.scope := rfl
        show (relabel scope X.env).names.lookup x = some .local
        rw [er]
        exact rel_lookup e (.inl rfl)
      · rename_i e
        refine .inl ?_
        show (scope.names.lookup x == some .cell) = true
        rw [e]
        rfl
      · cases hl
  refine ⟨tg, iter, ifs, t, k, cs, ci, ce, own, rfl, rfl, pi, bk2, tg_slots ht, fun s H A cl fp => (tgG (C := C) (X' := X.blk s H scope (compEnvC scope cl A X.env) fp) ht ok.calm (nm s H A cl fp)).1, fun s H A cl fp => ?_, fun s H A cl fp => hg _ _ (ok.blk bk s H A cl fp) _ _ e3, fold_of hset⟩
  match ifs, hlen with
  | [], _ => cases e2; exact pts_nilD
  | [i], _ =>
    unfold strList at e2
    split at e2
    · rename_i c1 cs1 q1 q2
      cases e2
      cases q2
      exact pts_oneD (hgT _ _ (ok.blk bk s H A cl fp) _ _ (by simpa using hni) q1)
    · cases e2
theorem strE_ok : ∀ n : Nat, (∀ (C : Ck) (X : Cx) (G : Gb) (e : Expr) (c : CE), CtxOk C X G → strE n C e = some c → PE X e (tD G c)) ∧
    (∀ (C : Ck) (X : Cx) (G : Gb) (e : Expr) (c : CE), CtxOk C X G → noIf e = true → strE n C e = some c → PT X e (tDT G c)) ∧
    (∀ (C : Ck) (X : Cx) (G : Gb) (op : BoolOp) (vs : List Expr) (pos : Pos) (c : CE), CtxOk C X G → strE n C (.BoolOp op vs pos) = some c → PW X (.BoolOp op vs pos) (tDT G c)) := by
  intro n
  induction n with
  | zero => exact ⟨fun C X G e c ok h => (by cases h), fun C X G e c ok hn h => (by cases h), fun C X G op vs pos c ok h => (by cases h)⟩
  | succ n ih =>
    obtain ⟨ihE, ihT, ihW⟩ := ih
    have hE : ∀ (C : Ck) (X : Cx) (G : Gb) (e : Expr) (c : CE), CtxOk C X G → strE (n + 1) C e = some c → PE X e (tD G c) := by
      intro C X G e c ok h
      have hs : ∀ e c, strE n C e = some c → ∀ a b, e ≠ .Starred a b := fun e c h => noStar h
      have hz : ∀ e c, strE n C e = some c → ∀ a b d, e ≠ .Set a b d := fun e c h => noSet h
      have hf : ∀ e c, strE n C e = some c → PE X e (tD G c) := fun e c h => ihE C X G e c ok h
      unfold strE at h
      split at h
      · exact nameE ok h
      · exact constE h
      · split at h
        · rename_i e1 e2; cases h; exact pe_binD ok.K (hf _ _ e1) (hf _ _ e2)
        · cases h
      · split at h
        · rename_i e1; cases h; exact pe_negD (hf _ _ e1)
        · rename_i e1
          split at h
          · cases h; exact pe_notD (hf _ _ e1)
          · cases h
        · cases h
      · split at h
        · rename_i e1 e2
          split at h
          · cases h
          · rename_i hm
            cases h
            exact pe_cmpD ok.K ok.un (hf _ _ e1) (hf _ _ e2) (by simpa using hm)
        · cases h
      · split at h
        · rename_i e1 e2 e3
          split at h
          · cases h
          · rename_i hm
            cases h
            exact pe_chainD ok.K ok.un (hf _ _ e1) (hf _ _ e2) (hf _ _ e3) (by simpa using hm)
        · cases h
      · split at h
        · exact pe_one (hf _ _ h)
        · cases h
      · split at h
        · rename_i e1 e2
          split at h
          · cases h; exact pe_andD (hf _ _ e1) (hf _ _ e2)
          · cases h
        · rename_i e1 e2
          split at h
          · cases h; exact pe_orD (hf _ _ e1) (hf _ _ e2)
          · cases h
        · cases h
      · split at h
        · rename_i e1 e2 e3
          split at h
          · rename_i hn
            cases h
            exact pe_iteD (ihT C X G _ _ ok hn e1) (hf _ _ e2) (hf _ _ e3)
          · cases h
        · cases h
      · exact callE ok hs hf h
      · split at h
        · rename_i e1 e2 e3
          cases h
          exact pe_slD ok.K (hf _ _ e1) (optO hf e2) (optO hf e3)
        · cases h
      · split at h
        · rename_i e1 e2
          cases h
          exact pe_idxD ok.K (hf _ _ e1) (hf _ _ e2) (plain_of (noSlice e2))
        · cases h
      · rw [Option.map_eq_some_iff] at h
        obtain ⟨cs, e1, rfl⟩ := h
        exact pe_lstD (listA hs hf e1)
      · rw [Option.map_eq_some_iff] at h
        obtain ⟨cs, e1, rfl⟩ := h
        exact pe_tupD (listA hs hf e1)
      · obtain ⟨tg, iter, ifs, t, k, cs, ci, ce, own, rfl, rfl, pi, bk, hsl, pg, pts, pe, hfold⟩ := compE ok hs hz hf (fun X' G' ok' e c h => ihE _ _ _ _ _ ok' h) (fun X' G' ok' e c hn h => ihT _ _ _ _ _ ok' hn h) h
        exact pe_compD ok.K ok.calm ok.nd pi bk hsl pg pts pe hfold
      · cases h
    have hW : ∀ (C : Ck) (X : Cx) (G : Gb) (op : BoolOp) (vs : List Expr) (pos : Pos) (c : CE), CtxOk C X G → strE (n + 1) C (.BoolOp op vs pos) = some c → PW X (.BoolOp op vs pos) (tDT G c) := by
      intro C X G op vs pos c ok h
      match vs with
      | [] => cases h
      | [a] =>
        simp only [strE] at h
        split at h
        · rename_i hn
          cases op with
          | And => exact pw_and1 (ihT C X G _ _ ok hn h)
          | Or => exact pw_or1 (ihT C X G _ _ ok hn h)
        · cases h
      | a :: b :: r =>
        simp only [strE] at h
        split at h
        · rename_i e1 e2
          split at h
          · rename_i hn; cases h; exact pw_andD (ihT C X G _ _ ok hn e1) (ihW C X G _ _ _ _ ok e2)
          · cases h
        · rename_i e1 e2
          split at h
          · rename_i hn; cases h; exact pw_orD (ihT C X G _ _ ok hn e1) (ihW C X G _ _ _ _ ok e2)
          · cases h
        · cases h
    refine ⟨hE, fun C X G e c ok hn h => ?_, hW⟩
    have pe := hE C X G e c ok h
    cases e <;> first
      | exact pt_valD pe (fun _ => rfl)
      | (cases hn; done)
      | exact (hW C X G _ _ _ _ ok h).pt
      | skip
    · rename_i op a pos
      have hf : ∀ e c, strE n C e = some c → PE X e (tD G c) := fun e c h => ihE C X G e c ok h
      cases op <;> first | exact pt_valD pe (fun _ => rfl) | skip
      simp only [strE] at h
      split at h
      · rename_i heq _; cases heq
      · rename_i e1
        split at h
        · rename_i hn2; cases h; exact pt_notD (ihT C X G _ _ ok hn2 e1)
        · cases h
      · cases h
    · rename_i a ops bs pos
      have hf : ∀ e c, strE n C e = some c → PE X e (tD G c) := fun e c h => ihE C X G e c ok h
      unfold strE at h
      split at h <;> first | (rename_i heq; cases heq; done) | skip
      all_goals first | (cases h; done) | skip
      · rename_i heq
        cases heq
        split at h
        · rename_i e1 e2
          split at h
          · cases h
          · rename_i hm
            cases h
            exact pt_cmpD ok.K ok.un (hf _ _ e1) (hf _ _ e2) (by simpa using hm)
        · cases h
      · rename_i heq
        cases heq
        split at h
        · rename_i e1 e2 e3
          split at h
          · cases h
          · rename_i hm
            cases h
            exact pt_chainD ok.K ok.un (hf _ _ e1) (hf _ _ e2) (hf _ _ e3) (by simpa using hm)
        · cases h
end TT

set_option Elab.async false
set_option linter.all false
set_option maxRecDepth 100000
set_option maxHeartbeats 4000000
/-! TV: the checker of statements. -/
namespace TT
open PySem L2 PySem.Spec PyProof.Rows
def strPth : Nat → Ck → Expr → Option (Nat × List Pl)
  | 0, _, _ => none
  | n + 1, C, e => match e with
    | .Name x _ => if okName x && C.vis x then (idxF C.N x).map fun i => (i, []) else none
    | .Subscript e (.Name y _) _ => (match strPth n C e with
      | some (i, ps) => if okName y && C.vis y then (idxF C.N y).map fun j => (i, ps ++ [.ix (.v j)]) else none
      | none => none)
    | .Subscript e (.Constant (.int m) _ _) _ => (match strPth n C e with
      | some (i, ps) => some (i, ps ++ [.ix (.c m)])
      | none => none)
    | _ => none
def isStar : Expr → Bool
  | .Starred _ _ => true
  | _ => false
def tNames (sc : Scope) (line : Nat) (ts : List Expr) : List Str := ts.filterMap fun
  | .Name id pos => if sc.names.lookup id == some .local && pos.line == line then some id else none
  | _ => none
def swpB (sc : Scope) (ts vs : List Expr) : Option (Option (List Str)) :=
  if !(ts.length == 2 || ts.length == 3) || vs.length != ts.length then some none
  else if vs.any isStar then some none
  else if (tNames sc ((ts.head?.map (·.pos.line)).getD 0) ts).length != ts.length || (tNames sc ((ts.head?.map (·.pos.line)).getD 0) ts).eraseDups.length != (tNames sc ((ts.head?.map (·.pos.line)).getD 0) ts).length then some none
  else if vs.all (foldedForSure 8) then some none
  else if vs.all (constantsAlone 8) then none
  else some (some (tNames sc ((ts.head?.map (·.pos.line)).getD 0) ts))
theorem swp_ok {env : PySem.Env} {ts vs : List Expr} {r : Option (List Str)} {k k2 : Nat} {p p2 : Pos} (hk : env.scope.kind = .function) (h : swpB env.scope ts vs = some r) : swappedStores [.Tuple ts k p] (.Tuple vs k2 p2) env = pure r := by
  have hb : env.blockKind = .function := by unfold Env.blockKind; rw [hk]; rfl
  unfold swappedStores
  unfold swpB at h
  simp only
  rw [hb]
  have e1 : (ScopeKind.function != ScopeKind.function) = false := by decide
  rw [e1, Bool.or_false]
  split at h
  · rename_i c; cases h; rw [if_pos c]
  rename_i c; rw [if_neg c]
  show (if vs.any isStar = true then _ else _) = _
  split at h
  · rename_i c; cases h; rw [if_pos c]
  rename_i c; rw [if_neg c]
  show (if ((tNames env.scope ((ts.head?.map (·.pos.line)).getD 0) ts).length != ts.length || (tNames env.scope ((ts.head?.map (·.pos.line)).getD 0) ts).eraseDups.length != (tNames env.scope ((ts.head?.map (·.pos.line)).getD 0) ts).length) = true then _ else if vs.all (foldedForSure 8) = true then _ else if vs.all (constantsAlone 8) = true then _ else pure (some (tNames env.scope ((ts.head?.map (·.pos.line)).getD 0) ts))) = _
  split at h
  · rename_i c; cases h; rw [if_pos c]
  rename_i c; rw [if_neg c]
  split at h
  · rename_i c; cases h; rw [if_pos c]
  rename_i c; rw [if_neg c]
  split at h
  · cases h
  rename_i c; rw [if_neg c]
  cases h
  rfl
end TT

set_option Elab.async false
set_option linter.all false
set_option maxRecDepth 100000
set_option maxHeartbeats 4000000
/-! TW: statements to the core. -/
namespace TT
open PySem L2 PySem.Spec PyProof.Rows
def Ck.loc (C : Ck) (x : Str) : Bool := match C.kind x with
  | some .local => true
  | some .cell => true
  | _ => false
def Ck.isLocal (C : Ck) (x : Str) : Bool := match C.kind x with
  | some .local => true
  | _ => false
def ownOk (C : Ck) (own : List (Str × Nat)) : Bool := own.all fun p => C.loc p.1
/-- a method of the list at a path -/
def strMeth (n : Nat) (C : Ck) (o : Expr) (m : Str) (apos : Pos) (args : List Expr) (cpos : Pos) : Option CS :=
  if !(apos.endLine == cpos.line) then none else match strPth n C o with
  | none => none
  | some (i, ps) => (match args with
    | [] => if m = ("pop" : Str) then some (.pop none i ps) else if m = ("reverse" : Str) then some (.rev i ps) else none
    | [a] => (match strE n C a with
      | some c => if m = ("append" : Str) then some (.app i ps c) else if m = ("extend" : Str) then some (.ext i ps c) else none
      | none => none)
    | [a, b] => (match strE n C a, strE n C b with
      | some ca, some cb => if m = ("insert" : Str) then some (.insr i ps ca cb) else none
      | _, _ => none)
    | _ => none)
def strPop (n : Nat) (C : Ck) (t : Nat) : Expr → Option CS
  | .Call (.Attribute o m apos) [] [] cpos => if m = ("pop" : Str) && (apos.endLine == cpos.line) then (match strPth n C o with
    | some (i, ps) => some (.pop (some t) i ps)
    | none => none) else none
  | _ => none
def opOk : Operator → Bool
  | .Add => true
  | .Sub => true
  | _ => false
def strPar (n : Nat) (C : Ck) (ts vs : List Expr) (names : List Str) : Option CS :=
  match ts, vs with
  | [.Name x _, .Name y _], [a, b] => (match idxF C.N x, idxF C.N y, strList (strE n C) [a, b] with
    | some i, some j, some cs => if C.isLocal x && C.isLocal y && i != j && names == [x, y] then some (.par [i, j] cs) else none
    | _, _, _ => none)
  | [.Name x _, .Name y _, .Name z _], [a, b, c] => (match idxF C.N x, idxF C.N y, idxF C.N z, strList (strE n C) [a, b, c] with
    | some i, some j, some l, some cs => if C.isLocal x && C.isLocal y && C.isLocal z && i != j && i != l && j != l && names == [x, y, z] then some (.par [i, j, l] cs) else none
    | _, _, _, _ => none)
  | _, _ => none
def strTup (n : Nat) (C : Ck) (ts : List Expr) (k : Nat) (p : Pos) (vs : List Expr) (k2 : Nat) (p2 : Pos) : Option CS :=
  match swpB C.sc ts vs with
  | none => none
  | some (some names) => strPar n C ts vs names
  | some none => (match strTg C.N (.Tuple ts k p), strE n C (.Tuple vs k2 p2) with
    | some (t, own), some c => if ownOk C own then some (.asg t c) else none
    | _, _ => (match ts, vs with
      | [.Subscript o1 i1 _, .Subscript o2 i2 _], [x, y] => (match strPth n C o1, strPth n C o2, strE n C i1, strE n C i2, strE n C x, strE n C y with
        | some (s1, []), some (s2, []), some c1, some c2, some cx, some cy => some (.par2 s1 s2 c1 c2 cx cy)
        | _, _, _, _, _, _ => none)
      | _, _ => none))
def strAsg (n : Nat) (C : Ck) (tg e : Expr) : Option CS := match tg with
  | .Name x _ => (match idxF C.N x with
    | some i => if okName x && C.loc x then (match strPop n C i e with
      | some s => some s
      | none => (match strE n C e with
        | some c => some (.asg (.one i) c)
        | none => none)) else none
    | none => none)
  | .Subscript o ix _ => (match strPth n C o, strE n C ix, strE n C e with
    | some (i, ps), some cj, some c => some (.setI i ps cj c)
    | _, _, _ => none)
  | .Tuple ts k p => (match e with
    | .Tuple vs k2 p2 => strTup n C ts k p vs k2 p2
    | e => (match strTg C.N (.Tuple ts k p), strE n C e with
      | some (t, own), some c => if ownOk C own then some (.asg t c) else none
      | _, _ => none))
  | _ => none
def strExpr (n : Nat) (C : Ck) : Expr → Option CS
  | .Constant (.str _) _ _ => some .pass
  | .Call (.Attribute o m apos) args [] cpos => strMeth n C o m apos args cpos
  | .Call f args [] pos => (match strE n C (.Call f args [] pos) with
    | some c => some (.expr c)
    | none => none)
  | _ => none
def strRaise (C : Ck) : Expr → Option CS
  | .Call (.Name x _) [.Constant (.str _) _ _] [] _ => if C.gl x && okName x && C.excs.contains x then some (.rais x) else none
  | _ => none
mutual
def strS : Nat → Ck → Stmt → Option CS
  | 0, _, _ => none
  | n + 1, C, s => match s with
    | .Assign [tg] e _ => strAsg n C tg e
    | .AugAssign (.Name x _) op e _ => (match idxF C.N x, strE n C e with
      | some i, some c => if C.loc x && opOk op then some (.aug i op c) else none
      | _, _ => none)
    | .AugAssign (.Subscript o ix _) op e _ => (match strPth n C o, strE n C ix, strE n C e with
      | some (i, ps), some cj, some c => if opOk op then some (.augI i ps cj op c) else none
      | _, _, _ => none)
    | .Expr e _ => strExpr n C e
    | .If c a b _ => (match strE n C c, strSs n C a, strSs n C b with
      | some cc, some ca, some cb => if noIf c then some (.ife cc ca cb) else none
      | _, _, _ => none)
    | .For tg iter body [] _ => (match strTg C.N tg with
      | some (t, own) => (match strIt (strE n C) C (isTup tg) iter, strSs n C body with
        | some (k, cs), some cb => if ownOk C own then some (.fors t k cs cb) else none
        | _, _ => none)
      | none => none)
    | .While c body [] _ => (match strE n C c, strSs n C body with
      | some cc, some cb => if noIf c then some (.whl cc cb) else none
      | _, _ => none)
    | .Return (some (.Name x _)) _ => (match strName C x with
      | some c => some (.ret c)
      | none => none)
    | .Return (some e) _ => (match strE n C e with
      | some c => (match c with
        | .var _ => none
        | c => some (.ret c))
      | none => none)
    | .Return none _ => some .retN
    | .Raise (some e) none _ => strRaise C e
    | .Pass _ => some .pass
    | _ => none
def strSs : Nat → Ck → List Stmt → Option CSs
  | 0, _, _ => none
  | n + 1, C, [] => some .nil
  | n + 1, C, s :: ss => match strS n C s, strSs n C ss with
    | some c, some cs => some (.cons c cs)
    | _, _ => none
end
abbrev veT : List Value := [.type "ValueError", .type "Exception", .type "BaseException", .type "object"]
structure CtxS (C : Ck) (X : Cx) (G : Gb) : Prop extends CtxOk C X G where
  own : PassesOwn (model X.prog X.w) X.A X.env X.xe
  tk : Takes X (fun cls d _ H => G.E cls d H)
  fn : ∀ x, X.fn x = true
  excs : ∀ x ∈ C.excs, ∃ (A : Addr), X.mg x = some (.ref A) ∧ PySem.W.excIn X.K A veT "ValueError.__new__" = true ∧ PySem.W.keepIn X.K (.ref A) = true ∧ Raises X (.ref A)
section
variable {C : Ck} {X : Cx} {G : Gb} {fu : Nat} {pos : Pos}
theorem loc_of (ok : CtxOk C X G) {x : Str} (h : C.loc x = true) : L2.Loc X.env.scope x := by
  unfold Ck.loc Ck.kind at h
  rw [← ok.sc] at h
  unfold L2.Loc
  split at h
  · rename_i e; exact .inl e
  · rename_i e; exact .inr e
  · cases h
theorem local_of (ok : CtxOk C X G) {x : Str} (h : C.isLocal x = true) : X.env.scope.names.lookup x = some .local := by
  unfold Ck.isLocal Ck.kind at h
  rw [← ok.sc] at h
  split at h
  · rename_i e; exact e
  · cases h
theorem pthE (ok : CtxOk C X G) : ∀ {n : Nat} {e : Expr} {i : Nat} {ps : List Pl}, strPth n C e = some (i, ps) → PE X e (tPth i ps) ∧ (∀ m : Str, attributeBase e m X.env (eval e X.env) = eval e X.env) := by
  intro n
  induction n with
  | zero => intro e i ps h; cases h
  | succ n ih =>
    intro e i ps h
    unfold strPth at h
    split at h
    · split at h
      · rename_i hc
        rw [Option.map_eq_some_iff] at h
        obtain ⟨j, e1, e2⟩ := h
        cases e2
        obtain ⟨ho, hv⟩ := Bool.and_eq_true_iff.mp hc
        obtain ⟨h1, h2, h3⟩ := okName_spec ho
        exact ⟨pe_pth0 (by rw [ok.N]; exact idxF_get e1) (vis_of ok hv) h1 h2, fun m => rfl⟩
      · cases h
    · split at h
      · rename_i i0 ps0 e0
        split at h
        · rename_i hc
          rw [Option.map_eq_some_iff] at h
          obtain ⟨j, e1, e2⟩ := h
          cases e2
          obtain ⟨ho, hv⟩ := Bool.and_eq_true_iff.mp hc
          obtain ⟨h1, h2, h3⟩ := okName_spec ho
          exact ⟨pe_pthS (ih e0).1 (pe_sxV (by rw [ok.N]; exact idxF_get e1) (vis_of ok hv) h1 h2) (fun _ _ => rfl), fun m => rfl⟩
        · cases h
      · cases h
    · split at h
      · rename_i i0 ps0 e0
        cases h
        exact ⟨pe_pthS (ih e0).1 pe_sxC (fun _ _ => rfl), fun m => rfl⟩
      · cases h
    · cases h
theorem few_of {f : Expr → Option CE} (hf : ∀ e c, f e = some c → ∀ a b, e ≠ .Starred a b) {env : PySem.Env} {cpos : Pos} : ∀ {es : List Expr} {cs : CEs}, strList f es = some cs → (backTo cpos (starEach es env)).all (fun x => !x.1) = true
  | [], _, _ => rfl
  | e :: es, cs, h => by
    unfold strList at h
    split at h
    · rename_i c cs' e1 e2
      have ih := few_of hf (env := env) (cpos := cpos) e2
      rw [star_one (hf _ _ e1)]
      unfold backTo at ih ⊢
      simp only [List.map_cons, List.all_cons, Bool.not_false, Bool.true_and]
      exact ih
    · cases h
theorem nameG (ok : CtxS C X G) {x : Str} {i : Nat} {p : Pos} (hl : C.loc x = true) (hN : C.N[i]? = some x) : PG X (.Name x p) (gName i) :=
  pg_name (i := i) ok.nd (by rw [ok.N]; exact hN) (loc_of ok.toCtxOk hl) (.inl (ok.fn x))
theorem methS (ok : CtxS C X G) {n : Nat} {o : Expr} {m : Str} {apos cpos : Pos} {args : List Expr} {s : CS} (h : strMeth n C o m apos args cpos = some s) : PS X (.Expr (.Call (.Attribute o m apos) args [] cpos) pos) (tS G fu s) := by
  have hs : ∀ e c, strE n C e = some c → ∀ a b, e ≠ .Starred a b := fun e c h => noStar h
  have hf : ∀ e c, strE n C e = some c → PE X e (tD G c) := fun e c h => (strE_ok n).1 C X G e c ok.toCtxOk h
  unfold strMeth at h
  split at h
  · cases h
  rename_i hline
  simp only [Bool.not_eq_true', Bool.not_eq_false] at hline
  split at h
  · cases h
  rename_i i ps hp
  obtain ⟨po, hbase⟩ := pthE ok.toCtxOk hp
  split at h
  · split at h
    · rename_i e; subst e; cases h
      exact (ps_expr (pe_bm0 PySem.F.plainAttrs_list PySem.F.slot_list_pop PySem.F.type_list_pop mt_pop po (hbase _) hline) rfl).imp fun D σ H h => pop0_read h
    · split at h
      · rename_i e; subst e; cases h
        exact (ps_expr (pe_bm0 PySem.F.plainAttrs_list PySem.F.slot_list_reverse PySem.F.type_list_reverse mt_reverse po (hbase _) hline) rfl).imp fun D σ H h => rev_read h
      · cases h
  · rename_i a
    split at h
    · rename_i c e1
      have hl : strList (strE n C) [a] = some (.cons c .nil) := by simp only [strList, e1]
      have ha := listA hs hf hl
      have hst := star_one (es := []) (env := X.env) (hs _ _ e1)
      have hfew : ((backTo cpos (starEach [a] X.env)).all (fun x => !x.1) && (backToKw cpos (keywordEach [] X.env)).all (fun x => x.1.isSome) && decide ([a].length + ([] : List Keyword).length + (if ([] : List Keyword).isEmpty then 0 else 1) < 30)) = true := by
        rw [few_of hs hl]; rfl
      split at h
      · rename_i e; subst e; cases h
        exact (ps_expr (pe_bm PySem.F.plainAttrs_list PySem.F.slot_list_append PySem.F.type_list_append mt_append po ha (hbase _) hfew hline hst rfl) rfl).imp fun D σ H h => app_read h
      · split at h
        · rename_i e; subst e; cases h
          exact (ps_expr (pe_bm PySem.F.plainAttrs_list PySem.F.slot_list_extend PySem.F.type_list_extend mt_extend po ha (hbase _) hfew hline hst rfl) rfl).imp fun D σ H h => ext_read h
        · cases h
    · cases h
  · rename_i a b
    split at h
    · rename_i ca cb e1 e2
      have hl : strList (strE n C) [a, b] = some (.cons ca (.cons cb .nil)) := by simp only [strList, e1, e2]
      have hl2 : strList (strE n C) [b] = some (.cons cb .nil) := by simp only [strList, e2]
      have ha := listA hs hf hl
      have hst := star_one (es := [b]) (env := X.env) (hs _ _ e1)
      have hfew : ((backTo cpos (starEach [a, b] X.env)).all (fun x => !x.1) && (backToKw cpos (keywordEach [] X.env)).all (fun x => x.1.isSome) && decide ([a, b].length + ([] : List Keyword).length + (if ([] : List Keyword).isEmpty then 0 else 1) < 30)) = true := by
        rw [few_of hs hl]; rfl
      split at h
      · rename_i e; subst e; cases h
        exact (ps_expr (pe_bm PySem.F.plainAttrs_list PySem.F.slot_list_insert PySem.F.type_list_insert mt_insert po ha (hbase _) hfew hline hst (stars_none hs hl2)) rfl).imp fun D σ H h => ins_read h
      · cases h
    · cases h
  · cases h
end
end TT

set_option Elab.async false
set_option linter.all false
set_option maxRecDepth 100000
set_option maxHeartbeats 4000000
/-! TX: the checker of statements is sound. -/
namespace TT
open PySem L2 PySem.Spec PyProof.Rows
section
variable {C : Ck} {X : Cx} {G : Gb} {fu : Nat} {pos : Pos}
theorem ownG (ok : CtxS C X G) {tg : Expr} {t : Tg} {own : List (Str × Nat)} (h : strTg C.N tg = some (t, own)) (ho : ownOk C own = true) : PG X tg (gT X.K t) :=
  (tgG (C := C) h ok.calm fun x i p hm => nameG ok (List.all_eq_true.mp ho _ hm) (strTg_own h _ hm)).1
theorem noSwap {e : Expr} {tg : Option Expr} {line : Nat} {env : PySem.Env} (h1 : ∀ a b c d, e ≠ .ListComp a b c d) (h2 : ∀ a b c d, e ≠ .SetComp a b c d) (h3 : ∀ a b c d f, e ≠ .DictComp a b c d f) : swapsWith e tg line env = pure false := by
  unfold swapsWith
  cases e <;> first | rfl | exact absurd rfl (h1 _ _ _ _) | exact absurd rfl (h2 _ _ _ _) | exact absurd rfl (h3 _ _ _ _ _)
theorem noSC {n : Nat} {e : Expr} {c : CE} (h : strE n C e = some c) : (∀ a b c d, e ≠ .SetComp a b c d) ∧ (∀ a b c d f, e ≠ .DictComp a b c d f) := by
  constructor
  · rintro a b c d rfl; cases n <;> simp [strE] at h
  · rintro a b c d f rfl; cases n <;> simp [strE] at h
/-- name = e -/
theorem nameS (ok : CtxS C X G) {n i : Nat} {x : Str} {p : Pos} {e : Expr} {c : CE} (hN : C.N[i]? = some x) (hl : C.loc x = true) (h : strE n C e = some c) : PS X (.Assign [.Name x p] e pos) (tS G fu (.asg (.one i) c)) := by
  have hK := ok.K
  have pe := (strE_ok n).1 C X G e c ok.toCtxOk h
  have hNX : X.N[i]? = some x := by rw [ok.N]; exact hN
  have plain : swapsWith e (some (.Name x p)) pos.line X.env = pure false → PS X (.Assign [.Name x p] e pos) (tS G fu (.asg (.one i) c)) := fun hs =>
    (ps_set (i := i) ok.nd hNX (loc_of ok.toCtxOk hl) pe hs (.inl (ok.fn x))).imp fun D σ H h => asg_read (X := X) (t := .one i) hK h
  by_cases hc : ∃ a b c d, e = .ListComp a b c d
  · obtain ⟨elt, gens, scope, lp, rfl⟩ := hc
    cases hb : (X.env.blockKind == .function && X.env.kindOf x == some .local && p.line == (Expr.ListComp elt gens scope lp).pos.line && !(scope.names.any fun (n, k) => n == x && (k == .local || k == .cell))) with
    | false =>
      refine plain ?_
      show (pure _ : Sem Bool) = _
      rw [← hb]
    | true =>
      have hsw : swapsWith (.ListComp elt gens scope lp) (some (.Name x p)) pos.line X.env = pure true := by
        show (pure _ : Sem Bool) = _
        rw [← hb]
      have hloc : X.env.scope.names.lookup x = some .local := by
        have h1 := (Bool.and_eq_true_iff.mp (Bool.and_eq_true_iff.mp (Bool.and_eq_true_iff.mp hb).1).1).2
        exact eq_of_beq h1
      cases n with
      | zero => cases h
      | succ n =>
        simp only [strE] at h
        obtain ⟨tg, iter, ifs, t, k, cs, ci, ce, own, rfl, rfl, pi, bk, hsl, pg, pts, pe2, hfold⟩ := compE ok.toCtxOk (fun e c h => noStar h) (fun e c h => noSet h) (fun e c h => (strE_ok n).1 C X G e c ok.toCtxOk h)
          (fun X' G' ok' e c h => (strE_ok n).1 _ _ _ _ _ ok' h) (fun X' G' ok' e c hn h => (strE_ok n).2.1 _ _ _ _ _ ok' hn h) h
        refine (ps_setLc (i := i) ok.calm ok.nd hNX hloc hsw pi bk pg pts pe2 hfold).imp fun D σ H h => ?_
        have h2 := asg_read (X := X) (t := .one i) hK h
        exact pe_compD.lc_read hK hsl h2
  · exact plain (noSwap (fun a b c d z => hc ⟨a, b, c, d, z⟩) (noSC h).1 (noSC h).2)
theorem popS (ok : CtxS C X G) {n t : Nat} {x : Str} {p : Pos} {e : Expr} {s : CS} (hN : C.N[t]? = some x) (hl : C.loc x = true) (h : strPop n C t e = some s) : PS X (.Assign [.Name x p] e pos) (tS G fu s) := by
  unfold strPop at h
  split at h
  · split at h
    · rename_i hc
      obtain ⟨hm, hline⟩ := Bool.and_eq_true_iff.mp hc
      have hm := of_decide_eq_true hm
      subst hm
      split at h
      · rename_i i ps hp
        cases h
        obtain ⟨po, hbase⟩ := pthE ok.toCtxOk hp
        exact (ps_set (i := t) ok.nd (by rw [ok.N]; exact hN) (loc_of ok.toCtxOk hl) (pe_bm0 PySem.F.plainAttrs_list PySem.F.slot_list_pop PySem.F.type_list_pop mt_pop po (hbase _) hline) rfl (.inl (ok.fn x))).imp fun D σ H h => pop_read h
      · cases h
    · cases h
  · cases h
theorem assign_sub {o ix : Expr} {p : Pos} {env : PySem.Env} (h : ∀ a b d f, ix ≠ .Slice a b d f) : ∀ v, assign (.Subscript o ix p) env v = (do
      let ov ← holding [v] (eval o env)
      let iv ← holding [v, ov] (eval ix env)
      standAt p
      holding [v, ov, iv] (setItem ov iv v)
      release [v, ov, iv] []) := by
  intro v
  cases ix <;> first | rfl | exact absurd rfl (h _ _ _ _)
theorem aug_sub {ix : Expr} (h : ∀ a b d f, ix ≠ .Slice a b d f) : ∀ ov iv new, augStore ix ov iv new = (do holding [new, ov, iv] (setItem ov iv new); release [new, ov, iv] []; pure .next) := by
  intro ov iv new
  cases ix <;> first | rfl | exact absurd rfl (h _ _ _ _)
theorem swp_none {tg e : Expr} {env : PySem.Env} (h : (∀ ts k p, tg ≠ .Tuple ts k p) ∧ (∀ ts p, tg ≠ .List ts p) ∨ ∀ vs k p, e ≠ .Tuple vs k p) : swappedStores [tg] e env = pure none := by
  unfold swappedStores
  rcases h with ⟨h1, h2⟩ | h
  · cases tg <;> first | rfl | exact absurd rfl (h1 _ _ _) | exact absurd rfl (h2 _ _)
  · cases tg <;> first | rfl | (cases e <;> first | rfl | exact absurd rfl (h _ _ _))
theorem noComp_tup {n : Nat} {e : Expr} {ts : List Expr} {k : Nat} {p : Pos} {line : Nat} {c : CE} (h : strE n C e = some c) : swapsWithSole [.Tuple ts k p] e line X.env = pure false := by
  show swapsWith e (some (.Tuple ts k p)) line X.env = pure false
  unfold swapsWith
  cases e <;> rfl
theorem swapSub {o ix e : Expr} {p : Pos} {line : Nat} : swapsWithSole [.Subscript o ix p] e line X.env = pure false := by
  show swapsWith e (some (.Subscript o ix p)) line X.env = pure false
  unfold swapsWith
  cases e <;> rfl
theorem manyS (ok : CtxS C X G) {n : Nat} {ts : List Expr} {k : Nat} {p : Pos} {e : Expr} {t : Tg} {own : List (Str × Nat)} {c : CE} (h1 : strTg C.N (.Tuple ts k p) = some (t, own)) (h2 : strE n C e = some c) (ho : ownOk C own = true) (hw : swappedStores [.Tuple ts k p] e X.env = pure none) :
    PS X (.Assign [.Tuple ts k p] e pos) (tS G fu (.asg t c)) :=
  (ps_asg ((strE_ok n).1 C X G e c ok.toCtxOk h2) (ownG ok h1 ho) (noComp_tup h2) hw rfl).imp fun D σ H h => asg_read (X := X) ok.K h
theorem parS (ok : CtxS C X G) {n : Nat} {ts vs : List Expr} {k k2 : Nat} {p p2 : Pos} {names : List Str} {s : CS} (hw : swappedStores [.Tuple ts k p] (.Tuple vs k2 p2) X.env = pure (some names)) (h : strPar n C ts vs names = some s) : PS X (.Assign [.Tuple ts k p] (.Tuple vs k2 p2) pos) (tS G fu s) := by
  have hs : ∀ e c, strE n C e = some c → ∀ a b, e ≠ .Starred a b := fun e c h => noStar h
  have hf : ∀ e c, strE n C e = some c → PE X e (tD G c) := fun e c h => (strE_ok n).1 C X G e c ok.toCtxOk h
  unfold strPar at h
  split at h
  · split at h
    · rename_i i j cs e1 e2 e3
      split at h
      · rename_i hc
        simp only [Bool.and_eq_true, bne_iff_ne, beq_iff_eq] at hc
        obtain ⟨⟨⟨hx, hy⟩, hij⟩, hn⟩ := hc
        cases h
        subst hn
        exact ps_parD ok.calm ok.nd (by rw [ok.N]; exact idxF_get e1) (by rw [ok.N]; exact idxF_get e2) hij (local_of ok.toCtxOk hx) (local_of ok.toCtxOk hy) (listA hs hf e3) hw rfl
      · cases h
    · cases h
  · split at h
    · rename_i i j l cs e1 e2 e3 e4
      split at h
      · rename_i hc
        simp only [Bool.and_eq_true, bne_iff_ne, beq_iff_eq] at hc
        obtain ⟨⟨⟨⟨⟨⟨hx, hy⟩, hz⟩, hij⟩, hil⟩, hjl⟩, hn⟩ := hc
        cases h
        subst hn
        exact ps_par3D ok.calm ok.nd (by rw [ok.N]; exact idxF_get e1) (by rw [ok.N]; exact idxF_get e2) (by rw [ok.N]; exact idxF_get e3) hij hil hjl (local_of ok.toCtxOk hx) (local_of ok.toCtxOk hy) (local_of ok.toCtxOk hz) (listA hs hf e4) hw rfl
      · cases h
    · cases h
  · cases h
theorem tupS (ok : CtxS C X G) {n : Nat} {ts vs : List Expr} {k k2 : Nat} {p p2 : Pos} {s : CS} (h : strTup n C ts k p vs k2 p2 = some s) : PS X (.Assign [.Tuple ts k p] (.Tuple vs k2 p2) pos) (tS G fu s) := by
  have hs : ∀ e c, strE n C e = some c → ∀ a b, e ≠ .Starred a b := fun e c h => noStar h
  have hf : ∀ e c, strE n C e = some c → PE X e (tD G c) := fun e c h => (strE_ok n).1 C X G e c ok.toCtxOk h
  have hk : X.env.scope.kind = .function := by rw [ok.sc]; exact ok.kind
  unfold strTup at h
  split at h
  · cases h
  · rename_i names hsw
    exact parS ok (swp_ok hk (by rw [ok.sc]; exact hsw)) h
  · rename_i hsw
    have hw : swappedStores [.Tuple ts k p] (.Tuple vs k2 p2) X.env = pure none := swp_ok hk (by rw [ok.sc]; exact hsw)
    split at h
    · rename_i t own c e1 e2
      split at h
      · rename_i ho; cases h; exact manyS ok e1 e2 ho hw
      · cases h
    · split at h
      · rename_i o1 i1 q1 o2 i2 q2 x y _ 
        split at h
        · rename_i s1 s2 c1 c2 cx cy e1 e2 e3 e4 e5 e6
          cases h
          have hl : strList (strE n C) [x, y] = some (.cons cx (.cons cy .nil)) := by simp only [strList, e5, e6]
          have g1 : PG X (.Subscript o1 i1 q1) (gSub (tPth s1 []) (tD G c1) L2.rSetL) := pg_sub (pthE ok.toCtxOk e1).1 (hf _ _ e3) set_list (assign_sub (noSlice e3))
          have g2 : PG X (.Subscript o2 i2 q2) (gSub (tPth s2 []) (tD G c2) L2.rSetL) := pg_sub (pthE ok.toCtxOk e2).1 (hf _ _ e4) set_list (assign_sub (noSlice e4))
          exact (ps_asg (pe_tupD (listA hs hf hl)) (pg_tup ok.calm (pgs_cons g1 (pgs_cons g2 pgs_nil rfl) rfl) rfl rfl) rfl hw rfl).imp fun D σ H h => par2_read h
        · cases h
      · cases h
theorem asgS (ok : CtxS C X G) {n : Nat} {tg e : Expr} {s : CS} (h : strAsg n C tg e = some s) : PS X (.Assign [tg] e pos) (tS G fu s) := by
  have hf : ∀ e c, strE n C e = some c → PE X e (tD G c) := fun e c h => (strE_ok n).1 C X G e c ok.toCtxOk h
  unfold strAsg at h
  split at h
  · split at h
    · rename_i i hi
      split at h
      · rename_i hc
        obtain ⟨_, hl⟩ := Bool.and_eq_true_iff.mp hc
        split at h
        · rename_i s' hp; cases h; exact popS ok (idxF_get hi) hl hp
        · split at h
          · rename_i c he; cases h; exact nameS ok (idxF_get hi) hl he
          · cases h
      · cases h
    · cases h
  · split at h
    · rename_i i ps cj c e1 e2 e3
      cases h
      exact ps_setD (pthE ok.toCtxOk e1).1 (hf _ _ e2) (hf _ _ e3) (assign_sub (noSlice e2)) swapSub (swp_none (.inl ⟨(fun _ _ _ z => nomatch z), (fun _ _ z => nomatch z)⟩)) rfl
    · cases h
  · rename_i ts k p
    split at h
    · exact tupS ok h
    · rename_i hne
      split at h
      · rename_i t own c e1 e2
        split at h
        · rename_i ho; cases h; exact manyS ok e1 e2 ho (swp_none (.inr hne))
        · cases h
      · cases h
  · cases h
theorem exprS (ok : CtxS C X G) {n : Nat} {e : Expr} {s : CS} (h : strExpr n C e = some s) : PS X (.Expr e pos) (tS G fu s) := by
  unfold strExpr at h
  split at h
  · cases h; exact ps_docD
  · exact methS ok h
  · split at h
    · rename_i c he; cases h; exact ps_exprD ((strE_ok n).1 C X G _ _ ok.toCtxOk he) rfl
    · cases h
  · cases h
theorem raiseS (ok : CtxS C X G) {e : Expr} {s : CS} (h : strRaise C e = some s) : PS X (.Raise (some e) none pos) (tS G fu s) := by
  unfold strRaise at h
  split at h
  · split at h
    · rename_i hc
      simp only [Bool.and_eq_true] at hc
      obtain ⟨⟨hg, ho⟩, hm⟩ := hc
      cases h
      obtain ⟨A, gA, xA, kA, rA⟩ := ok.excs _ (by simpa using hm)
      exact ps_raiseD ok.mg ok.calm ok.tk PySem.F.excBase_ValueError xA gA kA rA (gl_of ok.toCtxOk hg) (okName_spec ho).1
    · cases h
  · cases h
theorem opOk_spec {op : Operator} (h : opOk op = true) : op = .Add ∨ op = .Sub := by
  cases op <;> first | exact .inl rfl | exact .inr rfl | cases h
theorem strS_ok : ∀ n : Nat, (∀ (C : Ck) (X : Cx) (G : Gb) (st : Stmt) (c : CS), CtxS C X G → strS n C st = some c → PS X st (tS G fu c)) ∧
    (∀ (C : Ck) (X : Cx) (G : Gb) (sts : List Stmt) (cs : CSs), CtxS C X G → strSs n C sts = some cs → PSs X sts (tSs G fu cs)) := by
  intro n
  induction n with
  | zero => exact ⟨fun C X G st c ok h => (by simp [strS] at h), fun C X G st c ok h => (by simp [strSs] at h)⟩
  | succ n ih =>
    obtain ⟨ihS, ihL⟩ := ih
    constructor
    · intro C X G st c ok h
      have hs : ∀ e c, strE n C e = some c → ∀ a b, e ≠ .Starred a b := fun e c h => noStar h
      have hz : ∀ e c, strE n C e = some c → ∀ a b d, e ≠ .Set a b d := fun e c h => noSet h
      have hf : ∀ e c, strE n C e = some c → PE X e (tD G c) := fun e c h => (strE_ok n).1 C X G e c ok.toCtxOk h
      have hT : ∀ e c, noIf e = true → strE n C e = some c → PT X e (tDT G c) := fun e c hn h => (strE_ok n).2.1 C X G e c ok.toCtxOk hn h
      unfold strS at h
      split at h
      · exact asgS ok h
      · split at h
        · rename_i i c e1 e2
          split at h
          · rename_i hc
            obtain ⟨hl, hop⟩ := Bool.and_eq_true_iff.mp hc
            cases h
            exact ps_augD (opOk_spec hop) ok.nd (by rw [ok.N]; exact idxF_get e1) (loc_of ok.toCtxOk hl) (hf _ _ e2) (.inl (ok.fn _))
          · cases h
        · cases h
      · split at h
        · rename_i i ps cj c e1 e2 e3
          split at h
          · rename_i hop
            cases h
            exact ps_augID (opOk_spec hop) (pthE ok.toCtxOk e1).1 (hf _ _ e2) (hf _ _ e3) (aug_sub (noSlice e2))
          · cases h
        · cases h
      · exact exprS ok h
      · split at h
        · rename_i cc ca cb e1 e2 e3
          split at h
          · rename_i hn; cases h; exact ps_ifD (hT _ _ hn e1) (ihL C X G _ _ ok e2) (ihL C X G _ _ ok e3)
          · cases h
        · cases h
      · split at h
        · rename_i t own ht
          split at h
          · rename_i k cs cb e1 e2
            split at h
            · rename_i ho
              cases h
              obtain ⟨pi, hset⟩ := itI ok.toCtxOk hs hz hf e1
              exact ps_forD ok.K ok.own ok.calm pi (ownG ok ht ho) (ihL C X G _ _ ok e2) (fold_of hset)
            · cases h
          · cases h
        · cases h
      · split at h
        · rename_i cc cb e1 e2
          split at h
          · rename_i hn; cases h; exact ps_whileD ok.own (hT _ _ hn e1) (ihL C X G _ _ ok e2)
          · cases h
        · cases h
      · rename_i x p q
        split at h
        · rename_i c he
          cases h
          have he0 := he
          unfold strName at he
          split at he
          · rename_i ho
            obtain ⟨h1, h2, h3⟩ := okName_spec ho
            split at he
            · rename_i hv
              rw [Option.map_eq_some_iff] at he
              obtain ⟨i, e, rfl⟩ := he
              exact ps_retVD (by rw [ok.N]; exact idxF_get e) (vis_of ok.toCtxOk hv) h1 h2
            · split at he
              · cases he; exact ps_retD (nameE ok.toCtxOk he0) (fun i z => nomatch z)
              · cases he
          · cases he
        · cases h
      · split at h
        · rename_i c he
          split at h
          · cases h
          · rename_i hv
            cases h
            exact ps_retD (hf _ _ he) (fun i z => hv i z)
        · cases h
      · cases h; exact ps_retND
      · exact raiseS ok h
      · cases h; exact ps_passD
      · cases h
    · intro C X G sts cs ok h
      cases sts with
      | nil => simp only [strSs] at h; cases h; exact pss_nilD
      | cons s ss =>
        simp only [strSs] at h
        split at h
        · rename_i c cs' e1 e2
          cases h
          exact pss_consD (ihS C X G _ _ ok e1) (ihL C X G _ _ ok e2)
        · cases h
end
end TT

set_option Elab.async false
set_option linter.all false
set_option maxRecDepth 100000
set_option maxHeartbeats 4000000
/-! TY: a whole program. -/
namespace TT
open PySem L2 PySem.Spec PyProof.Rows
structure Fd where
  n : Nat
  slots : Nat
  body : CSs
structure Ent where
  x : Str
  st : Stmt
  N : List Str
  ps : List Str
  fd : Fd
abbrev Prg := List (Str × Fd)
def runP (gl : Str → Option D) (fu : Nat) (p : Prg) : Nat → Str → List D → Res Val
  | 0, _, _ => .stuck
  | k + 1, f, ds => match p.lookup f with
    | some fd => if ds.length = fd.n then runD (runP gl fu p k) gl fu fd.body fd.slots ds else .stuck
    | none => .stuck
def fnsOf (T : List Ent) : List (Str × Nat) := T.map fun e => (e.x, e.fd.n)
def BindOk (st : Stmt) (ps : List Str) : Prop := ∀ (x qual : Str) (kV doc pm : Value) (an : Option Addr) (cdv ct : Value) (us : List Value), us.length = ps.length → bindArgs (PySem.W.fnOf x qual (defArgs st) (defBody st) (defScope st) .none kV doc pm an cdv ct) ⟨us, []⟩ = pure (ps.zip us)
structure EntOk (fuel : Nat) (fns : List (Str × Nat)) (cons excs : List Str) (e : Ent) : Prop where
  sc : FnScope e.N e.ps (defScope e.st)
  str : strSs fuel ⟨e.N, defScope e.st, fns, cons, excs⟩ (defBody e.st) = some e.fd.body
  n : e.fd.n = e.ps.length
  sl : e.fd.slots = e.N.length
  bd : BindOk e.st e.ps
def DynOk (K : PySem.W.Frag) (mg : Str → Option Value) (e : Ent) : Prop := ∃ (f : Addr) (fd : FuncData), Fun K e.x e.x e.st f fd ∧ mg e.x = some (.ref f)
structure ExcOk (K : PySem.W.Frag) (mg : Str → Option Value) (x : Str) : Prop where
  ex : ∃ (A : Addr), mg x = some (.ref A) ∧ PySem.W.excIn K A veT "ValueError.__new__" = true ∧ PySem.W.keepIn K (.ref A) = true ∧ PySem.W.subIn K (.ref A) (.type "BaseException") = some true ∧ PySem.W.typeIn K (.ref A) = some (.type "type")
section
variable {P : Program} {w : World} {K : PySem.W.Frag} {mg : Str → Option Value} {base : Heap} {T : List Ent} {gl : Str → Option D} {fu fuel : Nat} {cons excs : List Str} {p : Prg}
def g0 (K : PySem.W.Frag) (mg : Str → Option Value) (gl : Str → Option D) (Γ : Str → List D → Res Val) : Gb := ⟨K, mg, Γ, gl, E0⟩
theorem lookup_mem {α : Type} {f : Ent → α} : ∀ {T : List Ent} {x : Str} {a : α}, (T.map fun e => (e.x, f e)).lookup x = some a → ∃ e ∈ T, e.x = x ∧ f e = a
  | [], _, _, h => by cases h
  | e :: T, x, a, h => by
    rw [List.map_cons, List.lookup] at h
    split at h
    · rename_i hx
      rw [beq_iff_eq] at hx
      exact ⟨e, by simp, hx.symm, Option.some.inj h⟩
    · obtain ⟨e', h1, h2, h3⟩ := lookup_mem h
      exact ⟨e', by simp [h1], h2, h3⟩
theorem prog_ok (hp : ∀ e ∈ T, p.lookup e.x = some e.fd) (hst : ∀ e ∈ T, EntOk fuel (fnsOf T) cons excs e) (hdy : ∀ e ∈ T, DynOk K mg e) (hblt : ∀ x ∈ bltNames, mg x = none)
    (hcons : ∀ x ∈ cons, ∃ (u : Value) (v : V) (d : D), mg x = some u ∧ RelV v u ∧ (∀ B, Vw K mg B d v) ∧ gl x = some d) (hexc : ∀ x ∈ excs, ExcOk K mg x) :
    ∀ (k : Nat) (e : Ent), e ∈ T → ∀ (f : Addr) (fd : FuncData), Fun K e.x e.x e.st f fd → mg e.x = some (.ref f) → FnOk P w K mg base (L2.CX P w) k f fd e.ps (spC (g0 K mg gl fun _ _ => .stuck) e.fd.n (runP gl fu p k e.x)) := by
  intro k
  induction k with
  | zero =>
    intro e he f fd F hm
    have no : ∀ vs H Q E, spC (g0 K mg gl fun _ _ => .stuck) e.fd.n (runP gl fu p 0 e.x) vs H Q E → False := fun vs H Q E ⟨B, ds, _, _, _, o⟩ => o
    exact ⟨fun vs H Q E h => (no _ _ _ _ h).elim, fun A outer s H args us vs Q E _ _ _ _ h => (no _ _ _ _ h).elim⟩
  | succ k ih =>
    intro e he f fd F hm
    have ok := hst e he
    have key : ∀ (Γ : Str → List D → Res Val), Γ = runP gl fu p k → FnOk P w K mg base (L2.CX P w) (k + 1) f fd e.ps (spC (g0 K mg gl Γ) e.ps.length (runD Γ gl fu e.fd.body e.N.length)) := by
      intro Γ hΓ
      have hps : e.ps.length ≤ e.N.length := by
        have := congrArg List.length ok.sc.pre
        rw [List.length_take] at this
        omega
      refine fn_okD (G := g0 K mg gl Γ) F ok.sc rfl hps fun cdv A outer s H E hr => ?_
      refine (strS_ok (fu := fu) fuel).2 ⟨e.N, defScope e.st, fnsOf T, cons, excs⟩ _ _ _ _ ?_ ok.str
      have tk : Takes (cxOf (L2.CX P w) P w K mg base e.N e.x (defScope e.st) f cdv A outer s H E) (fun cls d _ H => E cls d H) := takes_of rfl rfl rfl rfl
      refine { N := rfl, sc := rfl, nd := ok.sc.nd, K := rfl, mg := rfl, calm := rfl, un := hr.units, kind := ok.sc.kind, pas := passes_call tk (fun _ _ _ _ h => h), blt := hblt, fns := ?_, gam := ?_, cons := hcons, own := passes_of rfl, tk := tk, fn := fun _ => rfl, excs := ?_ }
      · intro g n hg
        obtain ⟨e', he', hx, hn⟩ := lookup_mem hg
        subst hx hn
        obtain ⟨f', fd', F', hm'⟩ := hdy e' he'
        have hn' := (hst e' he').n
        refine ⟨k, f', fd', e'.ps, hn'.symm, ?_, hr, hm', F'.kp, F'.binds fun kV doc pm an cdv ct us hl => (hst e' he').bd _ _ kV doc pm an cdv ct us hl⟩
        have := ih e' he' f' fd' F' hm'
        subst hΓ
        exact this
      · intro g n hg
        obtain ⟨e', he', hx, hn⟩ := lookup_mem hg
        subst hx hn
        have hlk : p.lookup e'.x = some e'.fd := hp e' he'
        subst hΓ
        have both : ∀ ds, runP gl fu p k e'.x ds ≠ .stuck → ds.length = e'.fd.n := by
          intro ds hne
          cases k with
          | zero => exact absurd rfl hne
          | succ k =>
            unfold runP at hne
            rw [hlk] at hne
            simp only at hne
            split at hne
            · assumption
            · exact absurd rfl hne
        refine ⟨fun ds v h => both ds ?_, fun ds c h => both ds ?_⟩
        · show runP gl fu p k e'.x ds ≠ .stuck
          rw [show runP gl fu p k e'.x ds = .ok v from h]
          exact fun z => nomatch z
        · show runP gl fu p k e'.x ds ≠ .stuck
          rw [show runP gl fu p k e'.x ds = .exc c from h]
          exact fun z => nomatch z
      · intro x hx
        obtain ⟨A', h1, h2, h3, h4, h5⟩ := (hexc x hx).ex
        exact ⟨A', h1, h2, h3, raises_own h4 h5⟩
    refine (key _ rfl).imp fun vs H Q E ⟨B, ds, h1, h2, h3, o⟩ => ⟨B, ds, h1, h2, by rw [← ok.n]; exact h3, ?_⟩
    have hlk : p.lookup e.x = some e.fd := hp e he
    have hl : ds.length = e.fd.n := by rw [h2.length]; exact h3
    unfold runP at o
    rw [hlk] at o
    simp only [if_pos hl] at o
    rw [ok.sl] at o
    exact o
/-- a law: its run over the script tells True -/
theorem law_ok {k : Nat} {e : Ent} {f : Addr} {fd : FuncData} (F : FnOk P w K mg base (L2.CX P w) k f fd e.ps (spC (g0 K mg gl fun _ _ => .stuck) e.fd.n (runP gl fu p k e.x))) (hn : e.fd.n = 1) (n : Nat)
    (h : ∀ ns : List Int, ns.length ≤ n → ∃ kk nw, runP gl fu p k e.x [.scr ns] = .ok (.bl true, kk, nw)) :
    FnOk P w K mg base (L2.CX P w) k f fd e.ps (fun vs H Q E => ∃ (a : Addr) (ns : List Int), vs = [.ref a] ∧ SqL K H a (ns.map V.int) ∧ ns.length ≤ n ∧ ∀ H', Q (.bl true) H') := by
  refine F.imp fun vs H Q E ⟨a, ns, hv, hs, hl, q⟩ => ?_
  subst hv
  obtain ⟨kk, nw, e1⟩ := h ns hl
  refine ⟨H, [.scr ns], .refl _, .cons (.scr hs) .nil, by rw [hn]; rfl, ?_⟩
  rw [e1]
  intro x H' Z' F' g nd fr rp
  obtain ⟨_, w⟩ := rp.flat_inv rfl
  have := vw_bl w
  subst this
  exact q H'
end
end TT

set_option Elab.async false
set_option linter.all false
set_option autoImplicit false
set_option maxRecDepth 100000
set_option maxHeartbeats 4000000
/-! TZ: the end. -/
namespace TT
open PySem L2 PySem.Spec PyProof.Rows
/-- the module's constants -/
def glL : List (Str × D) := [("MOST", .int 20), ("MOST_SETS", .int 12), ("SMALL", .int 12), ("LITTLE", .int 8), ("MOST_BOUND", .int 12), ("MOST_ORDERED", .int 40), ("HEAVIEST", .int 1000)]
def glT (x : Str) : Option D := glL.lookup x
def spL (K : PySem.W.Frag) (n : Nat) : Sp := fun vs H Q E => ∃ (a : Addr) (ns : List Int), vs = [.ref a] ∧ SqL K H a (ns.map V.int) ∧ ns.length ≤ n ∧ ∀ H', Q (.bl true) H'
theorem cx_no {P : Program} {w : World} {outer : List PySem.Env} {H : Hp} {s : Shared} {e : Value} {s' : Shared} (h : L2.CX P w outer H s (fun _ _ _ => False) e s') : False := by
  obtain ⟨_, _, _, _, _, _, _, _, _, _, _, _, z⟩ := h
  exact z.elim
section
variable {P : Program} {w : World} {K : PySem.W.Frag} {mg : Str → Option Value} {h : Heap}
theorem dyn_mk (X : K.In h) (G : h.Ns mainGlobals mg) {e : Ent} {f : Addr} {od an : Option Addr} {sl : Array (Option Value)} {oc kV dc pm cd ct : Value} (a : PySem.W.nsIn K mainGlobals e.x = some (some (.ref f)))
    (l : K.lookup f = some ⟨oc, od, .func (PySem.W.fnOf e.x e.x (defArgs e.st) (defBody e.st) (defScope e.st) .none kV dc pm an cd ct), sl⟩) (c : PySem.W.codeIn K cd e.x = true) (k : PySem.W.keepIn K (.ref f) = true) : DynOk K mg e :=
  ⟨f, _, fun_mk l c k, PySem.W.mg_of X G a⟩
theorem exc_mk (X : K.In h) (G : h.Ns mainGlobals mg) {x : Str} {A : Addr} (a : PySem.W.nsIn K mainGlobals x = some (some (.ref A))) (e : PySem.W.excIn K A veT "ValueError.__new__" = true) (k : PySem.W.keepIn K (.ref A) = true) (s : PySem.W.subIn K (.ref A) (.type "BaseException") = some true) (t : PySem.W.typeIn K (.ref A) = some (.type "type")) : ExcOk K mg x :=
  ⟨A, PySem.W.mg_of X G a, e, k, s, t⟩
theorem con_mk (X : K.In h) (G : h.Ns mainGlobals mg) {x : Str} {i : Int} {t : Tok} (a : PySem.W.nsIn K mainGlobals x = some (some (.int i t))) : ∃ t, mg x = some (.int i t) := ⟨t, PySem.W.mg_of X G a⟩
theorem end_ok {T : List Ent} {e : Ent} {gl : Str → Option D} {fu fuel k : Nat} {p : Prg} {cons excs : List Str} {fa : Addr} {name : Str} (X : K.In h) (G : h.Ns mainGlobals mg) (hfa : mg name = some (.ref fa))
    (hst : ∀ e ∈ T, EntOk fuel (fnsOf T) cons excs e) (hdy : ∀ e ∈ T, DynOk K mg e) (hblt : ∀ x ∈ bltNames, mg x = none)
    (hcons : ∀ x ∈ cons, ∃ (u : Value) (v : V) (d : D), mg x = some u ∧ RelV v u ∧ (∀ B, Vw K mg B d v) ∧ gl x = some d) (hexc : ∀ x ∈ excs, ExcOk K mg x)
    (hp : ∀ e ∈ T, p.lookup e.x = some e.fd) (he : e ∈ T) (hn : e.x = name) (hps : e.ps = [("_law_script" : Str)]) (h1 : e.fd.n = 1) (n : Nat) (hlaw : ∀ ns : List Int, ns.length ≤ n → ∃ kk nw, runP gl fu p k name [.scr ns] = .ok (.bl true, kk, nw)) :
    ∃ fd : FuncData, (∀ (s : Shared) (u : Value), BindsTo s fd ⟨[u], []⟩ [("_law_script", u)]) ∧ ∀ base : Heap, K.In base → base.Ns mainGlobals mg → FnOk P w K mg base (L2.CX P w) k fa fd [("_law_script" : Str)] (spL K n) := by
  obtain ⟨f, fd, F, hm⟩ := hdy e he
  have ef : f = fa := by
    rw [hn, hfa] at hm
    cases hm
    rfl
  subst ef
  refine ⟨fd, fun s u => ?_, fun base _ _ => ?_⟩
  · have b := F.binds fun kV doc pm an cdv ct us hl => (hst e he).bd _ _ kV doc pm an cdv ct us hl
    obtain ⟨oc, od, kV, doc, pm, an, cdv, ct, osl, rfl, lk, hcd⟩ := F.ex
    have := (hst e he).bd e.x e.x kV doc pm an cdv ct [u] (by rw [hps]; rfl)
    rw [hps] at this
    exact .of_eq this
  · have F1 := prog_ok (P := P) (w := w) (base := base) (gl := gl) (fu := fu) hp hst hdy hblt hcons hexc k e he f fd F hm
    have := law_ok (e := e) F1 h1 n (fun ns hl => by rw [hn]; exact hlaw ns hl)
    rw [hps] at this
    exact this
end
end TT

set_option Elab.async false
set_option linter.all false
set_option autoImplicit false
set_option maxRecDepth 100000
set_option maxHeartbeats 1000000
/-! UA: words for running core bodies. -/
namespace TT
open PySem L2
def Ext (q p : Prg) : Prop := ∀ f fd, q.lookup f = some fd → p.lookup f = some fd
section
variable {gl : Str → Option D} {fu : Nat} {p : Prg}
theorem runP_eq {k : Nat} {f : Str} {fd : Fd} {ds : List D} (h : p.lookup f = some fd) (hl : ds.length = fd.n) : runP gl fu p (k + 1) f ds = runD (runP gl fu p k) gl fu fd.body fd.slots ds := by
  rw [runP, h]
  simp only [if_pos hl]
end
abbrev dI (ns : List Int) : D := .lst (ns.map .int)
abbrev dLL (ss : List (List Int)) : D := .lst (ss.map dI)
abbrev dFam (n : Int) (ss : List (List Int)) : D := .tup [.int n, dLL ss]
abbrev dB (bs : List Bool) : D := .lst (bs.map .bl)
abbrev vI (i : Int) : Val := (.int i, 0, true)
abbrev vB (b : Bool) : Val := (.bl b, 0, true)
@[simp] theorem ints_ok : ∀ ns : List Int, ints? (ns.map D.int) = some ns
  | [] => rfl
  | n :: ns => by rw [List.map_cons, ints?, ints_ok ns]; rfl
@[simp] theorem bls_ok : ∀ ns : List Bool, bls? (ns.map D.bl) = some ns
  | [] => rfl
  | n :: ns => by rw [List.map_cons, bls?, bls_ok ns]; rfl
@[simp] theorem shutL_ints (k : Nat) : ∀ ns : List Int, shutL k (ns.map D.int) = true
  | [] => rfl
  | n :: ns => by
    rw [List.map_cons, shutL, shutL_ints k ns]
    cases k <;> rfl
@[simp] theorem shut_int (k : Nat) (i : Int) : shut k (.int i) = true := by cases k <;> rfl
@[simp] theorem shut_bl (k : Nat) (i : Bool) : shut k (.bl i) = true := by cases k <;> rfl
@[simp] theorem shut_non (k : Nat) : shut k .non = true := by cases k <;> rfl
@[simp] theorem shut_str (k : Nat) (x : Str) : shut k (.str x) = true := by cases k <;> rfl
@[simp] theorem shut_lst (k : Nat) (ds : List D) : shut (k + 1) (.lst ds) = shutL k ds := rfl
@[simp] theorem shut_tup (k : Nat) (ds : List D) : shut (k + 1) (.tup ds) = shutL k ds := rfl
@[simp] theorem shut_lst0 (ds : List D) : shut 0 (.lst ds) = false := rfl
@[simp] theorem shut_tup0 (ds : List D) : shut 0 (.tup ds) = false := rfl
@[simp] theorem shutL_nil (k : Nat) : shutL k [] = true := rfl
@[simp] theorem shutL_cons (k : Nat) (d : D) (ds : List D) : shutL k (d :: ds) = (shut k d && shutL k ds) := rfl
@[simp] theorem shutL_dI (k : Nat) : ∀ ss : List (List Int), shutL (k + 1) (ss.map dI) = true
  | [] => rfl
  | s :: ss => by
    rw [List.map_cons, shutL, shutL_dI k ss]
    simp [dI]
@[simp] theorem keep_true (env : Env) (S : List Nat) : keep env S true = env := by simp [keep]
theorem compL_map {α : Type} {test : Env → Res Bool} {elt : Env → Res Val} {env : Env} {t : Tg} (g : α → Val) (E : α → Env) (b : α → Bool) (f : α → Val) : ∀ (xs : List α), (∀ x ∈ xs, setT env t (g x) = .ok (E x) ∧ test (E x) = .ok (b x) ∧ (b x = true → elt (E x) = .ok (f x))) →
    compL test elt env t (xs.map g) = .ok ((xs.filter b).map f)
  | [], _ => rfl
  | x :: xs, h => by
    obtain ⟨h1, h2, h3⟩ := h x (by simp)
    have ih := compL_map (test := test) (elt := elt) (env := env) (t := t) g E b f xs fun y hy => h y (by simp [hy])
    rw [List.map_cons, compL, h1]
    simp only [Res.bind_ok, h2]
    cases hb : b x with
    | true => simp only [if_true, h3 hb, Res.bind_ok, ih, List.filter_cons, hb, List.map_cons]
    | false => simp only [Bool.false_eq_true, if_false, ih, List.filter_cons, hb]
/-- .. where all are taken -/
theorem compL_all {α : Type} {test : Env → Res Bool} {elt : Env → Res Val} {env : Env} {t : Tg} (g : α → Val) (f : α → Val) (xs : List α) (h : ∀ x ∈ xs, ∃ e, setT env t (g x) = .ok e ∧ test e = .ok true ∧ elt e = .ok (f x)) :
    compL test elt env t (xs.map g) = .ok (xs.map f) := by
  induction xs with
  | nil => rfl
  | cons x xs ih =>
    obtain ⟨e, h1, h2, h3⟩ := h x (by simp)
    have ih := ih fun y hy => h y (by simp [hy])
    rw [List.map_cons, compL, h1]
    simp only [Res.bind_ok, h2, if_true, h3, ih, List.map_cons]
end TT

set_option Elab.async false
set_option linter.all false
set_option autoImplicit false
/-! CO: the defs of the package and the helpers of the laws, printed by co.py. -/
namespace TT
open PySem L2
def f_is_whole : Fd := ⟨1, 1, (.cons (.ret (.and (.isi (.var 0) .int) (.not (.isi (.var 0) .bool)))) .nil)⟩
def f_are_places : Fd := ⟨2, 5, (.cons (.ife (.or (.not (.isi (.var 0) .list)) (.cmp .Eq (.var 0) (.lst .nil))) (.cons (.ret (.cst (.bl false))) .nil) .nil) (.cons (.ife (.not (.blt .all (.cons (.comp (.and (.call "is_whole" (.cons (.var 2) .nil)) (.chain .LtE .Lt (.cst (.int 0)) (.var 2) (.var 1))) (.one 2) .seq (.cons (.var 0) .nil) .nil) .nil))) (.cons (.ret (.cst (.bl false))) .nil) .nil) (.cons (.ret (.blt .all (.cons (.comp (.cmp .Lt (.var 3) (.var 4)) (.many [3, 4]) .zip (.cons (.var 0) (.cons (.sl (.var 0) (.cons (.cst (.int 1)) .nil) .nil) .nil)) .nil) .nil))) .nil)))⟩
def f_check_family : Fd := ⟨2, 4, (.cons (.ife (.or (.not (.isi (.var 0) .tuple)) (.or (.cmp .NotEq (.blt .len (.cons (.var 0) .nil)) (.cst (.int 2))) (.or (.not (.call "is_whole" (.cons (.idx (.var 0) (.cst (.int 0))) .nil))) (.not (.chain .LtE .LtE (.cst (.int 1)) (.idx (.var 0) (.cst (.int 0))) (.var 1)))))) (.cons (.rais "BadFamily") .nil) .nil) (.cons (.asg (.one 2) (.idx (.var 0) (.cst (.int 1)))) (.cons (.ife (.or (.not (.isi (.var 2) .list)) (.cmp .Gt (.blt .len (.cons (.var 2) .nil)) (.gcon "MOST_SETS"))) (.cons (.rais "BadFamily") .nil) .nil) (.cons (.ife (.not (.blt .all (.cons (.comp (.call "are_places" (.cons (.var 3) (.cons (.idx (.var 0) (.cst (.int 0))) .nil))) (.one 3) .seq (.cons (.var 2) .nil) .nil) .nil))) (.cons (.rais "BadFamily") .nil) .nil) .nil))))⟩
def f_check_colours : Fd := ⟨2, 3, (.cons (.ife (.or (.not (.isi (.var 1) .list)) (.cmp .NotEq (.blt .len (.cons (.var 1) .nil)) (.idx (.var 0) (.cst (.int 0))))) (.cons (.rais "BadColours") .nil) .nil) (.cons (.ife (.not (.blt .all (.cons (.comp (.and (.call "is_whole" (.cons (.var 2) .nil)) (.cmp .In (.var 2) (.tup (.cons (.cst (.int 1)) (.cons (.neg (.cst (.int 1))) .nil))))) (.one 2) .seq (.cons (.var 1) .nil) .nil) .nil))) (.cons (.rais "BadColours") .nil) .nil) .nil))⟩
def f_sums_of : Fd := ⟨2, 4, (.cons (.ret (.comp (.blt .sum (.cons (.comp (.idx (.var 1) (.var 3)) (.one 3) .seq (.cons (.var 2) .nil) .nil) .nil)) (.one 2) .seq (.cons (.idx (.var 0) (.cst (.int 1))) .nil) .nil)) .nil)⟩
def f_sums : Fd := ⟨2, 2, (.cons (.expr (.call "check_family" (.cons (.var 0) (.cons (.gcon "MOST") .nil)))) (.cons (.expr (.call "check_colours" (.cons (.var 0) (.cons (.var 1) .nil)))) (.cons (.ret (.call "sums_of" (.cons (.var 0) (.cons (.var 1) .nil)))) .nil)))⟩
def f_uneven_of : Fd := ⟨2, 3, (.cons (.ret (.blt .max (.cons (.bin .Add (.comp (.blt .abs (.cons (.var 2) .nil)) (.one 2) .seq (.cons (.call "sums_of" (.cons (.var 0) (.cons (.var 1) .nil))) .nil) .nil) (.lst (.cons (.cst (.int 0)) .nil))) .nil))) .nil)⟩
def f_uneven : Fd := ⟨2, 2, (.cons (.expr (.call "check_family" (.cons (.var 0) (.cons (.gcon "MOST") .nil)))) (.cons (.expr (.call "check_colours" (.cons (.var 0) (.cons (.var 1) .nil)))) (.cons (.ret (.call "uneven_of" (.cons (.var 0) (.cons (.var 1) .nil)))) .nil)))⟩
def f_crowd_of : Fd := ⟨1, 3, (.cons (.ret (.blt .max (.cons (.comp (.blt .len (.cons (.comp (.var 2) (.one 2) .seq (.cons (.idx (.var 0) (.cst (.int 1))) .nil) (.cons (.cmp .In (.var 1) (.var 2)) .nil)) .nil)) (.one 1) .range (.cons (.idx (.var 0) (.cst (.int 0))) .nil) .nil) .nil))) .nil)⟩
def f_crowd : Fd := ⟨1, 1, (.cons (.expr (.call "check_family" (.cons (.var 0) (.cons (.gcon "MOST") .nil)))) (.cons (.ret (.call "crowd_of" (.cons (.var 0) .nil))) .nil))⟩
def f_law_cell_at : Fd := ⟨2, 2, (.cons (.ife (.cmp .Lt (.var 1) (.blt .len (.cons (.var 0) .nil))) (.cons (.ret (.idx (.var 0) (.var 1))) .nil) .nil) (.cons (.ret (.cst (.int 0))) .nil))⟩
def f_law_draw : Fd := ⟨3, 4, (.cons (.asg (.one 3) (.tup (.cons (.cst (.int 1000003)) (.cons (.cst (.int 1000033)) (.cons (.cst (.int 1000037)) (.cons (.cst (.int 1000039)) (.cons (.cst (.int 1000081)) (.cons (.cst (.int 1000099)) (.cons (.cst (.int 1000117)) (.cons (.cst (.int 1000121)) (.cons (.cst (.int 1000133)) (.cons (.cst (.int 1000151)) (.cons (.cst (.int 1000159)) (.cons (.cst (.int 1000171)) (.cons (.cst (.int 1000183)) (.cons (.cst (.int 1000187)) (.cons (.cst (.int 1000193)) (.cons (.cst (.int 1000199)) .nil)))))))))))))))))) (.cons (.ret (.bin .Mod (.bin .Mod (.bin .Add (.bin .Mult (.var 0) (.cst (.int 48271))) (.bin .Mult (.var 1) (.cst (.int 69621)))) (.idx (.var 3) (.bin .Mod (.var 1) (.cst (.int 16))))) (.var 2))) .nil))⟩
def f_law_value : Fd := ⟨2, 4, (.cons (.ife (.cmp .GtE (.var 0) (.bin .Pow (.cst (.int 10)) (.cst (.int 18)))) (.cons (.ret (.bin .RShift (.bin .Mod (.bin .Sub (.var 0) (.bin .Pow (.cst (.int 10)) (.cst (.int 18)))) (.bin .Pow (.cst (.int 10)) (.cst (.int 40)))) (.bin .Mult (.cst (.int 3)) (.var 1)))) .nil) .nil) (.cons (.asg (.one 2) (.bin .Mod (.var 0) (.bin .Pow (.cst (.int 10)) (.cst (.int 18))))) (.cons (.asg (.one 3) (.call "_law_draw" (.cons (.bin .Mult (.bin .Add (.var 2) (.bin .Mult (.cst (.int 977)) (.var 1))) (.bin .Add (.bin .Add (.var 2) (.bin .Mult (.cst (.int 31)) (.var 1))) (.cst (.int 5)))) (.cons (.bin .Add (.bin .Mod (.var 1) (.cst (.int 9))) (.cst (.int 1))) (.cons (.cst (.int 999983)) .nil))))) (.cons (.ret (.bin .Add (.bin .Mult (.var 3) (.cst (.int 1000003))) (.call "_law_draw" (.cons (.bin .Add (.bin .Mult (.bin .Add (.var 2) (.bin .Mult (.cst (.int 31)) (.var 1))) (.bin .Add (.var 2) (.cst (.int 7)))) (.bin .Mult (.cst (.int 977)) (.var 1))) (.cons (.bin .Add (.bin .Mod (.var 1) (.cst (.int 7))) (.cst (.int 2))) (.cons (.cst (.int 1000003)) .nil)))))) .nil))))⟩
def f_law_whole : Fd := ⟨1, 1, (.cons (.ret (.and (.isi (.var 0) .int) (.not (.isi (.var 0) .bool)))) .nil)⟩
def l_law_family_1 : CSs := (.cons (.asg (.one 9) (.bin .FloorDiv (.call "_law_value" (.cons (.bin .Add (.call "_law_cell_at" (.cons (.var 0) (.cons (.bin .Add (.var 1) (.bin .Mod (.var 8) (.cst (.int 5)))) .nil))) (.bin .Mult (.cst (.int 7)) (.var 8))) (.cons (.bin .Add (.cst (.int 4)) (.bin .Mod (.var 8) (.cst (.int 6)))) .nil))) (.cst (.int 3)))) (.cons (.asg (.one 10) (.comp (.var 11) (.one 11) .range (.cons (.var 5) .nil) (.cons (.cmp .Eq (.bin .BitAnd (.bin .RShift (.var 9) (.var 11)) (.cst (.int 1))) (.cst (.int 1))) .nil))) (.cons (.ife (.cmp .Eq (.var 6) (.cst (.int 1))) (.cons (.asg (.one 10) (.blt .lrange (.cons (.bin .Mod (.var 9) (.var 5)) (.cons (.bin .Add (.bin .Add (.bin .Mod (.var 9) (.var 5)) (.cst (.int 1))) (.bin .Mod (.bin .FloorDiv (.var 9) (.cst (.int 97))) (.bin .Sub (.var 5) (.bin .Mod (.var 9) (.var 5))))) .nil)))) .nil) .nil) (.cons (.ife (.cmp .Eq (.var 6) (.cst (.int 2))) (.cons (.asg (.one 10) (.blt .sset (.cons (.lst (.cons (.bin .Mod (.var 9) (.var 5)) (.cons (.bin .Mod (.bin .FloorDiv (.var 9) (.cst (.int 31))) (.var 5)) (.cons (.bin .Mod (.bin .FloorDiv (.var 9) (.cst (.int 977))) (.var 5)) .nil)))) .nil))) .nil) .nil) (.cons (.ife (.and (.cmp .Eq (.var 6) (.cst (.int 3))) (.and (.cmp .NotEq (.var 7) (.lst .nil)) (.cmp .Eq (.bin .Mod (.bin .FloorDiv (.var 9) (.cst (.int 7))) (.cst (.int 3))) (.cst (.int 0))))) (.cons (.asg (.one 10) (.blt .list (.cons (.idx (.var 7) (.cst (.int 0))) .nil))) .nil) .nil) (.cons (.ife (.cmp .NotEq (.var 10) (.lst .nil)) (.cons (.app 7 [] (.var 10)) .nil) .nil) .nil))))))
def f_law_family : Fd := ⟨4, 12, (.cons (.asg (.one 4) (.call "_law_cell_at" (.cons (.var 0) (.cons (.var 1) .nil)))) (.cons (.par [5, 6] (.cons (.bin .Add (.cst (.int 1)) (.bin .Mod (.call "_law_value" (.cons (.var 4) (.cons (.cst (.int 1)) .nil))) (.var 2))) (.cons (.bin .Mod (.call "_law_value" (.cons (.var 4) (.cons (.cst (.int 2)) .nil))) (.cst (.int 4))) .nil))) (.cons (.asg (.one 7) (.lst .nil)) (.cons (.fors (.one 8) .range (.cons (.bin .Mod (.call "_law_value" (.cons (.var 4) (.cons (.cst (.int 3)) .nil))) (.bin .Add (.var 3) (.cst (.int 1)))) .nil) l_law_family_1) (.cons (.ret (.tup (.cons (.var 5) (.cons (.var 7) .nil)))) .nil)))))⟩
def f_law_copy_k01 : Fd := ⟨1, 2, (.cons (.ret (.tup (.cons (.idx (.var 0) (.cst (.int 0))) (.cons (.comp (.blt .list (.cons (.var 1) .nil)) (.one 1) .seq (.cons (.idx (.var 0) (.cst (.int 1))) .nil) .nil) .nil)))) .nil)⟩
def l_law_colours_1 : CSs := (.cons (.asg (.one 5) (.call "_law_value" (.cons (.bin .Add (.call "_law_cell_at" (.cons (.var 0) (.cons (.bin .Add (.var 1) (.bin .Mod (.var 4) (.cst (.int 6)))) .nil))) (.bin .Mult (.cst (.int 13)) (.var 4))) (.cons (.bin .Add (.cst (.int 2)) (.bin .Mod (.var 4) (.cst (.int 7)))) .nil)))) (.cons (.app 3 [] (.ite (.cmp .Eq (.bin .Mod (.bin .FloorDiv (.var 5) (.cst (.int 3))) (.cst (.int 2))) (.cst (.int 0))) (.cst (.int 1)) (.neg (.cst (.int 1))))) .nil))
def f_law_colours : Fd := ⟨3, 6, (.cons (.asg (.one 3) (.lst .nil)) (.cons (.fors (.one 4) .range (.cons (.var 2) .nil) l_law_colours_1) (.cons (.ret (.var 3)) .nil)))⟩
def f_law_sums : Fd := ⟨2, 4, (.cons (.ret (.comp (.blt .sum (.cons (.comp (.idx (.var 1) (.var 3)) (.one 3) .seq (.cons (.var 2) .nil) .nil) .nil)) (.one 2) .seq (.cons (.idx (.var 0) (.cst (.int 1))) .nil) .nil)) .nil)⟩
def f_law_uneven : Fd := ⟨2, 3, (.cons (.ret (.blt .max (.cons (.bin .Add (.lst (.cons (.cst (.int 0)) .nil)) (.comp (.blt .abs (.cons (.var 2) .nil)) (.one 2) .seq (.cons (.call "_law_sums" (.cons (.var 0) (.cons (.var 1) .nil))) .nil) .nil)) .nil))) .nil)⟩
def f_part : Fd := ⟨2, 2, (.cons (.expr (.call "check_family" (.cons (.var 0) (.cons (.gcon "MOST") .nil)))) (.cons (.ife (.not (.call "are_places" (.cons (.var 1) (.cons (.idx (.var 0) (.cst (.int 0))) .nil)))) (.cons (.rais "BadPlaces") .nil) .nil) (.cons (.ret (.call "part_of" (.cons (.var 0) (.cons (.var 1) .nil)))) .nil)))⟩
def f_beside : Fd := ⟨2, 5, (.cons (.expr (.call "check_family" (.cons (.var 0) (.cons (.gcon "MOST") .nil)))) (.cons (.expr (.call "check_family" (.cons (.var 1) (.cons (.gcon "MOST") .nil)))) (.cons (.ife (.or (.cmp .Gt (.bin .Add (.idx (.var 0) (.cst (.int 0))) (.idx (.var 1) (.cst (.int 0)))) (.gcon "MOST")) (.cmp .Gt (.bin .Add (.blt .len (.cons (.idx (.var 0) (.cst (.int 1))) .nil)) (.blt .len (.cons (.idx (.var 1) (.cst (.int 1))) .nil))) (.gcon "MOST_SETS"))) (.cons (.rais "TooMany") .nil) .nil) (.cons (.asg (.one 2) (.comp (.comp (.bin .Add (.var 4) (.idx (.var 0) (.cst (.int 0)))) (.one 4) .seq (.cons (.var 3) .nil) .nil) (.one 3) .seq (.cons (.idx (.var 1) (.cst (.int 1))) .nil) .nil)) (.cons (.ret (.tup (.cons (.bin .Add (.idx (.var 0) (.cst (.int 0))) (.idx (.var 1) (.cst (.int 0)))) (.cons (.bin .Add (.comp (.blt .list (.cons (.var 3) .nil)) (.one 3) .seq (.cons (.idx (.var 0) (.cst (.int 1))) .nil) .nil) (.var 2)) .nil)))) .nil)))))⟩
def l_law_part_2 : CSs := (.cons (.ife (.cmp .In (.var 6) (.var 3)) (.cons (.app 4 [] (.var 5)) .nil) .nil) .nil)
def l_law_part_1 : CSs := (.cons (.asg (.one 4) (.lst .nil)) (.cons (.fors (.many [5, 6]) .enum (.cons (.var 1) .nil) l_law_part_2) (.cons (.ife (.cmp .NotEq (.var 4) (.lst .nil)) (.cons (.app 2 [] (.var 4)) .nil) .nil) .nil)))
def f_law_part : Fd := ⟨2, 7, (.cons (.asg (.one 2) (.lst .nil)) (.cons (.fors (.one 3) .seq (.cons (.idx (.var 0) (.cst (.int 1))) .nil) l_law_part_1) (.cons (.ret (.tup (.cons (.blt .len (.cons (.var 1) .nil)) (.cons (.var 2) .nil)))) .nil)))⟩
def l_common_1 : CSs := (.cons (.par [0, 1] (.cons (.var 1) (.cons (.bin .Mod (.var 0) (.var 1)) .nil))) .nil)
def f_common : Fd := ⟨2, 2, (.cons (.par [0, 1] (.cons (.blt .abs (.cons (.var 0) .nil)) (.cons (.blt .abs (.cons (.var 1) .nil)) .nil))) (.cons (.whl (.cmp .Gt (.var 1) (.cst (.int 0))) l_common_1) (.cons (.ret (.var 0)) .nil)))⟩
def l_lowest_1 : CSs := (.cons (.asg (.one 1) (.call "common" (.cons (.var 1) (.cons (.var 2) .nil)))) .nil)
def f_lowest : Fd := ⟨1, 3, (.cons (.asg (.one 1) (.cst (.int 0))) (.cons (.fors (.one 2) .seq (.cons (.var 0) .nil) l_lowest_1) (.cons (.ret (.ite (.cmp .Lt (.var 1) (.cst (.int 2))) (.var 0) (.comp (.bin .FloorDiv (.var 2) (.var 1)) (.one 2) .seq (.cons (.var 0) .nil) .nil))) .nil)))⟩
def l_table_of_4 : CSs := (.cons (.augI 4 [.ix (.v 8)] (.var 9) .Add (.var 7)) .nil)
def l_table_of_3 : CSs := (.cons (.fors (.one 9) .seq (.cons (.var 6) .nil) l_table_of_4) .nil)
def l_table_of_2 : CSs := (.cons (.fors (.one 8) .seq (.cons (.var 6) .nil) l_table_of_3) .nil)
def l_table_of_1 : CSs := (.cons (.augI 4 [.ix (.v 5)] (.var 5) .Sub (.var 10)) .nil)
def f_table_of : Fd := ⟨3, 11, (.cons (.asg (.one 3) (.idx (.var 0) (.cst (.int 0)))) (.cons (.asg (.one 4) (.comp (.bin .Mult (.lst (.cons (.cst (.int 0)) .nil)) (.var 3)) (.one 5) .range (.cons (.var 3) .nil) .nil)) (.cons (.fors (.many [6, 7]) .zip (.cons (.idx (.var 0) (.cst (.int 1))) (.cons (.var 1) .nil)) l_table_of_2) (.cons (.fors (.many [5, 10]) .enum (.cons (.var 2) .nil) l_table_of_1) (.cons (.ret (.var 4)) .nil)))))⟩
def l_met_1 : CSs := (.cons (.aug 3 .Add (.bin .Mult (.var 4) (.blt .sum (.cons (.comp (.bin .Mult (.var 6) (.var 7)) (.many [6, 7]) .zip (.cons (.var 5) (.cons (.var 2) .nil)) .nil) .nil)))) .nil)
def f_met : Fd := ⟨3, 8, (.cons (.asg (.one 3) (.cst (.int 0))) (.cons (.fors (.many [4, 5]) .zip (.cons (.var 1) (.cons (.var 0) .nil)) l_met_1) (.cons (.ret (.var 3)) .nil)))⟩
def l_below_with_1 : CSs := (.cons (.asg (.one 4) (.call "met" (.cons (.var 0) (.cons (.var 1) (.cons (.var 3) .nil))))) (.cons (.ife (.cmp .NotEq (.var 4) (.cst (.int 0))) (.cons (.asg (.one 5) (.blt .max (.cons (.cst (.int 0)) (.cons (.call "met" (.cons (.var 0) (.cons (.var 3) (.cons (.var 3) .nil)))) .nil)))) (.cons (.asg (.one 6) (.ite (.cmp .Gt (.var 4) (.cst (.int 0))) (.neg (.bin .Add (.var 5) (.cst (.int 1)))) (.bin .Add (.var 5) (.cst (.int 1))))) (.cons (.ret (.comp (.bin .Add (.bin .Mult (.bin .Mult (.cst (.int 2)) (.blt .abs (.cons (.var 4) .nil))) (.var 8)) (.bin .Mult (.bin .Mult (.cst (.int 2)) (.var 6)) (.var 7))) (.many [7, 8]) .zip (.cons (.var 1) (.cons (.var 3) .nil)) .nil)) .nil))) .nil) .nil))
def f_below_with : Fd := ⟨3, 9, (.cons (.fors (.one 3) .seq (.cons (.var 2) .nil) l_below_with_1) (.cons (.ret (.cst .non)) .nil))⟩
def l_failing_2 : CSs := (.cons (.asg (.one 13) (.call "met" (.cons (.var 4) (.cons (.var 8) (.cons (.var 12) .nil))))) (.cons (.app 5 [] (.call "lowest" (.cons (.comp (.bin .Sub (.bin .Mult (.var 10) (.var 15)) (.bin .Mult (.var 13) (.var 14))) (.many [14, 15]) .zip (.cons (.var 8) (.cons (.var 12) .nil)) .nil) .nil))) .nil))
def l_failing_1 : CSs := (.cons (.par [8, 9] (.cons (.idx (.var 5) (.cst (.int 0))) (.cons (.sl (.var 5) (.cons (.cst (.int 1)) .nil) .nil) .nil))) (.cons (.asg (.one 10) (.call "met" (.cons (.var 4) (.cons (.var 8) (.cons (.var 8) .nil))))) (.cons (.ife (.cmp .Lt (.var 10) (.cst (.int 0))) (.cons (.ret (.var 8)) .nil) .nil) (.cons (.ife (.cmp .Eq (.var 10) (.cst (.int 0))) (.cons (.asg (.one 11) (.call "below_with" (.cons (.var 4) (.cons (.var 8) (.cons (.var 9) .nil))))) (.cons (.ife (.cmp .IsNot (.var 11) (.cst .non)) (.cons (.ret (.call "lowest" (.cons (.var 11) .nil))) .nil) .nil) (.cons (.asg (.one 5) (.var 9)) .nil))) (.cons (.asg (.one 5) (.lst .nil)) (.cons (.fors (.one 12) .seq (.cons (.var 9) .nil) l_failing_2) .nil))) .nil))))
def f_failing : Fd := ⟨3, 16, (.cons (.asg (.one 3) (.idx (.var 0) (.cst (.int 0)))) (.cons (.asg (.one 4) (.call "table_of" (.cons (.var 0) (.cons (.var 1) (.cons (.var 2) .nil))))) (.cons (.asg (.one 5) (.comp (.comp (.blt .int (.cons (.cmp .Eq (.var 7) (.var 6)) .nil)) (.one 7) .range (.cons (.var 3) .nil) .nil) (.one 6) .range (.cons (.var 3) .nil) .nil)) (.cons (.whl (.cmp .NotEq (.var 5) (.lst .nil)) l_failing_1) (.cons (.ret (.cst .non)) .nil)))))⟩
def f_far_off : Fd := ⟨4, 7, (.cons (.asg (.one 4) (.idx (.idx (.var 0) (.cst (.int 1))) (.var 3))) (.cons (.asg (.one 5) (.blt .len (.cons (.comp (.var 6) (.one 6) .seq (.cons (.var 4) .nil) (.cons (.cmp .Eq (.idx (.var 1) (.var 6)) (.cst (.int 0))) .nil)) .nil))) (.cons (.ret (.cmp .Gt (.bin .Sub (.blt .abs (.cons (.blt .sum (.cons (.comp (.idx (.var 1) (.var 6)) (.one 6) .seq (.cons (.var 4) .nil) .nil) .nil)) .nil)) (.var 5)) (.var 2))) .nil)))⟩
def f_bars : Fd := ⟨4, 7, (.cons (.ife (.cmp .Eq (.idx (.var 2) (.cst (.int 0))) (.cst (.str "bar"))) (.cons (.ret (.and (.chain .LtE .Lt (.cst (.int 0)) (.idx (.var 2) (.cst (.int 1))) (.blt .len (.cons (.idx (.var 0) (.cst (.int 1))) .nil))) (.call "far_off" (.cons (.var 0) (.cons (.var 3) (.cons (.var 1) (.cons (.idx (.var 2) (.cst (.int 1))) .nil))))))) .nil) .nil) (.cons (.asg (.one 4) (.idx (.var 2) (.cst (.int 1)))) (.cons (.ife (.or (.not (.chain .LtE .Lt (.cst (.int 0)) (.var 4) (.idx (.var 0) (.cst (.int 0))))) (.cmp .NotEq (.idx (.var 3) (.var 4)) (.cst (.int 0)))) (.cons (.ret (.cst (.bl false))) .nil) .nil) (.cons (.par [5, 6] (.cons (.blt .list (.cons (.var 3) .nil)) (.cons (.blt .list (.cons (.var 3) .nil)) .nil))) (.cons (.par2 5 6 (.var 4) (.var 4) (.neg (.cst (.int 1))) (.cst (.int 1))) (.cons (.ret (.and (.call "bars" (.cons (.var 0) (.cons (.var 1) (.cons (.idx (.var 2) (.cst (.int 2))) (.cons (.var 5) .nil))))) (.call "bars" (.cons (.var 0) (.cons (.var 1) (.cons (.idx (.var 2) (.cst (.int 3))) (.cons (.var 6) .nil))))))) .nil))))))⟩
def f_total_of : Fd := ⟨2, 3, (.cons (.ret (.blt .sum (.cons (.comp (.bin .Mult (.var 2) (.var 2)) (.one 2) .seq (.cons (.call "sums_of" (.cons (.var 0) (.cons (.var 1) .nil))) .nil) .nil) .nil))) .nil)⟩
def f_changed : Fd := ⟨2, 2, (.cons (.ret (.bin .Add (.bin .Add (.sl (.var 0) .nil (.cons (.var 1) .nil)) (.lst (.cons (.neg (.idx (.var 0) (.var 1))) .nil))) (.sl (.var 0) (.cons (.bin .Add (.var 1) (.cst (.int 1))) .nil) .nil))) .nil)⟩
def f_lowers : Fd := ⟨3, 3, (.cons (.ret (.cmp .Lt (.call "total_of" (.cons (.var 0) (.cons (.call "changed" (.cons (.var 1) (.cons (.var 2) .nil))) .nil))) (.call "total_of" (.cons (.var 0) (.cons (.var 1) .nil))))) .nil)⟩
def f_above : Fd := ⟨4, 8, (.cons (.asg (.one 4) (.blt .sum (.cons (.comp (.bin .Mult (.bin .Mult (.var 5) (.var 6)) (.var 6)) (.many [5, 6]) .zip (.cons (.var 1) (.cons (.call "sums_of" (.cons (.var 0) (.cons (.var 3) .nil))) .nil)) .nil) .nil))) (.cons (.ret (.bin .Sub (.var 4) (.blt .sum (.cons (.comp (.bin .Mult (.bin .Mult (.var 7) (.var 6)) (.var 6)) (.many [7, 6]) .zip (.cons (.var 2) (.cons (.var 3) .nil)) .nil) .nil)))) .nil))⟩
def f_check_bound : Fd := ⟨2, 2, (.cons (.expr (.call "check_family" (.cons (.var 0) (.cons (.gcon "SMALL") .nil)))) (.cons (.ife (.or (.not (.call "is_whole" (.cons (.var 1) .nil))) (.not (.chain .LtE .LtE (.cst (.int 0)) (.var 1) (.gcon "MOST_BOUND")))) (.cons (.rais "BadBound") .nil) .nil) .nil))⟩
def l_barred_by_1 : CSs := (.cons (.ife (.call "far_off" (.cons (.var 0) (.cons (.var 1) (.cons (.var 2) (.cons (.var 3) .nil))))) (.cons (.ret (.var 3)) .nil) .nil) .nil)
def f_barred_by : Fd := ⟨3, 4, (.cons (.fors (.one 3) .range (.cons (.blt .len (.cons (.idx (.var 0) (.cst (.int 1))) .nil)) .nil) l_barred_by_1) (.cons (.ret (.neg (.cst (.int 1)))) .nil))⟩
def f_found_from : Fd := ⟨3, 5, (.cons (.asg (.one 3) (.bin .Sub (.idx (.var 0) (.cst (.int 0))) (.blt .len (.cons (.var 2) .nil)))) (.cons (.ife (.cmp .GtE (.call "barred_by" (.cons (.var 0) (.cons (.bin .Add (.var 2) (.bin .Mult (.lst (.cons (.cst (.int 0)) .nil)) (.var 3))) (.cons (.var 1) .nil)))) (.cst (.int 0))) (.cons (.ret (.cst .non)) .nil) .nil) (.cons (.ife (.cmp .Eq (.var 3) (.cst (.int 0))) (.cons (.ret (.var 2)) .nil) .nil) (.cons (.asg (.one 4) (.call "found_from" (.cons (.var 0) (.cons (.var 1) (.cons (.bin .Add (.var 2) (.lst (.cons (.neg (.cst (.int 1))) .nil))) .nil))))) (.cons (.ret (.ite (.cmp .IsNot (.var 4) (.cst .non)) (.var 4) (.call "found_from" (.cons (.var 0) (.cons (.var 1) (.cons (.bin .Add (.var 2) (.lst (.cons (.cst (.int 1)) .nil))) .nil)))))) .nil)))))⟩
def f_tree_from : Fd := ⟨3, 4, (.cons (.asg (.one 3) (.call "barred_by" (.cons (.var 0) (.cons (.bin .Add (.var 2) (.bin .Mult (.lst (.cons (.cst (.int 0)) .nil)) (.bin .Sub (.idx (.var 0) (.cst (.int 0))) (.blt .len (.cons (.var 2) .nil))))) (.cons (.var 1) .nil))))) (.cons (.ife (.cmp .GtE (.var 3) (.cst (.int 0))) (.cons (.ret (.tup (.cons (.cst (.str "bar")) (.cons (.var 3) .nil)))) .nil) .nil) (.cons (.ret (.tup (.cons (.cst (.str "ask")) (.cons (.blt .len (.cons (.var 2) .nil)) (.cons (.call "tree_from" (.cons (.var 0) (.cons (.var 1) (.cons (.bin .Add (.var 2) (.lst (.cons (.neg (.cst (.int 1))) .nil))) .nil)))) (.cons (.call "tree_from" (.cons (.var 0) (.cons (.var 1) (.cons (.bin .Add (.var 2) (.lst (.cons (.cst (.int 1)) .nil))) .nil)))) .nil)))))) .nil)))⟩
def f_law_says : Fd := ⟨2, 2, (.cons (.ret (.and (.isi (.var 0) .bool) (.cmp .Eq (.var 0) (.var 1)))) .nil)⟩
def l_law_all_2 : CSs := (.cons (.ext 3 [] (.lst (.cons (.bin .Add (.var 4) (.lst (.cons (.neg (.cst (.int 1))) .nil))) (.cons (.bin .Add (.var 4) (.lst (.cons (.cst (.int 1)) .nil))) .nil)))) .nil)
def l_law_all_1 : CSs := (.cons (.asg (.one 3) (.lst .nil)) (.cons (.fors (.one 4) .seq (.cons (.var 1) .nil) l_law_all_2) (.cons (.asg (.one 1) (.var 3)) .nil)))
def f_law_all : Fd := ⟨1, 5, (.cons (.asg (.one 1) (.lst (.cons (.lst .nil) .nil))) (.cons (.fors (.one 2) .range (.cons (.var 0) .nil) l_law_all_1) (.cons (.ret (.var 1)) .nil)))⟩
def f_law_are_colours : Fd := ⟨2, 3, (.cons (.ife (.or (.not (.isi (.var 0) .list)) (.cmp .NotEq (.blt .len (.cons (.var 0) .nil)) (.var 1))) (.cons (.ret (.cst (.bl false))) .nil) .nil) (.cons (.ret (.blt .all (.cons (.comp (.and (.call "_law_whole" (.cons (.var 2) .nil)) (.cmp .In (.var 2) (.tup (.cons (.cst (.int 1)) (.cons (.neg (.cst (.int 1))) .nil))))) (.one 2) .seq (.cons (.var 0) .nil) .nil) .nil))) .nil))⟩
def f_law_bars : Fd := ⟨4, 7, (.cons (.ife (.cmp .Eq (.idx (.var 2) (.cst (.int 0))) (.cst (.str "bar"))) (.cons (.ret (.and (.chain .LtE .Lt (.cst (.int 0)) (.idx (.var 2) (.cst (.int 1))) (.blt .len (.cons (.idx (.var 0) (.cst (.int 1))) .nil))) (.call "_law_too_far" (.cons (.var 0) (.cons (.var 3) (.cons (.var 1) (.cons (.idx (.var 2) (.cst (.int 1))) .nil))))))) .nil) .nil) (.cons (.asg (.one 4) (.idx (.var 2) (.cst (.int 1)))) (.cons (.ife (.or (.not (.chain .LtE .Lt (.cst (.int 0)) (.var 4) (.idx (.var 0) (.cst (.int 0))))) (.cmp .NotEq (.idx (.var 3) (.var 4)) (.cst (.int 0)))) (.cons (.ret (.cst (.bl false))) .nil) .nil) (.cons (.asg (.one 5) (.bin .Add (.bin .Add (.sl (.var 3) .nil (.cons (.var 4) .nil)) (.lst (.cons (.neg (.cst (.int 1))) .nil))) (.sl (.var 3) (.cons (.bin .Add (.var 4) (.cst (.int 1))) .nil) .nil))) (.cons (.asg (.one 6) (.bin .Add (.bin .Add (.sl (.var 3) .nil (.cons (.var 4) .nil)) (.lst (.cons (.cst (.int 1)) .nil))) (.sl (.var 3) (.cons (.bin .Add (.var 4) (.cst (.int 1))) .nil) .nil))) (.cons (.ret (.and (.call "_law_bars" (.cons (.var 0) (.cons (.var 1) (.cons (.idx (.var 2) (.cst (.int 2))) (.cons (.var 5) .nil))))) (.call "_law_bars" (.cons (.var 0) (.cons (.var 1) (.cons (.idx (.var 2) (.cst (.int 3))) (.cons (.var 6) .nil))))))) .nil))))))⟩
def f_law_formed : Fd := ⟨1, 1, (.cons (.ife (.or (.not (.isi (.var 0) .tuple)) (.or (.cmp .NotIn (.blt .len (.cons (.var 0) .nil)) (.tup (.cons (.cst (.int 2)) (.cons (.cst (.int 4)) .nil)))) (.not (.call "_law_whole" (.cons (.idx (.var 0) (.cst (.int 1))) .nil))))) (.cons (.ret (.cst (.bl false))) .nil) .nil) (.cons (.ife (.cmp .Eq (.blt .len (.cons (.var 0) .nil)) (.cst (.int 2))) (.cons (.ret (.cmp .Eq (.idx (.var 0) (.cst (.int 0))) (.cst (.str "bar")))) .nil) .nil) (.cons (.ret (.and (.cmp .Eq (.idx (.var 0) (.cst (.int 0))) (.cst (.str "ask"))) (.and (.call "_law_formed" (.cons (.idx (.var 0) (.cst (.int 2))) .nil)) (.call "_law_formed" (.cons (.idx (.var 0) (.cst (.int 3))) .nil))))) .nil)))⟩
def l_law_tree_1 : CSs := (.cons (.ife (.call "_law_too_far" (.cons (.var 0) (.cons (.var 3) (.cons (.var 2) (.cons (.var 6) .nil))))) (.cons (.app 5 [] (.var 6)) .nil) .nil) .nil)
def f_law_tree : Fd := ⟨5, 13, (.cons (.asg (.one 5) (.lst .nil)) (.cons (.fors (.one 6) .range (.cons (.blt .len (.cons (.idx (.var 0) (.cst (.int 1))) .nil)) .nil) l_law_tree_1) (.cons (.asg (.one 7) (.comp (.var 8) (.one 8) .range (.cons (.idx (.var 0) (.cst (.int 0))) .nil) (.cons (.cmp .Eq (.idx (.var 3) (.var 8)) (.cst (.int 0))) .nil))) (.cons (.ife (.or (.cmp .NotEq (.var 5) (.lst .nil)) (.or (.cmp .Eq (.var 4) (.cst (.int 0))) (.cmp .Eq (.var 7) (.lst .nil)))) (.cons (.ret (.tup (.cons (.cst (.str "bar")) (.cons (.ite (.cmp .NotEq (.var 5) (.lst .nil)) (.idx (.var 5) (.cst (.int 0))) (.bin .Sub (.bin .Mod (.var 1) (.cst (.int 9))) (.cst (.int 1)))) .nil)))) .nil) .nil) (.cons (.asg (.one 8) (.idx (.var 7) (.bin .Mod (.var 1) (.blt .len (.cons (.var 7) .nil))))) (.cons (.asg (.one 9) (.bin .Add (.bin .Add (.sl (.var 3) .nil (.cons (.var 8) .nil)) (.lst (.cons (.neg (.cst (.int 1))) .nil))) (.sl (.var 3) (.cons (.bin .Add (.var 8) (.cst (.int 1))) .nil) .nil))) (.cons (.asg (.one 10) (.bin .Add (.bin .Add (.sl (.var 3) .nil (.cons (.var 8) .nil)) (.lst (.cons (.cst (.int 1)) .nil))) (.sl (.var 3) (.cons (.bin .Add (.var 8) (.cst (.int 1))) .nil) .nil))) (.cons (.asg (.one 11) (.bin .Add (.bin .FloorDiv (.var 1) (.cst (.int 3))) (.cst (.int 7)))) (.cons (.asg (.one 12) (.call "_law_tree" (.cons (.var 0) (.cons (.var 11) (.cons (.var 2) (.cons (.var 9) (.cons (.bin .Sub (.var 4) (.cst (.int 1))) .nil))))))) (.cons (.ret (.tup (.cons (.cst (.str "ask")) (.cons (.var 8) (.cons (.var 12) (.cons (.call "_law_tree" (.cons (.var 0) (.cons (.var 11) (.cons (.var 2) (.cons (.var 10) (.cons (.bin .Sub (.var 4) (.cst (.int 1))) .nil)))))) .nil)))))) .nil))))))))))⟩
def l_least_of_1 : CSs := (.cons (.aug 1 .Add (.cst (.int 1))) .nil)
def f_least_of : Fd := ⟨1, 2, (.cons (.asg (.one 1) (.cst (.int 0))) (.cons (.whl (.cmp .Is (.call "found_from" (.cons (.var 0) (.cons (.var 1) (.cons (.lst .nil) .nil)))) (.cst .non)) l_least_of_1) (.cons (.ret (.var 1)) .nil)))⟩
def f_least : Fd := ⟨1, 1, (.cons (.expr (.call "check_family" (.cons (.var 0) (.cons (.gcon "SMALL") .nil)))) (.cons (.ret (.call "least_of" (.cons (.var 0) .nil))) .nil))⟩
def f_ways_from : Fd := ⟨3, 4, (.cons (.asg (.one 3) (.bin .Sub (.idx (.var 0) (.cst (.int 0))) (.blt .len (.cons (.var 2) .nil)))) (.cons (.ife (.cmp .GtE (.call "barred_by" (.cons (.var 0) (.cons (.bin .Add (.var 2) (.bin .Mult (.lst (.cons (.cst (.int 0)) .nil)) (.var 3))) (.cons (.var 1) .nil)))) (.cst (.int 0))) (.cons (.ret (.cst (.int 0))) .nil) .nil) (.cons (.ife (.cmp .Eq (.var 3) (.cst (.int 0))) (.cons (.ret (.cst (.int 1))) .nil) .nil) (.cons (.ret (.bin .Add (.call "ways_from" (.cons (.var 0) (.cons (.var 1) (.cons (.bin .Add (.var 2) (.lst (.cons (.neg (.cst (.int 1))) .nil))) .nil)))) (.call "ways_from" (.cons (.var 0) (.cons (.var 1) (.cons (.bin .Add (.var 2) (.lst (.cons (.cst (.int 1)) .nil))) .nil)))))) .nil))))⟩
def f_how_many : Fd := ⟨2, 2, (.cons (.expr (.call "check_bound" (.cons (.var 0) (.cons (.var 1) .nil)))) (.cons (.ret (.call "ways_from" (.cons (.var 0) (.cons (.var 1) (.cons (.lst .nil) .nil))))) .nil))⟩
def l_colours_by_1 : CSs := (.cons (.asg (.one 4) (.call "ways_from" (.cons (.var 0) (.cons (.var 1) (.cons (.bin .Add (.var 3) (.lst (.cons (.neg (.cst (.int 1))) .nil))) .nil))))) (.cons (.asg (.one 3) (.bin .Add (.var 3) (.lst (.cons (.ite (.cmp .Lt (.var 2) (.var 4)) (.neg (.cst (.int 1))) (.cst (.int 1))) .nil)))) (.cons (.asg (.one 2) (.ite (.cmp .Lt (.var 2) (.var 4)) (.var 2) (.bin .Sub (.var 2) (.var 4)))) .nil)))
def f_colours_by : Fd := ⟨3, 5, (.cons (.expr (.call "check_bound" (.cons (.var 0) (.cons (.var 1) .nil)))) (.cons (.ife (.or (.not (.call "is_whole" (.cons (.var 2) .nil))) (.not (.chain .LtE .Lt (.cst (.int 0)) (.var 2) (.call "ways_from" (.cons (.var 0) (.cons (.var 1) (.cons (.lst .nil) .nil))))))) (.cons (.rais "BadNumber") .nil) .nil) (.cons (.asg (.one 3) (.lst .nil)) (.cons (.whl (.cmp .Lt (.blt .len (.cons (.var 3) .nil)) (.idx (.var 0) (.cst (.int 0)))) l_colours_by_1) (.cons (.ret (.var 3)) .nil)))))⟩
def l_number_of_1 : CSs := (.cons (.ife (.cmp .Eq (.var 5) (.cst (.int 1))) (.cons (.aug 3 .Add (.call "ways_from" (.cons (.var 0) (.cons (.var 1) (.cons (.bin .Add (.sl (.var 2) .nil (.cons (.var 4) .nil)) (.lst (.cons (.neg (.cst (.int 1))) .nil))) .nil))))) .nil) .nil) .nil)
def f_number_of : Fd := ⟨3, 6, (.cons (.expr (.call "check_bound" (.cons (.var 0) (.cons (.var 1) .nil)))) (.cons (.expr (.call "check_colours" (.cons (.var 0) (.cons (.var 2) .nil)))) (.cons (.ife (.cmp .Gt (.call "uneven_of" (.cons (.var 0) (.cons (.var 2) .nil))) (.var 1)) (.cons (.rais "Beyond") .nil) .nil) (.cons (.asg (.one 3) (.cst (.int 0))) (.cons (.fors (.many [4, 5]) .enum (.cons (.var 2) .nil) l_number_of_1) (.cons (.ret (.var 3)) .nil))))))⟩
def l_kept_by_2 : CSs := (.cons (.ife (.cmp .NotEq (.var 4) (.idx (.var 10) (.cst (.int 0)))) (.cons (.app 14 [] (.call "lowest" (.cons (.comp (.bin .Sub (.bin .Mult (.var 13) (.var 8)) (.bin .Mult (.idx (.var 6) (.var 4)) (.var 9))) (.many [8, 9]) .zip (.cons (.var 7) (.cons (.var 12) .nil)) .nil) .nil))) .nil) .nil) .nil)
def l_kept_by_1 : CSs := (.cons (.asg (.one 6) (.comp (.blt .sum (.cons (.comp (.bin .Mult (.var 8) (.var 9)) (.many [8, 9]) .zip (.cons (.var 5) (.cons (.var 7) .nil)) .nil) .nil)) (.one 7) .seq (.cons (.var 2) .nil) .nil)) (.cons (.asg (.one 10) (.comp (.var 4) (.many [4, 11]) .enum (.cons (.var 6) .nil) (.cons (.cmp .NotEq (.var 11) (.cst (.int 0))) .nil))) (.cons (.ife (.cmp .NotEq (.var 10) (.lst .nil)) (.cons (.asg (.many [12, 13]) (.tup (.cons (.idx (.var 2) (.idx (.var 10) (.cst (.int 0)))) (.cons (.idx (.var 6) (.idx (.var 10) (.cst (.int 0)))) .nil)))) (.cons (.asg (.one 14) (.lst .nil)) (.cons (.fors (.many [4, 7]) .enum (.cons (.var 2) .nil) l_kept_by_2) (.cons (.asg (.one 2) (.var 14)) .nil)))) .nil) .nil)))
def f_kept_by : Fd := ⟨2, 15, (.cons (.asg (.one 2) (.comp (.comp (.blt .int (.cons (.cmp .Eq (.var 4) (.var 3)) .nil)) (.one 4) .range (.cons (.var 1) .nil) .nil) (.one 3) .range (.cons (.var 1) .nil) .nil)) (.cons (.fors (.one 5) .seq (.cons (.var 0) .nil) l_kept_by_1) (.cons (.ret (.idx (.var 2) (.cst (.int 0)))) .nil)))⟩
def l_moved_1 : CSs := (.cons (.ife (.cmp .NotEq (.var 5) (.cst (.int 0))) (.cons (.asg (.one 6) (.ite (.cmp .Gt (.var 5) (.cst (.int 0))) (.bin .Sub (.var 1) (.var 4)) (.bin .Add (.var 1) (.var 4)))) (.cons (.ife (.or (.cmp .Is (.var 3) (.cst .non)) (.cmp .Lt (.bin .Mult (.var 6) (.idx (.var 3) (.cst (.int 1)))) (.bin .Mult (.idx (.var 3) (.cst (.int 0))) (.blt .abs (.cons (.var 5) .nil))))) (.cons (.asg (.one 3) (.tup (.cons (.var 6) (.cons (.blt .abs (.cons (.var 5) .nil)) .nil)))) .nil) .nil) .nil)) .nil) .nil)
def f_moved : Fd := ⟨3, 9, (.cons (.asg (.one 3) (.cst .non)) (.cons (.fors (.many [4, 5]) .zip (.cons (.var 0) (.cons (.var 2) .nil)) l_moved_1) (.cons (.asg (.many [6, 7]) (.var 3)) (.cons (.asg (.one 8) (.comp (.bin .Add (.bin .Mult (.var 4) (.var 7)) (.bin .Mult (.var 6) (.var 5))) (.many [4, 5]) .zip (.cons (.var 0) (.cons (.var 2) .nil)) .nil)) (.cons (.asg (.one 8) (.call "lowest" (.cons (.bin .Add (.var 8) (.lst (.cons (.bin .Mult (.var 1) (.var 7)) .nil))) .nil))) (.cons (.ret (.tup (.cons (.sl (.var 8) .nil (.cons (.neg (.cst (.int 1))) .nil)) (.cons (.idx (.var 8) (.neg (.cst (.int 1)))) .nil)))) .nil))))))⟩
def l_floated_3 : CSs := (.cons (.asg (.one 7) (.comp (.blt .int (.cons (.cmp .In (.var 8) (.var 6)) .nil)) (.one 8) .seq (.cons (.var 4) .nil) .nil)) (.cons (.ife (.cmp .Gt (.blt .sum (.cons (.var 7) .nil)) (.var 3)) (.cons (.app 5 [] (.var 7)) .nil) .nil) .nil))
def l_floated_2 : CSs := (.cons (.setI 9 [] (.var 8) (.var 10)) .nil)
def l_floated_1 : CSs := (.cons (.asg (.one 5) (.lst .nil)) (.cons (.fors (.one 6) .seq (.cons (.idx (.var 0) (.cst (.int 1))) .nil) l_floated_3) (.cons (.asg (.one 9) (.bin .Mult (.lst (.cons (.cst (.int 0)) .nil)) (.idx (.var 0) (.cst (.int 0))))) (.cons (.fors (.many [8, 10]) .zip (.cons (.var 4) (.cons (.call "kept_by" (.cons (.var 5) (.cons (.blt .len (.cons (.var 4) .nil)) .nil))) .nil)) l_floated_2) (.cons (.asg (.many [1, 2]) (.call "moved" (.cons (.var 1) (.cons (.var 2) (.cons (.var 9) .nil))))) (.cons (.asg (.one 4) (.comp (.var 8) (.one 8) .seq (.cons (.var 4) .nil) (.cons (.cmp .NotEq (.blt .abs (.cons (.idx (.var 1) (.var 8)) .nil)) (.var 2)) .nil))) .nil))))))
def f_floated : Fd := ⟨1, 12, (.cons (.expr (.call "check_family" (.cons (.var 0) (.cons (.gcon "MOST") .nil)))) (.cons (.asg (.many [1, 2, 3]) (.tup (.cons (.bin .Mult (.lst (.cons (.cst (.int 0)) .nil)) (.idx (.var 0) (.cst (.int 0)))) (.cons (.cst (.int 1)) (.cons (.call "crowd_of" (.cons (.var 0) .nil)) .nil))))) (.cons (.asg (.one 4) (.blt .lrange (.cons (.idx (.var 0) (.cst (.int 0))) .nil))) (.cons (.whl (.cmp .NotEq (.var 4) (.lst .nil)) l_floated_1) (.cons (.ret (.comp (.ite (.cmp .Gt (.var 11) (.cst (.int 0))) (.cst (.int 1)) (.neg (.cst (.int 1)))) (.one 11) .seq (.cons (.var 1) .nil) .nil)) .nil)))))⟩
def f_check_order : Fd := ⟨1, 2, (.cons (.ife (.or (.not (.isi (.var 0) .list)) (.not (.chain .LtE .LtE (.cst (.int 1)) (.blt .len (.cons (.var 0) .nil)) (.gcon "MOST_ORDERED")))) (.cons (.rais "BadOrder") .nil) .nil) (.cons (.ife (.or (.not (.blt .all (.cons (.comp (.call "is_whole" (.cons (.var 1) .nil)) (.one 1) .seq (.cons (.var 0) .nil) .nil) .nil))) (.cmp .NotEq (.blt .sorted (.cons (.var 0) .nil)) (.blt .lrange (.cons (.blt .len (.cons (.var 0) .nil)) .nil)))) (.cons (.rais "BadOrder") .nil) .nil) .nil))⟩
def l_law_order_1 : CSs := (.cons (.insr 3 [] (.bin .Mod (.bin .FloorDiv (.call "_law_value" (.cons (.bin .Add (.call "_law_cell_at" (.cons (.var 0) (.cons (.bin .Add (.var 1) (.bin .Mod (.var 4) (.cst (.int 7)))) .nil))) (.bin .Mult (.cst (.int 5)) (.var 4))) (.cons (.bin .Add (.cst (.int 3)) (.bin .Mod (.var 4) (.cst (.int 5)))) .nil))) (.cst (.int 3))) (.bin .Add (.var 4) (.cst (.int 1)))) (.var 4)) .nil)
def f_law_order : Fd := ⟨3, 5, (.cons (.asg (.one 3) (.lst .nil)) (.cons (.fors (.one 4) .range (.cons (.var 2) .nil) l_law_order_1) (.cons (.ret (.var 3)) .nil)))⟩
def l_law_even_1 : CSs := (.cons (.asg (.one 2) (.bin .Add (.var 2) (.idx (.var 1) (.var 5)))) (.cons (.par [3, 4] (.cons (.blt .min (.cons (.var 3) (.cons (.var 2) .nil))) (.cons (.blt .max (.cons (.var 4) (.cons (.var 2) .nil))) .nil))) .nil))
def f_law_even : Fd := ⟨2, 6, (.cons (.asg (.many [2, 3, 4]) (.tup (.cons (.cst (.int 0)) (.cons (.cst (.int 0)) (.cons (.cst (.int 0)) .nil))))) (.cons (.fors (.one 5) .seq (.cons (.var 0) .nil) l_law_even_1) (.cons (.ret (.and (.cmp .LtE (.neg (.cst (.int 1))) (.var 3)) (.and (.cmp .LtE (.var 4) (.cst (.int 1))) (.cmp .LtE (.bin .Sub (.var 4) (.var 3)) (.cst (.int 2)))))) .nil)))⟩
def f_total : Fd := ⟨2, 2, (.cons (.expr (.call "check_family" (.cons (.var 0) (.cons (.gcon "MOST") .nil)))) (.cons (.expr (.call "check_colours" (.cons (.var 0) (.cons (.var 1) .nil)))) (.cons (.ret (.call "total_of" (.cons (.var 0) (.cons (.var 1) .nil)))) .nil)))⟩
def l_fair_2 : CSs := (.cons (.augI 2 [] (.var 5) .Add (.var 7)) .nil)
def l_fair_1 : CSs := (.cons (.asg (.one 4) (.comp (.var 5) (.many [5, 6]) .enum (.cons (.idx (.var 0) (.cst (.int 1))) .nil) (.cons (.cmp .In (.var 3) (.var 6)) .nil))) (.cons (.asg (.one 7) (.ite (.cmp .Gt (.blt .sum (.cons (.comp (.idx (.var 2) (.var 5)) (.one 5) .seq (.cons (.var 4) .nil) .nil) .nil)) (.cst (.int 0))) (.neg (.cst (.int 1))) (.cst (.int 1)))) (.cons (.fors (.one 5) .seq (.cons (.var 4) .nil) l_fair_2) (.cons (.app 1 [] (.var 7)) .nil))))
def f_fair : Fd := ⟨1, 8, (.cons (.expr (.call "check_family" (.cons (.var 0) (.cons (.gcon "MOST") .nil)))) (.cons (.asg (.many [1, 2]) (.tup (.cons (.lst .nil) (.cons (.bin .Mult (.lst (.cons (.cst (.int 0)) .nil)) (.blt .len (.cons (.idx (.var 0) (.cst (.int 1))) .nil))) .nil)))) (.cons (.fors (.one 3) .range (.cons (.idx (.var 0) (.cst (.int 0))) .nil) l_fair_1) (.cons (.ret (.var 1)) .nil))))⟩
def l_law_fair_3 : CSs := (.cons (.ife (.cmp .In (.var 2) (.var 7)) (.cons (.asg (.one 8) (.blt .sum (.cons (.comp (.idx (.var 5) (.var 9)) (.one 9) .seq (.cons (.var 7) .nil) (.cons (.cmp .LtE (.var 9) (.var 2)) .nil)) .nil))) (.cons (.asg (.one 6) (.bin .Add (.var 6) (.bin .Mult (.var 8) (.var 8)))) .nil)) .nil) .nil)
def l_law_fair_2 : CSs := (.cons (.asg (.many [5, 6]) (.tup (.cons (.bin .Add (.var 1) (.lst (.cons (.var 4) .nil))) (.cons (.cst (.int 0)) .nil)))) (.cons (.fors (.one 7) .seq (.cons (.idx (.var 0) (.cst (.int 1))) .nil) l_law_fair_3) (.cons (.app 3 [] (.var 6)) .nil)))
def l_law_fair_1 : CSs := (.cons (.asg (.one 3) (.lst .nil)) (.cons (.fors (.one 4) .seq (.cons (.tup (.cons (.cst (.int 1)) (.cons (.neg (.cst (.int 1))) .nil))) .nil) l_law_fair_2) (.cons (.app 1 [] (.ite (.cmp .LtE (.idx (.var 3) (.cst (.int 0))) (.idx (.var 3) (.cst (.int 1)))) (.cst (.int 1)) (.neg (.cst (.int 1))))) .nil)))
def f_law_fair : Fd := ⟨1, 10, (.cons (.asg (.one 1) (.lst .nil)) (.cons (.fors (.one 2) .range (.cons (.idx (.var 0) (.cst (.int 0))) .nil) l_law_fair_1) (.cons (.ret (.var 1)) .nil)))⟩
def l_first_lower_1 : CSs := (.cons (.ife (.call "lowers" (.cons (.var 0) (.cons (.var 1) (.cons (.var 2) .nil)))) (.cons (.ret (.var 2)) .nil) .nil) .nil)
def f_first_lower : Fd := ⟨2, 3, (.cons (.fors (.one 2) .range (.cons (.idx (.var 0) (.cst (.int 0))) .nil) l_first_lower_1) (.cons (.ret (.neg (.cst (.int 1)))) .nil))⟩
def l_settled_1 : CSs := (.cons (.app 2 [] (.var 3)) (.cons (.asg (.one 1) (.call "changed" (.cons (.var 1) (.cons (.var 3) .nil)))) (.cons (.asg (.one 3) (.call "first_lower" (.cons (.var 0) (.cons (.var 1) .nil)))) .nil)))
def f_settled : Fd := ⟨2, 4, (.cons (.expr (.call "check_family" (.cons (.var 0) (.cons (.gcon "MOST") .nil)))) (.cons (.expr (.call "check_colours" (.cons (.var 0) (.cons (.var 1) .nil)))) (.cons (.par [2, 3] (.cons (.lst .nil) (.cons (.call "first_lower" (.cons (.var 0) (.cons (.var 1) .nil))) .nil))) (.cons (.whl (.cmp .GtE (.var 3) (.cst (.int 0))) l_settled_1) (.cons (.ret (.var 2)) .nil)))))⟩
def f_law_total : Fd := ⟨2, 3, (.cons (.ret (.blt .sum (.cons (.comp (.bin .Mult (.var 2) (.var 2)) (.one 2) .seq (.cons (.call "_law_sums" (.cons (.var 0) (.cons (.var 1) .nil))) .nil) .nil) .nil))) .nil)⟩
def f_law_bent : Fd := ⟨2, 3, (.cons (.asg (.one 2) (.blt .list (.cons (.var 0) .nil))) (.cons (.setI 2 [] (.var 1) (.neg (.idx (.var 2) (.var 1)))) (.cons (.ret (.var 2)) .nil)))⟩
def l_law_lower_1 : CSs := (.cons (.ife (.cmp .Lt (.call "_law_total" (.cons (.var 0) (.cons (.call "_law_bent" (.cons (.var 1) (.cons (.var 4) .nil))) .nil))) (.var 3)) (.cons (.app 2 [] (.var 4)) .nil) .nil) .nil)
def f_law_lower : Fd := ⟨2, 5, (.cons (.par [2, 3] (.cons (.lst .nil) (.cons (.call "_law_total" (.cons (.var 0) (.cons (.var 1) .nil))) .nil))) (.cons (.fors (.one 4) .range (.cons (.idx (.var 0) (.cst (.int 0))) .nil) l_law_lower_1) (.cons (.ret (.var 2)) .nil)))⟩
def l_law_settled_1 : CSs := (.cons (.app 2 [] (.idx (.var 3) (.cst (.int 0)))) (.cons (.asg (.one 1) (.call "_law_bent" (.cons (.var 1) (.cons (.idx (.var 3) (.cst (.int 0))) .nil)))) (.cons (.asg (.one 3) (.call "_law_lower" (.cons (.var 0) (.cons (.var 1) .nil)))) .nil)))
def f_law_settled : Fd := ⟨2, 4, (.cons (.par [2, 3] (.cons (.lst .nil) (.cons (.call "_law_lower" (.cons (.var 0) (.cons (.var 1) .nil))) .nil))) (.cons (.whl (.cmp .NotEq (.var 3) (.lst .nil)) l_law_settled_1) (.cons (.ret (.tup (.cons (.var 2) (.cons (.var 1) .nil)))) .nil)))⟩
def f_check_weights : Fd := ⟨2, 3, (.cons (.ife (.or (.not (.isi (.var 0) .list)) (.cmp .NotEq (.blt .len (.cons (.var 0) .nil)) (.var 1))) (.cons (.rais "BadWeights") .nil) .nil) (.cons (.ife (.not (.blt .all (.cons (.comp (.and (.call "is_whole" (.cons (.var 2) .nil)) (.chain .LtE .LtE (.cst (.int 0)) (.var 2) (.gcon "HEAVIEST"))) (.one 2) .seq (.cons (.var 0) .nil) .nil) .nil))) (.cons (.rais "BadWeights") .nil) .nil) .nil))⟩
def f_check_all : Fd := ⟨3, 3, (.cons (.expr (.call "check_family" (.cons (.var 0) (.cons (.gcon "LITTLE") .nil)))) (.cons (.expr (.call "check_weights" (.cons (.var 1) (.cons (.blt .len (.cons (.idx (.var 0) (.cst (.int 1))) .nil)) .nil)))) (.cons (.expr (.call "check_weights" (.cons (.var 2) (.cons (.idx (.var 0) (.cst (.int 0))) .nil)))) .nil)))⟩
def l_law_form_2 : CSs := (.cons (.asg (.one 4) (.bin .Add (.var 4) (.bin .Mult (.bin .Mult (.var 5) (.var 6)) (.var 6)))) .nil)
def l_law_form_1 : CSs := (.cons (.asg (.one 4) (.bin .Sub (.var 4) (.bin .Mult (.bin .Mult (.var 7) (.var 6)) (.var 6)))) .nil)
def f_law_form : Fd := ⟨4, 8, (.cons (.asg (.one 4) (.cst (.int 0))) (.cons (.fors (.many [5, 6]) .zip (.cons (.var 1) (.cons (.call "_law_sums" (.cons (.var 0) (.cons (.var 3) .nil))) .nil)) l_law_form_2) (.cons (.fors (.many [7, 6]) .zip (.cons (.var 2) (.cons (.var 3) .nil)) l_law_form_1) (.cons (.ret (.var 4)) .nil))))⟩
def l_law_cross_1 : CSs := (.cons (.ife (.cmp .NotEq (.idx (.idx (.var 0) (.idx (.var 1) (.cst (.int 0)))) (.var 6)) (.cst (.int 0))) (.cons (.asg (.one 7) (.call "_law_cross" (.cons (.var 0) (.cons (.sl (.var 1) (.cons (.cst (.int 1)) .nil) .nil) (.cons (.bin .Add (.sl (.var 2) .nil (.cons (.var 5) .nil)) (.sl (.var 2) (.cons (.bin .Add (.var 5) (.cst (.int 1))) .nil) .nil)) .nil))))) (.cons (.asg (.one 3) (.bin .Add (.var 3) (.bin .Mult (.bin .Mult (.var 4) (.idx (.idx (.var 0) (.idx (.var 1) (.cst (.int 0)))) (.var 6))) (.var 7)))) .nil)) .nil) (.cons (.asg (.one 4) (.neg (.var 4))) .nil))
def f_law_cross : Fd := ⟨3, 8, (.cons (.ife (.cmp .Eq (.var 1) (.lst .nil)) (.cons (.ret (.cst (.int 1))) .nil) .nil) (.cons (.asg (.many [3, 4]) (.tup (.cons (.cst (.int 0)) (.cons (.cst (.int 1)) .nil)))) (.cons (.fors (.many [5, 6]) .enum (.cons (.var 2) .nil) l_law_cross_1) (.cons (.ret (.var 3)) .nil))))⟩
def l_law_table_4 : CSs := (.cons (.setI 3 [.ix (.v 7)] (.var 8) (.bin .Add (.idx (.idx (.var 3) (.var 7)) (.var 8)) (.var 6))) .nil)
def l_law_table_3 : CSs := (.cons (.fors (.one 8) .seq (.cons (.var 5) .nil) l_law_table_4) .nil)
def l_law_table_2 : CSs := (.cons (.fors (.one 7) .seq (.cons (.var 5) .nil) l_law_table_3) .nil)
def l_law_table_1 : CSs := (.cons (.setI 3 [.ix (.v 4)] (.var 4) (.bin .Sub (.idx (.idx (.var 3) (.var 4)) (.var 4)) (.var 9))) .nil)
def f_law_table : Fd := ⟨3, 10, (.cons (.asg (.one 3) (.comp (.bin .Mult (.lst (.cons (.cst (.int 0)) .nil)) (.idx (.var 0) (.cst (.int 0)))) (.one 4) .range (.cons (.idx (.var 0) (.cst (.int 0))) .nil) .nil)) (.cons (.fors (.many [5, 6]) .zip (.cons (.idx (.var 0) (.cst (.int 1))) (.cons (.var 1) .nil)) l_law_table_2) (.cons (.fors (.many [4, 9]) .enum (.cons (.var 2) .nil) l_law_table_1) (.cons (.ret (.var 3)) .nil))))⟩
def l_law_holds_1 : CSs := (.cons (.asg (.one 4) (.bin .Add (.var 4) (.comp (.bin .Add (.var 6) (.lst (.cons (.var 5) .nil))) (.one 6) .seq (.cons (.var 4) .nil) .nil))) .nil)
def f_law_holds : Fd := ⟨3, 8, (.cons (.asg (.many [3, 4]) (.tup (.cons (.call "_law_table" (.cons (.var 0) (.cons (.var 1) (.cons (.var 2) .nil)))) (.cons (.lst (.cons (.lst .nil) .nil)) .nil)))) (.cons (.fors (.one 5) .range (.cons (.idx (.var 0) (.cst (.int 0))) .nil) l_law_holds_1) (.cons (.ret (.blt .all (.cons (.comp (.cmp .GtE (.call "_law_cross" (.cons (.var 3) (.cons (.var 7) (.cons (.var 7) .nil)))) (.cst (.int 0))) (.one 7) .seq (.cons (.var 4) .nil) .nil) .nil))) .nil)))⟩
def l_law_drawn_1 : CSs := (.cons (.ife (.cmp .Eq (.blt .len (.cons (.var 8) .nil)) (.cst (.int 1))) (.cons (.setI 6 [] (.idx (.var 8) (.cst (.int 0))) (.bin .Add (.idx (.var 6) (.idx (.var 8) (.cst (.int 0)))) (.var 7))) .nil) .nil) .nil)
def f_law_drawn : Fd := ⟨4, 9, (.cons (.asg (.one 4) (.comp (.bin .Mod (.call "_law_value" (.cons (.call "_law_cell_at" (.cons (.var 0) (.cons (.bin .Add (.var 1) (.var 5)) .nil))) (.cons (.cst (.int 3)) .nil))) (.idx (.tup (.cons (.cst (.int 4)) (.cons (.cst (.int 1001)) (.cons (.cst (.int 9)) .nil)))) (.var 3))) (.one 5) .range (.cons (.blt .len (.cons (.idx (.var 2) (.cst (.int 1))) .nil)) .nil) .nil)) (.cons (.asg (.one 6) (.comp (.bin .Mod (.call "_law_value" (.cons (.call "_law_cell_at" (.cons (.var 0) (.cons (.bin .Add (.var 1) (.var 5)) .nil))) (.cons (.cst (.int 6)) .nil))) (.idx (.tup (.cons (.cst (.int 2)) (.cons (.cst (.int 90)) (.cons (.cst (.int 3)) .nil)))) (.var 3))) (.one 5) .range (.cons (.idx (.var 2) (.cst (.int 0))) .nil) .nil)) (.cons (.ife (.cmp .Eq (.var 3) (.cst (.int 2))) (.cons (.asg (.one 6) (.bin .Mult (.lst (.cons (.cst (.int 0)) .nil)) (.idx (.var 2) (.cst (.int 0))))) (.cons (.fors (.many [7, 8]) .zip (.cons (.var 4) (.cons (.idx (.var 2) (.cst (.int 1))) .nil)) l_law_drawn_1) .nil)) .nil) (.cons (.ret (.tup (.cons (.var 4) (.cons (.var 6) .nil)))) .nil))))⟩
def l_floor_1 : CSs := (.cons (.aug 3 .Add (.cst (.int 1))) .nil)
def f_floor : Fd := ⟨3, 4, (.cons (.expr (.call "check_all" (.cons (.var 0) (.cons (.var 1) (.cons (.var 2) .nil))))) (.cons (.ife (.or (.cmp .Eq (.blt .sum (.cons (.var 1) .nil)) (.cst (.int 0))) (.cmp .IsNot (.call "failing" (.cons (.var 0) (.cons (.var 1) (.cons (.var 2) .nil)))) (.cst .non))) (.cons (.ret (.cst .non)) .nil) .nil) (.cons (.asg (.one 3) (.cst (.int 0))) (.cons (.whl (.cmp .Lt (.bin .Mult (.bin .Mult (.var 3) (.var 3)) (.blt .sum (.cons (.var 1) .nil))) (.blt .sum (.cons (.var 2) .nil))) l_floor_1) (.cons (.ret (.var 3)) .nil)))))⟩
def l_worst_2 : CSs := (.cons (.asg (.one 2) (.bin .Add (.var 2) (.comp (.bin .Add (.var 4) (.lst (.cons (.var 3) .nil))) (.one 4) .seq (.cons (.var 2) .nil) .nil))) .nil)
def l_worst_1 : CSs := (.cons (.asg (.one 6) (.call "least_of" (.cons (.call "part_of" (.cons (.var 0) (.cons (.var 5) .nil))) .nil))) (.cons (.ife (.or (.cmp .Is (.var 1) (.cst .non)) (.cmp .Gt (.var 6) (.idx (.var 1) (.cst (.int 0))))) (.cons (.asg (.one 1) (.tup (.cons (.var 6) (.cons (.var 5) .nil)))) .nil) .nil) .nil))
def f_worst : Fd := ⟨1, 7, (.cons (.expr (.call "check_family" (.cons (.var 0) (.cons (.gcon "LITTLE") .nil)))) (.cons (.asg (.one 1) (.cst .non)) (.cons (.asg (.one 2) (.lst (.cons (.lst .nil) .nil))) (.cons (.fors (.one 3) .range (.cons (.idx (.var 0) (.cst (.int 0))) .nil) l_worst_2) (.cons (.fors (.one 5) .seq (.cons (.sl (.blt .sorted (.cons (.var 2) .nil)) (.cons (.cst (.int 1)) .nil) .nil) .nil) l_worst_1) (.cons (.ret (.var 1)) .nil))))))⟩
def f_law_due_of : Fd := ⟨1, 2, (.cons (.ret (.bin .Add (.comp (.cmp .Eq (.var 0) (.var 1)) (.one 1) .range (.cons (.cst (.int 9)) .nil) .nil) (.lst (.cons (.cst (.bl true)) .nil)))) .nil)⟩
def l_law_orders_right_1_k16 : CSs := (.cons (.asg (.one 5) (.call "_law_value" (.cons (.call "_law_cell_at" (.cons (.var 0) (.cons (.bin .Mod (.var 4) (.cst (.int 4))) .nil))) (.cons (.bin .Add (.cst (.int 5)) (.var 4)) .nil)))) (.cons (.insr 3 [] (.bin .Mod (.bin .FloorDiv (.var 5) (.cst (.int 3))) (.bin .Add (.var 4) (.cst (.int 1)))) (.var 4)) .nil))
def f_law_orders_right_k16 : Fd := ⟨2, 8, (.cons (.asg (.many [2, 3]) (.tup (.cons (.blt .lrange (.cons (.var 1) .nil)) (.cons (.lst .nil) .nil)))) (.cons (.fors (.one 4) .range (.cons (.var 1) .nil) l_law_orders_right_1_k16) (.cons (.asg (.one 6) (.comp (.blt .sorted (.cons (.sl (.var 2) .nil (.cons (.var 7) .nil)) .nil)) (.one 7) .range (.cons (.cst (.int 1)) (.cons (.bin .Add (.var 1) (.cst (.int 1))) .nil)) .nil)) (.cons (.asg (.one 6) (.bin .Add (.var 6) (.comp (.blt .sorted (.cons (.sl (.var 3) .nil (.cons (.var 7) .nil)) .nil)) (.one 7) .range (.cons (.cst (.int 1)) (.cons (.bin .Add (.var 1) (.cst (.int 1))) .nil)) .nil))) (.cons (.ret (.cmp .LtE (.call "uneven" (.cons (.tup (.cons (.var 1) (.cons (.var 6) .nil))) (.cons (.call "both_orders" (.cons (.var 2) (.cons (.var 3) .nil))) .nil))) (.cst (.int 1)))) .nil)))))⟩
def l_law_triples_2 : CSs := (.cons (.ext 0 [] (.comp (.lst (.cons (.var 1) (.cons (.var 2) (.cons (.var 3) .nil)))) (.one 3) .range (.cons (.bin .Add (.var 2) (.cst (.int 1))) (.cons (.cst (.int 5)) .nil)) .nil)) .nil)
def l_law_triples_1 : CSs := (.cons (.fors (.one 2) .range (.cons (.bin .Add (.var 1) (.cst (.int 1))) (.cons (.cst (.int 5)) .nil)) l_law_triples_2) .nil)
def f_law_triples : Fd := ⟨0, 4, (.cons (.asg (.one 0) (.lst .nil)) (.cons (.fors (.one 1) .range (.cons (.cst (.int 5)) .nil) l_law_triples_1) (.cons (.ret (.tup (.cons (.cst (.int 5)) (.cons (.var 0) .nil)))) .nil)))⟩
def f_law_seven : Fd := ⟨0, 1, (.cons (.ret (.tup (.cons (.cst (.int 7)) (.cons (.comp (.blt .sorted (.cons (.lst (.cons (.var 0) (.cons (.bin .Mod (.bin .Add (.var 0) (.cst (.int 1))) (.cst (.int 7))) (.cons (.bin .Mod (.bin .Add (.var 0) (.cst (.int 3))) (.cst (.int 7))) .nil)))) .nil)) (.one 0) .range (.cons (.cst (.int 7)) .nil) .nil) .nil)))) .nil)⟩
def l_law_behind_right_3 : CSs := (.cons (.ife (.cmp .Gt (.blt .abs (.cons (.blt .sum (.cons (.comp (.idx (.var 10) (.var 13)) (.one 13) .seq (.cons (.sl (.var 11) .nil (.cons (.var 12) .nil)) .nil) .nil) .nil)) .nil)) (.cst (.int 1))) (.cons (.ret (.cst (.bl false))) .nil) .nil) .nil)
def l_law_behind_right_2 : CSs := (.cons (.fors (.one 12) .range (.cons (.cst (.int 6)) .nil) l_law_behind_right_3) .nil)
def l_law_behind_right_1 : CSs := (.cons (.asg (.one 6) (.tup (.cons (.cst (.int 4)) (.cons (.comp (.blt .list (.cons (.var 7) .nil)) (.one 7) .seq (.cons (.idx (.var 1) (.cst (.int 1))) .nil) .nil) .nil)))) (.cons (.asg (.one 8) (.tup (.cons (.cst (.int 3)) (.cons (.comp (.blt .list (.cons (.var 7) .nil)) (.one 7) .seq (.cons (.idx (.var 2) (.cst (.int 1))) .nil) .nil) .nil)))) (.cons (.ife (.cmp .NotEq (.call "beside" (.cons (.var 1) (.cons (.var 2) .nil))) (.call "beside" (.cons (.var 6) (.cons (.var 8) .nil)))) (.cons (.ret (.cst (.bl false))) .nil) .nil) (.cons (.ife (.cmp .NotEq (.call "part" (.cons (.var 1) (.cons (.lst (.cons (.cst (.int 0)) (.cons (.cst (.int 2)) (.cons (.cst (.int 3)) .nil)))) .nil))) (.call "part" (.cons (.var 6) (.cons (.lst (.cons (.cst (.int 0)) (.cons (.cst (.int 2)) (.cons (.cst (.int 3)) .nil)))) .nil)))) (.cons (.ret (.cst (.bl false))) .nil) .nil) (.cons (.asg (.one 9) (.lst (.cons (.cst (.int 1)) (.cons (.cst (.int 1)) (.cons (.neg (.cst (.int 1))) (.cons (.cst (.int 1)) .nil)))))) (.cons (.ife (.cmp .NotEq (.call "colours_by" (.cons (.var 1) (.cons (.cst (.int 2)) (.cons (.var 5) .nil)))) (.call "colours_by" (.cons (.var 6) (.cons (.cst (.int 2)) (.cons (.var 5) .nil))))) (.cons (.ret (.cst (.bl false))) .nil) .nil) (.cons (.ife (.cmp .NotEq (.call "number_of" (.cons (.var 1) (.cons (.cst (.int 3)) (.cons (.var 9) .nil)))) (.call "number_of" (.cons (.var 6) (.cons (.cst (.int 3)) (.cons (.var 9) .nil))))) (.cons (.ret (.cst (.bl false))) .nil) .nil) (.cons (.asg (.one 10) (.call "both_orders" (.cons (.var 3) (.cons (.var 4) .nil)))) (.cons (.fors (.one 11) .seq (.cons (.tup (.cons (.var 3) (.cons (.var 4) .nil))) .nil) l_law_behind_right_2) (.cons (.setI 1 [.ix (.c 1), .ix (.c 0)] (.cst (.int 1)) (.bin .Add (.cst (.int 1)) (.bin .Mod (.bin .Add (.idx (.idx (.idx (.var 1) (.cst (.int 1))) (.cst (.int 0))) (.cst (.int 1))) (.var 0)) (.cst (.int 3))))) (.cons (.setI 2 [.ix (.c 1), .ix (.c 0)] (.cst (.int 1)) (.bin .Add (.cst (.int 1)) (.bin .Mod (.bin .FloorDiv (.var 0) (.bin .Add (.var 5) (.cst (.int 5)))) (.cst (.int 2))))) (.cons (.asg (.one 13) (.bin .Mod (.bin .FloorDiv (.var 0) (.bin .Add (.var 5) (.cst (.int 2)))) (.cst (.int 4)))) (.cons (.par2 3 3 (.var 13) (.bin .Add (.var 13) (.cst (.int 1))) (.idx (.var 3) (.bin .Add (.var 13) (.cst (.int 1)))) (.idx (.var 3) (.var 13))) .nil)))))))))))))
def f_law_behind_right : Fd := ⟨1, 14, (.cons (.par [1, 2] (.cons (.tup (.cons (.cst (.int 4)) (.cons (.lst (.cons (.lst (.cons (.cst (.int 0)) (.cons (.cst (.int 1)) .nil))) (.cons (.lst (.cons (.cst (.int 1)) (.cons (.cst (.int 2)) (.cons (.cst (.int 3)) .nil)))) .nil))) .nil))) (.cons (.tup (.cons (.cst (.int 3)) (.cons (.lst (.cons (.lst (.cons (.cst (.int 0)) (.cons (.cst (.int 2)) .nil))) .nil)) .nil))) .nil))) (.cons (.par [3, 4] (.cons (.blt .lrange (.cons (.cst (.int 5)) .nil)) (.cons (.lst (.cons (.cst (.int 4)) (.cons (.cst (.int 2)) (.cons (.cst (.int 0)) (.cons (.cst (.int 3)) (.cons (.cst (.int 1)) .nil)))))) .nil))) (.cons (.fors (.one 5) .range (.cons (.cst (.int 3)) .nil) l_law_behind_right_1) (.cons (.ret (.cst (.bl true))) .nil))))⟩
def l_law_all_whole_1 : CSs := (.cons (.pop (some 2) 1 []) (.cons (.ife (.or (.isi (.var 2) .list) (.isi (.var 2) .tuple)) (.cons (.ext 1 [] (.blt .list (.cons (.var 2) .nil))) .nil) (.cons (.ife (.and (.cmp .IsNot (.var 2) (.cst .non)) (.not (.isi (.var 2) .str))) (.cons (.ife (.or (.not (.isi (.var 2) .int)) (.isi (.var 2) .bool)) (.cons (.ret (.cst (.bl false))) .nil) .nil) .nil) .nil) .nil)) .nil))
def f_law_all_whole : Fd := ⟨1, 3, (.cons (.asg (.one 1) (.lst (.cons (.var 0) .nil))) (.cons (.whl (.cmp .NotEq (.var 1) (.lst .nil)) l_law_all_whole_1) (.cons (.ret (.cst (.bl true))) .nil)))⟩
def l_law_into_1 : CSs := (.cons (.ife (.and (.isi (.var 3) .list) (.cmp .Eq (.blt .len (.cons (.idx (.var 0) (.var 2)) .nil)) (.blt .len (.cons (.var 3) .nil)))) (.cons (.expr (.call "_law_into" (.cons (.idx (.var 0) (.var 2)) (.cons (.var 3) .nil)))) .nil) (.cons (.setI 0 [] (.var 2) (.call "_law_copy" (.cons (.var 3) .nil))) .nil)) .nil)
def f_law_into : Fd := ⟨2, 4, (.cons (.fors (.many [2, 3]) .enum (.cons (.var 1) .nil) l_law_into_1) .nil)⟩
def l_law_spoil_1 : CSs := (.cons (.expr (.call "_law_spoil" (.cons (.var 1) .nil))) .nil)
def f_law_spoil : Fd := ⟨1, 2, (.cons (.ife (.or (.isi (.var 0) .list) (.isi (.var 0) .tuple)) (.cons (.fors (.one 1) .seq (.cons (.blt .list (.cons (.var 0) .nil)) .nil) l_law_spoil_1) .nil) .nil) (.cons (.ife (.isi (.var 0) .list) (.cons (.app 0 [] (.cst .non)) .nil) .nil) .nil))⟩
def pPkg : Prg := [(("is_whole" : Str), f_is_whole), (("are_places" : Str), f_are_places), (("check_family" : Str), f_check_family), (("check_colours" : Str), f_check_colours), (("sums_of" : Str), f_sums_of), (("sums" : Str), f_sums), (("uneven_of" : Str), f_uneven_of), (("uneven" : Str), f_uneven), (("crowd_of" : Str), f_crowd_of), (("crowd" : Str), f_crowd), (("part" : Str), f_part), (("beside" : Str), f_beside), (("common" : Str), f_common), (("lowest" : Str), f_lowest), (("table_of" : Str), f_table_of), (("met" : Str), f_met), (("below_with" : Str), f_below_with), (("failing" : Str), f_failing), (("far_off" : Str), f_far_off), (("bars" : Str), f_bars), (("total_of" : Str), f_total_of), (("changed" : Str), f_changed), (("lowers" : Str), f_lowers), (("above" : Str), f_above), (("check_bound" : Str), f_check_bound), (("barred_by" : Str), f_barred_by), (("found_from" : Str), f_found_from), (("tree_from" : Str), f_tree_from), (("least_of" : Str), f_least_of), (("least" : Str), f_least), (("ways_from" : Str), f_ways_from), (("how_many" : Str), f_how_many), (("colours_by" : Str), f_colours_by), (("number_of" : Str), f_number_of), (("kept_by" : Str), f_kept_by), (("moved" : Str), f_moved), (("floated" : Str), f_floated), (("check_order" : Str), f_check_order), (("total" : Str), f_total), (("fair" : Str), f_fair), (("first_lower" : Str), f_first_lower), (("settled" : Str), f_settled), (("check_weights" : Str), f_check_weights), (("check_all" : Str), f_check_all), (("floor" : Str), f_floor), (("worst" : Str), f_worst)]
def pHlp : Prg := [(("_law_cell_at" : Str), f_law_cell_at), (("_law_draw" : Str), f_law_draw), (("_law_value" : Str), f_law_value), (("_law_whole" : Str), f_law_whole), (("_law_family" : Str), f_law_family), (("_law_colours" : Str), f_law_colours), (("_law_sums" : Str), f_law_sums), (("_law_uneven" : Str), f_law_uneven), (("_law_part" : Str), f_law_part), (("_law_says" : Str), f_law_says), (("_law_all" : Str), f_law_all), (("_law_are_colours" : Str), f_law_are_colours), (("_law_bars" : Str), f_law_bars), (("_law_formed" : Str), f_law_formed), (("_law_tree" : Str), f_law_tree), (("_law_order" : Str), f_law_order), (("_law_even" : Str), f_law_even), (("_law_fair" : Str), f_law_fair), (("_law_total" : Str), f_law_total), (("_law_bent" : Str), f_law_bent), (("_law_lower" : Str), f_law_lower), (("_law_settled" : Str), f_law_settled), (("_law_form" : Str), f_law_form), (("_law_cross" : Str), f_law_cross), (("_law_table" : Str), f_law_table), (("_law_holds" : Str), f_law_holds), (("_law_drawn" : Str), f_law_drawn), (("_law_due_of" : Str), f_law_due_of), (("_law_triples" : Str), f_law_triples), (("_law_seven" : Str), f_law_seven), (("_law_behind_right" : Str), f_law_behind_right), (("_law_all_whole" : Str), f_law_all_whole), (("_law_into" : Str), f_law_into), (("_law_spoil" : Str), f_law_spoil)]
end TT

set_option Elab.async false
set_option linter.all false
set_option autoImplicit false
set_option maxRecDepth 100000
set_option maxHeartbeats 1000000
/-! UC: equations of the interpreter, one a construct. -/
namespace TT
open PySem L2
section
variable {Γ : Str → List D → Res Val} {gl : Str → Option D} {fu : Nat} {env : Env}
theorem e_var {i : Nat} : evalE Γ gl (.var i) env = (match env[i]? with | some (some v) => .ok (v.1, 0, v.2.2) | _ => .stuck) := by
  simp only [evalE, getV]
  cases env[i]? with
  | none => rfl
  | some o => cases o <;> rfl
theorem e_int {i : Int} : evalE Γ gl (.cst (.int i)) env = .ok (.int i, 0, true) := by first | (simp only [evalE]; done) | (simp only [evalE]; rfl)
theorem e_bl {i : Bool} : evalE Γ gl (.cst (.bl i)) env = .ok (.bl i, 0, true) := by first | (simp only [evalE]; done) | (simp only [evalE]; rfl)
theorem e_non : evalE Γ gl (.cst .non) env = .ok (.non, 0, true) := by first | (simp only [evalE]; done) | (simp only [evalE]; rfl)
theorem e_str {x : Str} : evalE Γ gl (.cst (.str x)) env = .ok (.str x, 0, true) := by first | (simp only [evalE]; done) | (simp only [evalE]; rfl)
theorem e_gcon {x : Str} : evalE Γ gl (.gcon x) env = (match gl x with | some d => if d.flat then .ok (d, 0, true) else .stuck | none => .stuck) := by first | (simp only [evalE]; done) | (simp only [evalE]; rfl)
theorem e_bin {op : Operator} {a b : CE} : evalE Γ gl (.bin op a b) env = (evalE Γ gl a env >>= fun x => evalE Γ gl b env >>= fun y => binV op x y) := by simp only [evalE]
theorem e_neg {a : CE} : evalE Γ gl (.neg a) env = (evalE Γ gl a env >>= negV) := by simp only [evalE]
theorem e_cmp {op : CmpOp} {a b : CE} : evalE Γ gl (.cmp op a b) env = (evalE Γ gl a env >>= fun x => evalE Γ gl b env >>= fun y => cmpD op x.1 y.1 >>= okB) := by simp only [evalE]
theorem e_chain {o1 o2 : CmpOp} {a b c : CE} : evalE Γ gl (.chain o1 o2 a b c) env = (evalE Γ gl a env >>= fun x => evalE Γ gl b env >>= fun y => cmpD o1 x.1 y.1 >>= fun r => if r then (evalE Γ gl c env >>= fun z => cmpD o2 y.1 z.1 >>= okB) else okB false) := by simp only [evalE]
theorem e_and {a b : CE} : evalE Γ gl (.and a b) env = (evalE Γ gl a env >>= fun x => boolOf x >>= fun r => if r then evalE Γ gl b env else okB false) := by simp only [evalE]
theorem e_or {a b : CE} : evalE Γ gl (.or a b) env = (evalE Γ gl a env >>= fun x => boolOf x >>= fun r => if r then okB true else evalE Γ gl b env) := by simp only [evalE]
theorem e_not {a : CE} : evalE Γ gl (.not a) env = (evalE Γ gl a env >>= fun x => boolOf x >>= fun r => okB (!r)) := by simp only [evalE]
theorem e_ite {c a b : CE} : evalE Γ gl (.ite c a b) env = (evalE Γ gl c env >>= fun x => boolOf x >>= fun r => if r then evalE Γ gl a env else evalE Γ gl b env) := by simp only [evalE]
/-- what a call gives -/
def callV (r : Res Val) (b : Bool) : Res Val := match r with
  | .ok (d, k, nw) => .ok (d, k, nw || b)
  | .exc c => .exc c
  | .stuck => .stuck
@[simp] theorem callV_ok {d : D} {k : Nat} {nw b : Bool} : callV (.ok (d, k, nw)) b = .ok (d, k, nw || b) := rfl
@[simp] theorem callV_exc {c : Str} {b : Bool} : callV (.exc c) b = .exc c := rfl
theorem e_call {f : Str} {es : CEs} : evalE Γ gl (.call f es) env = (evalEs Γ gl es env >>= fun vs => callV (Γ f (vs.map (·.1))) (vs.all nwOf)) := by
  first | (simp only [evalE]; done) | (simp only [evalE]; rfl)
theorem e_blt {f : Bl} {es : CEs} : evalE Γ gl (.blt f es) env = (evalEs Γ gl es env >>= bltV f) := by simp only [evalE]
theorem e_isi {a : CE} {T : Ty} : evalE Γ gl (.isi a T) env = (evalE Γ gl a env >>= fun x => isiD x.1 T >>= okB) := by simp only [evalE]
def idxV (x y : Val) : Res Val := match x.1, y.1 with
  | .lst xs, .int j => atD xs j >>= fun d => .ok (d, 0, x.2.2)
  | .tup xs, .int j => atD xs j >>= fun d => .ok (d, 0, x.2.2)
  | _, _ => .stuck
theorem e_idx {a i : CE} : evalE Γ gl (.idx a i) env = (evalE Γ gl a env >>= fun x => evalE Γ gl i env >>= fun y => idxV x y) := by
  first | (simp only [evalE]; done) | (simp only [evalE]; rfl)
def slV (x : Val) (l h : Option Int) : Res Val := match x.1 with
  | .lst xs => .ok (.lst (cutD xs l h), 1, nwD x.2.2 (cutD xs l h))
  | .scr xs => if xs.length ≤ LIM then .ok (.lst ((cutD xs l h).map D.int), 1, true) else .stuck
  | _ => .stuck
theorem e_sl {a : CE} {lo hi : CEs} : evalE Γ gl (.sl a lo hi) env = (evalE Γ gl a env >>= fun x => evalO Γ gl lo env >>= fun l => evalO Γ gl hi env >>= fun h => slV x l h) := by
  first | (simp only [evalE]; done) | (simp only [evalE]; rfl)
def lstV (vs : List Val) : Res Val := if vs.length ≤ LIM then .ok (.lst (vs.map (·.1)), 1 + kUni vs, vs.all nwOf) else .stuck
def tupV (vs : List Val) : Res Val := if vs.length ≤ LIM then .ok (.tup (vs.map (·.1)), 1 + kUni vs, vs.all nwOf) else .stuck
theorem e_lst {es : CEs} : evalE Γ gl (.lst es) env = (evalEs Γ gl es env >>= lstV) := by first | (simp only [evalE]; done) | (simp only [evalE]; rfl)
theorem e_tup {es : CEs} : evalE Γ gl (.tup es) env = (evalEs Γ gl es env >>= tupV) := by first | (simp only [evalE]; done) | (simp only [evalE]; rfl)
section
theorem lst0 : lstV [] = .ok (.lst [], 1 + kUni [], [].all nwOf) := by
  unfold lstV
  rw [if_pos (by show 0 ≤ LIM; decide)]
  rfl
theorem tup0 : tupV [] = .ok (.tup [], 1 + kUni [], [].all nwOf) := by
  unfold tupV
  rw [if_pos (by show 0 ≤ LIM; decide)]
  rfl
theorem lst1 (v0 : Val) : lstV [v0] = .ok (.lst [v0.1], 1 + kUni [v0], [v0].all nwOf) := by
  unfold lstV
  rw [if_pos (by show 1 ≤ LIM; decide)]
  rfl
theorem tup1 (v0 : Val) : tupV [v0] = .ok (.tup [v0.1], 1 + kUni [v0], [v0].all nwOf) := by
  unfold tupV
  rw [if_pos (by show 1 ≤ LIM; decide)]
  rfl
theorem lst2 (v0 v1 : Val) : lstV [v0, v1] = .ok (.lst [v0.1, v1.1], 1 + kUni [v0, v1], [v0, v1].all nwOf) := by
  unfold lstV
  rw [if_pos (by show 2 ≤ LIM; decide)]
  rfl
theorem tup2 (v0 v1 : Val) : tupV [v0, v1] = .ok (.tup [v0.1, v1.1], 1 + kUni [v0, v1], [v0, v1].all nwOf) := by
  unfold tupV
  rw [if_pos (by show 2 ≤ LIM; decide)]
  rfl
theorem lst3 (v0 v1 v2 : Val) : lstV [v0, v1, v2] = .ok (.lst [v0.1, v1.1, v2.1], 1 + kUni [v0, v1, v2], [v0, v1, v2].all nwOf) := by
  unfold lstV
  rw [if_pos (by show 3 ≤ LIM; decide)]
  rfl
theorem tup3 (v0 v1 v2 : Val) : tupV [v0, v1, v2] = .ok (.tup [v0.1, v1.1, v2.1], 1 + kUni [v0, v1, v2], [v0, v1, v2].all nwOf) := by
  unfold tupV
  rw [if_pos (by show 3 ≤ LIM; decide)]
  rfl
theorem lst4 (v0 v1 v2 v3 : Val) : lstV [v0, v1, v2, v3] = .ok (.lst [v0.1, v1.1, v2.1, v3.1], 1 + kUni [v0, v1, v2, v3], [v0, v1, v2, v3].all nwOf) := by
  unfold lstV
  rw [if_pos (by show 4 ≤ LIM; decide)]
  rfl
theorem tup4 (v0 v1 v2 v3 : Val) : tupV [v0, v1, v2, v3] = .ok (.tup [v0.1, v1.1, v2.1, v3.1], 1 + kUni [v0, v1, v2, v3], [v0, v1, v2, v3].all nwOf) := by
  unfold tupV
  rw [if_pos (by show 4 ≤ LIM; decide)]
  rfl
theorem lst5 (v0 v1 v2 v3 v4 : Val) : lstV [v0, v1, v2, v3, v4] = .ok (.lst [v0.1, v1.1, v2.1, v3.1, v4.1], 1 + kUni [v0, v1, v2, v3, v4], [v0, v1, v2, v3, v4].all nwOf) := by
  unfold lstV
  rw [if_pos (by show 5 ≤ LIM; decide)]
  rfl
theorem tup5 (v0 v1 v2 v3 v4 : Val) : tupV [v0, v1, v2, v3, v4] = .ok (.tup [v0.1, v1.1, v2.1, v3.1, v4.1], 1 + kUni [v0, v1, v2, v3, v4], [v0, v1, v2, v3, v4].all nwOf) := by
  unfold tupV
  rw [if_pos (by show 5 ≤ LIM; decide)]
  rfl
theorem lst6 (v0 v1 v2 v3 v4 v5 : Val) : lstV [v0, v1, v2, v3, v4, v5] = .ok (.lst [v0.1, v1.1, v2.1, v3.1, v4.1, v5.1], 1 + kUni [v0, v1, v2, v3, v4, v5], [v0, v1, v2, v3, v4, v5].all nwOf) := by
  unfold lstV
  rw [if_pos (by show 6 ≤ LIM; decide)]
  rfl
theorem tup6 (v0 v1 v2 v3 v4 v5 : Val) : tupV [v0, v1, v2, v3, v4, v5] = .ok (.tup [v0.1, v1.1, v2.1, v3.1, v4.1, v5.1], 1 + kUni [v0, v1, v2, v3, v4, v5], [v0, v1, v2, v3, v4, v5].all nwOf) := by
  unfold tupV
  rw [if_pos (by show 6 ≤ LIM; decide)]
  rfl
theorem lst7 (v0 v1 v2 v3 v4 v5 v6 : Val) : lstV [v0, v1, v2, v3, v4, v5, v6] = .ok (.lst [v0.1, v1.1, v2.1, v3.1, v4.1, v5.1, v6.1], 1 + kUni [v0, v1, v2, v3, v4, v5, v6], [v0, v1, v2, v3, v4, v5, v6].all nwOf) := by
  unfold lstV
  rw [if_pos (by show 7 ≤ LIM; decide)]
  rfl
theorem tup7 (v0 v1 v2 v3 v4 v5 v6 : Val) : tupV [v0, v1, v2, v3, v4, v5, v6] = .ok (.tup [v0.1, v1.1, v2.1, v3.1, v4.1, v5.1, v6.1], 1 + kUni [v0, v1, v2, v3, v4, v5, v6], [v0, v1, v2, v3, v4, v5, v6].all nwOf) := by
  unfold tupV
  rw [if_pos (by show 7 ≤ LIM; decide)]
  rfl
theorem lst8 (v0 v1 v2 v3 v4 v5 v6 v7 : Val) : lstV [v0, v1, v2, v3, v4, v5, v6, v7] = .ok (.lst [v0.1, v1.1, v2.1, v3.1, v4.1, v5.1, v6.1, v7.1], 1 + kUni [v0, v1, v2, v3, v4, v5, v6, v7], [v0, v1, v2, v3, v4, v5, v6, v7].all nwOf) := by
  unfold lstV
  rw [if_pos (by show 8 ≤ LIM; decide)]
  rfl
theorem tup8 (v0 v1 v2 v3 v4 v5 v6 v7 : Val) : tupV [v0, v1, v2, v3, v4, v5, v6, v7] = .ok (.tup [v0.1, v1.1, v2.1, v3.1, v4.1, v5.1, v6.1, v7.1], 1 + kUni [v0, v1, v2, v3, v4, v5, v6, v7], [v0, v1, v2, v3, v4, v5, v6, v7].all nwOf) := by
  unfold tupV
  rw [if_pos (by show 8 ≤ LIM; decide)]
  rfl
theorem lst12 (v0 v1 v2 v3 v4 v5 v6 v7 v8 v9 v10 v11 : Val) : lstV [v0, v1, v2, v3, v4, v5, v6, v7, v8, v9, v10, v11] = .ok (.lst [v0.1, v1.1, v2.1, v3.1, v4.1, v5.1, v6.1, v7.1, v8.1, v9.1, v10.1, v11.1], 1 + kUni [v0, v1, v2, v3, v4, v5, v6, v7, v8, v9, v10, v11], [v0, v1, v2, v3, v4, v5, v6, v7, v8, v9, v10, v11].all nwOf) := by
  unfold lstV
  rw [if_pos (by show 12 ≤ LIM; decide)]
  rfl
theorem tup12 (v0 v1 v2 v3 v4 v5 v6 v7 v8 v9 v10 v11 : Val) : tupV [v0, v1, v2, v3, v4, v5, v6, v7, v8, v9, v10, v11] = .ok (.tup [v0.1, v1.1, v2.1, v3.1, v4.1, v5.1, v6.1, v7.1, v8.1, v9.1, v10.1, v11.1], 1 + kUni [v0, v1, v2, v3, v4, v5, v6, v7, v8, v9, v10, v11], [v0, v1, v2, v3, v4, v5, v6, v7, v8, v9, v10, v11].all nwOf) := by
  unfold tupV
  rw [if_pos (by show 12 ≤ LIM; decide)]
  rfl
theorem lst16 (v0 v1 v2 v3 v4 v5 v6 v7 v8 v9 v10 v11 v12 v13 v14 v15 : Val) : lstV [v0, v1, v2, v3, v4, v5, v6, v7, v8, v9, v10, v11, v12, v13, v14, v15] = .ok (.lst [v0.1, v1.1, v2.1, v3.1, v4.1, v5.1, v6.1, v7.1, v8.1, v9.1, v10.1, v11.1, v12.1, v13.1, v14.1, v15.1], 1 + kUni [v0, v1, v2, v3, v4, v5, v6, v7, v8, v9, v10, v11, v12, v13, v14, v15], [v0, v1, v2, v3, v4, v5, v6, v7, v8, v9, v10, v11, v12, v13, v14, v15].all nwOf) := by
  unfold lstV
  rw [if_pos (by show 16 ≤ LIM; decide)]
  rfl
theorem tup16 (v0 v1 v2 v3 v4 v5 v6 v7 v8 v9 v10 v11 v12 v13 v14 v15 : Val) : tupV [v0, v1, v2, v3, v4, v5, v6, v7, v8, v9, v10, v11, v12, v13, v14, v15] = .ok (.tup [v0.1, v1.1, v2.1, v3.1, v4.1, v5.1, v6.1, v7.1, v8.1, v9.1, v10.1, v11.1, v12.1, v13.1, v14.1, v15.1], 1 + kUni [v0, v1, v2, v3, v4, v5, v6, v7, v8, v9, v10, v11, v12, v13, v14, v15], [v0, v1, v2, v3, v4, v5, v6, v7, v8, v9, v10, v11, v12, v13, v14, v15].all nwOf) := by
  unfold tupV
  rw [if_pos (by show 16 ≤ LIM; decide)]
  rfl
end
theorem es_nil : evalEs Γ gl .nil env = .ok [] := by simp only [evalEs]
theorem es_cons {e : CE} {es : CEs} : evalEs Γ gl (.cons e es) env = (evalE Γ gl e env >>= fun v => evalEs Γ gl es env >>= fun vs => .ok (v :: vs)) := by simp only [evalEs]
theorem ec_nil : evalC Γ gl .nil env = .ok true := by simp only [evalC]
theorem ec_one {e : CE} : evalC Γ gl (.cons e .nil) env = (evalE Γ gl e env >>= boolOf) := by simp only [evalC]
theorem eo_nil : evalO Γ gl .nil env = .ok none := by simp only [evalO]
def optI (v : Val) : Res (Option Int) := match v.1 with
  | .int i => .ok (some i)
  | _ => .stuck
theorem eo_one {e : CE} : evalO Γ gl (.cons e .nil) env = (evalE Γ gl e env >>= optI) := by first | (simp only [evalO]; done) | (simp only [evalO]; rfl)
theorem keep_f (env : Env) (S : List Nat) : keep env S false = if S.any (ownS env) then demF S 0 env else env := by
  unfold keep
  cases S.any (ownS env) <;> rfl
theorem own0 (v : Val) (env : Env) : ownS (some v :: env) 0 = (!v.1.flat && v.2.1 != 0) := rfl
theorem own0n (env : Env) : ownS (none :: env) 0 = false := rfl
theorem ownSs (o : Option Val) (env : Env) (i : Nat) : ownS (o :: env) (i + 1) = ownS env i := rfl
theorem nwD_ints {b : Bool} {ns : List Int} : nwD b (ns.map D.int) = true := by
  unfold nwD
  have : (ns.map D.int).all D.flat = true := by rw [List.all_map, List.all_eq_true]; intro x _; rfl
  rw [this, Bool.or_true]
theorem nwD_true {ds : List D} : nwD true ds = true := rfl
theorem nwD_nil {b : Bool} : nwD b [] = true := by simp [nwD]
theorem bin_ii {op : Operator} {i j : Int} {a c : Nat} {b d : Bool} : binV op (.int i, a, b) (.int j, c, d) = binI op i j := by cases op <;> rfl
theorem bin_cat {xs ys : List D} {a c : Nat} {b d : Bool} : binV .Add (.lst xs, a, b) (.lst ys, c, d) = if xs.length + ys.length ≤ LIM then .ok (.lst (xs ++ ys), 1, nwD (b && d) (xs ++ ys)) else .stuck := by
  cases b <;> cases d <;> rfl
theorem bin_rep {xs : List D} {n : Int} {a c : Nat} {b d : Bool} : binV .Mult (.lst xs, a, b) (.int n, c, d) = if -(2 ^ 63) ≤ n ∧ n < 2 ^ 63 ∧ xs.length * n.toNat ≤ LIM then .ok (.lst (List.replicate n.toNat xs).flatten, 1, nwD b (List.replicate n.toNat xs).flatten) else .stuck := by
  cases b <;> rfl
theorem bool_b {b : Bool} {k : Nat} {n : Bool} : boolOf (.bl b, k, n) = .ok b := rfl
theorem idx_l {xs : List D} {j : Int} {k l : Nat} {n m : Bool} : idxV (.lst xs, k, n) (.int j, l, m) = (atD xs j >>= fun d => .ok (d, 0, n)) := rfl
theorem idx_t {xs : List D} {j : Int} {k l : Nat} {n m : Bool} : idxV (.tup xs, k, n) (.int j, l, m) = (atD xs j >>= fun d => .ok (d, 0, n)) := rfl
theorem sl_l {xs : List D} {l h : Option Int} {k : Nat} {n : Bool} : slV (.lst xs, k, n) l h = .ok (.lst (cutD xs l h), 1, nwD n (cutD xs l h)) := rfl
theorem sl_s {xs : List Int} {l h : Option Int} {k : Nat} {n : Bool} : slV (.scr xs, k, n) l h = if xs.length ≤ LIM then .ok (.lst ((cutD xs l h).map D.int), 1, true) else .stuck := rfl
theorem opt_i {i : Int} {k : Nat} {n : Bool} : optI (.int i, k, n) = .ok (some i) := rfl
theorem len_l {xs : List D} {k : Nat} {n : Bool} : lenV [(.lst xs, k, n)] = .ok (.int xs.length, 0, true) := rfl
theorem len_t {xs : List D} {k : Nat} {n : Bool} : lenV [(.tup xs, k, n)] = .ok (.int xs.length, 0, true) := rfl
theorem sum_i {ns : List Int} {k : Nat} {n : Bool} : sumV [(dI ns, k, n)] = .ok (.int ns.sum, 0, true) := by simp only [sumV, ints_ok]
theorem all_b {ns : List Bool} {k : Nat} {n : Bool} : allV [(dB ns, k, n)] = .ok (.bl (ns.all id), 0, true) := by simp only [allV, bls_ok]
theorem any_b {ns : List Bool} {k : Nat} {n : Bool} : anyV [(dB ns, k, n)] = .ok (.bl (ns.any id), 0, true) := by simp only [anyV, bls_ok]
theorem neg_i {i : Int} {k : Nat} {n : Bool} : negV (.int i, k, n) = .ok (.int (-i), 0, true) := rfl
theorem abs_i {i : Int} {k : Nat} {n : Bool} : TT.absV [(.int i, k, n)] = .ok (.int (if i < 0 then -i else i), 0, true) := rfl
theorem lst_l {xs : List D} {k : Nat} {n : Bool} : listV [(.lst xs, k, n)] = .ok (.lst xs, 1, nwD n xs) := rfl
theorem int_b {b : Bool} {k : Nat} {n : Bool} : intV [(.bl b, k, n)] = .ok (.int (if b then 1 else 0), 0, true) := rfl
theorem int_i {i : Int} {k : Nat} {n : Bool} : intV [(.int i, k, n)] = .ok (.int i, 0, true) := rfl
/-! ### comprehensions -/
theorem e_comp {α : Type} {e : CE} {t : Tg} {k : IK} {es c : CEs} (xs : List α) (g : α → Val) (d : α → D) (q b : α → Bool) (hi : (evalEs Γ gl es env >>= itemsOf k) = .ok (xs.map g))
    (h : ∀ x ∈ xs, ∃ en kk nw, setT env t (g x) = .ok en ∧ evalC Γ gl c en = .ok (b x) ∧ (b x = true → evalE Γ gl e en = .ok (d x, kk, nw) ∧ ((d x).flat = true ∨ kk = e.sdep ∨ e.sdep = 0) ∧ (nw || (d x).flat) = q x)) :
    evalE Γ gl (.comp e t k es c) env = .ok (.lst ((xs.filter b).map d), 1 + e.sdep, (xs.filter b).all q) := by
  have hc : ∃ ys, compL (fun en => (evalC Γ gl c en).nx) (fun en => (evalE Γ gl e en).nx) env t (xs.map g) = .ok ys ∧ ys.map (·.1) = (xs.filter b).map d ∧ ys.all nwOf = (xs.filter b).all q ∧ ys.all (fun v => v.1.flat || v.2.1 == e.sdep || e.sdep == 0) = true := by
    clear hi
    induction xs with
    | nil => exact ⟨[], rfl, rfl, rfl, rfl⟩
    | cons x xs ih =>
      obtain ⟨en, kk, nw, h1, h2, h3⟩ := h x (by simp)
      obtain ⟨ys, c1, c2, c3, c4⟩ := ih fun y hy => h y (by simp [hy])
      rw [List.map_cons, compL, h1]
      simp only [Res.bind_ok, h2, Res.nx_ok]
      cases hb : b x with
      | true =>
        obtain ⟨k1, k2, k3⟩ := h3 hb
        refine ⟨(d x, kk, nw) :: ys, by simp only [if_true, k1, Res.nx_ok, Res.bind_ok, c1], by simp [List.filter_cons, hb, c2], ?_, ?_⟩
        · simp only [List.all_cons, List.filter_cons, hb, if_true, c3]
          rw [show nwOf (d x, kk, nw) = q x from k3]
        · rw [List.all_cons, c4, Bool.and_true]
          rcases k2 with z | z | z <;> simp [z]
      | false => exact ⟨ys, by simp only [Bool.false_eq_true, if_false, c1], by simp [List.filter_cons, hb, c2], by simp [List.filter_cons, hb, c3], c4⟩
  obtain ⟨ys, c1, c2, c3, c4⟩ := hc
  simp only [evalE]
  cases hv : evalEs Γ gl es env with
  | exc c => rw [hv] at hi; cases hi
  | stuck => rw [hv] at hi; cases hi
  | ok vs =>
    rw [hv] at hi
    simp only [Res.bind_ok] at hi ⊢
    rw [hi]
    simp only [Res.bind_ok, c1, c4, if_true, c2, c3]
theorem filter_true {α : Type} (xs : List α) : xs.filter (fun _ => true) = xs := by simp
/-- [int for x in xs if b] -/
theorem e_compIf {α : Type} {e : CE} {t : Tg} {k : IK} {es c : CEs} (xs : List α) (g : α → Val) (f : α → Int) (b : α → Bool) (hi : (evalEs Γ gl es env >>= itemsOf k) = .ok (xs.map g)) (hs : e.sdep = 0)
    (h : ∀ x ∈ xs, ∃ en kk nw, setT env t (g x) = .ok en ∧ evalC Γ gl c en = .ok (b x) ∧ (b x = true → evalE Γ gl e en = .ok (.int (f x), kk, nw))) :
    evalE Γ gl (.comp e t k es c) env = .ok (dI ((xs.filter b).map f), 1, true) := by
  rw [e_comp xs g (fun x => .int (f x)) (fun _ => true) b hi fun x hx => ?_, hs]
  · simp
  · obtain ⟨en, kk, nw, h1, h2, h3⟩ := h x hx
    exact ⟨en, kk, nw, h1, h2, fun hb => ⟨h3 hb, .inl rfl, by simp [D.flat]⟩⟩
theorem e_compI {α : Type} {e : CE} {t : Tg} {k : IK} {es : CEs} (xs : List α) (g : α → Val) (f : α → Int) (hi : (evalEs Γ gl es env >>= itemsOf k) = .ok (xs.map g)) (hs : e.sdep = 0)
    (h : ∀ x ∈ xs, ∃ en kk nw, setT env t (g x) = .ok en ∧ evalE Γ gl e en = .ok (.int (f x), kk, nw)) :
    evalE Γ gl (.comp e t k es .nil) env = .ok (dI (xs.map f), 1, true) := by
  rw [e_compIf xs g f (fun _ => true) hi hs fun x hx => ?_, filter_true]
  obtain ⟨en, kk, nw, h1, h2⟩ := h x hx
  exact ⟨en, kk, nw, h1, ec_nil, fun _ => h2⟩
/-- .. with a product as its element -/
theorem e_compX {α : Type} {e : CE} {t : Tg} {k : IK} {es : CEs} (xs : List α) (g : α → Val) (f : α → Int) (hi : (evalEs Γ gl es env >>= itemsOf k) = .ok (xs.map g)) (hs : e.sdep = 1)
    (h : ∀ x ∈ xs, ∃ en kk nw, setT env t (g x) = .ok en ∧ evalE Γ gl e en = .ok (.int (f x), kk, nw)) :
    evalE Γ gl (.comp e t k es .nil) env = .ok (dI (xs.map f), 2, true) := by
  rw [e_comp xs g (fun x => .int (f x)) (fun _ => true) (fun _ => true) hi fun x hx => ?_, hs, filter_true]
  · simp
  · obtain ⟨en, kk, nw, h1, h2⟩ := h x hx
    exact ⟨en, kk, nw, h1, ec_nil, fun _ => ⟨h2, .inl rfl, by simp [D.flat]⟩⟩
theorem e_compB {α : Type} {e : CE} {t : Tg} {k : IK} {es : CEs} (xs : List α) (g : α → Val) (f : α → Bool) (hi : (evalEs Γ gl es env >>= itemsOf k) = .ok (xs.map g)) (hs : e.sdep = 0)
    (h : ∀ x ∈ xs, ∃ en kk nw, setT env t (g x) = .ok en ∧ evalE Γ gl e en = .ok (.bl (f x), kk, nw)) :
    evalE Γ gl (.comp e t k es .nil) env = .ok (dB (xs.map f), 1, true) := by
  rw [e_comp xs g (fun x => .bl (f x)) (fun _ => true) (fun _ => true) hi fun x hx => ?_, hs, filter_true]
  · simp
  · obtain ⟨en, kk, nw, h1, h2⟩ := h x hx
    exact ⟨en, kk, nw, h1, ec_nil, fun _ => ⟨h2, .inl rfl, by simp [D.flat]⟩⟩
/-- [a new list of ints for x in xs] -/
theorem e_compN {α : Type} {e : CE} {t : Tg} {k : IK} {es : CEs} (xs : List α) (g : α → Val) (f : α → List Int) (hi : (evalEs Γ gl es env >>= itemsOf k) = .ok (xs.map g)) (hs : e.sdep = 1)
    (h : ∀ x ∈ xs, ∃ en, setT env t (g x) = .ok en ∧ evalE Γ gl e en = .ok (dI (f x), 1, true)) :
    evalE Γ gl (.comp e t k es .nil) env = .ok (dLL (xs.map f), 2, true) := by
  rw [e_comp xs g (fun x => dI (f x)) (fun _ => true) (fun _ => true) hi fun x hx => ?_, hs, filter_true]
  · simp
  · obtain ⟨en, h1, h2⟩ := h x hx
    exact ⟨en, 1, true, h1, ec_nil, fun _ => ⟨h2, .inr (.inl hs.symm), rfl⟩⟩
/-- [x for x in xs if b], lists that are shared -/
theorem e_compS {e : CE} {t : Tg} {k : IK} {es c : CEs} (xs : List (List Int)) (nw : Bool) (b : List Int → Bool) (hi : (evalEs Γ gl es env >>= itemsOf k) = .ok (xs.map fun s => (dI s, 0, nw))) (hs : e.sdep = 0)
    (h : ∀ x ∈ xs, ∃ en, setT env t (dI x, 0, nw) = .ok en ∧ evalC Γ gl c en = .ok (b x) ∧ evalE Γ gl e en = .ok (dI x, 0, nw)) :
    evalE Γ gl (.comp e t k es c) env = .ok (dLL (xs.filter b), 1, (xs.filter b).all fun _ => nw) := by
  rw [e_comp xs _ (fun x => dI x) (fun _ => nw) b hi fun x hx => ?_, hs]
  obtain ⟨en, h1, h2, h3⟩ := h x hx
  exact ⟨en, 0, nw, h1, h2, fun _ => ⟨h3, .inr (.inr hs), by simp [D.flat]⟩⟩
/-! ### items -/
theorem it_ints {c : CE} {ns : List Int} {kk : Nat} {nw : Bool} (h : evalE Γ gl c env = .ok (dI ns, kk, nw)) : (evalEs Γ gl (.cons c .nil) env >>= itemsOf .seq) = .ok (ns.map fun i => (.int i, 0, nw)) := by
  rw [es_cons, h]
  simp only [Res.bind_ok, es_nil, itemsOf, itSeq, List.map_map]
  rfl
theorem it_lists {c : CE} {ss : List (List Int)} {kk : Nat} {nw : Bool} (h : evalE Γ gl c env = .ok (dLL ss, kk, nw)) : (evalEs Γ gl (.cons c .nil) env >>= itemsOf .seq) = .ok (ss.map fun s => (dI s, 0, nw)) := by
  rw [es_cons, h]
  simp only [Res.bind_ok, es_nil, itemsOf, itSeq, List.map_map]
  rfl
/-- 0, 1, .. as ints -/
def upTo (n : Int) : List Int := (List.range n.toNat).map fun (i : Nat) => (i : Int)
theorem it_range {c : CE} {n : Int} {kk : Nat} {nw : Bool} (h : evalE Γ gl c env = .ok (.int n, kk, nw)) (h1 : -1000000 ≤ n) (h2 : n ≤ 1000000) : (evalEs Γ gl (.cons c .nil) env >>= itemsOf .range) = .ok ((upTo n).map fun i => (.int i, 0, true)) := by
  rw [es_cons, h]
  simp only [Res.bind_ok, es_nil, itemsOf, itRange]
  have hc : (ok62 n && decide (n.toNat ≤ LIM)) = true := by
    unfold ok62 LIM
    simp only [Bool.and_eq_true, decide_eq_true_eq]
    refine ⟨⟨?_, ?_⟩, ?_⟩
    · have : (-(2 ^ 62) : Int) ≤ -1000000 := by decide
      omega
    · have : (1000000 : Int) < 2 ^ 62 := by decide
      omega
    · omega
  rw [if_pos hc]
  unfold rangeI upTo
  simp
theorem it_zip {a b : CE} {xs ys : List Int} {k1 k2 : Nat} {n1 n2 : Bool} (h1 : evalE Γ gl a env = .ok (dI xs, k1, n1)) (h2 : evalE Γ gl b env = .ok (dI ys, k2, n2)) : (evalEs Γ gl (.cons a (.cons b .nil)) env >>= itemsOf .zip) = .ok ((xs.zip ys).map fun p => (.tup [.int p.1, .int p.2], 0, n1 && n2)) := by
  rw [es_cons, h1]
  simp only [Res.bind_ok, es_cons, h2, es_nil, itemsOf, itZip]
  congr 1
  rw [List.zip_map, List.map_map]
  rfl
end
end TT

set_option Elab.async false
set_option linter.all false
set_option autoImplicit false
set_option maxRecDepth 100000
set_option maxHeartbeats 1000000
/-! UB: families. -/
namespace TT
open PySem L2
section
variable {fu : Nat} {p : Prg}
@[simp] theorem atD0 (a : D) (l : List D) : atD (a :: l) 0 = .ok a := by
  unfold atD atI ixN
  simp
@[simp] theorem atD1 (a b : D) (l : List D) : atD (a :: b :: l) 1 = .ok b := by
  unfold atD atI ixN
  simp
  rw [if_pos (by omega)]
  rfl
def atR (row : List Int) (i : Int) : Int := row.getD i.toNat 0
theorem atD_int {row : List Int} {i : Int} (h0 : 0 ≤ i) (h1 : i < row.length) : atD (row.map D.int) i = .ok (.int (atR row i)) := by
  unfold atD atI ixN
  rw [List.length_map, if_pos h0, if_pos h1]
  simp only [Option.bind_some, List.getElem?_map]
  have hl : i.toNat < row.length := by omega
  rw [List.getElem?_eq_getElem hl]
  simp [atR, hl]
/-! ### equality -/
def eqLs (a b : List D) : Bool := PyData.eqvAll (toPys a) (toPys b)
theorem eqD_lst (a b : List D) : eqD (.lst a) (.lst b) = eqLs a b := by simp only [eqD, toPy, PyData.eqv, eqLs]
theorem eqD_tup (a b : List D) : eqD (.tup a) (.tup b) = eqLs a b := by simp only [eqD, toPy, PyData.eqv, eqLs]
theorem eqD_int (a b : Int) : eqD (.int a) (.int b) = decide (a = b) := by
  simp only [eqD, toPy, PyData.eqv]
  exact Bool.eq_iff_iff.mpr (by simp)
theorem eqD_bl (a b : Bool) : eqD (.bl a) (.bl b) = (a == b) := by simp only [eqD, toPy, PyData.eqv]
theorem eqLs_nil : eqLs [] [] = true := rfl
theorem eqLs_cn (a : D) (l : List D) : eqLs (a :: l) [] = false := rfl
theorem eqLs_nc (a : D) (l : List D) : eqLs [] (a :: l) = false := rfl
theorem eqLs_cons (a b : D) (l m : List D) : eqLs (a :: l) (b :: m) = (eqD a b && eqLs l m) := rfl
theorem eqLs_ints : ∀ a b : List Int, eqLs (a.map D.int) (b.map D.int) = decide (a = b)
  | [], [] => rfl
  | [], b :: m => rfl
  | a :: l, [] => rfl
  | a :: l, b :: m => by
    rw [List.map_cons, List.map_cons, eqLs_cons, eqLs_ints l m, eqD_int]
    by_cases h1 : a = b <;> by_cases h2 : l = m <;> simp [h1, h2]
theorem eqLs_intsN (a : List Int) : eqLs (a.map D.int) [] = decide (a = []) := by cases a <;> rfl
theorem eqLs_dLN (a : List (List Int)) : eqLs (a.map dI) [] = decide (a = []) := by cases a <;> rfl
theorem eqLs_dI : ∀ a b : List (List Int), eqLs (a.map dI) (b.map dI) = decide (a = b)
  | [], [] => rfl
  | [], b :: m => rfl
  | a :: l, [] => rfl
  | a :: l, b :: m => by
    rw [List.map_cons, List.map_cons, eqLs_cons, eqLs_dI l m, eqD_lst, eqLs_ints]
    by_cases h1 : a = b <;> by_cases h2 : l = m <;> simp [h1, h2]
theorem py_lst (n : Nat) (ds : List D) : D.py (n + 1) (.lst ds) = pyAll n ds := by simp only [D.py]
theorem py_tup (n : Nat) (ds : List D) : D.py (n + 1) (.tup ds) = pyAll n ds := by simp only [D.py]
theorem py_int (n : Nat) (i : Int) : D.py n (.int i) = true := by cases n <;> rfl
theorem py_bl (n : Nat) (i : Bool) : D.py n (.bl i) = true := by cases n <;> rfl
theorem py_non (n : Nat) : D.py n .non = true := by cases n <;> rfl
theorem pyAll_nil (n : Nat) : pyAll n [] = true := rfl
theorem pyAll_cons (n : Nat) (d : D) (ds : List D) : pyAll n (d :: ds) = (D.py n d && pyAll n ds) := rfl
theorem pyAll_ints (n : Nat) : ∀ ns : List Int, pyAll n (ns.map D.int) = true
  | [] => rfl
  | a :: l => by rw [List.map_cons, pyAll_cons, py_int, pyAll_ints n l]; rfl
theorem pyAll_dI (n : Nat) : ∀ ns : List (List Int), pyAll (n + 1) (ns.map dI) = true
  | [] => rfl
  | a :: l => by rw [List.map_cons, pyAll_cons, py_lst, pyAll_ints, pyAll_dI n l]; rfl
theorem cmp_eq {x y : D} : cmpD .Eq x y = if x.py 9 && y.py 9 then .ok (eqD x y) else .stuck := by
  cases x <;> cases y <;> rfl
theorem cmp_ne {x y : D} : cmpD .NotEq x y = if x.py 9 && y.py 9 then .ok (!eqD x y) else .stuck := by
  cases x <;> cases y <;> rfl
theorem cmp_lt {i j : Int} : cmpD .Lt (.int i) (.int j) = .ok (decide (i < j)) := rfl
theorem cmp_le {i j : Int} : cmpD .LtE (.int i) (.int j) = .ok (decide (i ≤ j)) := rfl
theorem cmp_gt {i j : Int} : cmpD .Gt (.int i) (.int j) = .ok (decide (j < i)) := rfl
theorem cmp_ge {i j : Int} : cmpD .GtE (.int i) (.int j) = .ok (decide (j ≤ i)) := rfl
theorem plains : ∀ ns : List Int, (ns.map D.int).all D.plain = true
  | [] => rfl
  | a :: l => by rw [List.map_cons, List.all_cons, plains l]; rfl
theorem any_eq (x : Int) : ∀ ns : List Int, ((ns.map D.int).any fun y => eqD y (.int x)) = decide (x ∈ ns)
  | [] => rfl
  | a :: l => by
    rw [List.map_cons, List.any_cons, any_eq x l, eqD_int]
    by_cases h1 : a = x
    · subst h1; simp
    · have h1' : ¬ x = a := fun z => h1 z.symm
      by_cases h2 : x ∈ l <;> simp [h1, h1', h2]
theorem cmp_in {i : Int} {ns : List Int} : cmpD .In (.int i) (dI ns) = .ok (decide (i ∈ ns)) := by
  unfold cmpD
  simp only [plains, any_eq, D.plain, Bool.and_self, if_true]
theorem cmp_notin {i : Int} {ns : List Int} : cmpD .NotIn (.int i) (dI ns) = .ok (!decide (i ∈ ns)) := by
  unfold cmpD
  simp only [plains, any_eq, D.plain, Bool.and_self, if_true]
theorem cmp_inT {i a b : Int} : cmpD .In (.int i) (.tup [.int a, .int b]) = .ok (decide (i = a) || decide (i = b)) := by
  have e : cmpD .In (.int i) (.tup [.int a, .int b]) = cmpD .In (.int i) (dI [a, b]) := rfl
  rw [e, cmp_in]
  simp [List.mem_cons]

/-! ### is_whole, are_places -/
theorem r_whole (hp : Ext pPkg p) {k : Nat} {i : Int} : runP glT fu p (k + 1) "is_whole" [.int i] = .ok (.bl true, 0, true) := by
  rw [runP_eq (hp "is_whole" f_is_whole (by kernel_rfl)) rfl]
  simp only [f_is_whole, runD, List.length_cons, List.length_nil, List.replicate, List.map_cons, List.map_nil, execSs, execS, setT, keep_true, shut_int, shut_bl, shut_non, shut_str, shut_lst, shut_tup, shut_lst0, shut_tup0, shutL_ints, shutL_dI, shutL_nil, shutL_cons, CE.vars, CEs.vars, List.nil_append, List.cons_append, List.append_nil, keep_f, own0, own0n, ownSs, demF, List.contains_cons, List.contains_nil, Nat.reduceBEq, Nat.reduceBNe, bne_self_eq_false, Nat.reduceAdd, beq_self_eq_true, Option.map_some, Option.map_none, List.any_cons, List.any_nil, Bool.or_false, Bool.and_true, Bool.and_false, Bool.or_true, e_var, e_int, e_bl, e_non, e_str, e_gcon, e_bin, e_neg, e_cmp, e_chain, e_and, e_or, e_not, e_ite, e_call, e_blt, e_isi, e_idx, e_sl, e_lst, e_tup, es_nil, es_cons, ec_nil, ec_one, eo_nil, eo_one,     Res.bind_ok, Res.bind_exc, Res.nx_ok, bool_b, okB, opt_i, callV_ok, callV_exc, bltV, len_l, len_t, sum_i, all_b, any_b, abs_i, lst_l, int_b, int_i, idx_l, idx_t, sl_l, sl_s, nwD_ints, nwD_true, nwD_nil, lst0, tup0, lst1, tup1, lst2, tup2, lst3, tup3, lst4, tup4, lst5, tup5, lst6, tup6, lst7, tup7, lst8, tup8, lst12, tup12, lst16, tup16, kUni, List.filter_nil, List.filter_cons, Nat.add_zero, neg_i, bin_ii, bin_cat, bin_rep, List.getElem?_cons_zero, List.getElem?_cons_succ, List.map_cons, List.map_nil, List.all_cons, List.all_nil, List.any_cons, List.any_nil, List.set_cons_zero, List.set_cons_succ,     nwOf, D.flat, ints_ok, bls_ok, if_true, if_false, Bool.false_eq_true, Bool.not_true, Bool.not_false, Bool.and_true, Bool.true_and, Bool.or_true, Bool.true_or, Bool.or_false, Bool.false_or, Bool.and_self, Bool.or_self, Bool.and_false, Bool.false_and, isiD]
def okPl (m : Int) (ns : List Int) : Bool := !decide (ns = []) && (ns.map fun i => decide (0 ≤ i) && decide (i < m)).all id && ((ns.zip (ns.drop 1)).map fun q => decide (q.1 < q.2)).all id
theorem cut1 (ns : List Int) : cutD (ns.map D.int) (some 1) none = (ns.drop 1).map D.int := by
  unfold cutD HT.sIx
  simp only [List.length_map]
  rw [if_neg (by decide)]
  cases ns with
  | nil => rfl
  | cons a l =>
    simp only [List.length_cons, List.map_cons, List.drop_succ_cons, List.drop_zero]
    rw [show min (Int.toNat 1) (l.length + 1) = 1 by have : Int.toNat 1 = 1 := rfl; omega]
    simp only [List.drop_succ_cons, List.drop_zero, Nat.add_sub_cancel]
    rw [List.take_of_length_le (by simp)]
theorem r_places (hp : Ext pPkg p) {k : Nat} {m : Int} {ns : List Int} : runP glT fu p (k + 2) "are_places" [dI ns, .int m] = .ok (.bl (okPl m ns), 0, true) := by
  rw [runP_eq (hp "are_places" f_are_places (by kernel_rfl)) rfl]
  simp only [f_are_places, runD, List.length_cons, List.length_nil, List.replicate, List.map_cons, List.map_nil, execSs, execS, setT, keep_true, shut_int, shut_bl, shut_non, shut_str, shut_lst, shut_tup, shut_lst0, shut_tup0, shutL_ints, shutL_dI, shutL_nil, shutL_cons, CE.vars, CEs.vars, List.nil_append, List.cons_append, List.append_nil, keep_f, own0, own0n, ownSs, demF, List.contains_cons, List.contains_nil, Nat.reduceBEq, Nat.reduceBNe, bne_self_eq_false, Nat.reduceAdd, beq_self_eq_true, Option.map_some, Option.map_none, List.any_cons, List.any_nil, Bool.or_false, Bool.and_true, Bool.and_false, Bool.or_true, e_var, e_int, e_bl, e_non, e_str, e_gcon, e_bin, e_neg, e_cmp, e_chain, e_and, e_or, e_not, e_ite, e_call, e_blt, e_isi, e_idx, e_sl, e_lst, e_tup, es_nil, es_cons, ec_nil, ec_one, eo_nil, eo_one,     Res.bind_ok, Res.bind_exc, Res.nx_ok, bool_b, okB, opt_i, callV_ok, callV_exc, bltV, len_l, len_t, sum_i, all_b, any_b, abs_i, lst_l, int_b, int_i, idx_l, idx_t, sl_l, sl_s, nwD_ints, nwD_true, nwD_nil, lst0, tup0, lst1, tup1, lst2, tup2, lst3, tup3, lst4, tup4, lst5, tup5, lst6, tup6, lst7, tup7, lst8, tup8, lst12, tup12, lst16, tup16, kUni, List.filter_nil, List.filter_cons, Nat.add_zero, neg_i, bin_ii, bin_cat, bin_rep, List.getElem?_cons_zero, List.getElem?_cons_succ, List.map_cons, List.map_nil, List.all_cons, List.all_nil, List.any_cons, List.any_nil, List.set_cons_zero, List.set_cons_succ,     nwOf, D.flat, ints_ok, bls_ok, if_true, if_false, Bool.false_eq_true, Bool.not_true, Bool.not_false, Bool.and_true, Bool.true_and, Bool.or_true, Bool.true_or, Bool.or_false, Bool.false_or, Bool.and_self, Bool.or_self, Bool.and_false, Bool.false_and, isiD, cmp_eq, py_lst, pyAll_ints, pyAll_nil, eqD_lst, eqLs_intsN]
  by_cases h1 : ns = []
  · subst h1; rfl
  simp only [h1, decide_false, e_var, e_int, e_bl, e_non, e_str, e_gcon, e_bin, e_neg, e_cmp, e_chain, e_and, e_or, e_not, e_ite, e_call, e_blt, e_isi, e_idx, e_sl, e_lst, e_tup, es_nil, es_cons, ec_nil, ec_one, eo_nil, eo_one,     Res.bind_ok, Res.bind_exc, Res.nx_ok, bool_b, okB, opt_i, callV_ok, callV_exc, bltV, len_l, len_t, sum_i, all_b, any_b, abs_i, lst_l, int_b, int_i, idx_l, idx_t, sl_l, sl_s, nwD_ints, nwD_true, nwD_nil, lst0, tup0, lst1, tup1, lst2, tup2, lst3, tup3, lst4, tup4, lst5, tup5, lst6, tup6, lst7, tup7, lst8, tup8, lst12, tup12, lst16, tup16, kUni, List.filter_nil, List.filter_cons, Nat.add_zero, neg_i, bin_ii, bin_cat, bin_rep, List.getElem?_cons_zero, List.getElem?_cons_succ, List.map_cons, List.map_nil, List.all_cons, List.all_nil, List.any_cons, List.any_nil, List.set_cons_zero, List.set_cons_succ,     nwOf, D.flat, ints_ok, bls_ok, if_true, if_false, Bool.false_eq_true, Bool.not_true, Bool.not_false, Bool.and_true, Bool.true_and, Bool.or_true, Bool.true_or, Bool.or_false, Bool.false_or, Bool.and_self, Bool.or_self, Bool.and_false, Bool.false_and, runD, List.length_cons, List.length_nil, List.replicate, List.map_cons, List.map_nil, execSs, execS, setT, keep_true, shut_int, shut_bl, shut_non, shut_str, shut_lst, shut_tup, shut_lst0, shut_tup0, shutL_ints, shutL_dI, shutL_nil, shutL_cons, CE.vars, CEs.vars, List.nil_append, List.cons_append, List.append_nil, keep_f, own0, own0n, ownSs, demF, List.contains_cons, List.contains_nil, Nat.reduceBEq, Nat.reduceBNe, bne_self_eq_false, Nat.reduceAdd, beq_self_eq_true, Option.map_some, Option.map_none, List.any_cons, List.any_nil, Bool.or_false, Bool.and_true, Bool.and_false, Bool.or_true]
  rw [e_compB ns (fun i => (.int i, 0, false)) (fun i => decide (0 ≤ i) && decide (i < m)) (it_ints (kk := 0) (by simp only [e_var, e_int, e_bl, e_non, e_str, e_gcon, e_bin, e_neg, e_cmp, e_chain, e_and, e_or, e_not, e_ite, e_call, e_blt, e_isi, e_idx, e_sl, e_lst, e_tup, es_nil, es_cons, ec_nil, ec_one, eo_nil, eo_one,     Res.bind_ok, Res.bind_exc, Res.nx_ok, bool_b, okB, opt_i, callV_ok, callV_exc, bltV, len_l, len_t, sum_i, all_b, any_b, abs_i, lst_l, int_b, int_i, idx_l, idx_t, sl_l, sl_s, nwD_ints, nwD_true, nwD_nil, lst0, tup0, lst1, tup1, lst2, tup2, lst3, tup3, lst4, tup4, lst5, tup5, lst6, tup6, lst7, tup7, lst8, tup8, lst12, tup12, lst16, tup16, kUni, List.filter_nil, List.filter_cons, Nat.add_zero, neg_i, bin_ii, bin_cat, bin_rep, List.getElem?_cons_zero, List.getElem?_cons_succ, List.map_cons, List.map_nil, List.all_cons, List.all_nil, List.any_cons, List.any_nil, List.set_cons_zero, List.set_cons_succ,     nwOf, D.flat, ints_ok, bls_ok, if_true, if_false, Bool.false_eq_true, Bool.not_true, Bool.not_false, Bool.and_true, Bool.true_and, Bool.or_true, Bool.true_or, Bool.or_false, Bool.false_or, Bool.and_self, Bool.or_self, Bool.and_false, Bool.false_and])) rfl fun i hi => ?_]
  rotate_left
  · refine ⟨_, 0, true, rfl, ?_⟩
    simp only [e_var, e_int, e_bl, e_non, e_str, e_gcon, e_bin, e_neg, e_cmp, e_chain, e_and, e_or, e_not, e_ite, e_call, e_blt, e_isi, e_idx, e_sl, e_lst, e_tup, es_nil, es_cons, ec_nil, ec_one, eo_nil, eo_one,     Res.bind_ok, Res.bind_exc, Res.nx_ok, bool_b, okB, opt_i, callV_ok, callV_exc, bltV, len_l, len_t, sum_i, all_b, any_b, abs_i, lst_l, int_b, int_i, idx_l, idx_t, sl_l, sl_s, nwD_ints, nwD_true, nwD_nil, lst0, tup0, lst1, tup1, lst2, tup2, lst3, tup3, lst4, tup4, lst5, tup5, lst6, tup6, lst7, tup7, lst8, tup8, lst12, tup12, lst16, tup16, kUni, List.filter_nil, List.filter_cons, Nat.add_zero, neg_i, bin_ii, bin_cat, bin_rep, List.getElem?_cons_zero, List.getElem?_cons_succ, List.map_cons, List.map_nil, List.all_cons, List.all_nil, List.any_cons, List.any_nil, List.set_cons_zero, List.set_cons_succ,     nwOf, D.flat, ints_ok, bls_ok, if_true, if_false, Bool.false_eq_true, Bool.not_true, Bool.not_false, Bool.and_true, Bool.true_and, Bool.or_true, Bool.true_or, Bool.or_false, Bool.false_or, Bool.and_self, Bool.or_self, Bool.and_false, Bool.false_and, r_whole hp, cmp_le, cmp_lt]
    by_cases h0 : 0 ≤ i <;> simp [h0]
  simp only [e_var, e_int, e_bl, e_non, e_str, e_gcon, e_bin, e_neg, e_cmp, e_chain, e_and, e_or, e_not, e_ite, e_call, e_blt, e_isi, e_idx, e_sl, e_lst, e_tup, es_nil, es_cons, ec_nil, ec_one, eo_nil, eo_one,     Res.bind_ok, Res.bind_exc, Res.nx_ok, bool_b, okB, opt_i, callV_ok, callV_exc, bltV, len_l, len_t, sum_i, all_b, any_b, abs_i, lst_l, int_b, int_i, idx_l, idx_t, sl_l, sl_s, nwD_ints, nwD_true, nwD_nil, lst0, tup0, lst1, tup1, lst2, tup2, lst3, tup3, lst4, tup4, lst5, tup5, lst6, tup6, lst7, tup7, lst8, tup8, lst12, tup12, lst16, tup16, kUni, List.filter_nil, List.filter_cons, Nat.add_zero, neg_i, bin_ii, bin_cat, bin_rep, List.getElem?_cons_zero, List.getElem?_cons_succ, List.map_cons, List.map_nil, List.all_cons, List.all_nil, List.any_cons, List.any_nil, List.set_cons_zero, List.set_cons_succ,     nwOf, D.flat, ints_ok, bls_ok, if_true, if_false, Bool.false_eq_true, Bool.not_true, Bool.not_false, Bool.and_true, Bool.true_and, Bool.or_true, Bool.true_or, Bool.or_false, Bool.false_or, Bool.and_self, Bool.or_self, Bool.and_false, Bool.false_and]
  cases h2 : (ns.map fun i => decide (0 ≤ i) && decide (i < m)).all id with
  | false => simp only [e_var, e_int, e_bl, e_non, e_str, e_gcon, e_bin, e_neg, e_cmp, e_chain, e_and, e_or, e_not, e_ite, e_call, e_blt, e_isi, e_idx, e_sl, e_lst, e_tup, es_nil, es_cons, ec_nil, ec_one, eo_nil, eo_one,     Res.bind_ok, Res.bind_exc, Res.nx_ok, bool_b, okB, opt_i, callV_ok, callV_exc, bltV, len_l, len_t, sum_i, all_b, any_b, abs_i, lst_l, int_b, int_i, idx_l, idx_t, sl_l, sl_s, nwD_ints, nwD_true, nwD_nil, lst0, tup0, lst1, tup1, lst2, tup2, lst3, tup3, lst4, tup4, lst5, tup5, lst6, tup6, lst7, tup7, lst8, tup8, lst12, tup12, lst16, tup16, kUni, List.filter_nil, List.filter_cons, Nat.add_zero, neg_i, bin_ii, bin_cat, bin_rep, List.getElem?_cons_zero, List.getElem?_cons_succ, List.map_cons, List.map_nil, List.all_cons, List.all_nil, List.any_cons, List.any_nil, List.set_cons_zero, List.set_cons_succ,     nwOf, D.flat, ints_ok, bls_ok, if_true, if_false, Bool.false_eq_true, Bool.not_true, Bool.not_false, Bool.and_true, Bool.true_and, Bool.or_true, Bool.true_or, Bool.or_false, Bool.false_or, Bool.and_self, Bool.or_self, Bool.and_false, Bool.false_and, runD, List.length_cons, List.length_nil, List.replicate, List.map_cons, List.map_nil, execSs, execS, setT, keep_true, shut_int, shut_bl, shut_non, shut_str, shut_lst, shut_tup, shut_lst0, shut_tup0, shutL_ints, shutL_dI, shutL_nil, shutL_cons, CE.vars, CEs.vars, List.nil_append, List.cons_append, List.append_nil, keep_f, own0, own0n, ownSs, demF, List.contains_cons, List.contains_nil, Nat.reduceBEq, Nat.reduceBNe, bne_self_eq_false, Nat.reduceAdd, beq_self_eq_true, Option.map_some, Option.map_none, List.any_cons, List.any_nil, Bool.or_false, Bool.and_true, Bool.and_false, Bool.or_true, okPl, h2]
  | true =>
    simp only [e_var, e_int, e_bl, e_non, e_str, e_gcon, e_bin, e_neg, e_cmp, e_chain, e_and, e_or, e_not, e_ite, e_call, e_blt, e_isi, e_idx, e_sl, e_lst, e_tup, es_nil, es_cons, ec_nil, ec_one, eo_nil, eo_one,     Res.bind_ok, Res.bind_exc, Res.nx_ok, bool_b, okB, opt_i, callV_ok, callV_exc, bltV, len_l, len_t, sum_i, all_b, any_b, abs_i, lst_l, int_b, int_i, idx_l, idx_t, sl_l, sl_s, nwD_ints, nwD_true, nwD_nil, lst0, tup0, lst1, tup1, lst2, tup2, lst3, tup3, lst4, tup4, lst5, tup5, lst6, tup6, lst7, tup7, lst8, tup8, lst12, tup12, lst16, tup16, kUni, List.filter_nil, List.filter_cons, Nat.add_zero, neg_i, bin_ii, bin_cat, bin_rep, List.getElem?_cons_zero, List.getElem?_cons_succ, List.map_cons, List.map_nil, List.all_cons, List.all_nil, List.any_cons, List.any_nil, List.set_cons_zero, List.set_cons_succ,     nwOf, D.flat, ints_ok, bls_ok, if_true, if_false, Bool.false_eq_true, Bool.not_true, Bool.not_false, Bool.and_true, Bool.true_and, Bool.or_true, Bool.true_or, Bool.or_false, Bool.false_or, Bool.and_self, Bool.or_self, Bool.and_false, Bool.false_and, runD, List.length_cons, List.length_nil, List.replicate, List.map_cons, List.map_nil, execSs, execS, setT, keep_true, shut_int, shut_bl, shut_non, shut_str, shut_lst, shut_tup, shut_lst0, shut_tup0, shutL_ints, shutL_dI, shutL_nil, shutL_cons, CE.vars, CEs.vars, List.nil_append, List.cons_append, List.append_nil, keep_f, own0, own0n, ownSs, demF, List.contains_cons, List.contains_nil, Nat.reduceBEq, Nat.reduceBNe, bne_self_eq_false, Nat.reduceAdd, beq_self_eq_true, Option.map_some, Option.map_none, List.any_cons, List.any_nil, Bool.or_false, Bool.and_true, Bool.and_false, Bool.or_true, h2]
    rw [e_compB (ns.zip (ns.drop 1)) (fun q => (.tup [.int q.1, .int q.2], 0, false)) (fun q => decide (q.1 < q.2)) (it_zip (k1 := 0) (k2 := 1) (n1 := false) (n2 := true) (by simp only [e_var, e_int, e_bl, e_non, e_str, e_gcon, e_bin, e_neg, e_cmp, e_chain, e_and, e_or, e_not, e_ite, e_call, e_blt, e_isi, e_idx, e_sl, e_lst, e_tup, es_nil, es_cons, ec_nil, ec_one, eo_nil, eo_one,     Res.bind_ok, Res.bind_exc, Res.nx_ok, bool_b, okB, opt_i, callV_ok, callV_exc, bltV, len_l, len_t, sum_i, all_b, any_b, abs_i, lst_l, int_b, int_i, idx_l, idx_t, sl_l, sl_s, nwD_ints, nwD_true, nwD_nil, lst0, tup0, lst1, tup1, lst2, tup2, lst3, tup3, lst4, tup4, lst5, tup5, lst6, tup6, lst7, tup7, lst8, tup8, lst12, tup12, lst16, tup16, kUni, List.filter_nil, List.filter_cons, Nat.add_zero, neg_i, bin_ii, bin_cat, bin_rep, List.getElem?_cons_zero, List.getElem?_cons_succ, List.map_cons, List.map_nil, List.all_cons, List.all_nil, List.any_cons, List.any_nil, List.set_cons_zero, List.set_cons_succ,     nwOf, D.flat, ints_ok, bls_ok, if_true, if_false, Bool.false_eq_true, Bool.not_true, Bool.not_false, Bool.and_true, Bool.true_and, Bool.or_true, Bool.true_or, Bool.or_false, Bool.false_or, Bool.and_self, Bool.or_self, Bool.and_false, Bool.false_and]) (by simp only [e_var, e_int, e_bl, e_non, e_str, e_gcon, e_bin, e_neg, e_cmp, e_chain, e_and, e_or, e_not, e_ite, e_call, e_blt, e_isi, e_idx, e_sl, e_lst, e_tup, es_nil, es_cons, ec_nil, ec_one, eo_nil, eo_one,     Res.bind_ok, Res.bind_exc, Res.nx_ok, bool_b, okB, opt_i, callV_ok, callV_exc, bltV, len_l, len_t, sum_i, all_b, any_b, abs_i, lst_l, int_b, int_i, idx_l, idx_t, sl_l, sl_s, nwD_ints, nwD_true, nwD_nil, lst0, tup0, lst1, tup1, lst2, tup2, lst3, tup3, lst4, tup4, lst5, tup5, lst6, tup6, lst7, tup7, lst8, tup8, lst12, tup12, lst16, tup16, kUni, List.filter_nil, List.filter_cons, Nat.add_zero, neg_i, bin_ii, bin_cat, bin_rep, List.getElem?_cons_zero, List.getElem?_cons_succ, List.map_cons, List.map_nil, List.all_cons, List.all_nil, List.any_cons, List.any_nil, List.set_cons_zero, List.set_cons_succ,     nwOf, D.flat, ints_ok, bls_ok, if_true, if_false, Bool.false_eq_true, Bool.not_true, Bool.not_false, Bool.and_true, Bool.true_and, Bool.or_true, Bool.true_or, Bool.or_false, Bool.false_or, Bool.and_self, Bool.or_self, Bool.and_false, Bool.false_and, cut1])) rfl fun q hq => ?_]
    · simp only [e_var, e_int, e_bl, e_non, e_str, e_gcon, e_bin, e_neg, e_cmp, e_chain, e_and, e_or, e_not, e_ite, e_call, e_blt, e_isi, e_idx, e_sl, e_lst, e_tup, es_nil, es_cons, ec_nil, ec_one, eo_nil, eo_one,     Res.bind_ok, Res.bind_exc, Res.nx_ok, bool_b, okB, opt_i, callV_ok, callV_exc, bltV, len_l, len_t, sum_i, all_b, any_b, abs_i, lst_l, int_b, int_i, idx_l, idx_t, sl_l, sl_s, nwD_ints, nwD_true, nwD_nil, lst0, tup0, lst1, tup1, lst2, tup2, lst3, tup3, lst4, tup4, lst5, tup5, lst6, tup6, lst7, tup7, lst8, tup8, lst12, tup12, lst16, tup16, kUni, List.filter_nil, List.filter_cons, Nat.add_zero, neg_i, bin_ii, bin_cat, bin_rep, List.getElem?_cons_zero, List.getElem?_cons_succ, List.map_cons, List.map_nil, List.all_cons, List.all_nil, List.any_cons, List.any_nil, List.set_cons_zero, List.set_cons_succ,     nwOf, D.flat, ints_ok, bls_ok, if_true, if_false, Bool.false_eq_true, Bool.not_true, Bool.not_false, Bool.and_true, Bool.true_and, Bool.or_true, Bool.true_or, Bool.or_false, Bool.false_or, Bool.and_self, Bool.or_self, Bool.and_false, Bool.false_and, okPl, h1, h2, decide_false]
    · refine ⟨_, 0, true, rfl, ?_⟩
      simp only [setM, List.zip_cons_cons, List.zip_nil_right, e_var, e_int, e_bl, e_non, e_str, e_gcon, e_bin, e_neg, e_cmp, e_chain, e_and, e_or, e_not, e_ite, e_call, e_blt, e_isi, e_idx, e_sl, e_lst, e_tup, es_nil, es_cons, ec_nil, ec_one, eo_nil, eo_one,     Res.bind_ok, Res.bind_exc, Res.nx_ok, bool_b, okB, opt_i, callV_ok, callV_exc, bltV, len_l, len_t, sum_i, all_b, any_b, abs_i, lst_l, int_b, int_i, idx_l, idx_t, sl_l, sl_s, nwD_ints, nwD_true, nwD_nil, lst0, tup0, lst1, tup1, lst2, tup2, lst3, tup3, lst4, tup4, lst5, tup5, lst6, tup6, lst7, tup7, lst8, tup8, lst12, tup12, lst16, tup16, kUni, List.filter_nil, List.filter_cons, Nat.add_zero, neg_i, bin_ii, bin_cat, bin_rep, List.getElem?_cons_zero, List.getElem?_cons_succ, List.map_cons, List.map_nil, List.all_cons, List.all_nil, List.any_cons, List.any_nil, List.set_cons_zero, List.set_cons_succ,     nwOf, D.flat, ints_ok, bls_ok, if_true, if_false, Bool.false_eq_true, Bool.not_true, Bool.not_false, Bool.and_true, Bool.true_and, Bool.or_true, Bool.true_or, Bool.or_false, Bool.false_or, Bool.and_self, Bool.or_self, Bool.and_false, Bool.false_and, cmp_lt]

/-! ### check_family, check_colours -/
theorem gl_most : glT "MOST" = some (.int 20) := by kernel_rfl
theorem gl_mostSets : glT "MOST_SETS" = some (.int 12) := by kernel_rfl
theorem gl_small : glT "SMALL" = some (.int 12) := by kernel_rfl
theorem gl_little : glT "LITTLE" = some (.int 8) := by kernel_rfl
theorem gl_mostBound : glT "MOST_BOUND" = some (.int 12) := by kernel_rfl
theorem gl_mostOrdered : glT "MOST_ORDERED" = some (.int 40) := by kernel_rfl
theorem gl_heaviest : glT "HEAVIEST" = some (.int 1000) := by kernel_rfl
def famOk (most n : Int) (ss : List (List Int)) : Bool := (decide (1 ≤ n) && decide (n ≤ most)) && decide (ss.length ≤ 12) && (ss.map (okPl n)).all id
theorem r_checkFam (hp : Ext pPkg p) {k : Nat} {most n : Int} {ss : List (List Int)} : runP glT fu p (k + 3) "check_family" [dFam n ss, .int most] = if famOk most n ss then .ok (.non, 0, true) else .exc "BadFamily" := by
  rw [runP_eq (hp "check_family" f_check_family (by kernel_rfl)) rfl]
  simp only [f_check_family, runD, List.length_cons, List.length_nil, List.replicate, List.map_cons, List.map_nil, execSs, execS, setT, keep_true, shut_int, shut_bl, shut_non, shut_str, shut_lst, shut_tup, shut_lst0, shut_tup0, shutL_ints, shutL_dI, shutL_nil, shutL_cons, CE.vars, CEs.vars, List.nil_append, List.cons_append, List.append_nil, keep_f, own0, own0n, ownSs, demF, List.contains_cons, List.contains_nil, Nat.reduceBEq, Nat.reduceBNe, bne_self_eq_false, Nat.reduceAdd, beq_self_eq_true, Option.map_some, Option.map_none, List.any_cons, List.any_nil, Bool.or_false, Bool.and_true, Bool.and_false, Bool.or_true, e_var, e_int, e_bl, e_non, e_str, e_gcon, e_bin, e_neg, e_cmp, e_chain, e_and, e_or, e_not, e_ite, e_call, e_blt, e_isi, e_idx, e_sl, e_lst, e_tup, es_nil, es_cons, ec_nil, ec_one, eo_nil, eo_one,     Res.bind_ok, Res.bind_exc, Res.nx_ok, bool_b, okB, opt_i, callV_ok, callV_exc, bltV, len_l, len_t, sum_i, all_b, any_b, abs_i, lst_l, int_b, int_i, idx_l, idx_t, sl_l, sl_s, nwD_ints, nwD_true, nwD_nil, lst0, tup0, lst1, tup1, lst2, tup2, lst3, tup3, lst4, tup4, lst5, tup5, lst6, tup6, lst7, tup7, lst8, tup8, lst12, tup12, lst16, tup16, kUni, List.filter_nil, List.filter_cons, Nat.add_zero, neg_i, bin_ii, bin_cat, bin_rep, List.getElem?_cons_zero, List.getElem?_cons_succ, List.map_cons, List.map_nil, List.all_cons, List.all_nil, List.any_cons, List.any_nil, List.set_cons_zero, List.set_cons_succ,     nwOf, D.flat, ints_ok, bls_ok, if_true, if_false, Bool.false_eq_true, Bool.not_true, Bool.not_false, Bool.and_true, Bool.true_and, Bool.or_true, Bool.true_or, Bool.or_false, Bool.false_or, Bool.and_self, Bool.or_self, Bool.and_false, Bool.false_and, isiD, atD0, atD1, cmp_ne, py_int, eqD_int, r_whole hp, cmp_le, gl_mostSets, cmp_gt, List.length_map]
  simp only [show decide ((((0 : Nat) + 1 + 1 : Nat) : Int) = 2) = true by decide, e_var, e_int, e_bl, e_non, e_str, e_gcon, e_bin, e_neg, e_cmp, e_chain, e_and, e_or, e_not, e_ite, e_call, e_blt, e_isi, e_idx, e_sl, e_lst, e_tup, es_nil, es_cons, ec_nil, ec_one, eo_nil, eo_one,     Res.bind_ok, Res.bind_exc, Res.nx_ok, bool_b, okB, opt_i, callV_ok, callV_exc, bltV, len_l, len_t, sum_i, all_b, any_b, abs_i, lst_l, int_b, int_i, idx_l, idx_t, sl_l, sl_s, nwD_ints, nwD_true, nwD_nil, lst0, tup0, lst1, tup1, lst2, tup2, lst3, tup3, lst4, tup4, lst5, tup5, lst6, tup6, lst7, tup7, lst8, tup8, lst12, tup12, lst16, tup16, kUni, List.filter_nil, List.filter_cons, Nat.add_zero, neg_i, bin_ii, bin_cat, bin_rep, List.getElem?_cons_zero, List.getElem?_cons_succ, List.map_cons, List.map_nil, List.all_cons, List.all_nil, List.any_cons, List.any_nil, List.set_cons_zero, List.set_cons_succ,     nwOf, D.flat, ints_ok, bls_ok, if_true, if_false, Bool.false_eq_true, Bool.not_true, Bool.not_false, Bool.and_true, Bool.true_and, Bool.or_true, Bool.true_or, Bool.or_false, Bool.false_or, Bool.and_self, Bool.or_self, Bool.and_false, Bool.false_and]
  by_cases h1 : 1 ≤ n
  rotate_left
  · simp only [h1, decide_false, e_var, e_int, e_bl, e_non, e_str, e_gcon, e_bin, e_neg, e_cmp, e_chain, e_and, e_or, e_not, e_ite, e_call, e_blt, e_isi, e_idx, e_sl, e_lst, e_tup, es_nil, es_cons, ec_nil, ec_one, eo_nil, eo_one,     Res.bind_ok, Res.bind_exc, Res.nx_ok, bool_b, okB, opt_i, callV_ok, callV_exc, bltV, len_l, len_t, sum_i, all_b, any_b, abs_i, lst_l, int_b, int_i, idx_l, idx_t, sl_l, sl_s, nwD_ints, nwD_true, nwD_nil, lst0, tup0, lst1, tup1, lst2, tup2, lst3, tup3, lst4, tup4, lst5, tup5, lst6, tup6, lst7, tup7, lst8, tup8, lst12, tup12, lst16, tup16, kUni, List.filter_nil, List.filter_cons, Nat.add_zero, neg_i, bin_ii, bin_cat, bin_rep, List.getElem?_cons_zero, List.getElem?_cons_succ, List.map_cons, List.map_nil, List.all_cons, List.all_nil, List.any_cons, List.any_nil, List.set_cons_zero, List.set_cons_succ,     nwOf, D.flat, ints_ok, bls_ok, if_true, if_false, Bool.false_eq_true, Bool.not_true, Bool.not_false, Bool.and_true, Bool.true_and, Bool.or_true, Bool.true_or, Bool.or_false, Bool.false_or, Bool.and_self, Bool.or_self, Bool.and_false, Bool.false_and, runD, List.length_cons, List.length_nil, List.replicate, List.map_cons, List.map_nil, execSs, execS, setT, keep_true, shut_int, shut_bl, shut_non, shut_str, shut_lst, shut_tup, shut_lst0, shut_tup0, shutL_ints, shutL_dI, shutL_nil, shutL_cons, CE.vars, CEs.vars, List.nil_append, List.cons_append, List.append_nil, keep_f, own0, own0n, ownSs, demF, List.contains_cons, List.contains_nil, Nat.reduceBEq, Nat.reduceBNe, bne_self_eq_false, Nat.reduceAdd, beq_self_eq_true, Option.map_some, Option.map_none, List.any_cons, List.any_nil, Bool.or_false, Bool.and_true, Bool.and_false, Bool.or_true, famOk]
  by_cases h2 : n ≤ most
  rotate_left
  · simp only [h1, h2, decide_false, decide_true, e_var, e_int, e_bl, e_non, e_str, e_gcon, e_bin, e_neg, e_cmp, e_chain, e_and, e_or, e_not, e_ite, e_call, e_blt, e_isi, e_idx, e_sl, e_lst, e_tup, es_nil, es_cons, ec_nil, ec_one, eo_nil, eo_one,     Res.bind_ok, Res.bind_exc, Res.nx_ok, bool_b, okB, opt_i, callV_ok, callV_exc, bltV, len_l, len_t, sum_i, all_b, any_b, abs_i, lst_l, int_b, int_i, idx_l, idx_t, sl_l, sl_s, nwD_ints, nwD_true, nwD_nil, lst0, tup0, lst1, tup1, lst2, tup2, lst3, tup3, lst4, tup4, lst5, tup5, lst6, tup6, lst7, tup7, lst8, tup8, lst12, tup12, lst16, tup16, kUni, List.filter_nil, List.filter_cons, Nat.add_zero, neg_i, bin_ii, bin_cat, bin_rep, List.getElem?_cons_zero, List.getElem?_cons_succ, List.map_cons, List.map_nil, List.all_cons, List.all_nil, List.any_cons, List.any_nil, List.set_cons_zero, List.set_cons_succ,     nwOf, D.flat, ints_ok, bls_ok, if_true, if_false, Bool.false_eq_true, Bool.not_true, Bool.not_false, Bool.and_true, Bool.true_and, Bool.or_true, Bool.true_or, Bool.or_false, Bool.false_or, Bool.and_self, Bool.or_self, Bool.and_false, Bool.false_and, runD, List.length_cons, List.length_nil, List.replicate, List.map_cons, List.map_nil, execSs, execS, setT, keep_true, shut_int, shut_bl, shut_non, shut_str, shut_lst, shut_tup, shut_lst0, shut_tup0, shutL_ints, shutL_dI, shutL_nil, shutL_cons, CE.vars, CEs.vars, List.nil_append, List.cons_append, List.append_nil, keep_f, own0, own0n, ownSs, demF, List.contains_cons, List.contains_nil, Nat.reduceBEq, Nat.reduceBNe, bne_self_eq_false, Nat.reduceAdd, beq_self_eq_true, Option.map_some, Option.map_none, List.any_cons, List.any_nil, Bool.or_false, Bool.and_true, Bool.and_false, Bool.or_true, famOk]
  simp only [h1, h2, decide_true, e_var, e_int, e_bl, e_non, e_str, e_gcon, e_bin, e_neg, e_cmp, e_chain, e_and, e_or, e_not, e_ite, e_call, e_blt, e_isi, e_idx, e_sl, e_lst, e_tup, es_nil, es_cons, ec_nil, ec_one, eo_nil, eo_one,     Res.bind_ok, Res.bind_exc, Res.nx_ok, bool_b, okB, opt_i, callV_ok, callV_exc, bltV, len_l, len_t, sum_i, all_b, any_b, abs_i, lst_l, int_b, int_i, idx_l, idx_t, sl_l, sl_s, nwD_ints, nwD_true, nwD_nil, lst0, tup0, lst1, tup1, lst2, tup2, lst3, tup3, lst4, tup4, lst5, tup5, lst6, tup6, lst7, tup7, lst8, tup8, lst12, tup12, lst16, tup16, kUni, List.filter_nil, List.filter_cons, Nat.add_zero, neg_i, bin_ii, bin_cat, bin_rep, List.getElem?_cons_zero, List.getElem?_cons_succ, List.map_cons, List.map_nil, List.all_cons, List.all_nil, List.any_cons, List.any_nil, List.set_cons_zero, List.set_cons_succ,     nwOf, D.flat, ints_ok, bls_ok, if_true, if_false, Bool.false_eq_true, Bool.not_true, Bool.not_false, Bool.and_true, Bool.true_and, Bool.or_true, Bool.true_or, Bool.or_false, Bool.false_or, Bool.and_self, Bool.or_self, Bool.and_false, Bool.false_and, runD, List.length_cons, List.length_nil, List.replicate, List.map_cons, List.map_nil, execSs, execS, setT, keep_true, shut_int, shut_bl, shut_non, shut_str, shut_lst, shut_tup, shut_lst0, shut_tup0, shutL_ints, shutL_dI, shutL_nil, shutL_cons, CE.vars, CEs.vars, List.nil_append, List.cons_append, List.append_nil, keep_f, own0, own0n, ownSs, demF, List.contains_cons, List.contains_nil, Nat.reduceBEq, Nat.reduceBNe, bne_self_eq_false, Nat.reduceAdd, beq_self_eq_true, Option.map_some, Option.map_none, List.any_cons, List.any_nil, Bool.or_false, Bool.and_true, Bool.and_false, Bool.or_true, famOk, isiD, gl_mostSets, cmp_gt, List.length_map, atD1]
  by_cases h3 : (12 : Int) < (ss.length : Int)
  · simp only [h3, decide_true, e_var, e_int, e_bl, e_non, e_str, e_gcon, e_bin, e_neg, e_cmp, e_chain, e_and, e_or, e_not, e_ite, e_call, e_blt, e_isi, e_idx, e_sl, e_lst, e_tup, es_nil, es_cons, ec_nil, ec_one, eo_nil, eo_one,     Res.bind_ok, Res.bind_exc, Res.nx_ok, bool_b, okB, opt_i, callV_ok, callV_exc, bltV, len_l, len_t, sum_i, all_b, any_b, abs_i, lst_l, int_b, int_i, idx_l, idx_t, sl_l, sl_s, nwD_ints, nwD_true, nwD_nil, lst0, tup0, lst1, tup1, lst2, tup2, lst3, tup3, lst4, tup4, lst5, tup5, lst6, tup6, lst7, tup7, lst8, tup8, lst12, tup12, lst16, tup16, kUni, List.filter_nil, List.filter_cons, Nat.add_zero, neg_i, bin_ii, bin_cat, bin_rep, List.getElem?_cons_zero, List.getElem?_cons_succ, List.map_cons, List.map_nil, List.all_cons, List.all_nil, List.any_cons, List.any_nil, List.set_cons_zero, List.set_cons_succ,     nwOf, D.flat, ints_ok, bls_ok, if_true, if_false, Bool.false_eq_true, Bool.not_true, Bool.not_false, Bool.and_true, Bool.true_and, Bool.or_true, Bool.true_or, Bool.or_false, Bool.false_or, Bool.and_self, Bool.or_self, Bool.and_false, Bool.false_and, runD, List.length_cons, List.length_nil, List.replicate, List.map_cons, List.map_nil, execSs, execS, setT, keep_true, shut_int, shut_bl, shut_non, shut_str, shut_lst, shut_tup, shut_lst0, shut_tup0, shutL_ints, shutL_dI, shutL_nil, shutL_cons, CE.vars, CEs.vars, List.nil_append, List.cons_append, List.append_nil, keep_f, own0, own0n, ownSs, demF, List.contains_cons, List.contains_nil, Nat.reduceBEq, Nat.reduceBNe, bne_self_eq_false, Nat.reduceAdd, beq_self_eq_true, Option.map_some, Option.map_none, List.any_cons, List.any_nil, Bool.or_false, Bool.and_true, Bool.and_false, Bool.or_true]
    rw [show decide (ss.length ≤ 12) = false from decide_eq_false (by omega)]
    try simp only [e_var, e_int, e_bl, e_non, e_str, e_gcon, e_bin, e_neg, e_cmp, e_chain, e_and, e_or, e_not, e_ite, e_call, e_blt, e_isi, e_idx, e_sl, e_lst, e_tup, es_nil, es_cons, ec_nil, ec_one, eo_nil, eo_one,     Res.bind_ok, Res.bind_exc, Res.nx_ok, bool_b, okB, opt_i, callV_ok, callV_exc, bltV, len_l, len_t, sum_i, all_b, any_b, abs_i, lst_l, int_b, int_i, idx_l, idx_t, sl_l, sl_s, nwD_ints, nwD_true, nwD_nil, lst0, tup0, lst1, tup1, lst2, tup2, lst3, tup3, lst4, tup4, lst5, tup5, lst6, tup6, lst7, tup7, lst8, tup8, lst12, tup12, lst16, tup16, kUni, List.filter_nil, List.filter_cons, Nat.add_zero, neg_i, bin_ii, bin_cat, bin_rep, List.getElem?_cons_zero, List.getElem?_cons_succ, List.map_cons, List.map_nil, List.all_cons, List.all_nil, List.any_cons, List.any_nil, List.set_cons_zero, List.set_cons_succ,     nwOf, D.flat, ints_ok, bls_ok, if_true, if_false, Bool.false_eq_true, Bool.not_true, Bool.not_false, Bool.and_true, Bool.true_and, Bool.or_true, Bool.true_or, Bool.or_false, Bool.false_or, Bool.and_self, Bool.or_self, Bool.and_false, Bool.false_and]
  simp only [h3, decide_false, e_var, e_int, e_bl, e_non, e_str, e_gcon, e_bin, e_neg, e_cmp, e_chain, e_and, e_or, e_not, e_ite, e_call, e_blt, e_isi, e_idx, e_sl, e_lst, e_tup, es_nil, es_cons, ec_nil, ec_one, eo_nil, eo_one,     Res.bind_ok, Res.bind_exc, Res.nx_ok, bool_b, okB, opt_i, callV_ok, callV_exc, bltV, len_l, len_t, sum_i, all_b, any_b, abs_i, lst_l, int_b, int_i, idx_l, idx_t, sl_l, sl_s, nwD_ints, nwD_true, nwD_nil, lst0, tup0, lst1, tup1, lst2, tup2, lst3, tup3, lst4, tup4, lst5, tup5, lst6, tup6, lst7, tup7, lst8, tup8, lst12, tup12, lst16, tup16, kUni, List.filter_nil, List.filter_cons, Nat.add_zero, neg_i, bin_ii, bin_cat, bin_rep, List.getElem?_cons_zero, List.getElem?_cons_succ, List.map_cons, List.map_nil, List.all_cons, List.all_nil, List.any_cons, List.any_nil, List.set_cons_zero, List.set_cons_succ,     nwOf, D.flat, ints_ok, bls_ok, if_true, if_false, Bool.false_eq_true, Bool.not_true, Bool.not_false, Bool.and_true, Bool.true_and, Bool.or_true, Bool.true_or, Bool.or_false, Bool.false_or, Bool.and_self, Bool.or_self, Bool.and_false, Bool.false_and, runD, List.length_cons, List.length_nil, List.replicate, List.map_cons, List.map_nil, execSs, execS, setT, keep_true, shut_int, shut_bl, shut_non, shut_str, shut_lst, shut_tup, shut_lst0, shut_tup0, shutL_ints, shutL_dI, shutL_nil, shutL_cons, CE.vars, CEs.vars, List.nil_append, List.cons_append, List.append_nil, keep_f, own0, own0n, ownSs, demF, List.contains_cons, List.contains_nil, Nat.reduceBEq, Nat.reduceBNe, bne_self_eq_false, Nat.reduceAdd, beq_self_eq_true, Option.map_some, Option.map_none, List.any_cons, List.any_nil, Bool.or_false, Bool.and_true, Bool.and_false, Bool.or_true]
  rw [show decide (ss.length ≤ 12) = true from decide_eq_true (by omega)]
  rw [e_compB ss (fun s => (dI s, 0, false)) (okPl n) (it_lists (kk := 0) (by simp only [e_var, e_int, e_bl, e_non, e_str, e_gcon, e_bin, e_neg, e_cmp, e_chain, e_and, e_or, e_not, e_ite, e_call, e_blt, e_isi, e_idx, e_sl, e_lst, e_tup, es_nil, es_cons, ec_nil, ec_one, eo_nil, eo_one,     Res.bind_ok, Res.bind_exc, Res.nx_ok, bool_b, okB, opt_i, callV_ok, callV_exc, bltV, len_l, len_t, sum_i, all_b, any_b, abs_i, lst_l, int_b, int_i, idx_l, idx_t, sl_l, sl_s, nwD_ints, nwD_true, nwD_nil, lst0, tup0, lst1, tup1, lst2, tup2, lst3, tup3, lst4, tup4, lst5, tup5, lst6, tup6, lst7, tup7, lst8, tup8, lst12, tup12, lst16, tup16, kUni, List.filter_nil, List.filter_cons, Nat.add_zero, neg_i, bin_ii, bin_cat, bin_rep, List.getElem?_cons_zero, List.getElem?_cons_succ, List.map_cons, List.map_nil, List.all_cons, List.all_nil, List.any_cons, List.any_nil, List.set_cons_zero, List.set_cons_succ,     nwOf, D.flat, ints_ok, bls_ok, if_true, if_false, Bool.false_eq_true, Bool.not_true, Bool.not_false, Bool.and_true, Bool.true_and, Bool.or_true, Bool.true_or, Bool.or_false, Bool.false_or, Bool.and_self, Bool.or_self, Bool.and_false, Bool.false_and])) rfl fun s hs => ?_]
  rotate_left
  · refine ⟨_, 0, true, rfl, ?_⟩
    simp only [e_var, e_int, e_bl, e_non, e_str, e_gcon, e_bin, e_neg, e_cmp, e_chain, e_and, e_or, e_not, e_ite, e_call, e_blt, e_isi, e_idx, e_sl, e_lst, e_tup, es_nil, es_cons, ec_nil, ec_one, eo_nil, eo_one,     Res.bind_ok, Res.bind_exc, Res.nx_ok, bool_b, okB, opt_i, callV_ok, callV_exc, bltV, len_l, len_t, sum_i, all_b, any_b, abs_i, lst_l, int_b, int_i, idx_l, idx_t, sl_l, sl_s, nwD_ints, nwD_true, nwD_nil, lst0, tup0, lst1, tup1, lst2, tup2, lst3, tup3, lst4, tup4, lst5, tup5, lst6, tup6, lst7, tup7, lst8, tup8, lst12, tup12, lst16, tup16, kUni, List.filter_nil, List.filter_cons, Nat.add_zero, neg_i, bin_ii, bin_cat, bin_rep, List.getElem?_cons_zero, List.getElem?_cons_succ, List.map_cons, List.map_nil, List.all_cons, List.all_nil, List.any_cons, List.any_nil, List.set_cons_zero, List.set_cons_succ,     nwOf, D.flat, ints_ok, bls_ok, if_true, if_false, Bool.false_eq_true, Bool.not_true, Bool.not_false, Bool.and_true, Bool.true_and, Bool.or_true, Bool.true_or, Bool.or_false, Bool.false_or, Bool.and_self, Bool.or_self, Bool.and_false, Bool.false_and, atD0, r_places hp]
  simp only [e_var, e_int, e_bl, e_non, e_str, e_gcon, e_bin, e_neg, e_cmp, e_chain, e_and, e_or, e_not, e_ite, e_call, e_blt, e_isi, e_idx, e_sl, e_lst, e_tup, es_nil, es_cons, ec_nil, ec_one, eo_nil, eo_one,     Res.bind_ok, Res.bind_exc, Res.nx_ok, bool_b, okB, opt_i, callV_ok, callV_exc, bltV, len_l, len_t, sum_i, all_b, any_b, abs_i, lst_l, int_b, int_i, idx_l, idx_t, sl_l, sl_s, nwD_ints, nwD_true, nwD_nil, lst0, tup0, lst1, tup1, lst2, tup2, lst3, tup3, lst4, tup4, lst5, tup5, lst6, tup6, lst7, tup7, lst8, tup8, lst12, tup12, lst16, tup16, kUni, List.filter_nil, List.filter_cons, Nat.add_zero, neg_i, bin_ii, bin_cat, bin_rep, List.getElem?_cons_zero, List.getElem?_cons_succ, List.map_cons, List.map_nil, List.all_cons, List.all_nil, List.any_cons, List.any_nil, List.set_cons_zero, List.set_cons_succ,     nwOf, D.flat, ints_ok, bls_ok, if_true, if_false, Bool.false_eq_true, Bool.not_true, Bool.not_false, Bool.and_true, Bool.true_and, Bool.or_true, Bool.true_or, Bool.or_false, Bool.false_or, Bool.and_self, Bool.or_self, Bool.and_false, Bool.false_and]
  cases h4 : (ss.map (okPl n)).all id with
  | false => simp only [e_var, e_int, e_bl, e_non, e_str, e_gcon, e_bin, e_neg, e_cmp, e_chain, e_and, e_or, e_not, e_ite, e_call, e_blt, e_isi, e_idx, e_sl, e_lst, e_tup, es_nil, es_cons, ec_nil, ec_one, eo_nil, eo_one,     Res.bind_ok, Res.bind_exc, Res.nx_ok, bool_b, okB, opt_i, callV_ok, callV_exc, bltV, len_l, len_t, sum_i, all_b, any_b, abs_i, lst_l, int_b, int_i, idx_l, idx_t, sl_l, sl_s, nwD_ints, nwD_true, nwD_nil, lst0, tup0, lst1, tup1, lst2, tup2, lst3, tup3, lst4, tup4, lst5, tup5, lst6, tup6, lst7, tup7, lst8, tup8, lst12, tup12, lst16, tup16, kUni, List.filter_nil, List.filter_cons, Nat.add_zero, neg_i, bin_ii, bin_cat, bin_rep, List.getElem?_cons_zero, List.getElem?_cons_succ, List.map_cons, List.map_nil, List.all_cons, List.all_nil, List.any_cons, List.any_nil, List.set_cons_zero, List.set_cons_succ,     nwOf, D.flat, ints_ok, bls_ok, if_true, if_false, Bool.false_eq_true, Bool.not_true, Bool.not_false, Bool.and_true, Bool.true_and, Bool.or_true, Bool.true_or, Bool.or_false, Bool.false_or, Bool.and_self, Bool.or_self, Bool.and_false, Bool.false_and, runD, List.length_cons, List.length_nil, List.replicate, List.map_cons, List.map_nil, execSs, execS, setT, keep_true, shut_int, shut_bl, shut_non, shut_str, shut_lst, shut_tup, shut_lst0, shut_tup0, shutL_ints, shutL_dI, shutL_nil, shutL_cons, CE.vars, CEs.vars, List.nil_append, List.cons_append, List.append_nil, keep_f, own0, own0n, ownSs, demF, List.contains_cons, List.contains_nil, Nat.reduceBEq, Nat.reduceBNe, bne_self_eq_false, Nat.reduceAdd, beq_self_eq_true, Option.map_some, Option.map_none, List.any_cons, List.any_nil, Bool.or_false, Bool.and_true, Bool.and_false, Bool.or_true]
  | true => simp only [e_var, e_int, e_bl, e_non, e_str, e_gcon, e_bin, e_neg, e_cmp, e_chain, e_and, e_or, e_not, e_ite, e_call, e_blt, e_isi, e_idx, e_sl, e_lst, e_tup, es_nil, es_cons, ec_nil, ec_one, eo_nil, eo_one,     Res.bind_ok, Res.bind_exc, Res.nx_ok, bool_b, okB, opt_i, callV_ok, callV_exc, bltV, len_l, len_t, sum_i, all_b, any_b, abs_i, lst_l, int_b, int_i, idx_l, idx_t, sl_l, sl_s, nwD_ints, nwD_true, nwD_nil, lst0, tup0, lst1, tup1, lst2, tup2, lst3, tup3, lst4, tup4, lst5, tup5, lst6, tup6, lst7, tup7, lst8, tup8, lst12, tup12, lst16, tup16, kUni, List.filter_nil, List.filter_cons, Nat.add_zero, neg_i, bin_ii, bin_cat, bin_rep, List.getElem?_cons_zero, List.getElem?_cons_succ, List.map_cons, List.map_nil, List.all_cons, List.all_nil, List.any_cons, List.any_nil, List.set_cons_zero, List.set_cons_succ,     nwOf, D.flat, ints_ok, bls_ok, if_true, if_false, Bool.false_eq_true, Bool.not_true, Bool.not_false, Bool.and_true, Bool.true_and, Bool.or_true, Bool.true_or, Bool.or_false, Bool.false_or, Bool.and_self, Bool.or_self, Bool.and_false, Bool.false_and, runD, List.length_cons, List.length_nil, List.replicate, List.map_cons, List.map_nil, execSs, execS, setT, keep_true, shut_int, shut_bl, shut_non, shut_str, shut_lst, shut_tup, shut_lst0, shut_tup0, shutL_ints, shutL_dI, shutL_nil, shutL_cons, CE.vars, CEs.vars, List.nil_append, List.cons_append, List.append_nil, keep_f, own0, own0n, ownSs, demF, List.contains_cons, List.contains_nil, Nat.reduceBEq, Nat.reduceBNe, bne_self_eq_false, Nat.reduceAdd, beq_self_eq_true, Option.map_some, Option.map_none, List.any_cons, List.any_nil, Bool.or_false, Bool.and_true, Bool.and_false, Bool.or_true]
def colOk (n : Int) (cs : List Int) : Bool := decide ((cs.length : Int) = n) && (cs.map fun c => decide (c = 1) || decide (c = -1)).all id
theorem r_checkCol (hp : Ext pPkg p) {k : Nat} {n : Int} {ss : List (List Int)} {cs : List Int} : runP glT fu p (k + 2) "check_colours" [dFam n ss, dI cs] = if colOk n cs then .ok (.non, 0, true) else .exc "BadColours" := by
  rw [runP_eq (hp "check_colours" f_check_colours (by kernel_rfl)) rfl]
  simp only [f_check_colours, runD, List.length_cons, List.length_nil, List.replicate, List.map_cons, List.map_nil, execSs, execS, setT, keep_true, shut_int, shut_bl, shut_non, shut_str, shut_lst, shut_tup, shut_lst0, shut_tup0, shutL_ints, shutL_dI, shutL_nil, shutL_cons, CE.vars, CEs.vars, List.nil_append, List.cons_append, List.append_nil, keep_f, own0, own0n, ownSs, demF, List.contains_cons, List.contains_nil, Nat.reduceBEq, Nat.reduceBNe, bne_self_eq_false, Nat.reduceAdd, beq_self_eq_true, Option.map_some, Option.map_none, List.any_cons, List.any_nil, Bool.or_false, Bool.and_true, Bool.and_false, Bool.or_true, e_var, e_int, e_bl, e_non, e_str, e_gcon, e_bin, e_neg, e_cmp, e_chain, e_and, e_or, e_not, e_ite, e_call, e_blt, e_isi, e_idx, e_sl, e_lst, e_tup, es_nil, es_cons, ec_nil, ec_one, eo_nil, eo_one,     Res.bind_ok, Res.bind_exc, Res.nx_ok, bool_b, okB, opt_i, callV_ok, callV_exc, bltV, len_l, len_t, sum_i, all_b, any_b, abs_i, lst_l, int_b, int_i, idx_l, idx_t, sl_l, sl_s, nwD_ints, nwD_true, nwD_nil, lst0, tup0, lst1, tup1, lst2, tup2, lst3, tup3, lst4, tup4, lst5, tup5, lst6, tup6, lst7, tup7, lst8, tup8, lst12, tup12, lst16, tup16, kUni, List.filter_nil, List.filter_cons, Nat.add_zero, neg_i, bin_ii, bin_cat, bin_rep, List.getElem?_cons_zero, List.getElem?_cons_succ, List.map_cons, List.map_nil, List.all_cons, List.all_nil, List.any_cons, List.any_nil, List.set_cons_zero, List.set_cons_succ,     nwOf, D.flat, ints_ok, bls_ok, if_true, if_false, Bool.false_eq_true, Bool.not_true, Bool.not_false, Bool.and_true, Bool.true_and, Bool.or_true, Bool.true_or, Bool.or_false, Bool.false_or, Bool.and_self, Bool.or_self, Bool.and_false, Bool.false_and, isiD, atD0, atD1, cmp_ne, py_int, eqD_int, List.length_map, colOk]
  by_cases h1 : (cs.length : Int) = n
  rotate_left
  · simp only [h1, decide_false, e_var, e_int, e_bl, e_non, e_str, e_gcon, e_bin, e_neg, e_cmp, e_chain, e_and, e_or, e_not, e_ite, e_call, e_blt, e_isi, e_idx, e_sl, e_lst, e_tup, es_nil, es_cons, ec_nil, ec_one, eo_nil, eo_one,     Res.bind_ok, Res.bind_exc, Res.nx_ok, bool_b, okB, opt_i, callV_ok, callV_exc, bltV, len_l, len_t, sum_i, all_b, any_b, abs_i, lst_l, int_b, int_i, idx_l, idx_t, sl_l, sl_s, nwD_ints, nwD_true, nwD_nil, lst0, tup0, lst1, tup1, lst2, tup2, lst3, tup3, lst4, tup4, lst5, tup5, lst6, tup6, lst7, tup7, lst8, tup8, lst12, tup12, lst16, tup16, kUni, List.filter_nil, List.filter_cons, Nat.add_zero, neg_i, bin_ii, bin_cat, bin_rep, List.getElem?_cons_zero, List.getElem?_cons_succ, List.map_cons, List.map_nil, List.all_cons, List.all_nil, List.any_cons, List.any_nil, List.set_cons_zero, List.set_cons_succ,     nwOf, D.flat, ints_ok, bls_ok, if_true, if_false, Bool.false_eq_true, Bool.not_true, Bool.not_false, Bool.and_true, Bool.true_and, Bool.or_true, Bool.true_or, Bool.or_false, Bool.false_or, Bool.and_self, Bool.or_self, Bool.and_false, Bool.false_and, runD, List.length_cons, List.length_nil, List.replicate, List.map_cons, List.map_nil, execSs, execS, setT, keep_true, shut_int, shut_bl, shut_non, shut_str, shut_lst, shut_tup, shut_lst0, shut_tup0, shutL_ints, shutL_dI, shutL_nil, shutL_cons, CE.vars, CEs.vars, List.nil_append, List.cons_append, List.append_nil, keep_f, own0, own0n, ownSs, demF, List.contains_cons, List.contains_nil, Nat.reduceBEq, Nat.reduceBNe, bne_self_eq_false, Nat.reduceAdd, beq_self_eq_true, Option.map_some, Option.map_none, List.any_cons, List.any_nil, Bool.or_false, Bool.and_true, Bool.and_false, Bool.or_true]
  simp only [h1, decide_true, e_var, e_int, e_bl, e_non, e_str, e_gcon, e_bin, e_neg, e_cmp, e_chain, e_and, e_or, e_not, e_ite, e_call, e_blt, e_isi, e_idx, e_sl, e_lst, e_tup, es_nil, es_cons, ec_nil, ec_one, eo_nil, eo_one,     Res.bind_ok, Res.bind_exc, Res.nx_ok, bool_b, okB, opt_i, callV_ok, callV_exc, bltV, len_l, len_t, sum_i, all_b, any_b, abs_i, lst_l, int_b, int_i, idx_l, idx_t, sl_l, sl_s, nwD_ints, nwD_true, nwD_nil, lst0, tup0, lst1, tup1, lst2, tup2, lst3, tup3, lst4, tup4, lst5, tup5, lst6, tup6, lst7, tup7, lst8, tup8, lst12, tup12, lst16, tup16, kUni, List.filter_nil, List.filter_cons, Nat.add_zero, neg_i, bin_ii, bin_cat, bin_rep, List.getElem?_cons_zero, List.getElem?_cons_succ, List.map_cons, List.map_nil, List.all_cons, List.all_nil, List.any_cons, List.any_nil, List.set_cons_zero, List.set_cons_succ,     nwOf, D.flat, ints_ok, bls_ok, if_true, if_false, Bool.false_eq_true, Bool.not_true, Bool.not_false, Bool.and_true, Bool.true_and, Bool.or_true, Bool.true_or, Bool.or_false, Bool.false_or, Bool.and_self, Bool.or_self, Bool.and_false, Bool.false_and, runD, List.length_cons, List.length_nil, List.replicate, List.map_cons, List.map_nil, execSs, execS, setT, keep_true, shut_int, shut_bl, shut_non, shut_str, shut_lst, shut_tup, shut_lst0, shut_tup0, shutL_ints, shutL_dI, shutL_nil, shutL_cons, CE.vars, CEs.vars, List.nil_append, List.cons_append, List.append_nil, keep_f, own0, own0n, ownSs, demF, List.contains_cons, List.contains_nil, Nat.reduceBEq, Nat.reduceBNe, bne_self_eq_false, Nat.reduceAdd, beq_self_eq_true, Option.map_some, Option.map_none, List.any_cons, List.any_nil, Bool.or_false, Bool.and_true, Bool.and_false, Bool.or_true]
  rw [e_compB cs (fun i => (.int i, 0, false)) (fun c => decide (c = 1) || decide (c = -1)) (it_ints (kk := 0) (by simp only [e_var, e_int, e_bl, e_non, e_str, e_gcon, e_bin, e_neg, e_cmp, e_chain, e_and, e_or, e_not, e_ite, e_call, e_blt, e_isi, e_idx, e_sl, e_lst, e_tup, es_nil, es_cons, ec_nil, ec_one, eo_nil, eo_one,     Res.bind_ok, Res.bind_exc, Res.nx_ok, bool_b, okB, opt_i, callV_ok, callV_exc, bltV, len_l, len_t, sum_i, all_b, any_b, abs_i, lst_l, int_b, int_i, idx_l, idx_t, sl_l, sl_s, nwD_ints, nwD_true, nwD_nil, lst0, tup0, lst1, tup1, lst2, tup2, lst3, tup3, lst4, tup4, lst5, tup5, lst6, tup6, lst7, tup7, lst8, tup8, lst12, tup12, lst16, tup16, kUni, List.filter_nil, List.filter_cons, Nat.add_zero, neg_i, bin_ii, bin_cat, bin_rep, List.getElem?_cons_zero, List.getElem?_cons_succ, List.map_cons, List.map_nil, List.all_cons, List.all_nil, List.any_cons, List.any_nil, List.set_cons_zero, List.set_cons_succ,     nwOf, D.flat, ints_ok, bls_ok, if_true, if_false, Bool.false_eq_true, Bool.not_true, Bool.not_false, Bool.and_true, Bool.true_and, Bool.or_true, Bool.true_or, Bool.or_false, Bool.false_or, Bool.and_self, Bool.or_self, Bool.and_false, Bool.false_and])) rfl fun i hi => ?_]
  rotate_left
  · refine ⟨_, 0, true, rfl, ?_⟩
    simp only [e_var, e_int, e_bl, e_non, e_str, e_gcon, e_bin, e_neg, e_cmp, e_chain, e_and, e_or, e_not, e_ite, e_call, e_blt, e_isi, e_idx, e_sl, e_lst, e_tup, es_nil, es_cons, ec_nil, ec_one, eo_nil, eo_one,     Res.bind_ok, Res.bind_exc, Res.nx_ok, bool_b, okB, opt_i, callV_ok, callV_exc, bltV, len_l, len_t, sum_i, all_b, any_b, abs_i, lst_l, int_b, int_i, idx_l, idx_t, sl_l, sl_s, nwD_ints, nwD_true, nwD_nil, lst0, tup0, lst1, tup1, lst2, tup2, lst3, tup3, lst4, tup4, lst5, tup5, lst6, tup6, lst7, tup7, lst8, tup8, lst12, tup12, lst16, tup16, kUni, List.filter_nil, List.filter_cons, Nat.add_zero, neg_i, bin_ii, bin_cat, bin_rep, List.getElem?_cons_zero, List.getElem?_cons_succ, List.map_cons, List.map_nil, List.all_cons, List.all_nil, List.any_cons, List.any_nil, List.set_cons_zero, List.set_cons_succ,     nwOf, D.flat, ints_ok, bls_ok, if_true, if_false, Bool.false_eq_true, Bool.not_true, Bool.not_false, Bool.and_true, Bool.true_and, Bool.or_true, Bool.true_or, Bool.or_false, Bool.false_or, Bool.and_self, Bool.or_self, Bool.and_false, Bool.false_and, r_whole hp, cmp_inT]
  simp only [e_var, e_int, e_bl, e_non, e_str, e_gcon, e_bin, e_neg, e_cmp, e_chain, e_and, e_or, e_not, e_ite, e_call, e_blt, e_isi, e_idx, e_sl, e_lst, e_tup, es_nil, es_cons, ec_nil, ec_one, eo_nil, eo_one,     Res.bind_ok, Res.bind_exc, Res.nx_ok, bool_b, okB, opt_i, callV_ok, callV_exc, bltV, len_l, len_t, sum_i, all_b, any_b, abs_i, lst_l, int_b, int_i, idx_l, idx_t, sl_l, sl_s, nwD_ints, nwD_true, nwD_nil, lst0, tup0, lst1, tup1, lst2, tup2, lst3, tup3, lst4, tup4, lst5, tup5, lst6, tup6, lst7, tup7, lst8, tup8, lst12, tup12, lst16, tup16, kUni, List.filter_nil, List.filter_cons, Nat.add_zero, neg_i, bin_ii, bin_cat, bin_rep, List.getElem?_cons_zero, List.getElem?_cons_succ, List.map_cons, List.map_nil, List.all_cons, List.all_nil, List.any_cons, List.any_nil, List.set_cons_zero, List.set_cons_succ,     nwOf, D.flat, ints_ok, bls_ok, if_true, if_false, Bool.false_eq_true, Bool.not_true, Bool.not_false, Bool.and_true, Bool.true_and, Bool.or_true, Bool.true_or, Bool.or_false, Bool.false_or, Bool.and_self, Bool.or_self, Bool.and_false, Bool.false_and]
  cases h4 : (cs.map fun c => decide (c = 1) || decide (c = -1)).all id with
  | false => simp only [e_var, e_int, e_bl, e_non, e_str, e_gcon, e_bin, e_neg, e_cmp, e_chain, e_and, e_or, e_not, e_ite, e_call, e_blt, e_isi, e_idx, e_sl, e_lst, e_tup, es_nil, es_cons, ec_nil, ec_one, eo_nil, eo_one,     Res.bind_ok, Res.bind_exc, Res.nx_ok, bool_b, okB, opt_i, callV_ok, callV_exc, bltV, len_l, len_t, sum_i, all_b, any_b, abs_i, lst_l, int_b, int_i, idx_l, idx_t, sl_l, sl_s, nwD_ints, nwD_true, nwD_nil, lst0, tup0, lst1, tup1, lst2, tup2, lst3, tup3, lst4, tup4, lst5, tup5, lst6, tup6, lst7, tup7, lst8, tup8, lst12, tup12, lst16, tup16, kUni, List.filter_nil, List.filter_cons, Nat.add_zero, neg_i, bin_ii, bin_cat, bin_rep, List.getElem?_cons_zero, List.getElem?_cons_succ, List.map_cons, List.map_nil, List.all_cons, List.all_nil, List.any_cons, List.any_nil, List.set_cons_zero, List.set_cons_succ,     nwOf, D.flat, ints_ok, bls_ok, if_true, if_false, Bool.false_eq_true, Bool.not_true, Bool.not_false, Bool.and_true, Bool.true_and, Bool.or_true, Bool.true_or, Bool.or_false, Bool.false_or, Bool.and_self, Bool.or_self, Bool.and_false, Bool.false_and, runD, List.length_cons, List.length_nil, List.replicate, List.map_cons, List.map_nil, execSs, execS, setT, keep_true, shut_int, shut_bl, shut_non, shut_str, shut_lst, shut_tup, shut_lst0, shut_tup0, shutL_ints, shutL_dI, shutL_nil, shutL_cons, CE.vars, CEs.vars, List.nil_append, List.cons_append, List.append_nil, keep_f, own0, own0n, ownSs, demF, List.contains_cons, List.contains_nil, Nat.reduceBEq, Nat.reduceBNe, bne_self_eq_false, Nat.reduceAdd, beq_self_eq_true, Option.map_some, Option.map_none, List.any_cons, List.any_nil, Bool.or_false, Bool.and_true, Bool.and_false, Bool.or_true]
  | true => simp only [e_var, e_int, e_bl, e_non, e_str, e_gcon, e_bin, e_neg, e_cmp, e_chain, e_and, e_or, e_not, e_ite, e_call, e_blt, e_isi, e_idx, e_sl, e_lst, e_tup, es_nil, es_cons, ec_nil, ec_one, eo_nil, eo_one,     Res.bind_ok, Res.bind_exc, Res.nx_ok, bool_b, okB, opt_i, callV_ok, callV_exc, bltV, len_l, len_t, sum_i, all_b, any_b, abs_i, lst_l, int_b, int_i, idx_l, idx_t, sl_l, sl_s, nwD_ints, nwD_true, nwD_nil, lst0, tup0, lst1, tup1, lst2, tup2, lst3, tup3, lst4, tup4, lst5, tup5, lst6, tup6, lst7, tup7, lst8, tup8, lst12, tup12, lst16, tup16, kUni, List.filter_nil, List.filter_cons, Nat.add_zero, neg_i, bin_ii, bin_cat, bin_rep, List.getElem?_cons_zero, List.getElem?_cons_succ, List.map_cons, List.map_nil, List.all_cons, List.all_nil, List.any_cons, List.any_nil, List.set_cons_zero, List.set_cons_succ,     nwOf, D.flat, ints_ok, bls_ok, if_true, if_false, Bool.false_eq_true, Bool.not_true, Bool.not_false, Bool.and_true, Bool.true_and, Bool.or_true, Bool.true_or, Bool.or_false, Bool.false_or, Bool.and_self, Bool.or_self, Bool.and_false, Bool.false_and, runD, List.length_cons, List.length_nil, List.replicate, List.map_cons, List.map_nil, execSs, execS, setT, keep_true, shut_int, shut_bl, shut_non, shut_str, shut_lst, shut_tup, shut_lst0, shut_tup0, shutL_ints, shutL_dI, shutL_nil, shutL_cons, CE.vars, CEs.vars, List.nil_append, List.cons_append, List.append_nil, keep_f, own0, own0n, ownSs, demF, List.contains_cons, List.contains_nil, Nat.reduceBEq, Nat.reduceBNe, bne_self_eq_false, Nat.reduceAdd, beq_self_eq_true, Option.map_some, Option.map_none, List.any_cons, List.any_nil, Bool.or_false, Bool.and_true, Bool.and_false, Bool.or_true]
/-! ### sums, uneven, crowd -/
def sumsOf (ss : List (List Int)) (row : List Int) : List Int := ss.map fun s => (s.map (atR row)).sum
def inRow (ss : List (List Int)) (n : Int) : Prop := ∀ s ∈ ss, ∀ i ∈ s, 0 ≤ i ∧ i < n
theorem r_sums_of (hp : Ext pPkg p) {k : Nat} {n : Int} {ss : List (List Int)} {row : List Int} (h : inRow ss row.length) :
    runP glT fu p (k + 1) "sums_of" [dFam n ss, dI row] = .ok (dI (sumsOf ss row), 1, true) := by
  rw [runP_eq (hp "sums_of" f_sums_of (by kernel_rfl)) rfl]
  simp only [f_sums_of, runD, List.length_cons, List.length_nil, List.replicate, List.map_cons, List.map_nil, execSs, execS, setT, keep_true, shut_int, shut_bl, shut_non, shut_str, shut_lst, shut_tup, shut_lst0, shut_tup0, shutL_ints, shutL_dI, shutL_nil, shutL_cons, CE.vars, CEs.vars, List.nil_append, List.cons_append, List.append_nil, keep_f, own0, own0n, ownSs, demF, List.contains_cons, List.contains_nil, Nat.reduceBEq, Nat.reduceBNe, bne_self_eq_false, Nat.reduceAdd, beq_self_eq_true, Option.map_some, Option.map_none, List.any_cons, List.any_nil, Bool.or_false, Bool.and_true, Bool.and_false, Bool.or_true]
  rw [e_compI ss (fun s => (dI s, 0, false)) (fun s => (s.map (atR row)).sum) (it_lists (kk := 0) (by simp only [e_var, e_int, e_bl, e_non, e_str, e_gcon, e_bin, e_neg, e_cmp, e_chain, e_and, e_or, e_not, e_ite, e_call, e_blt, e_isi, e_idx, e_sl, e_lst, e_tup, es_nil, es_cons, ec_nil, ec_one, eo_nil, eo_one,     Res.bind_ok, Res.bind_exc, Res.nx_ok, bool_b, okB, opt_i, callV_ok, callV_exc, bltV, len_l, len_t, sum_i, all_b, any_b, abs_i, lst_l, int_b, int_i, idx_l, idx_t, sl_l, sl_s, nwD_ints, nwD_true, nwD_nil, lst0, tup0, lst1, tup1, lst2, tup2, lst3, tup3, lst4, tup4, lst5, tup5, lst6, tup6, lst7, tup7, lst8, tup8, lst12, tup12, lst16, tup16, kUni, List.filter_nil, List.filter_cons, Nat.add_zero, neg_i, bin_ii, bin_cat, bin_rep, List.getElem?_cons_zero, List.getElem?_cons_succ, List.map_cons, List.map_nil, List.all_cons, List.all_nil, List.any_cons, List.any_nil, List.set_cons_zero, List.set_cons_succ,     nwOf, D.flat, ints_ok, bls_ok, if_true, if_false, Bool.false_eq_true, Bool.not_true, Bool.not_false, Bool.and_true, Bool.true_and, Bool.or_true, Bool.true_or, Bool.or_false, Bool.false_or, Bool.and_self, Bool.or_self, Bool.and_false, Bool.false_and, atD1])) rfl fun s hs => ?_]
  · rfl
  · refine ⟨_, 0, true, rfl, ?_⟩
    simp only [e_var, e_int, e_bl, e_non, e_str, e_gcon, e_bin, e_neg, e_cmp, e_chain, e_and, e_or, e_not, e_ite, e_call, e_blt, e_isi, e_idx, e_sl, e_lst, e_tup, es_nil, es_cons, ec_nil, ec_one, eo_nil, eo_one,     Res.bind_ok, Res.bind_exc, Res.nx_ok, bool_b, okB, opt_i, callV_ok, callV_exc, bltV, len_l, len_t, sum_i, all_b, any_b, abs_i, lst_l, int_b, int_i, idx_l, idx_t, sl_l, sl_s, nwD_ints, nwD_true, nwD_nil, lst0, tup0, lst1, tup1, lst2, tup2, lst3, tup3, lst4, tup4, lst5, tup5, lst6, tup6, lst7, tup7, lst8, tup8, lst12, tup12, lst16, tup16, kUni, List.filter_nil, List.filter_cons, Nat.add_zero, neg_i, bin_ii, bin_cat, bin_rep, List.getElem?_cons_zero, List.getElem?_cons_succ, List.map_cons, List.map_nil, List.all_cons, List.all_nil, List.any_cons, List.any_nil, List.set_cons_zero, List.set_cons_succ,     nwOf, D.flat, ints_ok, bls_ok, if_true, if_false, Bool.false_eq_true, Bool.not_true, Bool.not_false, Bool.and_true, Bool.true_and, Bool.or_true, Bool.true_or, Bool.or_false, Bool.false_or, Bool.and_self, Bool.or_self, Bool.and_false, Bool.false_and]
    rw [e_compI s (fun i => (.int i, 0, false)) (atR row) (it_ints (kk := 0) (by simp only [e_var, e_int, e_bl, e_non, e_str, e_gcon, e_bin, e_neg, e_cmp, e_chain, e_and, e_or, e_not, e_ite, e_call, e_blt, e_isi, e_idx, e_sl, e_lst, e_tup, es_nil, es_cons, ec_nil, ec_one, eo_nil, eo_one,     Res.bind_ok, Res.bind_exc, Res.nx_ok, bool_b, okB, opt_i, callV_ok, callV_exc, bltV, len_l, len_t, sum_i, all_b, any_b, abs_i, lst_l, int_b, int_i, idx_l, idx_t, sl_l, sl_s, nwD_ints, nwD_true, nwD_nil, lst0, tup0, lst1, tup1, lst2, tup2, lst3, tup3, lst4, tup4, lst5, tup5, lst6, tup6, lst7, tup7, lst8, tup8, lst12, tup12, lst16, tup16, kUni, List.filter_nil, List.filter_cons, Nat.add_zero, neg_i, bin_ii, bin_cat, bin_rep, List.getElem?_cons_zero, List.getElem?_cons_succ, List.map_cons, List.map_nil, List.all_cons, List.all_nil, List.any_cons, List.any_nil, List.set_cons_zero, List.set_cons_succ,     nwOf, D.flat, ints_ok, bls_ok, if_true, if_false, Bool.false_eq_true, Bool.not_true, Bool.not_false, Bool.and_true, Bool.true_and, Bool.or_true, Bool.true_or, Bool.or_false, Bool.false_or, Bool.and_self, Bool.or_self, Bool.and_false, Bool.false_and])) rfl fun i hi => ?_]
    · simp only [e_var, e_int, e_bl, e_non, e_str, e_gcon, e_bin, e_neg, e_cmp, e_chain, e_and, e_or, e_not, e_ite, e_call, e_blt, e_isi, e_idx, e_sl, e_lst, e_tup, es_nil, es_cons, ec_nil, ec_one, eo_nil, eo_one,     Res.bind_ok, Res.bind_exc, Res.nx_ok, bool_b, okB, opt_i, callV_ok, callV_exc, bltV, len_l, len_t, sum_i, all_b, any_b, abs_i, lst_l, int_b, int_i, idx_l, idx_t, sl_l, sl_s, nwD_ints, nwD_true, nwD_nil, lst0, tup0, lst1, tup1, lst2, tup2, lst3, tup3, lst4, tup4, lst5, tup5, lst6, tup6, lst7, tup7, lst8, tup8, lst12, tup12, lst16, tup16, kUni, List.filter_nil, List.filter_cons, Nat.add_zero, neg_i, bin_ii, bin_cat, bin_rep, List.getElem?_cons_zero, List.getElem?_cons_succ, List.map_cons, List.map_nil, List.all_cons, List.all_nil, List.any_cons, List.any_nil, List.set_cons_zero, List.set_cons_succ,     nwOf, D.flat, ints_ok, bls_ok, if_true, if_false, Bool.false_eq_true, Bool.not_true, Bool.not_false, Bool.and_true, Bool.true_and, Bool.or_true, Bool.true_or, Bool.or_false, Bool.false_or, Bool.and_self, Bool.or_self, Bool.and_false, Bool.false_and]
    · obtain ⟨h0, h1⟩ := h s hs i hi
      refine ⟨_, 0, false, rfl, ?_⟩
      simp only [e_var, e_int, e_bl, e_non, e_str, e_gcon, e_bin, e_neg, e_cmp, e_chain, e_and, e_or, e_not, e_ite, e_call, e_blt, e_isi, e_idx, e_sl, e_lst, e_tup, es_nil, es_cons, ec_nil, ec_one, eo_nil, eo_one,     Res.bind_ok, Res.bind_exc, Res.nx_ok, bool_b, okB, opt_i, callV_ok, callV_exc, bltV, len_l, len_t, sum_i, all_b, any_b, abs_i, lst_l, int_b, int_i, idx_l, idx_t, sl_l, sl_s, nwD_ints, nwD_true, nwD_nil, lst0, tup0, lst1, tup1, lst2, tup2, lst3, tup3, lst4, tup4, lst5, tup5, lst6, tup6, lst7, tup7, lst8, tup8, lst12, tup12, lst16, tup16, kUni, List.filter_nil, List.filter_cons, Nat.add_zero, neg_i, bin_ii, bin_cat, bin_rep, List.getElem?_cons_zero, List.getElem?_cons_succ, List.map_cons, List.map_nil, List.all_cons, List.all_nil, List.any_cons, List.any_nil, List.set_cons_zero, List.set_cons_succ,     nwOf, D.flat, ints_ok, bls_ok, if_true, if_false, Bool.false_eq_true, Bool.not_true, Bool.not_false, Bool.and_true, Bool.true_and, Bool.or_true, Bool.true_or, Bool.or_false, Bool.false_or, Bool.and_self, Bool.or_self, Bool.and_false, Bool.false_and, atD_int h0 h1]
theorem fam_in {most n : Int} {ss : List (List Int)} (h : famOk most n ss = true) : inRow ss n ∧ 1 ≤ n ∧ n ≤ most ∧ ss.length ≤ 12 := by
  unfold famOk at h
  simp only [Bool.and_eq_true, decide_eq_true_eq, List.all_map, List.all_eq_true, Function.comp_apply, id_eq] at h
  obtain ⟨⟨⟨h1, h2⟩, h3⟩, h4⟩ := h
  refine ⟨fun s hs i hi => ?_, h1, h2, h3⟩
  have := h4 s hs
  unfold okPl at this
  simp only [Bool.and_eq_true, List.all_map, List.all_eq_true, Function.comp_apply, id_eq, decide_eq_true_eq] at this
  exact this.1.2 i hi
theorem col_len {n : Int} {cs : List Int} (h : colOk n cs = true) : (cs.length : Int) = n ∧ ∀ c ∈ cs, c = 1 ∨ c = -1 := by
  unfold colOk at h
  simp only [Bool.and_eq_true, decide_eq_true_eq, List.all_map, List.all_eq_true, Function.comp_apply, id_eq, Bool.or_eq_true] at h
  exact h
theorem r_sums (hp : Ext pPkg p) {k : Nat} {n : Int} {ss : List (List Int)} {cs : List Int} (h1 : famOk 20 n ss = true) (h2 : colOk n cs = true) :
    runP glT fu p (k + 4) "sums" [dFam n ss, dI cs] = .ok (dI (sumsOf ss cs), 1, true) := by
  rw [runP_eq (hp "sums" f_sums (by kernel_rfl)) rfl]
  simp only [f_sums, runD, List.length_cons, List.length_nil, List.replicate, List.map_cons, List.map_nil, execSs, execS, setT, keep_true, shut_int, shut_bl, shut_non, shut_str, shut_lst, shut_tup, shut_lst0, shut_tup0, shutL_ints, shutL_dI, shutL_nil, shutL_cons, CE.vars, CEs.vars, List.nil_append, List.cons_append, List.append_nil, keep_f, own0, own0n, ownSs, demF, List.contains_cons, List.contains_nil, Nat.reduceBEq, Nat.reduceBNe, bne_self_eq_false, Nat.reduceAdd, beq_self_eq_true, Option.map_some, Option.map_none, List.any_cons, List.any_nil, Bool.or_false, Bool.and_true, Bool.and_false, Bool.or_true, e_var, e_int, e_bl, e_non, e_str, e_gcon, e_bin, e_neg, e_cmp, e_chain, e_and, e_or, e_not, e_ite, e_call, e_blt, e_isi, e_idx, e_sl, e_lst, e_tup, es_nil, es_cons, ec_nil, ec_one, eo_nil, eo_one,     Res.bind_ok, Res.bind_exc, Res.nx_ok, bool_b, okB, opt_i, callV_ok, callV_exc, bltV, len_l, len_t, sum_i, all_b, any_b, abs_i, lst_l, int_b, int_i, idx_l, idx_t, sl_l, sl_s, nwD_ints, nwD_true, nwD_nil, lst0, tup0, lst1, tup1, lst2, tup2, lst3, tup3, lst4, tup4, lst5, tup5, lst6, tup6, lst7, tup7, lst8, tup8, lst12, tup12, lst16, tup16, kUni, List.filter_nil, List.filter_cons, Nat.add_zero, neg_i, bin_ii, bin_cat, bin_rep, List.getElem?_cons_zero, List.getElem?_cons_succ, List.map_cons, List.map_nil, List.all_cons, List.all_nil, List.any_cons, List.any_nil, List.set_cons_zero, List.set_cons_succ,     nwOf, D.flat, ints_ok, bls_ok, if_true, if_false, Bool.false_eq_true, Bool.not_true, Bool.not_false, Bool.and_true, Bool.true_and, Bool.or_true, Bool.true_or, Bool.or_false, Bool.false_or, Bool.and_self, Bool.or_self, Bool.and_false, Bool.false_and, gl_most, r_checkFam hp, h1, r_checkCol hp, h2]
  rw [r_sums_of hp (by rw [(col_len h2).1]; exact (fam_in h1).1)]
  simp only [e_var, e_int, e_bl, e_non, e_str, e_gcon, e_bin, e_neg, e_cmp, e_chain, e_and, e_or, e_not, e_ite, e_call, e_blt, e_isi, e_idx, e_sl, e_lst, e_tup, es_nil, es_cons, ec_nil, ec_one, eo_nil, eo_one,     Res.bind_ok, Res.bind_exc, Res.nx_ok, bool_b, okB, opt_i, callV_ok, callV_exc, bltV, len_l, len_t, sum_i, all_b, any_b, abs_i, lst_l, int_b, int_i, idx_l, idx_t, sl_l, sl_s, nwD_ints, nwD_true, nwD_nil, lst0, tup0, lst1, tup1, lst2, tup2, lst3, tup3, lst4, tup4, lst5, tup5, lst6, tup6, lst7, tup7, lst8, tup8, lst12, tup12, lst16, tup16, kUni, List.filter_nil, List.filter_cons, Nat.add_zero, neg_i, bin_ii, bin_cat, bin_rep, List.getElem?_cons_zero, List.getElem?_cons_succ, List.map_cons, List.map_nil, List.all_cons, List.all_nil, List.any_cons, List.any_nil, List.set_cons_zero, List.set_cons_succ,     nwOf, D.flat, ints_ok, bls_ok, if_true, if_false, Bool.false_eq_true, Bool.not_true, Bool.not_false, Bool.and_true, Bool.true_and, Bool.or_true, Bool.true_or, Bool.or_false, Bool.false_or, Bool.and_self, Bool.or_self, Bool.and_false, Bool.false_and]
def unevenOf (ss : List (List Int)) (cs : List Int) : Int := maxL ((sumsOf ss cs).map (fun i => if i < 0 then -i else i) ++ [0])
theorem max_nd {ns : List Int} (h : ns ≠ []) : maxV [(dI ns, 1, true)] = .ok (.int (maxL ns), 0, true) := by
  cases ns with
  | nil => exact absurd rfl h
  | cons n ns =>
    simp only [maxV, ints_ok]
theorem r_uneven_of (hp : Ext pPkg p) {k : Nat} {n : Int} {ss : List (List Int)} {cs : List Int} (h : inRow ss cs.length) (hs : ss.length ≤ 1000) :
    runP glT fu p (k + 2) "uneven_of" [dFam n ss, dI cs] = .ok (.int (unevenOf ss cs), 0, true) := by
  rw [runP_eq (hp "uneven_of" f_uneven_of (by kernel_rfl)) rfl]
  simp only [f_uneven_of, runD, List.length_cons, List.length_nil, List.replicate, List.map_cons, List.map_nil, execSs, execS, setT, keep_true, shut_int, shut_bl, shut_non, shut_str, shut_lst, shut_tup, shut_lst0, shut_tup0, shutL_ints, shutL_dI, shutL_nil, shutL_cons, CE.vars, CEs.vars, List.nil_append, List.cons_append, List.append_nil, keep_f, own0, own0n, ownSs, demF, List.contains_cons, List.contains_nil, Nat.reduceBEq, Nat.reduceBNe, bne_self_eq_false, Nat.reduceAdd, beq_self_eq_true, Option.map_some, Option.map_none, List.any_cons, List.any_nil, Bool.or_false, Bool.and_true, Bool.and_false, Bool.or_true, e_var, e_int, e_bl, e_non, e_str, e_gcon, e_bin, e_neg, e_cmp, e_chain, e_and, e_or, e_not, e_ite, e_call, e_blt, e_isi, e_idx, e_sl, e_lst, e_tup, es_nil, es_cons, ec_nil, ec_one, eo_nil, eo_one,     Res.bind_ok, Res.bind_exc, Res.nx_ok, bool_b, okB, opt_i, callV_ok, callV_exc, bltV, len_l, len_t, sum_i, all_b, any_b, abs_i, lst_l, int_b, int_i, idx_l, idx_t, sl_l, sl_s, nwD_ints, nwD_true, nwD_nil, lst0, tup0, lst1, tup1, lst2, tup2, lst3, tup3, lst4, tup4, lst5, tup5, lst6, tup6, lst7, tup7, lst8, tup8, lst12, tup12, lst16, tup16, kUni, List.filter_nil, List.filter_cons, Nat.add_zero, neg_i, bin_ii, bin_cat, bin_rep, List.getElem?_cons_zero, List.getElem?_cons_succ, List.map_cons, List.map_nil, List.all_cons, List.all_nil, List.any_cons, List.any_nil, List.set_cons_zero, List.set_cons_succ,     nwOf, D.flat, ints_ok, bls_ok, if_true, if_false, Bool.false_eq_true, Bool.not_true, Bool.not_false, Bool.and_true, Bool.true_and, Bool.or_true, Bool.true_or, Bool.or_false, Bool.false_or, Bool.and_self, Bool.or_self, Bool.and_false, Bool.false_and]
  rw [e_compI (sumsOf ss cs) (fun i => (.int i, 0, true)) (fun i => if i < 0 then -i else i) (it_ints (kk := 1) (by simp only [e_var, e_int, e_bl, e_non, e_str, e_gcon, e_bin, e_neg, e_cmp, e_chain, e_and, e_or, e_not, e_ite, e_call, e_blt, e_isi, e_idx, e_sl, e_lst, e_tup, es_nil, es_cons, ec_nil, ec_one, eo_nil, eo_one,     Res.bind_ok, Res.bind_exc, Res.nx_ok, bool_b, okB, opt_i, callV_ok, callV_exc, bltV, len_l, len_t, sum_i, all_b, any_b, abs_i, lst_l, int_b, int_i, idx_l, idx_t, sl_l, sl_s, nwD_ints, nwD_true, nwD_nil, lst0, tup0, lst1, tup1, lst2, tup2, lst3, tup3, lst4, tup4, lst5, tup5, lst6, tup6, lst7, tup7, lst8, tup8, lst12, tup12, lst16, tup16, kUni, List.filter_nil, List.filter_cons, Nat.add_zero, neg_i, bin_ii, bin_cat, bin_rep, List.getElem?_cons_zero, List.getElem?_cons_succ, List.map_cons, List.map_nil, List.all_cons, List.all_nil, List.any_cons, List.any_nil, List.set_cons_zero, List.set_cons_succ,     nwOf, D.flat, ints_ok, bls_ok, if_true, if_false, Bool.false_eq_true, Bool.not_true, Bool.not_false, Bool.and_true, Bool.true_and, Bool.or_true, Bool.true_or, Bool.or_false, Bool.false_or, Bool.and_self, Bool.or_self, Bool.and_false, Bool.false_and, r_sums_of hp h])) rfl fun i hi => ?_]
  rotate_left
  · refine ⟨_, 0, true, rfl, ?_⟩
    simp only [e_var, e_int, e_bl, e_non, e_str, e_gcon, e_bin, e_neg, e_cmp, e_chain, e_and, e_or, e_not, e_ite, e_call, e_blt, e_isi, e_idx, e_sl, e_lst, e_tup, es_nil, es_cons, ec_nil, ec_one, eo_nil, eo_one,     Res.bind_ok, Res.bind_exc, Res.nx_ok, bool_b, okB, opt_i, callV_ok, callV_exc, bltV, len_l, len_t, sum_i, all_b, any_b, abs_i, lst_l, int_b, int_i, idx_l, idx_t, sl_l, sl_s, nwD_ints, nwD_true, nwD_nil, lst0, tup0, lst1, tup1, lst2, tup2, lst3, tup3, lst4, tup4, lst5, tup5, lst6, tup6, lst7, tup7, lst8, tup8, lst12, tup12, lst16, tup16, kUni, List.filter_nil, List.filter_cons, Nat.add_zero, neg_i, bin_ii, bin_cat, bin_rep, List.getElem?_cons_zero, List.getElem?_cons_succ, List.map_cons, List.map_nil, List.all_cons, List.all_nil, List.any_cons, List.any_nil, List.set_cons_zero, List.set_cons_succ,     nwOf, D.flat, ints_ok, bls_ok, if_true, if_false, Bool.false_eq_true, Bool.not_true, Bool.not_false, Bool.and_true, Bool.true_and, Bool.or_true, Bool.true_or, Bool.or_false, Bool.false_or, Bool.and_self, Bool.or_self, Bool.and_false, Bool.false_and, TT.absV]
  simp only [e_var, e_int, e_bl, e_non, e_str, e_gcon, e_bin, e_neg, e_cmp, e_chain, e_and, e_or, e_not, e_ite, e_call, e_blt, e_isi, e_idx, e_sl, e_lst, e_tup, es_nil, es_cons, ec_nil, ec_one, eo_nil, eo_one,     Res.bind_ok, Res.bind_exc, Res.nx_ok, bool_b, okB, opt_i, callV_ok, callV_exc, bltV, len_l, len_t, sum_i, all_b, any_b, abs_i, lst_l, int_b, int_i, idx_l, idx_t, sl_l, sl_s, nwD_ints, nwD_true, nwD_nil, lst0, tup0, lst1, tup1, lst2, tup2, lst3, tup3, lst4, tup4, lst5, tup5, lst6, tup6, lst7, tup7, lst8, tup8, lst12, tup12, lst16, tup16, kUni, List.filter_nil, List.filter_cons, Nat.add_zero, neg_i, bin_ii, bin_cat, bin_rep, List.getElem?_cons_zero, List.getElem?_cons_succ, List.map_cons, List.map_nil, List.all_cons, List.all_nil, List.any_cons, List.any_nil, List.set_cons_zero, List.set_cons_succ,     nwOf, D.flat, ints_ok, bls_ok, if_true, if_false, Bool.false_eq_true, Bool.not_true, Bool.not_false, Bool.and_true, Bool.true_and, Bool.or_true, Bool.true_or, Bool.or_false, Bool.false_or, Bool.and_self, Bool.or_self, Bool.and_false, Bool.false_and, List.length_map]
  rw [if_pos (by unfold sumsOf LIM; simp; omega)]
  simp only [e_var, e_int, e_bl, e_non, e_str, e_gcon, e_bin, e_neg, e_cmp, e_chain, e_and, e_or, e_not, e_ite, e_call, e_blt, e_isi, e_idx, e_sl, e_lst, e_tup, es_nil, es_cons, ec_nil, ec_one, eo_nil, eo_one,     Res.bind_ok, Res.bind_exc, Res.nx_ok, bool_b, okB, opt_i, callV_ok, callV_exc, bltV, len_l, len_t, sum_i, all_b, any_b, abs_i, lst_l, int_b, int_i, idx_l, idx_t, sl_l, sl_s, nwD_ints, nwD_true, nwD_nil, lst0, tup0, lst1, tup1, lst2, tup2, lst3, tup3, lst4, tup4, lst5, tup5, lst6, tup6, lst7, tup7, lst8, tup8, lst12, tup12, lst16, tup16, kUni, List.filter_nil, List.filter_cons, Nat.add_zero, neg_i, bin_ii, bin_cat, bin_rep, List.getElem?_cons_zero, List.getElem?_cons_succ, List.map_cons, List.map_nil, List.all_cons, List.all_nil, List.any_cons, List.any_nil, List.set_cons_zero, List.set_cons_succ,     nwOf, D.flat, ints_ok, bls_ok, if_true, if_false, Bool.false_eq_true, Bool.not_true, Bool.not_false, Bool.and_true, Bool.true_and, Bool.or_true, Bool.true_or, Bool.or_false, Bool.false_or, Bool.and_self, Bool.or_self, Bool.and_false, Bool.false_and]
  rw [show (List.map D.int (List.map (fun i => if i < 0 then -i else i) (sumsOf ss cs)) ++ [D.int 0]) = ((sumsOf ss cs).map (fun i => if i < 0 then -i else i) ++ [0]).map D.int by simp]
  rw [max_nd (by simp)]
  rfl
theorem r_uneven (hp : Ext pPkg p) {k : Nat} {n : Int} {ss : List (List Int)} {cs : List Int} (h1 : famOk 20 n ss = true) (h2 : colOk n cs = true) :
    runP glT fu p (k + 4) "uneven" [dFam n ss, dI cs] = .ok (.int (unevenOf ss cs), 0, true) := by
  rw [runP_eq (hp "uneven" f_uneven (by kernel_rfl)) rfl]
  obtain ⟨q1, q2, q3, q4⟩ := fam_in h1
  simp only [f_uneven, runD, List.length_cons, List.length_nil, List.replicate, List.map_cons, List.map_nil, execSs, execS, setT, keep_true, shut_int, shut_bl, shut_non, shut_str, shut_lst, shut_tup, shut_lst0, shut_tup0, shutL_ints, shutL_dI, shutL_nil, shutL_cons, CE.vars, CEs.vars, List.nil_append, List.cons_append, List.append_nil, keep_f, own0, own0n, ownSs, demF, List.contains_cons, List.contains_nil, Nat.reduceBEq, Nat.reduceBNe, bne_self_eq_false, Nat.reduceAdd, beq_self_eq_true, Option.map_some, Option.map_none, List.any_cons, List.any_nil, Bool.or_false, Bool.and_true, Bool.and_false, Bool.or_true, e_var, e_int, e_bl, e_non, e_str, e_gcon, e_bin, e_neg, e_cmp, e_chain, e_and, e_or, e_not, e_ite, e_call, e_blt, e_isi, e_idx, e_sl, e_lst, e_tup, es_nil, es_cons, ec_nil, ec_one, eo_nil, eo_one,     Res.bind_ok, Res.bind_exc, Res.nx_ok, bool_b, okB, opt_i, callV_ok, callV_exc, bltV, len_l, len_t, sum_i, all_b, any_b, abs_i, lst_l, int_b, int_i, idx_l, idx_t, sl_l, sl_s, nwD_ints, nwD_true, nwD_nil, lst0, tup0, lst1, tup1, lst2, tup2, lst3, tup3, lst4, tup4, lst5, tup5, lst6, tup6, lst7, tup7, lst8, tup8, lst12, tup12, lst16, tup16, kUni, List.filter_nil, List.filter_cons, Nat.add_zero, neg_i, bin_ii, bin_cat, bin_rep, List.getElem?_cons_zero, List.getElem?_cons_succ, List.map_cons, List.map_nil, List.all_cons, List.all_nil, List.any_cons, List.any_nil, List.set_cons_zero, List.set_cons_succ,     nwOf, D.flat, ints_ok, bls_ok, if_true, if_false, Bool.false_eq_true, Bool.not_true, Bool.not_false, Bool.and_true, Bool.true_and, Bool.or_true, Bool.true_or, Bool.or_false, Bool.false_or, Bool.and_self, Bool.or_self, Bool.and_false, Bool.false_and, gl_most, r_checkFam hp, h1, r_checkCol hp, h2]
  rw [r_uneven_of hp (by rw [(col_len h2).1]; exact q1) (by omega)]
  simp only [e_var, e_int, e_bl, e_non, e_str, e_gcon, e_bin, e_neg, e_cmp, e_chain, e_and, e_or, e_not, e_ite, e_call, e_blt, e_isi, e_idx, e_sl, e_lst, e_tup, es_nil, es_cons, ec_nil, ec_one, eo_nil, eo_one,     Res.bind_ok, Res.bind_exc, Res.nx_ok, bool_b, okB, opt_i, callV_ok, callV_exc, bltV, len_l, len_t, sum_i, all_b, any_b, abs_i, lst_l, int_b, int_i, idx_l, idx_t, sl_l, sl_s, nwD_ints, nwD_true, nwD_nil, lst0, tup0, lst1, tup1, lst2, tup2, lst3, tup3, lst4, tup4, lst5, tup5, lst6, tup6, lst7, tup7, lst8, tup8, lst12, tup12, lst16, tup16, kUni, List.filter_nil, List.filter_cons, Nat.add_zero, neg_i, bin_ii, bin_cat, bin_rep, List.getElem?_cons_zero, List.getElem?_cons_succ, List.map_cons, List.map_nil, List.all_cons, List.all_nil, List.any_cons, List.any_nil, List.set_cons_zero, List.set_cons_succ,     nwOf, D.flat, ints_ok, bls_ok, if_true, if_false, Bool.false_eq_true, Bool.not_true, Bool.not_false, Bool.and_true, Bool.true_and, Bool.or_true, Bool.true_or, Bool.or_false, Bool.false_or, Bool.and_self, Bool.or_self, Bool.and_false, Bool.false_and]
def crowdOf (n : Int) (ss : List (List Int)) : Int := maxL ((upTo n).map fun i => ((ss.filter fun s => decide (i ∈ s)).length : Int))
theorem upTo_ne {n : Int} (h : 1 ≤ n) : upTo n ≠ [] := by
  unfold upTo
  have : 0 < n.toNat := by omega
  intro z
  have := congrArg List.length z
  simp at this
  omega
theorem r_crowd_of (hp : Ext pPkg p) {k : Nat} {n : Int} {ss : List (List Int)} (h1 : 1 ≤ n) (h2 : n ≤ 1000) :
    runP glT fu p (k + 1) "crowd_of" [dFam n ss] = .ok (.int (crowdOf n ss), 0, true) := by
  rw [runP_eq (hp "crowd_of" f_crowd_of (by kernel_rfl)) rfl]
  simp only [f_crowd_of, runD, List.length_cons, List.length_nil, List.replicate, List.map_cons, List.map_nil, execSs, execS, setT, keep_true, shut_int, shut_bl, shut_non, shut_str, shut_lst, shut_tup, shut_lst0, shut_tup0, shutL_ints, shutL_dI, shutL_nil, shutL_cons, CE.vars, CEs.vars, List.nil_append, List.cons_append, List.append_nil, keep_f, own0, own0n, ownSs, demF, List.contains_cons, List.contains_nil, Nat.reduceBEq, Nat.reduceBNe, bne_self_eq_false, Nat.reduceAdd, beq_self_eq_true, Option.map_some, Option.map_none, List.any_cons, List.any_nil, Bool.or_false, Bool.and_true, Bool.and_false, Bool.or_true, e_var, e_int, e_bl, e_non, e_str, e_gcon, e_bin, e_neg, e_cmp, e_chain, e_and, e_or, e_not, e_ite, e_call, e_blt, e_isi, e_idx, e_sl, e_lst, e_tup, es_nil, es_cons, ec_nil, ec_one, eo_nil, eo_one,     Res.bind_ok, Res.bind_exc, Res.nx_ok, bool_b, okB, opt_i, callV_ok, callV_exc, bltV, len_l, len_t, sum_i, all_b, any_b, abs_i, lst_l, int_b, int_i, idx_l, idx_t, sl_l, sl_s, nwD_ints, nwD_true, nwD_nil, lst0, tup0, lst1, tup1, lst2, tup2, lst3, tup3, lst4, tup4, lst5, tup5, lst6, tup6, lst7, tup7, lst8, tup8, lst12, tup12, lst16, tup16, kUni, List.filter_nil, List.filter_cons, Nat.add_zero, neg_i, bin_ii, bin_cat, bin_rep, List.getElem?_cons_zero, List.getElem?_cons_succ, List.map_cons, List.map_nil, List.all_cons, List.all_nil, List.any_cons, List.any_nil, List.set_cons_zero, List.set_cons_succ,     nwOf, D.flat, ints_ok, bls_ok, if_true, if_false, Bool.false_eq_true, Bool.not_true, Bool.not_false, Bool.and_true, Bool.true_and, Bool.or_true, Bool.true_or, Bool.or_false, Bool.false_or, Bool.and_self, Bool.or_self, Bool.and_false, Bool.false_and]
  rw [e_compI (upTo n) (fun i => (.int i, 0, true)) (fun i => ((ss.filter fun s => decide (i ∈ s)).length : Int)) (it_range (kk := 0) (nw := false) (by simp only [e_var, e_int, e_bl, e_non, e_str, e_gcon, e_bin, e_neg, e_cmp, e_chain, e_and, e_or, e_not, e_ite, e_call, e_blt, e_isi, e_idx, e_sl, e_lst, e_tup, es_nil, es_cons, ec_nil, ec_one, eo_nil, eo_one,     Res.bind_ok, Res.bind_exc, Res.nx_ok, bool_b, okB, opt_i, callV_ok, callV_exc, bltV, len_l, len_t, sum_i, all_b, any_b, abs_i, lst_l, int_b, int_i, idx_l, idx_t, sl_l, sl_s, nwD_ints, nwD_true, nwD_nil, lst0, tup0, lst1, tup1, lst2, tup2, lst3, tup3, lst4, tup4, lst5, tup5, lst6, tup6, lst7, tup7, lst8, tup8, lst12, tup12, lst16, tup16, kUni, List.filter_nil, List.filter_cons, Nat.add_zero, neg_i, bin_ii, bin_cat, bin_rep, List.getElem?_cons_zero, List.getElem?_cons_succ, List.map_cons, List.map_nil, List.all_cons, List.all_nil, List.any_cons, List.any_nil, List.set_cons_zero, List.set_cons_succ,     nwOf, D.flat, ints_ok, bls_ok, if_true, if_false, Bool.false_eq_true, Bool.not_true, Bool.not_false, Bool.and_true, Bool.true_and, Bool.or_true, Bool.true_or, Bool.or_false, Bool.false_or, Bool.and_self, Bool.or_self, Bool.and_false, Bool.false_and, atD0]) (by omega) (by omega)) rfl fun i hi => ?_]
  rotate_left
  · refine ⟨_, 0, true, rfl, ?_⟩
    simp only [e_var, e_int, e_bl, e_non, e_str, e_gcon, e_bin, e_neg, e_cmp, e_chain, e_and, e_or, e_not, e_ite, e_call, e_blt, e_isi, e_idx, e_sl, e_lst, e_tup, es_nil, es_cons, ec_nil, ec_one, eo_nil, eo_one,     Res.bind_ok, Res.bind_exc, Res.nx_ok, bool_b, okB, opt_i, callV_ok, callV_exc, bltV, len_l, len_t, sum_i, all_b, any_b, abs_i, lst_l, int_b, int_i, idx_l, idx_t, sl_l, sl_s, nwD_ints, nwD_true, nwD_nil, lst0, tup0, lst1, tup1, lst2, tup2, lst3, tup3, lst4, tup4, lst5, tup5, lst6, tup6, lst7, tup7, lst8, tup8, lst12, tup12, lst16, tup16, kUni, List.filter_nil, List.filter_cons, Nat.add_zero, neg_i, bin_ii, bin_cat, bin_rep, List.getElem?_cons_zero, List.getElem?_cons_succ, List.map_cons, List.map_nil, List.all_cons, List.all_nil, List.any_cons, List.any_nil, List.set_cons_zero, List.set_cons_succ,     nwOf, D.flat, ints_ok, bls_ok, if_true, if_false, Bool.false_eq_true, Bool.not_true, Bool.not_false, Bool.and_true, Bool.true_and, Bool.or_true, Bool.true_or, Bool.or_false, Bool.false_or, Bool.and_self, Bool.or_self, Bool.and_false, Bool.false_and]
    rw [e_compS ss false (fun s => decide (i ∈ s)) (it_lists (kk := 0) (by simp only [e_var, e_int, e_bl, e_non, e_str, e_gcon, e_bin, e_neg, e_cmp, e_chain, e_and, e_or, e_not, e_ite, e_call, e_blt, e_isi, e_idx, e_sl, e_lst, e_tup, es_nil, es_cons, ec_nil, ec_one, eo_nil, eo_one,     Res.bind_ok, Res.bind_exc, Res.nx_ok, bool_b, okB, opt_i, callV_ok, callV_exc, bltV, len_l, len_t, sum_i, all_b, any_b, abs_i, lst_l, int_b, int_i, idx_l, idx_t, sl_l, sl_s, nwD_ints, nwD_true, nwD_nil, lst0, tup0, lst1, tup1, lst2, tup2, lst3, tup3, lst4, tup4, lst5, tup5, lst6, tup6, lst7, tup7, lst8, tup8, lst12, tup12, lst16, tup16, kUni, List.filter_nil, List.filter_cons, Nat.add_zero, neg_i, bin_ii, bin_cat, bin_rep, List.getElem?_cons_zero, List.getElem?_cons_succ, List.map_cons, List.map_nil, List.all_cons, List.all_nil, List.any_cons, List.any_nil, List.set_cons_zero, List.set_cons_succ,     nwOf, D.flat, ints_ok, bls_ok, if_true, if_false, Bool.false_eq_true, Bool.not_true, Bool.not_false, Bool.and_true, Bool.true_and, Bool.or_true, Bool.true_or, Bool.or_false, Bool.false_or, Bool.and_self, Bool.or_self, Bool.and_false, Bool.false_and, atD1])) rfl fun s hs => ?_]
    · simp only [e_var, e_int, e_bl, e_non, e_str, e_gcon, e_bin, e_neg, e_cmp, e_chain, e_and, e_or, e_not, e_ite, e_call, e_blt, e_isi, e_idx, e_sl, e_lst, e_tup, es_nil, es_cons, ec_nil, ec_one, eo_nil, eo_one,     Res.bind_ok, Res.bind_exc, Res.nx_ok, bool_b, okB, opt_i, callV_ok, callV_exc, bltV, len_l, len_t, sum_i, all_b, any_b, abs_i, lst_l, int_b, int_i, idx_l, idx_t, sl_l, sl_s, nwD_ints, nwD_true, nwD_nil, lst0, tup0, lst1, tup1, lst2, tup2, lst3, tup3, lst4, tup4, lst5, tup5, lst6, tup6, lst7, tup7, lst8, tup8, lst12, tup12, lst16, tup16, kUni, List.filter_nil, List.filter_cons, Nat.add_zero, neg_i, bin_ii, bin_cat, bin_rep, List.getElem?_cons_zero, List.getElem?_cons_succ, List.map_cons, List.map_nil, List.all_cons, List.all_nil, List.any_cons, List.any_nil, List.set_cons_zero, List.set_cons_succ,     nwOf, D.flat, ints_ok, bls_ok, if_true, if_false, Bool.false_eq_true, Bool.not_true, Bool.not_false, Bool.and_true, Bool.true_and, Bool.or_true, Bool.true_or, Bool.or_false, Bool.false_or, Bool.and_self, Bool.or_self, Bool.and_false, Bool.false_and, List.length_map]
    · refine ⟨_, rfl, ?_, ?_⟩
      · simp only [e_var, e_int, e_bl, e_non, e_str, e_gcon, e_bin, e_neg, e_cmp, e_chain, e_and, e_or, e_not, e_ite, e_call, e_blt, e_isi, e_idx, e_sl, e_lst, e_tup, es_nil, es_cons, ec_nil, ec_one, eo_nil, eo_one,     Res.bind_ok, Res.bind_exc, Res.nx_ok, bool_b, okB, opt_i, callV_ok, callV_exc, bltV, len_l, len_t, sum_i, all_b, any_b, abs_i, lst_l, int_b, int_i, idx_l, idx_t, sl_l, sl_s, nwD_ints, nwD_true, nwD_nil, lst0, tup0, lst1, tup1, lst2, tup2, lst3, tup3, lst4, tup4, lst5, tup5, lst6, tup6, lst7, tup7, lst8, tup8, lst12, tup12, lst16, tup16, kUni, List.filter_nil, List.filter_cons, Nat.add_zero, neg_i, bin_ii, bin_cat, bin_rep, List.getElem?_cons_zero, List.getElem?_cons_succ, List.map_cons, List.map_nil, List.all_cons, List.all_nil, List.any_cons, List.any_nil, List.set_cons_zero, List.set_cons_succ,     nwOf, D.flat, ints_ok, bls_ok, if_true, if_false, Bool.false_eq_true, Bool.not_true, Bool.not_false, Bool.and_true, Bool.true_and, Bool.or_true, Bool.true_or, Bool.or_false, Bool.false_or, Bool.and_self, Bool.or_self, Bool.and_false, Bool.false_and, cmp_in]
      · simp only [e_var, e_int, e_bl, e_non, e_str, e_gcon, e_bin, e_neg, e_cmp, e_chain, e_and, e_or, e_not, e_ite, e_call, e_blt, e_isi, e_idx, e_sl, e_lst, e_tup, es_nil, es_cons, ec_nil, ec_one, eo_nil, eo_one,     Res.bind_ok, Res.bind_exc, Res.nx_ok, bool_b, okB, opt_i, callV_ok, callV_exc, bltV, len_l, len_t, sum_i, all_b, any_b, abs_i, lst_l, int_b, int_i, idx_l, idx_t, sl_l, sl_s, nwD_ints, nwD_true, nwD_nil, lst0, tup0, lst1, tup1, lst2, tup2, lst3, tup3, lst4, tup4, lst5, tup5, lst6, tup6, lst7, tup7, lst8, tup8, lst12, tup12, lst16, tup16, kUni, List.filter_nil, List.filter_cons, Nat.add_zero, neg_i, bin_ii, bin_cat, bin_rep, List.getElem?_cons_zero, List.getElem?_cons_succ, List.map_cons, List.map_nil, List.all_cons, List.all_nil, List.any_cons, List.any_nil, List.set_cons_zero, List.set_cons_succ,     nwOf, D.flat, ints_ok, bls_ok, if_true, if_false, Bool.false_eq_true, Bool.not_true, Bool.not_false, Bool.and_true, Bool.true_and, Bool.or_true, Bool.true_or, Bool.or_false, Bool.false_or, Bool.and_self, Bool.or_self, Bool.and_false, Bool.false_and]
  simp only [e_var, e_int, e_bl, e_non, e_str, e_gcon, e_bin, e_neg, e_cmp, e_chain, e_and, e_or, e_not, e_ite, e_call, e_blt, e_isi, e_idx, e_sl, e_lst, e_tup, es_nil, es_cons, ec_nil, ec_one, eo_nil, eo_one,     Res.bind_ok, Res.bind_exc, Res.nx_ok, bool_b, okB, opt_i, callV_ok, callV_exc, bltV, len_l, len_t, sum_i, all_b, any_b, abs_i, lst_l, int_b, int_i, idx_l, idx_t, sl_l, sl_s, nwD_ints, nwD_true, nwD_nil, lst0, tup0, lst1, tup1, lst2, tup2, lst3, tup3, lst4, tup4, lst5, tup5, lst6, tup6, lst7, tup7, lst8, tup8, lst12, tup12, lst16, tup16, kUni, List.filter_nil, List.filter_cons, Nat.add_zero, neg_i, bin_ii, bin_cat, bin_rep, List.getElem?_cons_zero, List.getElem?_cons_succ, List.map_cons, List.map_nil, List.all_cons, List.all_nil, List.any_cons, List.any_nil, List.set_cons_zero, List.set_cons_succ,     nwOf, D.flat, ints_ok, bls_ok, if_true, if_false, Bool.false_eq_true, Bool.not_true, Bool.not_false, Bool.and_true, Bool.true_and, Bool.or_true, Bool.true_or, Bool.or_false, Bool.false_or, Bool.and_self, Bool.or_self, Bool.and_false, Bool.false_and]
  rw [max_nd (by simpa using upTo_ne h1)]
  rfl
theorem r_crowd (hp : Ext pPkg p) {k : Nat} {n : Int} {ss : List (List Int)} (h1 : famOk 20 n ss = true) :
    runP glT fu p (k + 4) "crowd" [dFam n ss] = .ok (.int (crowdOf n ss), 0, true) := by
  rw [runP_eq (hp "crowd" f_crowd (by kernel_rfl)) rfl]
  obtain ⟨q1, q2, q3, q4⟩ := fam_in h1
  simp only [f_crowd, runD, List.length_cons, List.length_nil, List.replicate, List.map_cons, List.map_nil, execSs, execS, setT, keep_true, shut_int, shut_bl, shut_non, shut_str, shut_lst, shut_tup, shut_lst0, shut_tup0, shutL_ints, shutL_dI, shutL_nil, shutL_cons, CE.vars, CEs.vars, List.nil_append, List.cons_append, List.append_nil, keep_f, own0, own0n, ownSs, demF, List.contains_cons, List.contains_nil, Nat.reduceBEq, Nat.reduceBNe, bne_self_eq_false, Nat.reduceAdd, beq_self_eq_true, Option.map_some, Option.map_none, List.any_cons, List.any_nil, Bool.or_false, Bool.and_true, Bool.and_false, Bool.or_true, e_var, e_int, e_bl, e_non, e_str, e_gcon, e_bin, e_neg, e_cmp, e_chain, e_and, e_or, e_not, e_ite, e_call, e_blt, e_isi, e_idx, e_sl, e_lst, e_tup, es_nil, es_cons, ec_nil, ec_one, eo_nil, eo_one,     Res.bind_ok, Res.bind_exc, Res.nx_ok, bool_b, okB, opt_i, callV_ok, callV_exc, bltV, len_l, len_t, sum_i, all_b, any_b, abs_i, lst_l, int_b, int_i, idx_l, idx_t, sl_l, sl_s, nwD_ints, nwD_true, nwD_nil, lst0, tup0, lst1, tup1, lst2, tup2, lst3, tup3, lst4, tup4, lst5, tup5, lst6, tup6, lst7, tup7, lst8, tup8, lst12, tup12, lst16, tup16, kUni, List.filter_nil, List.filter_cons, Nat.add_zero, neg_i, bin_ii, bin_cat, bin_rep, List.getElem?_cons_zero, List.getElem?_cons_succ, List.map_cons, List.map_nil, List.all_cons, List.all_nil, List.any_cons, List.any_nil, List.set_cons_zero, List.set_cons_succ,     nwOf, D.flat, ints_ok, bls_ok, if_true, if_false, Bool.false_eq_true, Bool.not_true, Bool.not_false, Bool.and_true, Bool.true_and, Bool.or_true, Bool.true_or, Bool.or_false, Bool.false_or, Bool.and_self, Bool.or_self, Bool.and_false, Bool.false_and, gl_most, r_checkFam hp, h1]
  rw [r_crowd_of hp q2 (by omega)]
  simp only [e_var, e_int, e_bl, e_non, e_str, e_gcon, e_bin, e_neg, e_cmp, e_chain, e_and, e_or, e_not, e_ite, e_call, e_blt, e_isi, e_idx, e_sl, e_lst, e_tup, es_nil, es_cons, ec_nil, ec_one, eo_nil, eo_one,     Res.bind_ok, Res.bind_exc, Res.nx_ok, bool_b, okB, opt_i, callV_ok, callV_exc, bltV, len_l, len_t, sum_i, all_b, any_b, abs_i, lst_l, int_b, int_i, idx_l, idx_t, sl_l, sl_s, nwD_ints, nwD_true, nwD_nil, lst0, tup0, lst1, tup1, lst2, tup2, lst3, tup3, lst4, tup4, lst5, tup5, lst6, tup6, lst7, tup7, lst8, tup8, lst12, tup12, lst16, tup16, kUni, List.filter_nil, List.filter_cons, Nat.add_zero, neg_i, bin_ii, bin_cat, bin_rep, List.getElem?_cons_zero, List.getElem?_cons_succ, List.map_cons, List.map_nil, List.all_cons, List.all_nil, List.any_cons, List.any_nil, List.set_cons_zero, List.set_cons_succ,     nwOf, D.flat, ints_ok, bls_ok, if_true, if_false, Bool.false_eq_true, Bool.not_true, Bool.not_false, Bool.and_true, Bool.true_and, Bool.or_true, Bool.true_or, Bool.or_false, Bool.false_or, Bool.and_self, Bool.or_self, Bool.and_false, Bool.false_and]
end
end TT

set_option Elab.async false
set_option linter.all false
set_option autoImplicit false
set_option maxRecDepth 100000
set_option maxHeartbeats 1000000
/-! UD: the laws' helpers: cells, values, families, colours. -/
namespace TT
open PySem L2
section
variable {fu : Nat} {p : Prg}
/-! ### numbers -/
theorem log2_le {n k : Nat} (h : n < 2 ^ k) : n.log2 ≤ k := by
  by_cases h0 : n = 0
  · subst h0; simp
  · have := (Nat.log2_lt h0).mpr h
    omega
theorem mul_ok {i j : Int} {a b : Nat} (hi : i.natAbs < 2 ^ a) (hj : j.natAbs < 2 ^ b) (h : a + b < 1000000) : binI .Mult i j = .ok (.int (i * j), 0, true) := by
  show (if i.natAbs.log2 + j.natAbs.log2 < 1000000 then Res.ok ((.int (i * j), 0, true) : Val) else Res.stuck) = _
  rw [if_pos]
  have := log2_le hi
  have := log2_le hj
  omega
theorem div_ok {i j : Int} {b : Nat} (h0 : 0 < j) (hj : j.natAbs < 2 ^ b) (hb : b < 9000) : binI .FloorDiv i j = .ok (.int (i / j), 0, true) := by
  show (if 0 < j ∧ j.natAbs.log2 < 9000 then Res.ok ((.int (i / j), 0, true) : Val) else Res.stuck) = _
  rw [if_pos]
  have := log2_le hj
  exact ⟨h0, by omega⟩
theorem mod_ok {i j : Int} (h0 : 0 < j) : binI .Mod i j = .ok (.int (i % j), 0, true) := by
  show (if 0 < j then Res.ok ((.int (i % j), 0, true) : Val) else Res.stuck) = _
  rw [if_pos h0]
theorem add_ok {i j : Int} : binI .Add i j = .ok (.int (i + j), 0, true) := rfl
theorem sub_ok {i j : Int} : binI .Sub i j = .ok (.int (i - j), 0, true) := rfl
theorem and_ok {i j : Int} : binI .BitAnd i j = .ok (.int (Builtin.bitAnd i j), 0, true) := rfl
theorem shr_ok {i j : Int} (h : 0 ≤ j) : binI .RShift i j = .ok (.int (i / 2 ^ j.toNat), 0, true) := by
  show (if 0 ≤ j then Res.ok ((.int (i / 2 ^ j.toNat), 0, true) : Val) else Res.stuck) = _
  rw [if_pos h]
theorem pow18 : binI .Pow 10 18 = .ok (.int 1000000000000000000, 0, true) := by
  show (if (0 : Int) ≤ 18 ∧ (18 : Int) ≤ 1000000 ∧ (10 : Int).natAbs < 2 ^ 64 then Res.ok ((.int ((10 : Int) ^ (18 : Int).toNat), 0, true) : Val) else Res.stuck) = _
  rw [if_pos (by decide), show (10 : Int) ^ (18 : Int).toNat = 1000000000000000000 by decide]
theorem pow40 : binI .Pow 10 40 = .ok (.int 10000000000000000000000000000000000000000, 0, true) := by
  show (if (0 : Int) ≤ 40 ∧ (40 : Int) ≤ 1000000 ∧ (10 : Int).natAbs < 2 ^ 64 then Res.ok ((.int ((10 : Int) ^ (40 : Int).toNat), 0, true) : Val) else Res.stuck) = _
  rw [if_pos (by decide), show (10 : Int) ^ (40 : Int).toNat = 10000000000000000000000000000000000000000 by decide]
/-! ### cells and values -/
def cellAt (ns : List Int) (k : Int) : Int := if k < ns.length then atR ns k else 0
theorem r_cell (hh : Ext pHlp p) {k : Nat} {ns : List Int} {i : Int} (hi : 0 ≤ i) : runP glT fu p (k + 1) "_law_cell_at" [dI ns, .int i] = .ok (.int (cellAt ns i), 0, !decide (i < (ns.length : Int))) := by
  rw [runP_eq (hh "_law_cell_at" f_law_cell_at (by kernel_rfl)) rfl]
  simp only [f_law_cell_at, runD, List.length_cons, List.length_nil, List.replicate, List.map_cons, List.map_nil, execSs, execS, setT, keep_true, shut_int, shut_bl, shut_non, shut_str, shut_lst, shut_tup, shut_lst0, shut_tup0, shutL_ints, shutL_dI, shutL_nil, shutL_cons, CE.vars, CEs.vars, List.nil_append, List.cons_append, List.append_nil, keep_f, own0, own0n, ownSs, demF, List.contains_cons, List.contains_nil, Nat.reduceBEq, Nat.reduceBNe, bne_self_eq_false, Nat.reduceAdd, beq_self_eq_true, Option.map_some, Option.map_none, List.any_cons, List.any_nil, Bool.or_false, Bool.and_true, Bool.and_false, Bool.or_true, e_var, e_int, e_bl, e_non, e_str, e_gcon, e_bin, e_neg, e_cmp, e_chain, e_and, e_or, e_not, e_ite, e_call, e_blt, e_isi, e_idx, e_sl, e_lst, e_tup, es_nil, es_cons, ec_nil, ec_one, eo_nil, eo_one,     Res.bind_ok, Res.bind_exc, Res.nx_ok, bool_b, okB, opt_i, callV_ok, callV_exc, bltV, len_l, len_t, sum_i, all_b, any_b, abs_i, lst_l, int_b, int_i, idx_l, idx_t, sl_l, sl_s, nwD_ints, nwD_true, nwD_nil, lst0, tup0, lst1, tup1, lst2, tup2, lst3, tup3, lst4, tup4, lst5, tup5, lst6, tup6, lst7, tup7, lst8, tup8, lst12, tup12, lst16, tup16, kUni, List.filter_nil, List.filter_cons, Nat.add_zero, neg_i, bin_ii, bin_cat, bin_rep, List.getElem?_cons_zero, List.getElem?_cons_succ, List.map_cons, List.map_nil, List.all_cons, List.all_nil, List.any_cons, List.any_nil, List.set_cons_zero, List.set_cons_succ,     nwOf, D.flat, ints_ok, bls_ok, if_true, if_false, Bool.false_eq_true, Bool.not_true, Bool.not_false, Bool.and_true, Bool.true_and, Bool.or_true, Bool.true_or, Bool.or_false, Bool.false_or, Bool.and_self, Bool.or_self, Bool.and_false, Bool.false_and, cmp_lt, List.length_map, cellAt]
  by_cases h : i < (ns.length : Int)
  · simp only [h, decide_true, e_var, e_int, e_bl, e_non, e_str, e_gcon, e_bin, e_neg, e_cmp, e_chain, e_and, e_or, e_not, e_ite, e_call, e_blt, e_isi, e_idx, e_sl, e_lst, e_tup, es_nil, es_cons, ec_nil, ec_one, eo_nil, eo_one,     Res.bind_ok, Res.bind_exc, Res.nx_ok, bool_b, okB, opt_i, callV_ok, callV_exc, bltV, len_l, len_t, sum_i, all_b, any_b, abs_i, lst_l, int_b, int_i, idx_l, idx_t, sl_l, sl_s, nwD_ints, nwD_true, nwD_nil, lst0, tup0, lst1, tup1, lst2, tup2, lst3, tup3, lst4, tup4, lst5, tup5, lst6, tup6, lst7, tup7, lst8, tup8, lst12, tup12, lst16, tup16, kUni, List.filter_nil, List.filter_cons, Nat.add_zero, neg_i, bin_ii, bin_cat, bin_rep, List.getElem?_cons_zero, List.getElem?_cons_succ, List.map_cons, List.map_nil, List.all_cons, List.all_nil, List.any_cons, List.any_nil, List.set_cons_zero, List.set_cons_succ,     nwOf, D.flat, ints_ok, bls_ok, if_true, if_false, Bool.false_eq_true, Bool.not_true, Bool.not_false, Bool.and_true, Bool.true_and, Bool.or_true, Bool.true_or, Bool.or_false, Bool.false_or, Bool.and_self, Bool.or_self, Bool.and_false, Bool.false_and, runD, List.length_cons, List.length_nil, List.replicate, List.map_cons, List.map_nil, execSs, execS, setT, keep_true, shut_int, shut_bl, shut_non, shut_str, shut_lst, shut_tup, shut_lst0, shut_tup0, shutL_ints, shutL_dI, shutL_nil, shutL_cons, CE.vars, CEs.vars, List.nil_append, List.cons_append, List.append_nil, keep_f, own0, own0n, ownSs, demF, List.contains_cons, List.contains_nil, Nat.reduceBEq, Nat.reduceBNe, bne_self_eq_false, Nat.reduceAdd, beq_self_eq_true, Option.map_some, Option.map_none, List.any_cons, List.any_nil, Bool.or_false, Bool.and_true, Bool.and_false, Bool.or_true, atD_int hi h]
  · simp only [h, decide_false, e_var, e_int, e_bl, e_non, e_str, e_gcon, e_bin, e_neg, e_cmp, e_chain, e_and, e_or, e_not, e_ite, e_call, e_blt, e_isi, e_idx, e_sl, e_lst, e_tup, es_nil, es_cons, ec_nil, ec_one, eo_nil, eo_one,     Res.bind_ok, Res.bind_exc, Res.nx_ok, bool_b, okB, opt_i, callV_ok, callV_exc, bltV, len_l, len_t, sum_i, all_b, any_b, abs_i, lst_l, int_b, int_i, idx_l, idx_t, sl_l, sl_s, nwD_ints, nwD_true, nwD_nil, lst0, tup0, lst1, tup1, lst2, tup2, lst3, tup3, lst4, tup4, lst5, tup5, lst6, tup6, lst7, tup7, lst8, tup8, lst12, tup12, lst16, tup16, kUni, List.filter_nil, List.filter_cons, Nat.add_zero, neg_i, bin_ii, bin_cat, bin_rep, List.getElem?_cons_zero, List.getElem?_cons_succ, List.map_cons, List.map_nil, List.all_cons, List.all_nil, List.any_cons, List.any_nil, List.set_cons_zero, List.set_cons_succ,     nwOf, D.flat, ints_ok, bls_ok, if_true, if_false, Bool.false_eq_true, Bool.not_true, Bool.not_false, Bool.and_true, Bool.true_and, Bool.or_true, Bool.true_or, Bool.or_false, Bool.false_or, Bool.and_self, Bool.or_self, Bool.and_false, Bool.false_and, runD, List.length_cons, List.length_nil, List.replicate, List.map_cons, List.map_nil, execSs, execS, setT, keep_true, shut_int, shut_bl, shut_non, shut_str, shut_lst, shut_tup, shut_lst0, shut_tup0, shutL_ints, shutL_dI, shutL_nil, shutL_cons, CE.vars, CEs.vars, List.nil_append, List.cons_append, List.append_nil, keep_f, own0, own0n, ownSs, demF, List.contains_cons, List.contains_nil, Nat.reduceBEq, Nat.reduceBNe, bne_self_eq_false, Nat.reduceAdd, beq_self_eq_true, Option.map_some, Option.map_none, List.any_cons, List.any_nil, Bool.or_false, Bool.and_true, Bool.and_false, Bool.or_true]
def primes : List Int := [1000003, 1000033, 1000037, 1000039, 1000081, 1000099, 1000117, 1000121, 1000133, 1000151, 1000159, 1000171, 1000183, 1000187, 1000193, 1000199]
def lawDraw (c k m : Int) : Int := (c * 48271 + k * 69621) % atR primes (k % 16) % m
theorem primes_pos {i : Int} (h0 : 0 ≤ i) (h1 : i < 16) : 0 < atR primes i := by
  have : i = 0 ∨ i = 1 ∨ i = 2 ∨ i = 3 ∨ i = 4 ∨ i = 5 ∨ i = 6 ∨ i = 7 ∨ i = 8 ∨ i = 9 ∨ i = 10 ∨ i = 11 ∨ i = 12 ∨ i = 13 ∨ i = 14 ∨ i = 15 := by omega
  rcases this with h | h | h | h | h | h | h | h | h | h | h | h | h | h | h | h <;> subst h <;> decide
theorem r_draw (hh : Ext pHlp p) {k : Nat} {c i m : Int} (hc : c.natAbs < 2 ^ 1000) (hi : 0 ≤ i) (hi2 : i < 1000000) (hm : 0 < m) : runP glT fu p (k + 1) "_law_draw" [.int c, .int i, .int m] = .ok (.int (lawDraw c i m), 0, true) := by
  rw [runP_eq (hh "_law_draw" f_law_draw (by kernel_rfl)) rfl]
  have h16 : 0 ≤ i % 16 ∧ i % 16 < 16 := ⟨Int.emod_nonneg _ (by decide), Int.emod_lt_of_pos _ (by decide)⟩
  have hp1 := primes_pos h16.1 h16.2
  simp only [f_law_draw, runD, List.length_cons, List.length_nil, List.replicate, List.map_cons, List.map_nil, execSs, execS, setT, keep_true, shut_int, shut_bl, shut_non, shut_str, shut_lst, shut_tup, shut_lst0, shut_tup0, shutL_ints, shutL_dI, shutL_nil, shutL_cons, CE.vars, CEs.vars, List.nil_append, List.cons_append, List.append_nil, keep_f, own0, own0n, ownSs, demF, List.contains_cons, List.contains_nil, Nat.reduceBEq, Nat.reduceBNe, bne_self_eq_false, Nat.reduceAdd, beq_self_eq_true, Option.map_some, Option.map_none, List.any_cons, List.any_nil, Bool.or_false, Bool.and_true, Bool.and_false, Bool.or_true, e_var, e_int, e_bl, e_non, e_str, e_gcon, e_bin, e_neg, e_cmp, e_chain, e_and, e_or, e_not, e_ite, e_call, e_blt, e_isi, e_idx, e_sl, e_lst, e_tup, es_nil, es_cons, ec_nil, ec_one, eo_nil, eo_one,     Res.bind_ok, Res.bind_exc, Res.nx_ok, bool_b, okB, opt_i, callV_ok, callV_exc, bltV, len_l, len_t, sum_i, all_b, any_b, abs_i, lst_l, int_b, int_i, idx_l, idx_t, sl_l, sl_s, nwD_ints, nwD_true, nwD_nil, lst0, tup0, lst1, tup1, lst2, tup2, lst3, tup3, lst4, tup4, lst5, tup5, lst6, tup6, lst7, tup7, lst8, tup8, lst12, tup12, lst16, tup16, kUni, List.filter_nil, List.filter_cons, Nat.add_zero, neg_i, bin_ii, bin_cat, bin_rep, List.getElem?_cons_zero, List.getElem?_cons_succ, List.map_cons, List.map_nil, List.all_cons, List.all_nil, List.any_cons, List.any_nil, List.set_cons_zero, List.set_cons_succ,     nwOf, D.flat, ints_ok, bls_ok, if_true, if_false, Bool.false_eq_true, Bool.not_true, Bool.not_false, Bool.and_true, Bool.true_and, Bool.or_true, Bool.true_or, Bool.or_false, Bool.false_or, Bool.and_self, Bool.or_self, Bool.and_false, Bool.false_and, mul_ok (a := 1000) (b := 20) hc (show (48271 : Int).natAbs < 2 ^ 20 by decide) (by decide), mul_ok (a := 20) (b := 20) (show i.natAbs < 2 ^ 20 by omega) (show (69621 : Int).natAbs < 2 ^ 20 by decide) (by decide), add_ok, mod_ok (show (0 : Int) < 16 by decide)]
  have ha := atD_int (row := primes) h16.1 (by exact h16.2)
  simp only [primes, List.map_cons, List.map_nil] at ha
  simp only [ha, e_var, e_int, e_bl, e_non, e_str, e_gcon, e_bin, e_neg, e_cmp, e_chain, e_and, e_or, e_not, e_ite, e_call, e_blt, e_isi, e_idx, e_sl, e_lst, e_tup, es_nil, es_cons, ec_nil, ec_one, eo_nil, eo_one,     Res.bind_ok, Res.bind_exc, Res.nx_ok, bool_b, okB, opt_i, callV_ok, callV_exc, bltV, len_l, len_t, sum_i, all_b, any_b, abs_i, lst_l, int_b, int_i, idx_l, idx_t, sl_l, sl_s, nwD_ints, nwD_true, nwD_nil, lst0, tup0, lst1, tup1, lst2, tup2, lst3, tup3, lst4, tup4, lst5, tup5, lst6, tup6, lst7, tup7, lst8, tup8, lst12, tup12, lst16, tup16, kUni, List.filter_nil, List.filter_cons, Nat.add_zero, neg_i, bin_ii, bin_cat, bin_rep, List.getElem?_cons_zero, List.getElem?_cons_succ, List.map_cons, List.map_nil, List.all_cons, List.all_nil, List.any_cons, List.any_nil, List.set_cons_zero, List.set_cons_succ,     nwOf, D.flat, ints_ok, bls_ok, if_true, if_false, Bool.false_eq_true, Bool.not_true, Bool.not_false, Bool.and_true, Bool.true_and, Bool.or_true, Bool.true_or, Bool.or_false, Bool.false_or, Bool.and_self, Bool.or_self, Bool.and_false, Bool.false_and, mod_ok hp1, mod_ok hm]
  rw [mod_ok (show 0 < atR [1000003, 1000033, 1000037, 1000039, 1000081, 1000099, 1000117, 1000121, 1000133, 1000151, 1000159, 1000171, 1000183, 1000187, 1000193, 1000199] (i % 16) from hp1)]
  simp only [e_var, e_int, e_bl, e_non, e_str, e_gcon, e_bin, e_neg, e_cmp, e_chain, e_and, e_or, e_not, e_ite, e_call, e_blt, e_isi, e_idx, e_sl, e_lst, e_tup, es_nil, es_cons, ec_nil, ec_one, eo_nil, eo_one,     Res.bind_ok, Res.bind_exc, Res.nx_ok, bool_b, okB, opt_i, callV_ok, callV_exc, bltV, len_l, len_t, sum_i, all_b, any_b, abs_i, lst_l, int_b, int_i, idx_l, idx_t, sl_l, sl_s, nwD_ints, nwD_true, nwD_nil, lst0, tup0, lst1, tup1, lst2, tup2, lst3, tup3, lst4, tup4, lst5, tup5, lst6, tup6, lst7, tup7, lst8, tup8, lst12, tup12, lst16, tup16, kUni, List.filter_nil, List.filter_cons, Nat.add_zero, neg_i, bin_ii, bin_cat, bin_rep, List.getElem?_cons_zero, List.getElem?_cons_succ, List.map_cons, List.map_nil, List.all_cons, List.all_nil, List.any_cons, List.any_nil, List.set_cons_zero, List.set_cons_succ,     nwOf, D.flat, ints_ok, bls_ok, if_true, if_false, Bool.false_eq_true, Bool.not_true, Bool.not_false, Bool.and_true, Bool.true_and, Bool.or_true, Bool.true_or, Bool.or_false, Bool.false_or, Bool.and_self, Bool.or_self, Bool.and_false, Bool.false_and, mod_ok hm]
  rfl
def lawValue (c t : Int) : Int :=
  if 1000000000000000000 ≤ c then ((c - 1000000000000000000) % 10000000000000000000000000000000000000000) / 2 ^ (3 * t).toNat
  else lawDraw ((c % 1000000000000000000 + 977 * t) * (c % 1000000000000000000 + 31 * t + 5)) (t % 9 + 1) 999983 * 1000003 + lawDraw ((c % 1000000000000000000 + 31 * t) * (c % 1000000000000000000 + 7) + 977 * t) (t % 7 + 2) 1000003
theorem lawDraw_nn (c k m : Int) (hm : 0 < m) : 0 ≤ lawDraw c k m ∧ lawDraw c k m < m := ⟨Int.emod_nonneg _ (by omega), Int.emod_lt_of_pos _ hm⟩
theorem lawValue_nn (c t : Int) : 0 ≤ lawValue c t := by
  unfold lawValue
  split
  · exact Int.ediv_nonneg (Int.emod_nonneg _ (by decide)) (Int.le_of_lt (Int.pow_pos (by decide)))
  · have h1 := lawDraw_nn ((c % 1000000000000000000 + 977 * t) * (c % 1000000000000000000 + 31 * t + 5)) (t % 9 + 1) 999983 (by decide)
    have h2 := lawDraw_nn ((c % 1000000000000000000 + 31 * t) * (c % 1000000000000000000 + 7) + 977 * t) (t % 7 + 2) 1000003 (by decide)
    omega
theorem natAbs_mul_lt {a b : Int} {k l : Nat} (ha : a.natAbs < 2 ^ k) (hb : b.natAbs < 2 ^ l) : (a * b).natAbs < 2 ^ (k + l) := by
  rw [Int.natAbs_mul, Nat.pow_add]
  exact Nat.mul_lt_mul'' ha hb
theorem r_value (hh : Ext pHlp p) {k : Nat} {c t : Int} (h0 : 0 ≤ t) (h1 : t < 1000) : runP glT fu p (k + 2) "_law_value" [.int c, .int t] = .ok (.int (lawValue c t), 0, true) := by
  rw [runP_eq (hh "_law_value" f_law_value (by kernel_rfl)) rfl]
  have big : ∀ {x : Int}, 0 ≤ x → x < 2000000000000000000 → x.natAbs < 2 ^ 64 := fun {x} a b => by
    have : (2 : Nat) ^ 64 = 18446744073709551616 := by decide
    omega
  have e1000 : ∀ {x : Int}, x.natAbs < 2 ^ 200 → x.natAbs < 2 ^ 1000 := fun {x} h => Nat.lt_of_lt_of_le h (Nat.pow_le_pow_right (by decide) (by decide))
  simp only [f_law_value, runD, List.length_cons, List.length_nil, List.replicate, List.map_cons, List.map_nil, execSs, execS, setT, keep_true, shut_int, shut_bl, shut_non, shut_str, shut_lst, shut_tup, shut_lst0, shut_tup0, shutL_ints, shutL_dI, shutL_nil, shutL_cons, CE.vars, CEs.vars, List.nil_append, List.cons_append, List.append_nil, keep_f, own0, own0n, ownSs, demF, List.contains_cons, List.contains_nil, Nat.reduceBEq, Nat.reduceBNe, bne_self_eq_false, Nat.reduceAdd, beq_self_eq_true, Option.map_some, Option.map_none, List.any_cons, List.any_nil, Bool.or_false, Bool.and_true, Bool.and_false, Bool.or_true, e_var, e_int, e_bl, e_non, e_str, e_gcon, e_bin, e_neg, e_cmp, e_chain, e_and, e_or, e_not, e_ite, e_call, e_blt, e_isi, e_idx, e_sl, e_lst, e_tup, es_nil, es_cons, ec_nil, ec_one, eo_nil, eo_one,     Res.bind_ok, Res.bind_exc, Res.nx_ok, bool_b, okB, opt_i, callV_ok, callV_exc, bltV, len_l, len_t, sum_i, all_b, any_b, abs_i, lst_l, int_b, int_i, idx_l, idx_t, sl_l, sl_s, nwD_ints, nwD_true, nwD_nil, lst0, tup0, lst1, tup1, lst2, tup2, lst3, tup3, lst4, tup4, lst5, tup5, lst6, tup6, lst7, tup7, lst8, tup8, lst12, tup12, lst16, tup16, kUni, List.filter_nil, List.filter_cons, Nat.add_zero, neg_i, bin_ii, bin_cat, bin_rep, List.getElem?_cons_zero, List.getElem?_cons_succ, List.map_cons, List.map_nil, List.all_cons, List.all_nil, List.any_cons, List.any_nil, List.set_cons_zero, List.set_cons_succ,     nwOf, D.flat, ints_ok, bls_ok, if_true, if_false, Bool.false_eq_true, Bool.not_true, Bool.not_false, Bool.and_true, Bool.true_and, Bool.or_true, Bool.true_or, Bool.or_false, Bool.false_or, Bool.and_self, Bool.or_self, Bool.and_false, Bool.false_and, pow18, cmp_ge, lawValue]
  by_cases hc : 1000000000000000000 ≤ c
  · simp only [hc, decide_true, e_var, e_int, e_bl, e_non, e_str, e_gcon, e_bin, e_neg, e_cmp, e_chain, e_and, e_or, e_not, e_ite, e_call, e_blt, e_isi, e_idx, e_sl, e_lst, e_tup, es_nil, es_cons, ec_nil, ec_one, eo_nil, eo_one,     Res.bind_ok, Res.bind_exc, Res.nx_ok, bool_b, okB, opt_i, callV_ok, callV_exc, bltV, len_l, len_t, sum_i, all_b, any_b, abs_i, lst_l, int_b, int_i, idx_l, idx_t, sl_l, sl_s, nwD_ints, nwD_true, nwD_nil, lst0, tup0, lst1, tup1, lst2, tup2, lst3, tup3, lst4, tup4, lst5, tup5, lst6, tup6, lst7, tup7, lst8, tup8, lst12, tup12, lst16, tup16, kUni, List.filter_nil, List.filter_cons, Nat.add_zero, neg_i, bin_ii, bin_cat, bin_rep, List.getElem?_cons_zero, List.getElem?_cons_succ, List.map_cons, List.map_nil, List.all_cons, List.all_nil, List.any_cons, List.any_nil, List.set_cons_zero, List.set_cons_succ,     nwOf, D.flat, ints_ok, bls_ok, if_true, if_false, Bool.false_eq_true, Bool.not_true, Bool.not_false, Bool.and_true, Bool.true_and, Bool.or_true, Bool.true_or, Bool.or_false, Bool.false_or, Bool.and_self, Bool.or_self, Bool.and_false, Bool.false_and, runD, List.length_cons, List.length_nil, List.replicate, List.map_cons, List.map_nil, execSs, execS, setT, keep_true, shut_int, shut_bl, shut_non, shut_str, shut_lst, shut_tup, shut_lst0, shut_tup0, shutL_ints, shutL_dI, shutL_nil, shutL_cons, CE.vars, CEs.vars, List.nil_append, List.cons_append, List.append_nil, keep_f, own0, own0n, ownSs, demF, List.contains_cons, List.contains_nil, Nat.reduceBEq, Nat.reduceBNe, bne_self_eq_false, Nat.reduceAdd, beq_self_eq_true, Option.map_some, Option.map_none, List.any_cons, List.any_nil, Bool.or_false, Bool.and_true, Bool.and_false, Bool.or_true, pow18, pow40, sub_ok, mod_ok (show (0 : Int) < 10000000000000000000000000000000000000000 by decide),
      mul_ok (a := 20) (b := 20) (show (3 : Int).natAbs < 2 ^ 20 by decide) (show t.natAbs < 2 ^ 20 by omega) (by decide), shr_ok (show 0 ≤ 3 * t by omega)]
  · have hr := Int.emod_nonneg c (show (1000000000000000000 : Int) ≠ 0 by decide)
    have hr2 := Int.emod_lt_of_pos c (show (0 : Int) < 1000000000000000000 by decide)
    have m1 := mul_ok (a := 20) (b := 20) (show (977 : Int).natAbs < 2 ^ 20 by decide) (show t.natAbs < 2 ^ 20 by omega) (by decide)
    have m2 := mul_ok (a := 20) (b := 20) (show (31 : Int).natAbs < 2 ^ 20 by decide) (show t.natAbs < 2 ^ 20 by omega) (by decide)
    have b1 : (c % 1000000000000000000 + 977 * t).natAbs < 2 ^ 64 := big (by omega) (by omega)
    have b2 : (c % 1000000000000000000 + 31 * t + 5).natAbs < 2 ^ 64 := big (by omega) (by omega)
    have b3 : (c % 1000000000000000000 + 31 * t).natAbs < 2 ^ 64 := big (by omega) (by omega)
    have b4 : (c % 1000000000000000000 + 7).natAbs < 2 ^ 64 := big (by omega) (by omega)
    have m3 := mul_ok b1 b2 (by decide)
    have m4 := mul_ok b3 b4 (by decide)
    have d1 := natAbs_mul_lt b1 b2
    have d2 := natAbs_mul_lt b3 b4
    have h9 : 0 ≤ t % 9 ∧ t % 9 < 9 := ⟨Int.emod_nonneg _ (by decide), Int.emod_lt_of_pos _ (by decide)⟩
    have h7 : 0 ≤ t % 7 ∧ t % 7 < 7 := ⟨Int.emod_nonneg _ (by decide), Int.emod_lt_of_pos _ (by decide)⟩
    have d3 : ((c % 1000000000000000000 + 31 * t) * (c % 1000000000000000000 + 7) + 977 * t).natAbs < 2 ^ 200 := by
      have q1 : (2 : Nat) ^ (64 + 64) + 1000000 < 2 ^ 200 := by decide
      have q2 := Int.natAbs_add_le ((c % 1000000000000000000 + 31 * t) * (c % 1000000000000000000 + 7)) (977 * t)
      omega
    have d1' : ((c % 1000000000000000000 + 977 * t) * (c % 1000000000000000000 + 31 * t + 5)).natAbs < 2 ^ 200 := Nat.lt_of_lt_of_le d1 (Nat.pow_le_pow_right (by decide) (by decide))
    have r1 := r_draw (fu := fu) (p := p) hh (k := k) (i := t % 9 + 1) (m := 999983) (e1000 d1') (by omega) (by omega) (by decide)
    have r2 := r_draw (fu := fu) (p := p) hh (k := k) (i := t % 7 + 2) (m := 1000003) (e1000 d3) (by omega) (by omega) (by decide)
    have l1 := lawDraw_nn ((c % 1000000000000000000 + 977 * t) * (c % 1000000000000000000 + 31 * t + 5)) (t % 9 + 1) 999983 (by decide)
    have m5 := mul_ok (i := lawDraw ((c % 1000000000000000000 + 977 * t) * (c % 1000000000000000000 + 31 * t + 5)) (t % 9 + 1) 999983) (j := 1000003) (a := 20) (b := 20) (by omega) (by decide) (by decide)
    simp only [hc, decide_false, e_var, e_int, e_bl, e_non, e_str, e_gcon, e_bin, e_neg, e_cmp, e_chain, e_and, e_or, e_not, e_ite, e_call, e_blt, e_isi, e_idx, e_sl, e_lst, e_tup, es_nil, es_cons, ec_nil, ec_one, eo_nil, eo_one,     Res.bind_ok, Res.bind_exc, Res.nx_ok, bool_b, okB, opt_i, callV_ok, callV_exc, bltV, len_l, len_t, sum_i, all_b, any_b, abs_i, lst_l, int_b, int_i, idx_l, idx_t, sl_l, sl_s, nwD_ints, nwD_true, nwD_nil, lst0, tup0, lst1, tup1, lst2, tup2, lst3, tup3, lst4, tup4, lst5, tup5, lst6, tup6, lst7, tup7, lst8, tup8, lst12, tup12, lst16, tup16, kUni, List.filter_nil, List.filter_cons, Nat.add_zero, neg_i, bin_ii, bin_cat, bin_rep, List.getElem?_cons_zero, List.getElem?_cons_succ, List.map_cons, List.map_nil, List.all_cons, List.all_nil, List.any_cons, List.any_nil, List.set_cons_zero, List.set_cons_succ,     nwOf, D.flat, ints_ok, bls_ok, if_true, if_false, Bool.false_eq_true, Bool.not_true, Bool.not_false, Bool.and_true, Bool.true_and, Bool.or_true, Bool.true_or, Bool.or_false, Bool.false_or, Bool.and_self, Bool.or_self, Bool.and_false, Bool.false_and, runD, List.length_cons, List.length_nil, List.replicate, List.map_cons, List.map_nil, execSs, execS, setT, keep_true, shut_int, shut_bl, shut_non, shut_str, shut_lst, shut_tup, shut_lst0, shut_tup0, shutL_ints, shutL_dI, shutL_nil, shutL_cons, CE.vars, CEs.vars, List.nil_append, List.cons_append, List.append_nil, keep_f, own0, own0n, ownSs, demF, List.contains_cons, List.contains_nil, Nat.reduceBEq, Nat.reduceBNe, bne_self_eq_false, Nat.reduceAdd, beq_self_eq_true, Option.map_some, Option.map_none, List.any_cons, List.any_nil, Bool.or_false, Bool.and_true, Bool.and_false, Bool.or_true, pow18, mod_ok (show (0 : Int) < 1000000000000000000 by decide), m1, m2, add_ok, m3, m4, mod_ok (show (0 : Int) < 9 by decide), mod_ok (show (0 : Int) < 7 by decide), r1, r2, m5]
end
end TT

set_option Elab.async false
set_option linter.all false
set_option autoImplicit false
set_option maxRecDepth 100000
set_option maxHeartbeats 2000000
/-! UE: loops; the laws' families and colours. -/
namespace TT
open PySem L2
section
variable {fu : Nat} {p : Prg}
theorem forL_inv {α : Type} {body : Env → Res Fl} {t : Tg} (g : α → Val) (I : Nat → Env → Prop) : ∀ (xs : List α) (i : Nat) (env : Env), I i env → (∀ (j : Nat) (x : α) (e : Env), xs[j]? = some x → I (i + j) e → ∃ e1, setT e t (g x) = .ok e1 ∧ ∃ e2, body e1 = .ok (.nx e2) ∧ I (i + j + 1) e2) →
    ∃ e', forL body t (xs.map g) env = .ok (.nx e') ∧ I (i + xs.length) e'
  | [], i, env, h0, _ => ⟨env, rfl, h0⟩
  | x :: xs, i, env, h0, hs => by
    obtain ⟨e1, h1, e2, h2, h3⟩ := hs 0 x env rfl h0
    obtain ⟨e', h4, h5⟩ := forL_inv g I xs (i + 1) e2 h3 fun j y e hj he => by
      have := hs (j + 1) y e (by simpa using hj) (by rw [show i + (j + 1) = i + 1 + j by omega]; exact he)
      rw [show i + (j + 1) + 1 = i + 1 + j + 1 by omega] at this
      exact this
    refine ⟨e', ?_, by rw [List.length_cons, show i + (xs.length + 1) = i + 1 + xs.length by omega]; exact h5⟩
    rw [List.map_cons, forL, h1]
    simp only [Res.bind_ok, h2]
    exact h4
theorem upTo_len (n : Int) : (upTo n).length = n.toNat := by simp [upTo]
theorem upTo_get {n : Int} {j : Nat} {x : Int} (h : (upTo n)[j]? = some x) : x = (j : Int) ∧ (j : Int) < n := by
  unfold upTo at h
  rw [List.getElem?_map, Option.map_eq_some_iff] at h
  obtain ⟨i, e, rfl⟩ := h
  obtain ⟨h1, h2⟩ := List.getElem?_eq_some_iff.mp e
  rw [List.getElem_range] at h2
  rw [List.length_range] at h1
  subst h2
  exact ⟨rfl, by omega⟩
theorem upTo_mem {n x : Int} : x ∈ upTo n ↔ 0 ≤ x ∧ x < n := by
  unfold upTo
  simp only [List.mem_map, List.mem_range]
  constructor
  · rintro ⟨i, h, rfl⟩; omega
  · rintro ⟨h1, h2⟩; exact ⟨x.toNat, by omega, by omega⟩
/-! ### a list of shared things in a slot -/
theorem withL0 {env : Env} {i : Nat} {ds ds' : List D} {nw b : Bool} {f : List D → Res (List D × Bool)} (h : env[i]? = some (some (.lst ds, 1, nw))) (hf : f ds = .ok (ds', b)) (hl : ds'.length ≤ 1000000) : withL env i [] f = .ok (env.set i (some (.lst ds', 1, nw && b))) := by
  unfold withL
  rw [h]
  simp only [List.length_nil, Nat.zero_add, if_true, getP, lstOf, hf]
  rw [if_pos (by exact hl)]
  rfl
theorem app_ints {env : Env} {i : Nat} {cs : List Int} {d : Int} {nw : Bool} (hl : cs.length ≤ 100000) (h : env[i]? = some (some (dI cs, 1, nw)) := by rfl) : withL env i [] (fApp (.int d, 0, true)) = .ok (env.set i (some (dI (cs ++ [d]), 1, nw))) := by
  rw [withL0 h (ds' := (cs ++ [d]).map D.int) (b := true) (by simp [fApp, nwOf, D.flat]) (by simp; omega)]
  simp [dI]
/-! ### colours -/
theorem r_colours (hh : Ext pHlp p) {k : Nat} {ns : List Int} {by' n : Int} (hb : 0 ≤ by') (hn : 0 ≤ n) (hn2 : n ≤ 1000) : ∃ cs : List Int, runP glT fu p (k + 3) "_law_colours" [dI ns, .int by', .int n] = .ok (dI cs, 1, true) ∧ colOk n cs = true := by
  rw [runP_eq (hh "_law_colours" f_law_colours (by kernel_rfl)) rfl]
  simp only [f_law_colours, runD, List.length_cons, List.length_nil, List.replicate, List.map_cons, List.map_nil, execSs, execS, setT, keep_true, shut_int, shut_bl, shut_non, shut_str, shut_lst, shut_tup, shut_lst0, shut_tup0, shutL_ints, shutL_dI, shutL_nil, shutL_cons, CE.vars, CEs.vars, List.nil_append, List.cons_append, List.append_nil, keep_f, own0, own0n, ownSs, demF, List.contains_cons, List.contains_nil, Nat.reduceBEq, Nat.reduceBNe, bne_self_eq_false, Nat.reduceAdd, beq_self_eq_true, Option.map_some, Option.map_none, List.any_cons, List.any_nil, Bool.or_false, Bool.and_true, Bool.and_false, Bool.or_true, e_var, e_int, e_bl, e_non, e_str, e_gcon, e_bin, e_neg, e_cmp, e_chain, e_and, e_or, e_not, e_ite, e_call, e_blt, e_isi, e_idx, e_sl, e_lst, e_tup, es_nil, es_cons, ec_nil, ec_one, eo_nil, eo_one,     Res.bind_ok, Res.bind_exc, Res.nx_ok, bool_b, okB, opt_i, callV_ok, callV_exc, bltV, len_l, len_t, sum_i, all_b, any_b, abs_i, lst_l, int_b, int_i, idx_l, idx_t, sl_l, sl_s, nwD_ints, nwD_true, nwD_nil, lst0, tup0, lst1, tup1, lst2, tup2, lst3, tup3, lst4, tup4, lst5, tup5, lst6, tup6, lst7, tup7, lst8, tup8, lst12, tup12, lst16, tup16, kUni, List.filter_nil, List.filter_cons, Nat.add_zero, neg_i, bin_ii, bin_cat, bin_rep, List.getElem?_cons_zero, List.getElem?_cons_succ, List.map_cons, List.map_nil, List.all_cons, List.all_nil, List.any_cons, List.any_nil, List.set_cons_zero, List.set_cons_succ,     nwOf, D.flat, ints_ok, bls_ok, if_true, if_false, Bool.false_eq_true, Bool.not_true, Bool.not_false, Bool.and_true, Bool.true_and, Bool.or_true, Bool.true_or, Bool.or_false, Bool.false_or, Bool.and_self, Bool.or_self, Bool.and_false, Bool.false_and]
  have hit := it_range (Γ := runP glT fu p (k + 2)) (gl := glT) (env := [some (dI ns, 0, false), some (D.int by', 0, false), some (D.int n, 0, false), some (D.lst [], 1, true), none, none]) (c := .var 2) (n := n) (kk := 0) (nw := false) (by simp only [e_var, e_int, e_bl, e_non, e_str, e_gcon, e_bin, e_neg, e_cmp, e_chain, e_and, e_or, e_not, e_ite, e_call, e_blt, e_isi, e_idx, e_sl, e_lst, e_tup, es_nil, es_cons, ec_nil, ec_one, eo_nil, eo_one,     Res.bind_ok, Res.bind_exc, Res.nx_ok, bool_b, okB, opt_i, callV_ok, callV_exc, bltV, len_l, len_t, sum_i, all_b, any_b, abs_i, lst_l, int_b, int_i, idx_l, idx_t, sl_l, sl_s, nwD_ints, nwD_true, nwD_nil, lst0, tup0, lst1, tup1, lst2, tup2, lst3, tup3, lst4, tup4, lst5, tup5, lst6, tup6, lst7, tup7, lst8, tup8, lst12, tup12, lst16, tup16, kUni, List.filter_nil, List.filter_cons, Nat.add_zero, neg_i, bin_ii, bin_cat, bin_rep, List.getElem?_cons_zero, List.getElem?_cons_succ, List.map_cons, List.map_nil, List.all_cons, List.all_nil, List.any_cons, List.any_nil, List.set_cons_zero, List.set_cons_succ,     nwOf, D.flat, ints_ok, bls_ok, if_true, if_false, Bool.false_eq_true, Bool.not_true, Bool.not_false, Bool.and_true, Bool.true_and, Bool.or_true, Bool.true_or, Bool.or_false, Bool.false_or, Bool.and_self, Bool.or_self, Bool.and_false, Bool.false_and]) (by omega) (by omega)
  rw [es_cons] at hit
  simp only [e_var, e_int, e_bl, e_non, e_str, e_gcon, e_bin, e_neg, e_cmp, e_chain, e_and, e_or, e_not, e_ite, e_call, e_blt, e_isi, e_idx, e_sl, e_lst, e_tup, es_nil, es_cons, ec_nil, ec_one, eo_nil, eo_one,     Res.bind_ok, Res.bind_exc, Res.nx_ok, bool_b, okB, opt_i, callV_ok, callV_exc, bltV, len_l, len_t, sum_i, all_b, any_b, abs_i, lst_l, int_b, int_i, idx_l, idx_t, sl_l, sl_s, nwD_ints, nwD_true, nwD_nil, lst0, tup0, lst1, tup1, lst2, tup2, lst3, tup3, lst4, tup4, lst5, tup5, lst6, tup6, lst7, tup7, lst8, tup8, lst12, tup12, lst16, tup16, kUni, List.filter_nil, List.filter_cons, Nat.add_zero, neg_i, bin_ii, bin_cat, bin_rep, List.getElem?_cons_zero, List.getElem?_cons_succ, List.map_cons, List.map_nil, List.all_cons, List.all_nil, List.any_cons, List.any_nil, List.set_cons_zero, List.set_cons_succ,     nwOf, D.flat, ints_ok, bls_ok, if_true, if_false, Bool.false_eq_true, Bool.not_true, Bool.not_false, Bool.and_true, Bool.true_and, Bool.or_true, Bool.true_or, Bool.or_false, Bool.false_or, Bool.and_self, Bool.or_self, Bool.and_false, Bool.false_and] at hit
  rw [hit]
  simp only [e_var, e_int, e_bl, e_non, e_str, e_gcon, e_bin, e_neg, e_cmp, e_chain, e_and, e_or, e_not, e_ite, e_call, e_blt, e_isi, e_idx, e_sl, e_lst, e_tup, es_nil, es_cons, ec_nil, ec_one, eo_nil, eo_one,     Res.bind_ok, Res.bind_exc, Res.nx_ok, bool_b, okB, opt_i, callV_ok, callV_exc, bltV, len_l, len_t, sum_i, all_b, any_b, abs_i, lst_l, int_b, int_i, idx_l, idx_t, sl_l, sl_s, nwD_ints, nwD_true, nwD_nil, lst0, tup0, lst1, tup1, lst2, tup2, lst3, tup3, lst4, tup4, lst5, tup5, lst6, tup6, lst7, tup7, lst8, tup8, lst12, tup12, lst16, tup16, kUni, List.filter_nil, List.filter_cons, Nat.add_zero, neg_i, bin_ii, bin_cat, bin_rep, List.getElem?_cons_zero, List.getElem?_cons_succ, List.map_cons, List.map_nil, List.all_cons, List.all_nil, List.any_cons, List.any_nil, List.set_cons_zero, List.set_cons_succ,     nwOf, D.flat, ints_ok, bls_ok, if_true, if_false, Bool.false_eq_true, Bool.not_true, Bool.not_false, Bool.and_true, Bool.true_and, Bool.or_true, Bool.true_or, Bool.or_false, Bool.false_or, Bool.and_self, Bool.or_self, Bool.and_false, Bool.false_and, runD, List.length_cons, List.length_nil, List.replicate, List.map_cons, List.map_nil, execSs, execS, setT, keep_true, shut_int, shut_bl, shut_non, shut_str, shut_lst, shut_tup, shut_lst0, shut_tup0, shutL_ints, shutL_dI, shutL_nil, shutL_cons, CE.vars, CEs.vars, List.nil_append, List.cons_append, List.append_nil, keep_f, own0, own0n, ownSs, demF, List.contains_cons, List.contains_nil, Nat.reduceBEq, Nat.reduceBNe, bne_self_eq_false, Nat.reduceAdd, beq_self_eq_true, Option.map_some, Option.map_none, List.any_cons, List.any_nil, Bool.or_false, Bool.and_true, Bool.and_false, Bool.or_true]
  obtain ⟨e', h1, cs, o4, o5, h2, h3, h4⟩ := forL_inv (body := execSs (runP glT fu p (k + 2)) glT fu l_law_colours_1) (t := .one 4) (fun i : Int => ((.int i, 0, true) : Val))
    (fun i e => ∃ (cs : List Int) (o4 o5 : Option Val), e = [some (dI ns, 0, false), some (D.int by', 0, false), some (D.int n, 0, false), some (dI cs, 1, true), o4, o5] ∧ cs.length = i ∧ ∀ c ∈ cs, c = 1 ∨ c = -1) (upTo n) 0 [some (dI ns, 0, false), some (D.int by', 0, false), some (D.int n, 0, false), some (D.lst [], 1, true), none, none] ⟨[], none, none, rfl, rfl, by simp⟩ (fun j x e hj hI => by
      obtain ⟨cs, o4, o5, rfl, hl, hc⟩ := hI
      obtain ⟨rfl, hx⟩ := upTo_get hj
      have h6 : 0 ≤ (j : Int) % 6 := Int.emod_nonneg _ (by decide)
      have h7 : 0 ≤ (j : Int) % 7 ∧ (j : Int) % 7 < 7 := ⟨Int.emod_nonneg _ (by decide), Int.emod_lt_of_pos _ (by decide)⟩
      have m1 := mul_ok (i := 13) (j := (j : Int)) (a := 20) (b := 20) (by decide) (by omega) (by decide)
      generalize hv : lawValue (cellAt ns (by' + (j : Int) % 6) + 13 * (j : Int)) (2 + (j : Int) % 7) = v
      refine ⟨_, rfl, [some (dI ns, 0, false), some (D.int by', 0, false), some (D.int n, 0, false), some (dI (cs ++ [if v / 3 % 2 = 0 then 1 else -1]), 1, true), some (D.int j, 0, true), some (.int v, 0, true)], ?_, cs ++ [if v / 3 % 2 = 0 then 1 else -1], _, _, rfl, by simp [hl], ?_⟩
      · simp only [l_law_colours_1, runD, List.length_cons, List.length_nil, List.replicate, List.map_cons, List.map_nil, execSs, execS, setT, keep_true, shut_int, shut_bl, shut_non, shut_str, shut_lst, shut_tup, shut_lst0, shut_tup0, shutL_ints, shutL_dI, shutL_nil, shutL_cons, CE.vars, CEs.vars, List.nil_append, List.cons_append, List.append_nil, keep_f, own0, own0n, ownSs, demF, List.contains_cons, List.contains_nil, Nat.reduceBEq, Nat.reduceBNe, bne_self_eq_false, Nat.reduceAdd, beq_self_eq_true, Option.map_some, Option.map_none, List.any_cons, List.any_nil, Bool.or_false, Bool.and_true, Bool.and_false, Bool.or_true, e_var, e_int, e_bl, e_non, e_str, e_gcon, e_bin, e_neg, e_cmp, e_chain, e_and, e_or, e_not, e_ite, e_call, e_blt, e_isi, e_idx, e_sl, e_lst, e_tup, es_nil, es_cons, ec_nil, ec_one, eo_nil, eo_one,     Res.bind_ok, Res.bind_exc, Res.nx_ok, bool_b, okB, opt_i, callV_ok, callV_exc, bltV, len_l, len_t, sum_i, all_b, any_b, abs_i, lst_l, int_b, int_i, idx_l, idx_t, sl_l, sl_s, nwD_ints, nwD_true, nwD_nil, lst0, tup0, lst1, tup1, lst2, tup2, lst3, tup3, lst4, tup4, lst5, tup5, lst6, tup6, lst7, tup7, lst8, tup8, lst12, tup12, lst16, tup16, kUni, List.filter_nil, List.filter_cons, Nat.add_zero, neg_i, bin_ii, bin_cat, bin_rep, List.getElem?_cons_zero, List.getElem?_cons_succ, List.map_cons, List.map_nil, List.all_cons, List.all_nil, List.any_cons, List.any_nil, List.set_cons_zero, List.set_cons_succ,     nwOf, D.flat, ints_ok, bls_ok, if_true, if_false, Bool.false_eq_true, Bool.not_true, Bool.not_false, Bool.and_true, Bool.true_and, Bool.or_true, Bool.true_or, Bool.or_false, Bool.false_or, Bool.and_self, Bool.or_self, Bool.and_false, Bool.false_and, mod_ok (show (0 : Int) < 6 by decide), add_ok, r_cell hh (show 0 ≤ by' + (j : Int) % 6 by omega), m1, mod_ok (show (0 : Int) < 7 by decide), r_value hh (show 0 ≤ 2 + (j : Int) % 7 by omega) (show 2 + (j : Int) % 7 < 1000 by omega), hv, div_ok (i := v) (j := 3) (b := 20) (by decide) (by decide) (by decide), mod_ok (show (0 : Int) < 2 by decide), cmp_eq, py_int, eqD_int]
        have fin : ∀ d : Int, withL [some (dI ns, 0, false), some (D.int by', 0, false), some (D.int n, 0, false), some (dI cs, 1, true), some (D.int ↑j, 0, true), some (D.int v, 0, true)] 3 [] (fApp (.int d, 0, true)) = .ok [some (dI ns, 0, false), some (D.int by', 0, false), some (D.int n, 0, false), some (dI (cs ++ [d]), 1, true), some (D.int ↑j, 0, true), some (D.int v, 0, true)] := by
          intro d
          exact app_ints (by omega)
        by_cases hd : v / 3 % 2 = 0
        · simp only [hd, decide_true, e_var, e_int, e_bl, e_non, e_str, e_gcon, e_bin, e_neg, e_cmp, e_chain, e_and, e_or, e_not, e_ite, e_call, e_blt, e_isi, e_idx, e_sl, e_lst, e_tup, es_nil, es_cons, ec_nil, ec_one, eo_nil, eo_one,     Res.bind_ok, Res.bind_exc, Res.nx_ok, bool_b, okB, opt_i, callV_ok, callV_exc, bltV, len_l, len_t, sum_i, all_b, any_b, abs_i, lst_l, int_b, int_i, idx_l, idx_t, sl_l, sl_s, nwD_ints, nwD_true, nwD_nil, lst0, tup0, lst1, tup1, lst2, tup2, lst3, tup3, lst4, tup4, lst5, tup5, lst6, tup6, lst7, tup7, lst8, tup8, lst12, tup12, lst16, tup16, kUni, List.filter_nil, List.filter_cons, Nat.add_zero, neg_i, bin_ii, bin_cat, bin_rep, List.getElem?_cons_zero, List.getElem?_cons_succ, List.map_cons, List.map_nil, List.all_cons, List.all_nil, List.any_cons, List.any_nil, List.set_cons_zero, List.set_cons_succ,     nwOf, D.flat, ints_ok, bls_ok, if_true, if_false, Bool.false_eq_true, Bool.not_true, Bool.not_false, Bool.and_true, Bool.true_and, Bool.or_true, Bool.true_or, Bool.or_false, Bool.false_or, Bool.and_self, Bool.or_self, Bool.and_false, Bool.false_and, runD, List.length_cons, List.length_nil, List.replicate, List.map_cons, List.map_nil, execSs, execS, setT, keep_true, shut_int, shut_bl, shut_non, shut_str, shut_lst, shut_tup, shut_lst0, shut_tup0, shutL_ints, shutL_dI, shutL_nil, shutL_cons, CE.vars, CEs.vars, List.nil_append, List.cons_append, List.append_nil, keep_f, own0, own0n, ownSs, demF, List.contains_cons, List.contains_nil, Nat.reduceBEq, Nat.reduceBNe, bne_self_eq_false, Nat.reduceAdd, beq_self_eq_true, Option.map_some, Option.map_none, List.any_cons, List.any_nil, Bool.or_false, Bool.and_true, Bool.and_false, Bool.or_true, if_true, pathX, fin]
        · simp only [hd, decide_false, e_var, e_int, e_bl, e_non, e_str, e_gcon, e_bin, e_neg, e_cmp, e_chain, e_and, e_or, e_not, e_ite, e_call, e_blt, e_isi, e_idx, e_sl, e_lst, e_tup, es_nil, es_cons, ec_nil, ec_one, eo_nil, eo_one,     Res.bind_ok, Res.bind_exc, Res.nx_ok, bool_b, okB, opt_i, callV_ok, callV_exc, bltV, len_l, len_t, sum_i, all_b, any_b, abs_i, lst_l, int_b, int_i, idx_l, idx_t, sl_l, sl_s, nwD_ints, nwD_true, nwD_nil, lst0, tup0, lst1, tup1, lst2, tup2, lst3, tup3, lst4, tup4, lst5, tup5, lst6, tup6, lst7, tup7, lst8, tup8, lst12, tup12, lst16, tup16, kUni, List.filter_nil, List.filter_cons, Nat.add_zero, neg_i, bin_ii, bin_cat, bin_rep, List.getElem?_cons_zero, List.getElem?_cons_succ, List.map_cons, List.map_nil, List.all_cons, List.all_nil, List.any_cons, List.any_nil, List.set_cons_zero, List.set_cons_succ,     nwOf, D.flat, ints_ok, bls_ok, if_true, if_false, Bool.false_eq_true, Bool.not_true, Bool.not_false, Bool.and_true, Bool.true_and, Bool.or_true, Bool.true_or, Bool.or_false, Bool.false_or, Bool.and_self, Bool.or_self, Bool.and_false, Bool.false_and, runD, List.length_cons, List.length_nil, List.replicate, List.map_cons, List.map_nil, execSs, execS, setT, keep_true, shut_int, shut_bl, shut_non, shut_str, shut_lst, shut_tup, shut_lst0, shut_tup0, shutL_ints, shutL_dI, shutL_nil, shutL_cons, CE.vars, CEs.vars, List.nil_append, List.cons_append, List.append_nil, keep_f, own0, own0n, ownSs, demF, List.contains_cons, List.contains_nil, Nat.reduceBEq, Nat.reduceBNe, bne_self_eq_false, Nat.reduceAdd, beq_self_eq_true, Option.map_some, Option.map_none, List.any_cons, List.any_nil, Bool.or_false, Bool.and_true, Bool.and_false, Bool.or_true, if_false, pathX, fin]
      · intro c hc2
        rcases List.mem_append.mp hc2 with h | h
        · exact hc c h
        · have : c = if v / 3 % 2 = 0 then 1 else -1 := by simpa using h
          rw [this]
          split <;> simp)
  subst h2
  rw [h1]
  simp only [runD, List.length_cons, List.length_nil, List.replicate, List.map_cons, List.map_nil, execSs, execS, setT, keep_true, shut_int, shut_bl, shut_non, shut_str, shut_lst, shut_tup, shut_lst0, shut_tup0, shutL_ints, shutL_dI, shutL_nil, shutL_cons, CE.vars, CEs.vars, List.nil_append, List.cons_append, List.append_nil, keep_f, own0, own0n, ownSs, demF, List.contains_cons, List.contains_nil, Nat.reduceBEq, Nat.reduceBNe, bne_self_eq_false, Nat.reduceAdd, beq_self_eq_true, Option.map_some, Option.map_none, List.any_cons, List.any_nil, Bool.or_false, Bool.and_true, Bool.and_false, Bool.or_true, e_var, e_int, e_bl, e_non, e_str, e_gcon, e_bin, e_neg, e_cmp, e_chain, e_and, e_or, e_not, e_ite, e_call, e_blt, e_isi, e_idx, e_sl, e_lst, e_tup, es_nil, es_cons, ec_nil, ec_one, eo_nil, eo_one,     Res.bind_ok, Res.bind_exc, Res.nx_ok, bool_b, okB, opt_i, callV_ok, callV_exc, bltV, len_l, len_t, sum_i, all_b, any_b, abs_i, lst_l, int_b, int_i, idx_l, idx_t, sl_l, sl_s, nwD_ints, nwD_true, nwD_nil, lst0, tup0, lst1, tup1, lst2, tup2, lst3, tup3, lst4, tup4, lst5, tup5, lst6, tup6, lst7, tup7, lst8, tup8, lst12, tup12, lst16, tup16, kUni, List.filter_nil, List.filter_cons, Nat.add_zero, neg_i, bin_ii, bin_cat, bin_rep, List.getElem?_cons_zero, List.getElem?_cons_succ, List.map_cons, List.map_nil, List.all_cons, List.all_nil, List.any_cons, List.any_nil, List.set_cons_zero, List.set_cons_succ,     nwOf, D.flat, ints_ok, bls_ok, if_true, if_false, Bool.false_eq_true, Bool.not_true, Bool.not_false, Bool.and_true, Bool.true_and, Bool.or_true, Bool.true_or, Bool.or_false, Bool.false_or, Bool.and_self, Bool.or_self, Bool.and_false, Bool.false_and, getV]
  refine ⟨cs, rfl, ?_⟩
  unfold colOk
  simp only [Bool.and_eq_true, decide_eq_true_eq, List.all_map, List.all_eq_true, Function.comp_apply, id_eq, Bool.or_eq_true]
  exact ⟨by rw [h3, upTo_len]; omega, h4⟩

/-! ### families -/
theorem okPl_iff {m : Int} {ns : List Int} : okPl m ns = true ↔ ns ≠ [] ∧ (∀ i ∈ ns, 0 ≤ i ∧ i < m) ∧ ns.Pairwise (· < ·) := by
  have key : ∀ l : List Int, ((l.zip (l.drop 1)).map fun q => decide (q.1 < q.2)).all id = true ↔ l.Pairwise (· < ·) := by
    intro l
    induction l with
    | nil => simp
    | cons a l ih =>
      cases l with
      | nil => simp
      | cons b l =>
        have e : ((a :: b :: l).zip ((a :: b :: l).drop 1)) = (a, b) :: ((b :: l).zip ((b :: l).drop 1)) := rfl
        rw [e, List.map_cons, List.all_cons, Bool.and_eq_true, ih]
        simp only [id_eq, decide_eq_true_eq]
        constructor
        · rintro ⟨h1, h2⟩
          refine List.pairwise_cons.mpr ⟨fun c hc => ?_, h2⟩
          rcases List.mem_cons.mp hc with rfl | hc
          · exact h1
          · exact Int.lt_trans h1 ((List.pairwise_cons.mp h2).1 c hc)
        · intro h
          obtain ⟨h1, h2⟩ := List.pairwise_cons.mp h
          exact ⟨h1 b (by simp), h2⟩
  unfold okPl
  rw [Bool.and_eq_true, Bool.and_eq_true, key]
  simp only [Bool.not_eq_true', decide_eq_false_iff_not, List.all_map, List.all_eq_true, Function.comp_apply, id_eq, Bool.and_eq_true, decide_eq_true_eq]
  constructor
  · rintro ⟨⟨h1, h2⟩, h3⟩; exact ⟨h1, h2, h3⟩
  · rintro ⟨h1, h2, h3⟩; exact ⟨⟨h1, h2⟩, h3⟩
theorem upTo_sorted (n : Int) : (upTo n).Pairwise (· < ·) := by
  unfold upTo
  rw [List.pairwise_map]
  exact List.pairwise_lt_range.imp (by intro a b h; omega)
theorem rangeI_sorted (a b : Int) : (rangeI a b).Pairwise (· < ·) := by
  unfold rangeI
  rw [List.pairwise_map]
  exact List.pairwise_lt_range.imp (by intro a b h; omega)
theorem rangeI_mem {a b x : Int} : x ∈ rangeI a b ↔ a ≤ x ∧ x < b := by
  unfold rangeI
  simp only [List.mem_map, List.mem_range]
  constructor
  · rintro ⟨i, h, rfl⟩; omega
  · rintro ⟨h1, h2⟩; exact ⟨(x - a).toNat, by omega, by omega⟩
theorem app_shared {env : Env} {i : Nat} {ss : List (List Int)} {one : List Int} {nw : Bool} (hl : ss.length ≤ 100000) (h : env[i]? = some (some (dLL ss, 1, nw)) := by rfl) : withL env i [] (fApp (dI one, 0, true)) = .ok (env.set i (some (dLL (ss ++ [one]), 1, nw))) := by
  rw [withL0 h (ds' := (ss ++ [one]).map dI) (b := true) (by simp [fApp, nwOf, D.flat]) (by simp; omega)]
  simp [dLL]
theorem ok62_of {a : Int} (h1 : -1000000 ≤ a) (h2 : a ≤ 1000000) : ok62 a = true := by
  have q : (1000000 : Int) < 2 ^ 62 := by decide
  have q2 : (-(2 ^ 62) : Int) ≤ -1000000 := by decide
  unfold ok62
  rw [decide_eq_true (show -(2 ^ 62) ≤ a from Int.le_trans q2 h1), decide_eq_true (show a < 2 ^ 62 from Int.lt_of_le_of_lt h2 q)]
  rfl
theorem lrange_ok {a b : Int} {k1 k2 : Nat} {n1 n2 : Bool} (h1 : -1000000 ≤ a) (h2 : a ≤ 1000000) (h3 : -1000000 ≤ b) (h4 : b ≤ 1000000) (h5 : b - a ≤ 1000000) : lrangeV [(.int a, k1, n1), (.int b, k2, n2)] = .ok (dI (rangeI a b), 1, true) := by
  simp only [lrangeV]
  rw [if_pos]
  rw [ok62_of h1 h2, ok62_of h3 h4, decide_eq_true (show (b - a).toNat ≤ LIM by unfold LIM; omega)]
  rfl
theorem sset_ok {ns : List Int} {k : Nat} {nw : Bool} (h : ns.length < 60) : ssetV [(dI ns, k, nw)] = .ok (dI (sortI (ddI ns)), 1, true) := by
  simp only [ssetV, ints_ok]
  rw [if_pos h]
theorem itV_ints {ns : List Int} {k : Nat} {nw : Bool} : itemsOf .seq [(dI ns, k, nw)] = .ok (ns.map fun i => (.int i, 0, nw)) := by
  simp only [itemsOf, itSeq, List.map_map]
  rfl
theorem itV_lists {ss : List (List Int)} {k : Nat} {nw : Bool} : itemsOf .seq [(dLL ss, k, nw)] = .ok (ss.map fun s => (dI s, 0, nw)) := by
  simp only [itemsOf, itSeq, List.map_map]
  rfl
theorem itV_range {n : Int} {k : Nat} {nw : Bool} (h1 : -1000000 ≤ n) (h2 : n ≤ 1000000) : itemsOf .range [(.int n, k, nw)] = .ok ((upTo n).map fun i => (.int i, 0, true)) := by
  simp only [itemsOf, itRange]
  rw [if_pos]
  · unfold rangeI upTo
    simp
  · rw [ok62_of h1 h2, decide_eq_true (show n.toNat ≤ LIM by unfold LIM; omega)]
    rfl
theorem itV_zip {xs ys : List Int} {k1 k2 : Nat} {n1 n2 : Bool} : itemsOf .zip [(dI xs, k1, n1), (dI ys, k2, n2)] = .ok ((xs.zip ys).map fun p => (.tup [.int p.1, .int p.2], 0, n1 && n2)) := by
  simp only [itemsOf, itZip]
  congr 1
  rw [List.zip_map, List.map_map]
  rfl
theorem dLL_head {s : List Int} {ss : List (List Int)} : atD ((s :: ss).map dI) 0 = .ok (dI s) := by rw [List.map_cons, atD0]
theorem r_family (hh : Ext pHlp p) {k : Nat} {ns : List Int} {by' most sets : Int} (hb : 0 ≤ by') (hm : 1 ≤ most) (hm2 : most ≤ 1000) (hs : 0 ≤ sets) (hs2 : sets ≤ 1000) :
    ∃ (n : Int) (ss : List (List Int)), runP glT fu p (k + 3) "_law_family" [dI ns, .int by', .int most, .int sets] = .ok (dFam n ss, 1, true) ∧ 1 ≤ n ∧ n ≤ most ∧ (ss.length : Int) ≤ sets ∧ ∀ s ∈ ss, okPl n s = true := by
  rw [runP_eq (hh "_law_family" f_law_family (by kernel_rfl)) rfl]
  generalize hc : cellAt ns by' = c
  generalize hn : 1 + lawValue c 1 % most = n
  generalize hk : lawValue c 2 % 4 = kind
  generalize hw : lawValue c 3 % (sets + 1) = turns
  have hn1 : 1 ≤ n ∧ n ≤ most := by
    have := Int.emod_nonneg (lawValue c 1) (show most ≠ 0 by omega)
    have := Int.emod_lt_of_pos (lawValue c 1) (show 0 < most by omega)
    omega
  have ht : 0 ≤ turns ∧ turns ≤ sets := by
    have := Int.emod_nonneg (lawValue c 3) (show sets + 1 ≠ 0 by omega)
    have := Int.emod_lt_of_pos (lawValue c 3) (show 0 < sets + 1 by omega)
    omega
  have hk4 : 0 ≤ kind ∧ kind < 4 := by
    have := Int.emod_nonneg (lawValue c 2) (show (4 : Int) ≠ 0 by decide)
    have := Int.emod_lt_of_pos (lawValue c 2) (show (0 : Int) < 4 by decide)
    omega
  have rv : ∀ (c t : Int) (k : Nat), 0 ≤ t → t < 1000 → runP glT fu p (k + 2) "_law_value" [.int c, .int t] = .ok (.int (lawValue c t), 0, true) := fun c t k h1 h2 => r_value hh h1 h2
  simp only [f_law_family, runD, List.length_cons, List.length_nil, List.replicate, List.map_cons, List.map_nil, execSs, execS, setT, keep_true, shut_int, shut_bl, shut_non, shut_str, shut_lst, shut_tup, shut_lst0, shut_tup0, shutL_ints, shutL_dI, shutL_nil, shutL_cons, CE.vars, CEs.vars, List.nil_append, List.cons_append, List.append_nil, keep_f, own0, own0n, ownSs, demF, List.contains_cons, List.contains_nil, Nat.reduceBEq, Nat.reduceBNe, bne_self_eq_false, Nat.reduceAdd, beq_self_eq_true, Option.map_some, Option.map_none, List.any_cons, List.any_nil, Bool.or_false, Bool.and_true, Bool.and_false, Bool.or_true, e_var, e_int, e_bl, e_non, e_str, e_gcon, e_bin, e_neg, e_cmp, e_chain, e_and, e_or, e_not, e_ite, e_call, e_blt, e_isi, e_idx, e_sl, e_lst, e_tup, es_nil, es_cons, ec_nil, ec_one, eo_nil, eo_one,     Res.bind_ok, Res.bind_exc, Res.nx_ok, bool_b, okB, opt_i, callV_ok, callV_exc, bltV, len_l, len_t, sum_i, all_b, any_b, abs_i, lst_l, int_b, int_i, idx_l, idx_t, sl_l, sl_s, nwD_ints, nwD_true, nwD_nil, lst0, tup0, lst1, tup1, lst2, tup2, lst3, tup3, lst4, tup4, lst5, tup5, lst6, tup6, lst7, tup7, lst8, tup8, lst12, tup12, lst16, tup16, kUni, List.filter_nil, List.filter_cons, Nat.add_zero, neg_i, bin_ii, bin_cat, bin_rep, List.getElem?_cons_zero, List.getElem?_cons_succ, List.map_cons, List.map_nil, List.all_cons, List.all_nil, List.any_cons, List.any_nil, List.set_cons_zero, List.set_cons_succ,     nwOf, D.flat, ints_ok, bls_ok, if_true, if_false, Bool.false_eq_true, Bool.not_true, Bool.not_false, Bool.and_true, Bool.true_and, Bool.or_true, Bool.true_or, Bool.or_false, Bool.false_or, Bool.and_self, Bool.or_self, Bool.and_false, Bool.false_and, r_cell hh hb, hc, rv c 1 k (by decide) (by decide), rv c 2 k (by decide) (by decide), rv c 3 k (by decide) (by decide), mod_ok (show 0 < most by omega), add_ok, hn, mod_ok (show (0 : Int) < 4 by decide), hk, setMany, mod_ok (show 0 < sets + 1 by omega), hw, itV_range (show -1000000 ≤ turns by omega) (show turns ≤ 1000000 by omega)]
  obtain ⟨e', h1, ss, o8, o9, o10, o11, h2, h3, h4⟩ := forL_inv (body := execSs (runP glT fu p (k + 2)) glT fu l_law_family_1) (t := .one 8) (fun i : Int => ((.int i, 0, true) : Val))
    (fun i e => ∃ (ss : List (List Int)) (o8 o9 o10 o11 : Option Val), e = [some (dI ns, 0, false), some (D.int by', 0, false), some (D.int most, 0, false), some (D.int sets, 0, false), some (D.int c, 0, !decide (by' < (ns.length : Int))), some (D.int n, 0, true), some (D.int kind, 0, true), some (dLL ss, 1, true), o8, o9, o10, o11] ∧ ss.length ≤ i ∧ ∀ s ∈ ss, okPl n s = true) (upTo turns) 0
    [some (dI ns, 0, false), some (D.int by', 0, false), some (D.int most, 0, false), some (D.int sets, 0, false), some (D.int c, 0, !decide (by' < (ns.length : Int))), some (D.int n, 0, true), some (D.int kind, 0, true), some (D.lst [], 1, true), none, none, none, none] ⟨[], none, none, none, none, rfl, by simp, by simp⟩ (fun j x e hj hI => by
      obtain ⟨ss, o8, o9, o10, o11, rfl, hl, hs3⟩ := hI
      obtain ⟨rfl, hx⟩ := upTo_get hj
      have h5 : 0 ≤ (j : Int) % 5 := Int.emod_nonneg _ (by decide)
      have h6 : 0 ≤ (j : Int) % 6 ∧ (j : Int) % 6 < 6 := ⟨Int.emod_nonneg _ (by decide), Int.emod_lt_of_pos _ (by decide)⟩
      have m1 := mul_ok (i := 7) (j := (j : Int)) (a := 20) (b := 20) (by decide) (by omega) (by decide)
      generalize hv : lawValue (cellAt ns (by' + (j : Int) % 5) + 7 * (j : Int)) (4 + (j : Int) % 6) / 3 = v
      have hv0 : 0 ≤ v := by
        rw [← hv]
        exact Int.ediv_nonneg (lawValue_nn _ _) (by decide)
      have vm := Int.emod_nonneg v (show n ≠ 0 by omega)
      have vm2 := Int.emod_lt_of_pos v (show 0 < n by omega)
      refine ⟨_, rfl, ?_⟩
      simp only [l_law_family_1]
      generalize hlast : CS.ife (.cmp .NotEq (.var 10) (.lst .nil)) (.cons (.app 7 [] (.var 10)) .nil) .nil = last
      have fin : ∀ (one : List Int) (o11 : Option Val), (one = [] ∨ okPl n one = true) → ∃ e2, execS (runP glT fu p (k + 2)) glT fu last [some (dI ns, 0, false), some (D.int by', 0, false), some (D.int most, 0, false), some (D.int sets, 0, false), some (D.int c, 0, !decide (by' < (ns.length : Int))), some (D.int n, 0, true), some (D.int kind, 0, true), some (dLL ss, 1, true), some (D.int j, 0, true), some (D.int v, 0, true), some (dI one, 1, true), o11] = .ok (.nx e2) ∧
          ∃ (ss : List (List Int)) (o8 o9 o10 o11 : Option Val), e2 = [some (dI ns, 0, false), some (D.int by', 0, false), some (D.int most, 0, false), some (D.int sets, 0, false), some (D.int c, 0, !decide (by' < (ns.length : Int))), some (D.int n, 0, true), some (D.int kind, 0, true), some (dLL ss, 1, true), o8, o9, o10, o11] ∧ ss.length ≤ 0 + j + 1 ∧ ∀ s ∈ ss, okPl n s = true := by
        intro one o11 ho
        subst hlast
        simp only [runD, List.length_cons, List.length_nil, List.replicate, List.map_cons, List.map_nil, execSs, execS, setT, keep_true, shut_int, shut_bl, shut_non, shut_str, shut_lst, shut_tup, shut_lst0, shut_tup0, shutL_ints, shutL_dI, shutL_nil, shutL_cons, CE.vars, CEs.vars, List.nil_append, List.cons_append, List.append_nil, keep_f, own0, own0n, ownSs, demF, List.contains_cons, List.contains_nil, Nat.reduceBEq, Nat.reduceBNe, bne_self_eq_false, Nat.reduceAdd, beq_self_eq_true, Option.map_some, Option.map_none, List.any_cons, List.any_nil, Bool.or_false, Bool.and_true, Bool.and_false, Bool.or_true, e_var, e_int, e_bl, e_non, e_str, e_gcon, e_bin, e_neg, e_cmp, e_chain, e_and, e_or, e_not, e_ite, e_call, e_blt, e_isi, e_idx, e_sl, e_lst, e_tup, es_nil, es_cons, ec_nil, ec_one, eo_nil, eo_one,     Res.bind_ok, Res.bind_exc, Res.nx_ok, bool_b, okB, opt_i, callV_ok, callV_exc, bltV, len_l, len_t, sum_i, all_b, any_b, abs_i, lst_l, int_b, int_i, idx_l, idx_t, sl_l, sl_s, nwD_ints, nwD_true, nwD_nil, lst0, tup0, lst1, tup1, lst2, tup2, lst3, tup3, lst4, tup4, lst5, tup5, lst6, tup6, lst7, tup7, lst8, tup8, lst12, tup12, lst16, tup16, kUni, List.filter_nil, List.filter_cons, Nat.add_zero, neg_i, bin_ii, bin_cat, bin_rep, List.getElem?_cons_zero, List.getElem?_cons_succ, List.map_cons, List.map_nil, List.all_cons, List.all_nil, List.any_cons, List.any_nil, List.set_cons_zero, List.set_cons_succ,     nwOf, D.flat, ints_ok, bls_ok, if_true, if_false, Bool.false_eq_true, Bool.not_true, Bool.not_false, Bool.and_true, Bool.true_and, Bool.or_true, Bool.true_or, Bool.or_false, Bool.false_or, Bool.and_self, Bool.or_self, Bool.and_false, Bool.false_and, cmp_ne, py_lst, pyAll_ints, pyAll_nil, eqD_lst, eqLs_intsN]
        by_cases h : one = []
        · simp only [h, decide_true, e_var, e_int, e_bl, e_non, e_str, e_gcon, e_bin, e_neg, e_cmp, e_chain, e_and, e_or, e_not, e_ite, e_call, e_blt, e_isi, e_idx, e_sl, e_lst, e_tup, es_nil, es_cons, ec_nil, ec_one, eo_nil, eo_one,     Res.bind_ok, Res.bind_exc, Res.nx_ok, bool_b, okB, opt_i, callV_ok, callV_exc, bltV, len_l, len_t, sum_i, all_b, any_b, abs_i, lst_l, int_b, int_i, idx_l, idx_t, sl_l, sl_s, nwD_ints, nwD_true, nwD_nil, lst0, tup0, lst1, tup1, lst2, tup2, lst3, tup3, lst4, tup4, lst5, tup5, lst6, tup6, lst7, tup7, lst8, tup8, lst12, tup12, lst16, tup16, kUni, List.filter_nil, List.filter_cons, Nat.add_zero, neg_i, bin_ii, bin_cat, bin_rep, List.getElem?_cons_zero, List.getElem?_cons_succ, List.map_cons, List.map_nil, List.all_cons, List.all_nil, List.any_cons, List.any_nil, List.set_cons_zero, List.set_cons_succ,     nwOf, D.flat, ints_ok, bls_ok, if_true, if_false, Bool.false_eq_true, Bool.not_true, Bool.not_false, Bool.and_true, Bool.true_and, Bool.or_true, Bool.true_or, Bool.or_false, Bool.false_or, Bool.and_self, Bool.or_self, Bool.and_false, Bool.false_and, runD, List.length_cons, List.length_nil, List.replicate, List.map_cons, List.map_nil, execSs, execS, setT, keep_true, shut_int, shut_bl, shut_non, shut_str, shut_lst, shut_tup, shut_lst0, shut_tup0, shutL_ints, shutL_dI, shutL_nil, shutL_cons, CE.vars, CEs.vars, List.nil_append, List.cons_append, List.append_nil, keep_f, own0, own0n, ownSs, demF, List.contains_cons, List.contains_nil, Nat.reduceBEq, Nat.reduceBNe, bne_self_eq_false, Nat.reduceAdd, beq_self_eq_true, Option.map_some, Option.map_none, List.any_cons, List.any_nil, Bool.or_false, Bool.and_true, Bool.and_false, Bool.or_true]
          exact ⟨_, rfl, ss, _, _, _, _, rfl, by omega, hs3⟩
        · have ho := ho.resolve_left h
          simp only [h, decide_false, e_var, e_int, e_bl, e_non, e_str, e_gcon, e_bin, e_neg, e_cmp, e_chain, e_and, e_or, e_not, e_ite, e_call, e_blt, e_isi, e_idx, e_sl, e_lst, e_tup, es_nil, es_cons, ec_nil, ec_one, eo_nil, eo_one,     Res.bind_ok, Res.bind_exc, Res.nx_ok, bool_b, okB, opt_i, callV_ok, callV_exc, bltV, len_l, len_t, sum_i, all_b, any_b, abs_i, lst_l, int_b, int_i, idx_l, idx_t, sl_l, sl_s, nwD_ints, nwD_true, nwD_nil, lst0, tup0, lst1, tup1, lst2, tup2, lst3, tup3, lst4, tup4, lst5, tup5, lst6, tup6, lst7, tup7, lst8, tup8, lst12, tup12, lst16, tup16, kUni, List.filter_nil, List.filter_cons, Nat.add_zero, neg_i, bin_ii, bin_cat, bin_rep, List.getElem?_cons_zero, List.getElem?_cons_succ, List.map_cons, List.map_nil, List.all_cons, List.all_nil, List.any_cons, List.any_nil, List.set_cons_zero, List.set_cons_succ,     nwOf, D.flat, ints_ok, bls_ok, if_true, if_false, Bool.false_eq_true, Bool.not_true, Bool.not_false, Bool.and_true, Bool.true_and, Bool.or_true, Bool.true_or, Bool.or_false, Bool.false_or, Bool.and_self, Bool.or_self, Bool.and_false, Bool.false_and, runD, List.length_cons, List.length_nil, List.replicate, List.map_cons, List.map_nil, execSs, execS, setT, keep_true, shut_int, shut_bl, shut_non, shut_str, shut_lst, shut_tup, shut_lst0, shut_tup0, shutL_ints, shutL_dI, shutL_nil, shutL_cons, CE.vars, CEs.vars, List.nil_append, List.cons_append, List.append_nil, keep_f, own0, own0n, ownSs, demF, List.contains_cons, List.contains_nil, Nat.reduceBEq, Nat.reduceBNe, bne_self_eq_false, Nat.reduceAdd, beq_self_eq_true, Option.map_some, Option.map_none, List.any_cons, List.any_nil, Bool.or_false, Bool.and_true, Bool.and_false, Bool.or_true, pathX]
          rw [app_shared (ss := ss) (nw := true) (by omega)]
          exact ⟨_, rfl, ss ++ [one], _, _, _, _, rfl, by simp; omega, fun s hs => by
            rcases List.mem_append.mp hs with hs | hs
            · exact hs3 s hs
            · have : s = one := by simpa using hs
              rw [this]; exact ho⟩
      have hbits := e_compIf (Γ := runP glT fu p (k + 2)) (gl := glT) (env := [some (dI ns, 0, false), some (D.int by', 0, false), some (D.int most, 0, false), some (D.int sets, 0, false), some (D.int c, 0, !decide (by' < (ns.length : Int))), some (D.int n, 0, true), some (D.int kind, 0, true), some (dLL ss, 1, true), some (D.int j, 0, true), some (D.int v, 0, true), o10, o11]) (e := .var 11) (t := .one 11) (k := .range) (es := .cons (.var 5) .nil) (c := .cons (.cmp .Eq (.bin .BitAnd (.bin .RShift (.var 9) (.var 11)) (.cst (.int 1))) (.cst (.int 1))) .nil)
        (upTo n) (fun i => (.int i, 0, true)) (fun i => i) (fun i => decide (Builtin.bitAnd (v / 2 ^ i.toNat) 1 = 1)) (it_range (kk := 0) (nw := true) (by simp only [e_var, e_int, e_bl, e_non, e_str, e_gcon, e_bin, e_neg, e_cmp, e_chain, e_and, e_or, e_not, e_ite, e_call, e_blt, e_isi, e_idx, e_sl, e_lst, e_tup, es_nil, es_cons, ec_nil, ec_one, eo_nil, eo_one,     Res.bind_ok, Res.bind_exc, Res.nx_ok, bool_b, okB, opt_i, callV_ok, callV_exc, bltV, len_l, len_t, sum_i, all_b, any_b, abs_i, lst_l, int_b, int_i, idx_l, idx_t, sl_l, sl_s, nwD_ints, nwD_true, nwD_nil, lst0, tup0, lst1, tup1, lst2, tup2, lst3, tup3, lst4, tup4, lst5, tup5, lst6, tup6, lst7, tup7, lst8, tup8, lst12, tup12, lst16, tup16, kUni, List.filter_nil, List.filter_cons, Nat.add_zero, neg_i, bin_ii, bin_cat, bin_rep, List.getElem?_cons_zero, List.getElem?_cons_succ, List.map_cons, List.map_nil, List.all_cons, List.all_nil, List.any_cons, List.any_nil, List.set_cons_zero, List.set_cons_succ,     nwOf, D.flat, ints_ok, bls_ok, if_true, if_false, Bool.false_eq_true, Bool.not_true, Bool.not_false, Bool.and_true, Bool.true_and, Bool.or_true, Bool.true_or, Bool.or_false, Bool.false_or, Bool.and_self, Bool.or_self, Bool.and_false, Bool.false_and]) (by omega) (by omega)) rfl (fun i hi => by
          have := (upTo_mem.mp hi).1
          refine ⟨_, 0, true, rfl, ?_, fun _ => ?_⟩
          · simp only [e_var, e_int, e_bl, e_non, e_str, e_gcon, e_bin, e_neg, e_cmp, e_chain, e_and, e_or, e_not, e_ite, e_call, e_blt, e_isi, e_idx, e_sl, e_lst, e_tup, es_nil, es_cons, ec_nil, ec_one, eo_nil, eo_one,     Res.bind_ok, Res.bind_exc, Res.nx_ok, bool_b, okB, opt_i, callV_ok, callV_exc, bltV, len_l, len_t, sum_i, all_b, any_b, abs_i, lst_l, int_b, int_i, idx_l, idx_t, sl_l, sl_s, nwD_ints, nwD_true, nwD_nil, lst0, tup0, lst1, tup1, lst2, tup2, lst3, tup3, lst4, tup4, lst5, tup5, lst6, tup6, lst7, tup7, lst8, tup8, lst12, tup12, lst16, tup16, kUni, List.filter_nil, List.filter_cons, Nat.add_zero, neg_i, bin_ii, bin_cat, bin_rep, List.getElem?_cons_zero, List.getElem?_cons_succ, List.map_cons, List.map_nil, List.all_cons, List.all_nil, List.any_cons, List.any_nil, List.set_cons_zero, List.set_cons_succ,     nwOf, D.flat, ints_ok, bls_ok, if_true, if_false, Bool.false_eq_true, Bool.not_true, Bool.not_false, Bool.and_true, Bool.true_and, Bool.or_true, Bool.true_or, Bool.or_false, Bool.false_or, Bool.and_self, Bool.or_self, Bool.and_false, Bool.false_and, shr_ok this, and_ok, cmp_eq, py_int, eqD_int]
          · simp only [e_var, e_int, e_bl, e_non, e_str, e_gcon, e_bin, e_neg, e_cmp, e_chain, e_and, e_or, e_not, e_ite, e_call, e_blt, e_isi, e_idx, e_sl, e_lst, e_tup, es_nil, es_cons, ec_nil, ec_one, eo_nil, eo_one,     Res.bind_ok, Res.bind_exc, Res.nx_ok, bool_b, okB, opt_i, callV_ok, callV_exc, bltV, len_l, len_t, sum_i, all_b, any_b, abs_i, lst_l, int_b, int_i, idx_l, idx_t, sl_l, sl_s, nwD_ints, nwD_true, nwD_nil, lst0, tup0, lst1, tup1, lst2, tup2, lst3, tup3, lst4, tup4, lst5, tup5, lst6, tup6, lst7, tup7, lst8, tup8, lst12, tup12, lst16, tup16, kUni, List.filter_nil, List.filter_cons, Nat.add_zero, neg_i, bin_ii, bin_cat, bin_rep, List.getElem?_cons_zero, List.getElem?_cons_succ, List.map_cons, List.map_nil, List.all_cons, List.all_nil, List.any_cons, List.any_nil, List.set_cons_zero, List.set_cons_succ,     nwOf, D.flat, ints_ok, bls_ok, if_true, if_false, Bool.false_eq_true, Bool.not_true, Bool.not_false, Bool.and_true, Bool.true_and, Bool.or_true, Bool.true_or, Bool.or_false, Bool.false_or, Bool.and_self, Bool.or_self, Bool.and_false, Bool.false_and])
      have hbok : ((upTo n).filter (fun i => decide (Builtin.bitAnd (v / 2 ^ i.toNat) 1 = 1))).map (fun i => i) = [] ∨ okPl n (((upTo n).filter (fun i => decide (Builtin.bitAnd (v / 2 ^ i.toNat) 1 = 1))).map (fun i => i)) = true := by
        rw [List.map_id']
        by_cases hz : (upTo n).filter (fun i => decide (Builtin.bitAnd (v / 2 ^ i.toNat) 1 = 1)) = []
        · exact .inl hz
        · exact .inr (okPl_iff.mpr ⟨hz, fun i hi => upTo_mem.mp (List.mem_filter.mp hi).1, (upTo_sorted n).filter _⟩)
      generalize ((upTo n).filter (fun i => decide (Builtin.bitAnd (v / 2 ^ i.toNat) 1 = 1))).map (fun i => i) = bits at hbits hbok
      simp only [runD, List.length_cons, List.length_nil, List.replicate, List.map_cons, List.map_nil, execSs, execS, setT, keep_true, shut_int, shut_bl, shut_non, shut_str, shut_lst, shut_tup, shut_lst0, shut_tup0, shutL_ints, shutL_dI, shutL_nil, shutL_cons, CE.vars, CEs.vars, List.nil_append, List.cons_append, List.append_nil, keep_f, own0, own0n, ownSs, demF, List.contains_cons, List.contains_nil, Nat.reduceBEq, Nat.reduceBNe, bne_self_eq_false, Nat.reduceAdd, beq_self_eq_true, Option.map_some, Option.map_none, List.any_cons, List.any_nil, Bool.or_false, Bool.and_true, Bool.and_false, Bool.or_true, e_var, e_int, e_bl, e_non, e_str, e_gcon, e_bin, e_neg, e_cmp, e_chain, e_and, e_or, e_not, e_ite, e_call, e_blt, e_isi, e_idx, e_sl, e_lst, e_tup, es_nil, es_cons, ec_nil, ec_one, eo_nil, eo_one,     Res.bind_ok, Res.bind_exc, Res.nx_ok, bool_b, okB, opt_i, callV_ok, callV_exc, bltV, len_l, len_t, sum_i, all_b, any_b, abs_i, lst_l, int_b, int_i, idx_l, idx_t, sl_l, sl_s, nwD_ints, nwD_true, nwD_nil, lst0, tup0, lst1, tup1, lst2, tup2, lst3, tup3, lst4, tup4, lst5, tup5, lst6, tup6, lst7, tup7, lst8, tup8, lst12, tup12, lst16, tup16, kUni, List.filter_nil, List.filter_cons, Nat.add_zero, neg_i, bin_ii, bin_cat, bin_rep, List.getElem?_cons_zero, List.getElem?_cons_succ, List.map_cons, List.map_nil, List.all_cons, List.all_nil, List.any_cons, List.any_nil, List.set_cons_zero, List.set_cons_succ,     nwOf, D.flat, ints_ok, bls_ok, if_true, if_false, Bool.false_eq_true, Bool.not_true, Bool.not_false, Bool.and_true, Bool.true_and, Bool.or_true, Bool.true_or, Bool.or_false, Bool.false_or, Bool.and_self, Bool.or_self, Bool.and_false, Bool.false_and, mod_ok (show (0 : Int) < 5 by decide), add_ok, r_cell hh (show 0 ≤ by' + (j : Int) % 5 by omega), m1, mod_ok (show (0 : Int) < 6 by decide), rv _ (4 + (j : Int) % 6) k (by omega) (by omega), div_ok (j := 3) (b := 20) (by decide) (by decide) (by decide), hv, hbits, cmp_eq, py_int, eqD_int]
      by_cases k1 : kind = 1
      · have d1 : decide (kind = 1) = true := decide_eq_true k1
        have d2 : decide (kind = 2) = false := decide_eq_false (by omega)
        have d3 : decide (kind = 3) = false := decide_eq_false (by omega)
        have q97 := div_ok (i := v) (j := 97) (b := 20) (by decide) (by decide) (by decide)
        have qm := Int.emod_nonneg (v / 97) (show n - v % n ≠ 0 by omega)
        have qm2 := Int.emod_lt_of_pos (v / 97) (show 0 < n - v % n by omega)
        have hne : rangeI (v % n) (v % n + 1 + v / 97 % (n - v % n)) ≠ [] := by
          intro z
          have : v % n ∈ rangeI (v % n) (v % n + 1 + v / 97 % (n - v % n)) := rangeI_mem.mpr ⟨by omega, by omega⟩
          rw [z] at this
          cases this
        obtain ⟨e2, f1, f2⟩ := fin (rangeI (v % n) (v % n + 1 + v / 97 % (n - v % n))) o11 (.inr (okPl_iff.mpr ⟨hne, (fun i hi => by have := rangeI_mem.mp hi; omega), rangeI_sorted _ _⟩))
        simp only [d1, d2, d3, e_var, e_int, e_bl, e_non, e_str, e_gcon, e_bin, e_neg, e_cmp, e_chain, e_and, e_or, e_not, e_ite, e_call, e_blt, e_isi, e_idx, e_sl, e_lst, e_tup, es_nil, es_cons, ec_nil, ec_one, eo_nil, eo_one,     Res.bind_ok, Res.bind_exc, Res.nx_ok, bool_b, okB, opt_i, callV_ok, callV_exc, bltV, len_l, len_t, sum_i, all_b, any_b, abs_i, lst_l, int_b, int_i, idx_l, idx_t, sl_l, sl_s, nwD_ints, nwD_true, nwD_nil, lst0, tup0, lst1, tup1, lst2, tup2, lst3, tup3, lst4, tup4, lst5, tup5, lst6, tup6, lst7, tup7, lst8, tup8, lst12, tup12, lst16, tup16, kUni, List.filter_nil, List.filter_cons, Nat.add_zero, neg_i, bin_ii, bin_cat, bin_rep, List.getElem?_cons_zero, List.getElem?_cons_succ, List.map_cons, List.map_nil, List.all_cons, List.all_nil, List.any_cons, List.any_nil, List.set_cons_zero, List.set_cons_succ,     nwOf, D.flat, ints_ok, bls_ok, if_true, if_false, Bool.false_eq_true, Bool.not_true, Bool.not_false, Bool.and_true, Bool.true_and, Bool.or_true, Bool.true_or, Bool.or_false, Bool.false_or, Bool.and_self, Bool.or_self, Bool.and_false, Bool.false_and, runD, List.length_cons, List.length_nil, List.replicate, List.map_cons, List.map_nil, execSs, execS, setT, keep_true, shut_int, shut_bl, shut_non, shut_str, shut_lst, shut_tup, shut_lst0, shut_tup0, shutL_ints, shutL_dI, shutL_nil, shutL_cons, CE.vars, CEs.vars, List.nil_append, List.cons_append, List.append_nil, keep_f, own0, own0n, ownSs, demF, List.contains_cons, List.contains_nil, Nat.reduceBEq, Nat.reduceBNe, bne_self_eq_false, Nat.reduceAdd, beq_self_eq_true, Option.map_some, Option.map_none, List.any_cons, List.any_nil, Bool.or_false, Bool.and_true, Bool.and_false, Bool.or_true, mod_ok (show 0 < n by omega), add_ok, sub_ok, q97, mod_ok (show 0 < n - v % n by omega), lrange_ok (show -1000000 ≤ v % n by omega) (show v % n ≤ 1000000 by omega) (show -1000000 ≤ v % n + 1 + v / 97 % (n - v % n) by omega) (show v % n + 1 + v / 97 % (n - v % n) ≤ 1000000 by omega) (by omega), cmp_eq, py_int, eqD_int, f1]
        exact ⟨e2, rfl, f2⟩
      by_cases k2 : kind = 2
      · have d1 : decide (kind = 1) = false := decide_eq_false k1
        have d2 : decide (kind = 2) = true := decide_eq_true k2
        have d3 : decide (kind = 3) = false := decide_eq_false (by omega)
        have q31 := div_ok (i := v) (j := 31) (b := 20) (by decide) (by decide) (by decide)
        have q977 := div_ok (i := v) (j := 977) (b := 20) (by decide) (by decide) (by decide)
        have a1 := Int.emod_nonneg (v / 31) (show n ≠ 0 by omega)
        have a2 := Int.emod_lt_of_pos (v / 31) (show 0 < n by omega)
        have b1 := Int.emod_nonneg (v / 977) (show n ≠ 0 by omega)
        have b2 := Int.emod_lt_of_pos (v / 977) (show 0 < n by omega)
        have hmem : ∀ i, i ∈ sortI (ddI [v % n, v / 31 % n, v / 977 % n]) ↔ i ∈ [v % n, v / 31 % n, v / 977 % n] := fun i => by rw [(sortI_perm _).mem_iff, ddI_mem]
        have hne : sortI (ddI [v % n, v / 31 % n, v / 977 % n]) ≠ [] := by
          intro z
          have : v % n ∈ sortI (ddI [v % n, v / 31 % n, v / 977 % n]) := (hmem _).mpr (by simp)
          rw [z] at this
          cases this
        obtain ⟨e2, f1, f2⟩ := fin (sortI (ddI [v % n, v / 31 % n, v / 977 % n])) o11 (.inr (okPl_iff.mpr ⟨hne, (fun i hi => by
            have := (hmem i).mp hi
            simp only [List.mem_cons, List.not_mem_nil, or_false] at this
            rcases this with h | h | h <;> omega), sort_lt (ddI_nodup _)⟩))
        have hs3 := sset_ok (ns := [v % n, v / 31 % n, v / 977 % n]) (k := 1) (nw := true) (by show 3 < 60; decide)
        simp only [dI, List.map_cons, List.map_nil] at hs3
        simp only [d1, d2, d3, e_var, e_int, e_bl, e_non, e_str, e_gcon, e_bin, e_neg, e_cmp, e_chain, e_and, e_or, e_not, e_ite, e_call, e_blt, e_isi, e_idx, e_sl, e_lst, e_tup, es_nil, es_cons, ec_nil, ec_one, eo_nil, eo_one,     Res.bind_ok, Res.bind_exc, Res.nx_ok, bool_b, okB, opt_i, callV_ok, callV_exc, bltV, len_l, len_t, sum_i, all_b, any_b, abs_i, lst_l, int_b, int_i, idx_l, idx_t, sl_l, sl_s, nwD_ints, nwD_true, nwD_nil, lst0, tup0, lst1, tup1, lst2, tup2, lst3, tup3, lst4, tup4, lst5, tup5, lst6, tup6, lst7, tup7, lst8, tup8, lst12, tup12, lst16, tup16, kUni, List.filter_nil, List.filter_cons, Nat.add_zero, neg_i, bin_ii, bin_cat, bin_rep, List.getElem?_cons_zero, List.getElem?_cons_succ, List.map_cons, List.map_nil, List.all_cons, List.all_nil, List.any_cons, List.any_nil, List.set_cons_zero, List.set_cons_succ,     nwOf, D.flat, ints_ok, bls_ok, if_true, if_false, Bool.false_eq_true, Bool.not_true, Bool.not_false, Bool.and_true, Bool.true_and, Bool.or_true, Bool.true_or, Bool.or_false, Bool.false_or, Bool.and_self, Bool.or_self, Bool.and_false, Bool.false_and, runD, List.length_cons, List.length_nil, List.replicate, List.map_cons, List.map_nil, execSs, execS, setT, keep_true, shut_int, shut_bl, shut_non, shut_str, shut_lst, shut_tup, shut_lst0, shut_tup0, shutL_ints, shutL_dI, shutL_nil, shutL_cons, CE.vars, CEs.vars, List.nil_append, List.cons_append, List.append_nil, keep_f, own0, own0n, ownSs, demF, List.contains_cons, List.contains_nil, Nat.reduceBEq, Nat.reduceBNe, bne_self_eq_false, Nat.reduceAdd, beq_self_eq_true, Option.map_some, Option.map_none, List.any_cons, List.any_nil, Bool.or_false, Bool.and_true, Bool.and_false, Bool.or_true, mod_ok (show 0 < n by omega), q31, q977, hs3, cmp_eq, py_int, eqD_int, f1]
        exact ⟨e2, rfl, f2⟩
      have d1 : decide (kind = 1) = false := decide_eq_false k1
      have d2 : decide (kind = 2) = false := decide_eq_false k2
      obtain ⟨e2, f1, f2⟩ := fin bits o11 hbok
      by_cases k3 : kind = 3
      · have d3 : decide (kind = 3) = true := decide_eq_true k3
        have q7 := div_ok (i := v) (j := 7) (b := 20) (by decide) (by decide) (by decide)
        simp only [d1, d2, d3, e_var, e_int, e_bl, e_non, e_str, e_gcon, e_bin, e_neg, e_cmp, e_chain, e_and, e_or, e_not, e_ite, e_call, e_blt, e_isi, e_idx, e_sl, e_lst, e_tup, es_nil, es_cons, ec_nil, ec_one, eo_nil, eo_one,     Res.bind_ok, Res.bind_exc, Res.nx_ok, bool_b, okB, opt_i, callV_ok, callV_exc, bltV, len_l, len_t, sum_i, all_b, any_b, abs_i, lst_l, int_b, int_i, idx_l, idx_t, sl_l, sl_s, nwD_ints, nwD_true, nwD_nil, lst0, tup0, lst1, tup1, lst2, tup2, lst3, tup3, lst4, tup4, lst5, tup5, lst6, tup6, lst7, tup7, lst8, tup8, lst12, tup12, lst16, tup16, kUni, List.filter_nil, List.filter_cons, Nat.add_zero, neg_i, bin_ii, bin_cat, bin_rep, List.getElem?_cons_zero, List.getElem?_cons_succ, List.map_cons, List.map_nil, List.all_cons, List.all_nil, List.any_cons, List.any_nil, List.set_cons_zero, List.set_cons_succ,     nwOf, D.flat, ints_ok, bls_ok, if_true, if_false, Bool.false_eq_true, Bool.not_true, Bool.not_false, Bool.and_true, Bool.true_and, Bool.or_true, Bool.true_or, Bool.or_false, Bool.false_or, Bool.and_self, Bool.or_self, Bool.and_false, Bool.false_and, runD, List.length_cons, List.length_nil, List.replicate, List.map_cons, List.map_nil, execSs, execS, setT, keep_true, shut_int, shut_bl, shut_non, shut_str, shut_lst, shut_tup, shut_lst0, shut_tup0, shutL_ints, shutL_dI, shutL_nil, shutL_cons, CE.vars, CEs.vars, List.nil_append, List.cons_append, List.append_nil, keep_f, own0, own0n, ownSs, demF, List.contains_cons, List.contains_nil, Nat.reduceBEq, Nat.reduceBNe, bne_self_eq_false, Nat.reduceAdd, beq_self_eq_true, Option.map_some, Option.map_none, List.any_cons, List.any_nil, Bool.or_false, Bool.and_true, Bool.and_false, Bool.or_true, cmp_eq, cmp_ne, py_int, eqD_int, py_lst, pyAll_nil, pyAll_dI, eqD_lst, eqLs_dLN, q7, mod_ok (show (0 : Int) < 3 by decide)]
        by_cases hss : ss = []
        · simp only [hss, decide_true, e_var, e_int, e_bl, e_non, e_str, e_gcon, e_bin, e_neg, e_cmp, e_chain, e_and, e_or, e_not, e_ite, e_call, e_blt, e_isi, e_idx, e_sl, e_lst, e_tup, es_nil, es_cons, ec_nil, ec_one, eo_nil, eo_one,     Res.bind_ok, Res.bind_exc, Res.nx_ok, bool_b, okB, opt_i, callV_ok, callV_exc, bltV, len_l, len_t, sum_i, all_b, any_b, abs_i, lst_l, int_b, int_i, idx_l, idx_t, sl_l, sl_s, nwD_ints, nwD_true, nwD_nil, lst0, tup0, lst1, tup1, lst2, tup2, lst3, tup3, lst4, tup4, lst5, tup5, lst6, tup6, lst7, tup7, lst8, tup8, lst12, tup12, lst16, tup16, kUni, List.filter_nil, List.filter_cons, Nat.add_zero, neg_i, bin_ii, bin_cat, bin_rep, List.getElem?_cons_zero, List.getElem?_cons_succ, List.map_cons, List.map_nil, List.all_cons, List.all_nil, List.any_cons, List.any_nil, List.set_cons_zero, List.set_cons_succ,     nwOf, D.flat, ints_ok, bls_ok, if_true, if_false, Bool.false_eq_true, Bool.not_true, Bool.not_false, Bool.and_true, Bool.true_and, Bool.or_true, Bool.true_or, Bool.or_false, Bool.false_or, Bool.and_self, Bool.or_self, Bool.and_false, Bool.false_and, runD, List.length_cons, List.length_nil, List.replicate, List.map_cons, List.map_nil, execSs, execS, setT, keep_true, shut_int, shut_bl, shut_non, shut_str, shut_lst, shut_tup, shut_lst0, shut_tup0, shutL_ints, shutL_dI, shutL_nil, shutL_cons, CE.vars, CEs.vars, List.nil_append, List.cons_append, List.append_nil, keep_f, own0, own0n, ownSs, demF, List.contains_cons, List.contains_nil, Nat.reduceBEq, Nat.reduceBNe, bne_self_eq_false, Nat.reduceAdd, beq_self_eq_true, Option.map_some, Option.map_none, List.any_cons, List.any_nil, Bool.or_false, Bool.and_true, Bool.and_false, Bool.or_true] at f1 ⊢
          rw [f1]
          exact ⟨e2, rfl, f2⟩
        · simp only [hss, decide_false, e_var, e_int, e_bl, e_non, e_str, e_gcon, e_bin, e_neg, e_cmp, e_chain, e_and, e_or, e_not, e_ite, e_call, e_blt, e_isi, e_idx, e_sl, e_lst, e_tup, es_nil, es_cons, ec_nil, ec_one, eo_nil, eo_one,     Res.bind_ok, Res.bind_exc, Res.nx_ok, bool_b, okB, opt_i, callV_ok, callV_exc, bltV, len_l, len_t, sum_i, all_b, any_b, abs_i, lst_l, int_b, int_i, idx_l, idx_t, sl_l, sl_s, nwD_ints, nwD_true, nwD_nil, lst0, tup0, lst1, tup1, lst2, tup2, lst3, tup3, lst4, tup4, lst5, tup5, lst6, tup6, lst7, tup7, lst8, tup8, lst12, tup12, lst16, tup16, kUni, List.filter_nil, List.filter_cons, Nat.add_zero, neg_i, bin_ii, bin_cat, bin_rep, List.getElem?_cons_zero, List.getElem?_cons_succ, List.map_cons, List.map_nil, List.all_cons, List.all_nil, List.any_cons, List.any_nil, List.set_cons_zero, List.set_cons_succ,     nwOf, D.flat, ints_ok, bls_ok, if_true, if_false, Bool.false_eq_true, Bool.not_true, Bool.not_false, Bool.and_true, Bool.true_and, Bool.or_true, Bool.true_or, Bool.or_false, Bool.false_or, Bool.and_self, Bool.or_self, Bool.and_false, Bool.false_and, runD, List.length_cons, List.length_nil, List.replicate, List.map_cons, List.map_nil, execSs, execS, setT, keep_true, shut_int, shut_bl, shut_non, shut_str, shut_lst, shut_tup, shut_lst0, shut_tup0, shutL_ints, shutL_dI, shutL_nil, shutL_cons, CE.vars, CEs.vars, List.nil_append, List.cons_append, List.append_nil, keep_f, own0, own0n, ownSs, demF, List.contains_cons, List.contains_nil, Nat.reduceBEq, Nat.reduceBNe, bne_self_eq_false, Nat.reduceAdd, beq_self_eq_true, Option.map_some, Option.map_none, List.any_cons, List.any_nil, Bool.or_false, Bool.and_true, Bool.and_false, Bool.or_true]
          by_cases h73 : v / 7 % 3 = 0
          · obtain ⟨s0, ss', rfl⟩ : ∃ s0 ss', ss = s0 :: ss' := by
              cases ss with
              | nil => exact absurd rfl hss
              | cons a l => exact ⟨a, l, rfl⟩
            obtain ⟨e3, g1, g2⟩ := fin s0 o11 (.inr (hs3 s0 (by simp)))
            simp only [h73, decide_true, e_var, e_int, e_bl, e_non, e_str, e_gcon, e_bin, e_neg, e_cmp, e_chain, e_and, e_or, e_not, e_ite, e_call, e_blt, e_isi, e_idx, e_sl, e_lst, e_tup, es_nil, es_cons, ec_nil, ec_one, eo_nil, eo_one,     Res.bind_ok, Res.bind_exc, Res.nx_ok, bool_b, okB, opt_i, callV_ok, callV_exc, bltV, len_l, len_t, sum_i, all_b, any_b, abs_i, lst_l, int_b, int_i, idx_l, idx_t, sl_l, sl_s, nwD_ints, nwD_true, nwD_nil, lst0, tup0, lst1, tup1, lst2, tup2, lst3, tup3, lst4, tup4, lst5, tup5, lst6, tup6, lst7, tup7, lst8, tup8, lst12, tup12, lst16, tup16, kUni, List.filter_nil, List.filter_cons, Nat.add_zero, neg_i, bin_ii, bin_cat, bin_rep, List.getElem?_cons_zero, List.getElem?_cons_succ, List.map_cons, List.map_nil, List.all_cons, List.all_nil, List.any_cons, List.any_nil, List.set_cons_zero, List.set_cons_succ,     nwOf, D.flat, ints_ok, bls_ok, if_true, if_false, Bool.false_eq_true, Bool.not_true, Bool.not_false, Bool.and_true, Bool.true_and, Bool.or_true, Bool.true_or, Bool.or_false, Bool.false_or, Bool.and_self, Bool.or_self, Bool.and_false, Bool.false_and, runD, List.length_cons, List.length_nil, List.replicate, List.map_cons, List.map_nil, execSs, execS, setT, keep_true, shut_int, shut_bl, shut_non, shut_str, shut_lst, shut_tup, shut_lst0, shut_tup0, shutL_ints, shutL_dI, shutL_nil, shutL_cons, CE.vars, CEs.vars, List.nil_append, List.cons_append, List.append_nil, keep_f, own0, own0n, ownSs, demF, List.contains_cons, List.contains_nil, Nat.reduceBEq, Nat.reduceBNe, bne_self_eq_false, Nat.reduceAdd, beq_self_eq_true, Option.map_some, Option.map_none, List.any_cons, List.any_nil, Bool.or_false, Bool.and_true, Bool.and_false, Bool.or_true, dLL_head] at g1 ⊢
            simp only [atD0, e_var, e_int, e_bl, e_non, e_str, e_gcon, e_bin, e_neg, e_cmp, e_chain, e_and, e_or, e_not, e_ite, e_call, e_blt, e_isi, e_idx, e_sl, e_lst, e_tup, es_nil, es_cons, ec_nil, ec_one, eo_nil, eo_one,     Res.bind_ok, Res.bind_exc, Res.nx_ok, bool_b, okB, opt_i, callV_ok, callV_exc, bltV, len_l, len_t, sum_i, all_b, any_b, abs_i, lst_l, int_b, int_i, idx_l, idx_t, sl_l, sl_s, nwD_ints, nwD_true, nwD_nil, lst0, tup0, lst1, tup1, lst2, tup2, lst3, tup3, lst4, tup4, lst5, tup5, lst6, tup6, lst7, tup7, lst8, tup8, lst12, tup12, lst16, tup16, kUni, List.filter_nil, List.filter_cons, Nat.add_zero, neg_i, bin_ii, bin_cat, bin_rep, List.getElem?_cons_zero, List.getElem?_cons_succ, List.map_cons, List.map_nil, List.all_cons, List.all_nil, List.any_cons, List.any_nil, List.set_cons_zero, List.set_cons_succ,     nwOf, D.flat, ints_ok, bls_ok, if_true, if_false, Bool.false_eq_true, Bool.not_true, Bool.not_false, Bool.and_true, Bool.true_and, Bool.or_true, Bool.true_or, Bool.or_false, Bool.false_or, Bool.and_self, Bool.or_self, Bool.and_false, Bool.false_and, runD, List.length_cons, List.length_nil, List.replicate, List.map_cons, List.map_nil, execSs, execS, setT, keep_true, shut_int, shut_bl, shut_non, shut_str, shut_lst, shut_tup, shut_lst0, shut_tup0, shutL_ints, shutL_dI, shutL_nil, shutL_cons, CE.vars, CEs.vars, List.nil_append, List.cons_append, List.append_nil, keep_f, own0, own0n, ownSs, demF, List.contains_cons, List.contains_nil, Nat.reduceBEq, Nat.reduceBNe, bne_self_eq_false, Nat.reduceAdd, beq_self_eq_true, Option.map_some, Option.map_none, List.any_cons, List.any_nil, Bool.or_false, Bool.and_true, Bool.and_false, Bool.or_true, shutL_ints]
            rw [g1]
            exact ⟨e3, rfl, g2⟩
          · simp only [h73, decide_false, e_var, e_int, e_bl, e_non, e_str, e_gcon, e_bin, e_neg, e_cmp, e_chain, e_and, e_or, e_not, e_ite, e_call, e_blt, e_isi, e_idx, e_sl, e_lst, e_tup, es_nil, es_cons, ec_nil, ec_one, eo_nil, eo_one,     Res.bind_ok, Res.bind_exc, Res.nx_ok, bool_b, okB, opt_i, callV_ok, callV_exc, bltV, len_l, len_t, sum_i, all_b, any_b, abs_i, lst_l, int_b, int_i, idx_l, idx_t, sl_l, sl_s, nwD_ints, nwD_true, nwD_nil, lst0, tup0, lst1, tup1, lst2, tup2, lst3, tup3, lst4, tup4, lst5, tup5, lst6, tup6, lst7, tup7, lst8, tup8, lst12, tup12, lst16, tup16, kUni, List.filter_nil, List.filter_cons, Nat.add_zero, neg_i, bin_ii, bin_cat, bin_rep, List.getElem?_cons_zero, List.getElem?_cons_succ, List.map_cons, List.map_nil, List.all_cons, List.all_nil, List.any_cons, List.any_nil, List.set_cons_zero, List.set_cons_succ,     nwOf, D.flat, ints_ok, bls_ok, if_true, if_false, Bool.false_eq_true, Bool.not_true, Bool.not_false, Bool.and_true, Bool.true_and, Bool.or_true, Bool.true_or, Bool.or_false, Bool.false_or, Bool.and_self, Bool.or_self, Bool.and_false, Bool.false_and, runD, List.length_cons, List.length_nil, List.replicate, List.map_cons, List.map_nil, execSs, execS, setT, keep_true, shut_int, shut_bl, shut_non, shut_str, shut_lst, shut_tup, shut_lst0, shut_tup0, shutL_ints, shutL_dI, shutL_nil, shutL_cons, CE.vars, CEs.vars, List.nil_append, List.cons_append, List.append_nil, keep_f, own0, own0n, ownSs, demF, List.contains_cons, List.contains_nil, Nat.reduceBEq, Nat.reduceBNe, bne_self_eq_false, Nat.reduceAdd, beq_self_eq_true, Option.map_some, Option.map_none, List.any_cons, List.any_nil, Bool.or_false, Bool.and_true, Bool.and_false, Bool.or_true, f1]
            exact ⟨e2, rfl, f2⟩
      · have d3 : decide (kind = 3) = false := decide_eq_false k3
        simp only [d1, d2, d3, e_var, e_int, e_bl, e_non, e_str, e_gcon, e_bin, e_neg, e_cmp, e_chain, e_and, e_or, e_not, e_ite, e_call, e_blt, e_isi, e_idx, e_sl, e_lst, e_tup, es_nil, es_cons, ec_nil, ec_one, eo_nil, eo_one,     Res.bind_ok, Res.bind_exc, Res.nx_ok, bool_b, okB, opt_i, callV_ok, callV_exc, bltV, len_l, len_t, sum_i, all_b, any_b, abs_i, lst_l, int_b, int_i, idx_l, idx_t, sl_l, sl_s, nwD_ints, nwD_true, nwD_nil, lst0, tup0, lst1, tup1, lst2, tup2, lst3, tup3, lst4, tup4, lst5, tup5, lst6, tup6, lst7, tup7, lst8, tup8, lst12, tup12, lst16, tup16, kUni, List.filter_nil, List.filter_cons, Nat.add_zero, neg_i, bin_ii, bin_cat, bin_rep, List.getElem?_cons_zero, List.getElem?_cons_succ, List.map_cons, List.map_nil, List.all_cons, List.all_nil, List.any_cons, List.any_nil, List.set_cons_zero, List.set_cons_succ,     nwOf, D.flat, ints_ok, bls_ok, if_true, if_false, Bool.false_eq_true, Bool.not_true, Bool.not_false, Bool.and_true, Bool.true_and, Bool.or_true, Bool.true_or, Bool.or_false, Bool.false_or, Bool.and_self, Bool.or_self, Bool.and_false, Bool.false_and, runD, List.length_cons, List.length_nil, List.replicate, List.map_cons, List.map_nil, execSs, execS, setT, keep_true, shut_int, shut_bl, shut_non, shut_str, shut_lst, shut_tup, shut_lst0, shut_tup0, shutL_ints, shutL_dI, shutL_nil, shutL_cons, CE.vars, CEs.vars, List.nil_append, List.cons_append, List.append_nil, keep_f, own0, own0n, ownSs, demF, List.contains_cons, List.contains_nil, Nat.reduceBEq, Nat.reduceBNe, bne_self_eq_false, Nat.reduceAdd, beq_self_eq_true, Option.map_some, Option.map_none, List.any_cons, List.any_nil, Bool.or_false, Bool.and_true, Bool.and_false, Bool.or_true, cmp_eq, py_int, eqD_int, f1]
        exact ⟨e2, rfl, f2⟩)
  subst h2
  rw [h1]
  simp only [runD, List.length_cons, List.length_nil, List.replicate, List.map_cons, List.map_nil, execSs, execS, setT, keep_true, shut_int, shut_bl, shut_non, shut_str, shut_lst, shut_tup, shut_lst0, shut_tup0, shutL_ints, shutL_dI, shutL_nil, shutL_cons, CE.vars, CEs.vars, List.nil_append, List.cons_append, List.append_nil, keep_f, own0, own0n, ownSs, demF, List.contains_cons, List.contains_nil, Nat.reduceBEq, Nat.reduceBNe, bne_self_eq_false, Nat.reduceAdd, beq_self_eq_true, Option.map_some, Option.map_none, List.any_cons, List.any_nil, Bool.or_false, Bool.and_true, Bool.and_false, Bool.or_true, e_var, e_int, e_bl, e_non, e_str, e_gcon, e_bin, e_neg, e_cmp, e_chain, e_and, e_or, e_not, e_ite, e_call, e_blt, e_isi, e_idx, e_sl, e_lst, e_tup, es_nil, es_cons, ec_nil, ec_one, eo_nil, eo_one,     Res.bind_ok, Res.bind_exc, Res.nx_ok, bool_b, okB, opt_i, callV_ok, callV_exc, bltV, len_l, len_t, sum_i, all_b, any_b, abs_i, lst_l, int_b, int_i, idx_l, idx_t, sl_l, sl_s, nwD_ints, nwD_true, nwD_nil, lst0, tup0, lst1, tup1, lst2, tup2, lst3, tup3, lst4, tup4, lst5, tup5, lst6, tup6, lst7, tup7, lst8, tup8, lst12, tup12, lst16, tup16, kUni, List.filter_nil, List.filter_cons, Nat.add_zero, neg_i, bin_ii, bin_cat, bin_rep, List.getElem?_cons_zero, List.getElem?_cons_succ, List.map_cons, List.map_nil, List.all_cons, List.all_nil, List.any_cons, List.any_nil, List.set_cons_zero, List.set_cons_succ,     nwOf, D.flat, ints_ok, bls_ok, if_true, if_false, Bool.false_eq_true, Bool.not_true, Bool.not_false, Bool.and_true, Bool.true_and, Bool.or_true, Bool.true_or, Bool.or_false, Bool.false_or, Bool.and_self, Bool.or_self, Bool.and_false, Bool.false_and]
  refine ⟨n, ss, rfl, hn1.1, hn1.2, ?_, h4⟩
  rw [upTo_len] at h3
  omega
end
end TT

set_option Elab.async false
set_option linter.all false
set_option autoImplicit false
set_option maxRecDepth 100000
set_option maxHeartbeats 2000000
/-! UF: tables; more of the laws' helpers. -/
namespace TT
open PySem L2
theorem ext_cons {q p : Prg} {n : Str} {fd : Fd} (h : Ext q p) (hn : q.lookup n = none) : Ext q ((n, fd) :: p) := by
  intro f fd' hf
  rw [List.lookup]
  cases e : f == n with
  | true =>
    rw [beq_iff_eq] at e
    subst e
    rw [hn] at hf
    cases hf
  | false => exact h f fd' hf
theorem ext_left {q r : Prg} : Ext q (q ++ r) := by
  intro f fd h
  rw [List.lookup_append, h]
  rfl
theorem lookup_names {q : Prg} {f : Str} {fd : Fd} (h : q.lookup f = some fd) : f ∈ q.map (·.1) := by
  induction q with
  | nil => cases h
  | cons a q ih =>
    obtain ⟨n, d⟩ := a
    rw [List.lookup] at h
    cases e : f == n with
    | true =>
      rw [beq_iff_eq] at e
      simp [e]
    | false =>
      rw [e] at h
      simp [ih h]
theorem ext_right {q r : Prg} (h : (q.map (·.1)).all (fun n => !(r.map (·.1)).contains n) = true) : Ext r (q ++ r) := by
  intro f fd hf
  rw [List.lookup_append]
  cases e : q.lookup f with
  | none => exact hf
  | some x =>
    have := List.all_eq_true.mp h f (lookup_names e)
    have h2 := lookup_names hf
    simp at this
    obtain ⟨⟨a, b⟩, h3, h4⟩ := List.mem_map.mp h2
    have h4 : a = f := h4
    subst h4
    exact absurd h3 (this b)
theorem ext_hlp : Ext pHlp (pHlp ++ pPkg) := ext_left
theorem ext_pkg : Ext pPkg (pHlp ++ pPkg) := ext_right (by decide +kernel)
section
variable {fu : Nat} {p : Prg}
theorem r_lwhole (hh : Ext pHlp p) {k : Nat} {i : Int} : runP glT fu p (k + 1) "_law_whole" [.int i] = .ok (.bl true, 0, true) := by
  rw [runP_eq (hh "_law_whole" f_law_whole (by kernel_rfl)) rfl]
  simp only [f_law_whole, runD, List.length_cons, List.length_nil, List.replicate, List.map_cons, List.map_nil, execSs, execS, setT, keep_true, shut_int, shut_bl, shut_non, shut_str, shut_lst, shut_tup, shut_lst0, shut_tup0, shutL_ints, shutL_dI, shutL_nil, shutL_cons, CE.vars, CEs.vars, List.nil_append, List.cons_append, List.append_nil, keep_f, own0, own0n, ownSs, demF, List.contains_cons, List.contains_nil, Nat.reduceBEq, Nat.reduceBNe, bne_self_eq_false, Nat.reduceAdd, beq_self_eq_true, Option.map_some, Option.map_none, List.any_cons, List.any_nil, Bool.or_false, Bool.and_true, Bool.and_false, Bool.or_true, e_var, e_int, e_bl, e_non, e_str, e_gcon, e_bin, e_neg, e_cmp, e_chain, e_and, e_or, e_not, e_ite, e_call, e_blt, e_isi, e_idx, e_sl, e_lst, e_tup, es_nil, es_cons, ec_nil, ec_one, eo_nil, eo_one,     Res.bind_ok, Res.bind_exc, Res.nx_ok, bool_b, okB, opt_i, callV_ok, callV_exc, bltV, len_l, len_t, sum_i, all_b, any_b, abs_i, lst_l, int_b, int_i, idx_l, idx_t, sl_l, sl_s, nwD_ints, nwD_true, nwD_nil, lst0, tup0, lst1, tup1, lst2, tup2, lst3, tup3, lst4, tup4, lst5, tup5, lst6, tup6, lst7, tup7, lst8, tup8, lst12, tup12, lst16, tup16, kUni, List.filter_nil, List.filter_cons, Nat.add_zero, neg_i, bin_ii, bin_cat, bin_rep, List.getElem?_cons_zero, List.getElem?_cons_succ, List.map_cons, List.map_nil, List.all_cons, List.all_nil, List.any_cons, List.any_nil, List.set_cons_zero, List.set_cons_succ,     nwOf, D.flat, ints_ok, bls_ok, if_true, if_false, Bool.false_eq_true, Bool.not_true, Bool.not_false, Bool.and_true, Bool.true_and, Bool.or_true, Bool.true_or, Bool.or_false, Bool.false_or, Bool.and_self, Bool.or_self, Bool.and_false, Bool.false_and, isiD]
theorem r_copy (hc : p.lookup ("_law_copy" : Str) = some f_law_copy_k01) {k : Nat} {n : Int} {ss : List (List Int)} : runP glT fu p (k + 1) "_law_copy" [dFam n ss] = .ok (dFam n ss, 3, true) := by
  rw [runP_eq hc rfl]
  simp only [f_law_copy_k01, runD, List.length_cons, List.length_nil, List.replicate, List.map_cons, List.map_nil, execSs, execS, setT, keep_true, shut_int, shut_bl, shut_non, shut_str, shut_lst, shut_tup, shut_lst0, shut_tup0, shutL_ints, shutL_dI, shutL_nil, shutL_cons, CE.vars, CEs.vars, List.nil_append, List.cons_append, List.append_nil, keep_f, own0, own0n, ownSs, demF, List.contains_cons, List.contains_nil, Nat.reduceBEq, Nat.reduceBNe, bne_self_eq_false, Nat.reduceAdd, beq_self_eq_true, Option.map_some, Option.map_none, List.any_cons, List.any_nil, Bool.or_false, Bool.and_true, Bool.and_false, Bool.or_true, e_var, e_int, e_bl, e_non, e_str, e_gcon, e_bin, e_neg, e_cmp, e_chain, e_and, e_or, e_not, e_ite, e_call, e_blt, e_isi, e_idx, e_sl, e_lst, e_tup, es_nil, es_cons, ec_nil, ec_one, eo_nil, eo_one,     Res.bind_ok, Res.bind_exc, Res.nx_ok, bool_b, okB, opt_i, callV_ok, callV_exc, bltV, len_l, len_t, sum_i, all_b, any_b, abs_i, lst_l, int_b, int_i, idx_l, idx_t, sl_l, sl_s, nwD_ints, nwD_true, nwD_nil, lst0, tup0, lst1, tup1, lst2, tup2, lst3, tup3, lst4, tup4, lst5, tup5, lst6, tup6, lst7, tup7, lst8, tup8, lst12, tup12, lst16, tup16, kUni, List.filter_nil, List.filter_cons, Nat.add_zero, neg_i, bin_ii, bin_cat, bin_rep, List.getElem?_cons_zero, List.getElem?_cons_succ, List.map_cons, List.map_nil, List.all_cons, List.all_nil, List.any_cons, List.any_nil, List.set_cons_zero, List.set_cons_succ,     nwOf, D.flat, ints_ok, bls_ok, if_true, if_false, Bool.false_eq_true, Bool.not_true, Bool.not_false, Bool.and_true, Bool.true_and, Bool.or_true, Bool.true_or, Bool.or_false, Bool.false_or, Bool.and_self, Bool.or_self, Bool.and_false, Bool.false_and, atD0]
  rw [e_compN ss (fun s => (dI s, 0, false)) (fun s => s) (it_lists (kk := 0) (by simp only [e_var, e_int, e_bl, e_non, e_str, e_gcon, e_bin, e_neg, e_cmp, e_chain, e_and, e_or, e_not, e_ite, e_call, e_blt, e_isi, e_idx, e_sl, e_lst, e_tup, es_nil, es_cons, ec_nil, ec_one, eo_nil, eo_one,     Res.bind_ok, Res.bind_exc, Res.nx_ok, bool_b, okB, opt_i, callV_ok, callV_exc, bltV, len_l, len_t, sum_i, all_b, any_b, abs_i, lst_l, int_b, int_i, idx_l, idx_t, sl_l, sl_s, nwD_ints, nwD_true, nwD_nil, lst0, tup0, lst1, tup1, lst2, tup2, lst3, tup3, lst4, tup4, lst5, tup5, lst6, tup6, lst7, tup7, lst8, tup8, lst12, tup12, lst16, tup16, kUni, List.filter_nil, List.filter_cons, Nat.add_zero, neg_i, bin_ii, bin_cat, bin_rep, List.getElem?_cons_zero, List.getElem?_cons_succ, List.map_cons, List.map_nil, List.all_cons, List.all_nil, List.any_cons, List.any_nil, List.set_cons_zero, List.set_cons_succ,     nwOf, D.flat, ints_ok, bls_ok, if_true, if_false, Bool.false_eq_true, Bool.not_true, Bool.not_false, Bool.and_true, Bool.true_and, Bool.or_true, Bool.true_or, Bool.or_false, Bool.false_or, Bool.and_self, Bool.or_self, Bool.and_false, Bool.false_and, atD1])) rfl fun s hs => ?_]
  · simp only [e_var, e_int, e_bl, e_non, e_str, e_gcon, e_bin, e_neg, e_cmp, e_chain, e_and, e_or, e_not, e_ite, e_call, e_blt, e_isi, e_idx, e_sl, e_lst, e_tup, es_nil, es_cons, ec_nil, ec_one, eo_nil, eo_one,     Res.bind_ok, Res.bind_exc, Res.nx_ok, bool_b, okB, opt_i, callV_ok, callV_exc, bltV, len_l, len_t, sum_i, all_b, any_b, abs_i, lst_l, int_b, int_i, idx_l, idx_t, sl_l, sl_s, nwD_ints, nwD_true, nwD_nil, lst0, tup0, lst1, tup1, lst2, tup2, lst3, tup3, lst4, tup4, lst5, tup5, lst6, tup6, lst7, tup7, lst8, tup8, lst12, tup12, lst16, tup16, kUni, List.filter_nil, List.filter_cons, Nat.add_zero, neg_i, bin_ii, bin_cat, bin_rep, List.getElem?_cons_zero, List.getElem?_cons_succ, List.map_cons, List.map_nil, List.all_cons, List.all_nil, List.any_cons, List.any_nil, List.set_cons_zero, List.set_cons_succ,     nwOf, D.flat, ints_ok, bls_ok, if_true, if_false, Bool.false_eq_true, Bool.not_true, Bool.not_false, Bool.and_true, Bool.true_and, Bool.or_true, Bool.true_or, Bool.or_false, Bool.false_or, Bool.and_self, Bool.or_self, Bool.and_false, Bool.false_and]
    simp
  · refine ⟨_, rfl, ?_⟩
    simp only [e_var, e_int, e_bl, e_non, e_str, e_gcon, e_bin, e_neg, e_cmp, e_chain, e_and, e_or, e_not, e_ite, e_call, e_blt, e_isi, e_idx, e_sl, e_lst, e_tup, es_nil, es_cons, ec_nil, ec_one, eo_nil, eo_one,     Res.bind_ok, Res.bind_exc, Res.nx_ok, bool_b, okB, opt_i, callV_ok, callV_exc, bltV, len_l, len_t, sum_i, all_b, any_b, abs_i, lst_l, int_b, int_i, idx_l, idx_t, sl_l, sl_s, nwD_ints, nwD_true, nwD_nil, lst0, tup0, lst1, tup1, lst2, tup2, lst3, tup3, lst4, tup4, lst5, tup5, lst6, tup6, lst7, tup7, lst8, tup8, lst12, tup12, lst16, tup16, kUni, List.filter_nil, List.filter_cons, Nat.add_zero, neg_i, bin_ii, bin_cat, bin_rep, List.getElem?_cons_zero, List.getElem?_cons_succ, List.map_cons, List.map_nil, List.all_cons, List.all_nil, List.any_cons, List.any_nil, List.set_cons_zero, List.set_cons_succ,     nwOf, D.flat, ints_ok, bls_ok, if_true, if_false, Bool.false_eq_true, Bool.not_true, Bool.not_false, Bool.and_true, Bool.true_and, Bool.or_true, Bool.true_or, Bool.or_false, Bool.false_or, Bool.and_self, Bool.or_self, Bool.and_false, Bool.false_and]
theorem r_lsums (hh : Ext pHlp p) {k : Nat} {n : Int} {ss : List (List Int)} {row : List Int} (h : inRow ss row.length) :
    runP glT fu p (k + 1) "_law_sums" [dFam n ss, dI row] = .ok (dI (sumsOf ss row), 1, true) := by
  rw [runP_eq (hh "_law_sums" f_law_sums (by kernel_rfl)) rfl]
  simp only [f_law_sums, runD, List.length_cons, List.length_nil, List.replicate, List.map_cons, List.map_nil, execSs, execS, setT, keep_true, shut_int, shut_bl, shut_non, shut_str, shut_lst, shut_tup, shut_lst0, shut_tup0, shutL_ints, shutL_dI, shutL_nil, shutL_cons, CE.vars, CEs.vars, List.nil_append, List.cons_append, List.append_nil, keep_f, own0, own0n, ownSs, demF, List.contains_cons, List.contains_nil, Nat.reduceBEq, Nat.reduceBNe, bne_self_eq_false, Nat.reduceAdd, beq_self_eq_true, Option.map_some, Option.map_none, List.any_cons, List.any_nil, Bool.or_false, Bool.and_true, Bool.and_false, Bool.or_true]
  rw [e_compI ss (fun s => (dI s, 0, false)) (fun s => (s.map (atR row)).sum) (it_lists (kk := 0) (by simp only [e_var, e_int, e_bl, e_non, e_str, e_gcon, e_bin, e_neg, e_cmp, e_chain, e_and, e_or, e_not, e_ite, e_call, e_blt, e_isi, e_idx, e_sl, e_lst, e_tup, es_nil, es_cons, ec_nil, ec_one, eo_nil, eo_one,     Res.bind_ok, Res.bind_exc, Res.nx_ok, bool_b, okB, opt_i, callV_ok, callV_exc, bltV, len_l, len_t, sum_i, all_b, any_b, abs_i, lst_l, int_b, int_i, idx_l, idx_t, sl_l, sl_s, nwD_ints, nwD_true, nwD_nil, lst0, tup0, lst1, tup1, lst2, tup2, lst3, tup3, lst4, tup4, lst5, tup5, lst6, tup6, lst7, tup7, lst8, tup8, lst12, tup12, lst16, tup16, kUni, List.filter_nil, List.filter_cons, Nat.add_zero, neg_i, bin_ii, bin_cat, bin_rep, List.getElem?_cons_zero, List.getElem?_cons_succ, List.map_cons, List.map_nil, List.all_cons, List.all_nil, List.any_cons, List.any_nil, List.set_cons_zero, List.set_cons_succ,     nwOf, D.flat, ints_ok, bls_ok, if_true, if_false, Bool.false_eq_true, Bool.not_true, Bool.not_false, Bool.and_true, Bool.true_and, Bool.or_true, Bool.true_or, Bool.or_false, Bool.false_or, Bool.and_self, Bool.or_self, Bool.and_false, Bool.false_and, atD1])) rfl fun s hs => ?_]
  · rfl
  · refine ⟨_, 0, true, rfl, ?_⟩
    simp only [e_var, e_int, e_bl, e_non, e_str, e_gcon, e_bin, e_neg, e_cmp, e_chain, e_and, e_or, e_not, e_ite, e_call, e_blt, e_isi, e_idx, e_sl, e_lst, e_tup, es_nil, es_cons, ec_nil, ec_one, eo_nil, eo_one,     Res.bind_ok, Res.bind_exc, Res.nx_ok, bool_b, okB, opt_i, callV_ok, callV_exc, bltV, len_l, len_t, sum_i, all_b, any_b, abs_i, lst_l, int_b, int_i, idx_l, idx_t, sl_l, sl_s, nwD_ints, nwD_true, nwD_nil, lst0, tup0, lst1, tup1, lst2, tup2, lst3, tup3, lst4, tup4, lst5, tup5, lst6, tup6, lst7, tup7, lst8, tup8, lst12, tup12, lst16, tup16, kUni, List.filter_nil, List.filter_cons, Nat.add_zero, neg_i, bin_ii, bin_cat, bin_rep, List.getElem?_cons_zero, List.getElem?_cons_succ, List.map_cons, List.map_nil, List.all_cons, List.all_nil, List.any_cons, List.any_nil, List.set_cons_zero, List.set_cons_succ,     nwOf, D.flat, ints_ok, bls_ok, if_true, if_false, Bool.false_eq_true, Bool.not_true, Bool.not_false, Bool.and_true, Bool.true_and, Bool.or_true, Bool.true_or, Bool.or_false, Bool.false_or, Bool.and_self, Bool.or_self, Bool.and_false, Bool.false_and]
    rw [e_compI s (fun i => (.int i, 0, false)) (atR row) (it_ints (kk := 0) (by simp only [e_var, e_int, e_bl, e_non, e_str, e_gcon, e_bin, e_neg, e_cmp, e_chain, e_and, e_or, e_not, e_ite, e_call, e_blt, e_isi, e_idx, e_sl, e_lst, e_tup, es_nil, es_cons, ec_nil, ec_one, eo_nil, eo_one,     Res.bind_ok, Res.bind_exc, Res.nx_ok, bool_b, okB, opt_i, callV_ok, callV_exc, bltV, len_l, len_t, sum_i, all_b, any_b, abs_i, lst_l, int_b, int_i, idx_l, idx_t, sl_l, sl_s, nwD_ints, nwD_true, nwD_nil, lst0, tup0, lst1, tup1, lst2, tup2, lst3, tup3, lst4, tup4, lst5, tup5, lst6, tup6, lst7, tup7, lst8, tup8, lst12, tup12, lst16, tup16, kUni, List.filter_nil, List.filter_cons, Nat.add_zero, neg_i, bin_ii, bin_cat, bin_rep, List.getElem?_cons_zero, List.getElem?_cons_succ, List.map_cons, List.map_nil, List.all_cons, List.all_nil, List.any_cons, List.any_nil, List.set_cons_zero, List.set_cons_succ,     nwOf, D.flat, ints_ok, bls_ok, if_true, if_false, Bool.false_eq_true, Bool.not_true, Bool.not_false, Bool.and_true, Bool.true_and, Bool.or_true, Bool.true_or, Bool.or_false, Bool.false_or, Bool.and_self, Bool.or_self, Bool.and_false, Bool.false_and])) rfl fun i hi => ?_]
    · simp only [e_var, e_int, e_bl, e_non, e_str, e_gcon, e_bin, e_neg, e_cmp, e_chain, e_and, e_or, e_not, e_ite, e_call, e_blt, e_isi, e_idx, e_sl, e_lst, e_tup, es_nil, es_cons, ec_nil, ec_one, eo_nil, eo_one,     Res.bind_ok, Res.bind_exc, Res.nx_ok, bool_b, okB, opt_i, callV_ok, callV_exc, bltV, len_l, len_t, sum_i, all_b, any_b, abs_i, lst_l, int_b, int_i, idx_l, idx_t, sl_l, sl_s, nwD_ints, nwD_true, nwD_nil, lst0, tup0, lst1, tup1, lst2, tup2, lst3, tup3, lst4, tup4, lst5, tup5, lst6, tup6, lst7, tup7, lst8, tup8, lst12, tup12, lst16, tup16, kUni, List.filter_nil, List.filter_cons, Nat.add_zero, neg_i, bin_ii, bin_cat, bin_rep, List.getElem?_cons_zero, List.getElem?_cons_succ, List.map_cons, List.map_nil, List.all_cons, List.all_nil, List.any_cons, List.any_nil, List.set_cons_zero, List.set_cons_succ,     nwOf, D.flat, ints_ok, bls_ok, if_true, if_false, Bool.false_eq_true, Bool.not_true, Bool.not_false, Bool.and_true, Bool.true_and, Bool.or_true, Bool.true_or, Bool.or_false, Bool.false_or, Bool.and_self, Bool.or_self, Bool.and_false, Bool.false_and]
    · obtain ⟨h0, h1⟩ := h s hs i hi
      refine ⟨_, 0, false, rfl, ?_⟩
      simp only [e_var, e_int, e_bl, e_non, e_str, e_gcon, e_bin, e_neg, e_cmp, e_chain, e_and, e_or, e_not, e_ite, e_call, e_blt, e_isi, e_idx, e_sl, e_lst, e_tup, es_nil, es_cons, ec_nil, ec_one, eo_nil, eo_one,     Res.bind_ok, Res.bind_exc, Res.nx_ok, bool_b, okB, opt_i, callV_ok, callV_exc, bltV, len_l, len_t, sum_i, all_b, any_b, abs_i, lst_l, int_b, int_i, idx_l, idx_t, sl_l, sl_s, nwD_ints, nwD_true, nwD_nil, lst0, tup0, lst1, tup1, lst2, tup2, lst3, tup3, lst4, tup4, lst5, tup5, lst6, tup6, lst7, tup7, lst8, tup8, lst12, tup12, lst16, tup16, kUni, List.filter_nil, List.filter_cons, Nat.add_zero, neg_i, bin_ii, bin_cat, bin_rep, List.getElem?_cons_zero, List.getElem?_cons_succ, List.map_cons, List.map_nil, List.all_cons, List.all_nil, List.any_cons, List.any_nil, List.set_cons_zero, List.set_cons_succ,     nwOf, D.flat, ints_ok, bls_ok, if_true, if_false, Bool.false_eq_true, Bool.not_true, Bool.not_false, Bool.and_true, Bool.true_and, Bool.or_true, Bool.true_or, Bool.or_false, Bool.false_or, Bool.and_self, Bool.or_self, Bool.and_false, Bool.false_and, atD_int h0 h1]
theorem whole_comp (hh : Ext pHlp p) {k t i : Nat} {xs : List Int} {kk : Nat} {nw : Bool} {env : Env} (h : env[i]? = some (some (dI xs, kk, nw))) (ht : t < env.length) :
    evalE (runP glT fu p (k + 1)) glT (.comp (.call "_law_whole" (.cons (.var t) .nil)) (.one t) .seq (.cons (.var i) .nil) .nil) env = .ok (dB (xs.map fun _ => true), 1, true) := by
  rw [e_compB xs (fun i => (.int i, 0, nw)) (fun _ => true) (it_ints (kk := 0) (by rw [e_var, h])) rfl fun i hi => ⟨_, 0, true, rfl, ?_⟩]
  rw [e_call, es_cons, e_var, List.getElem?_set_self ht]
  simp only [e_var, e_int, e_bl, e_non, e_str, e_gcon, e_bin, e_neg, e_cmp, e_chain, e_and, e_or, e_not, e_ite, e_call, e_blt, e_isi, e_idx, e_sl, e_lst, e_tup, es_nil, es_cons, ec_nil, ec_one, eo_nil, eo_one,     Res.bind_ok, Res.bind_exc, Res.nx_ok, bool_b, okB, opt_i, callV_ok, callV_exc, bltV, len_l, len_t, sum_i, all_b, any_b, abs_i, lst_l, int_b, int_i, idx_l, idx_t, sl_l, sl_s, nwD_ints, nwD_true, nwD_nil, lst0, tup0, lst1, tup1, lst2, tup2, lst3, tup3, lst4, tup4, lst5, tup5, lst6, tup6, lst7, tup7, lst8, tup8, lst12, tup12, lst16, tup16, kUni, List.filter_nil, List.filter_cons, Nat.add_zero, neg_i, bin_ii, bin_cat, bin_rep, List.getElem?_cons_zero, List.getElem?_cons_succ, List.map_cons, List.map_nil, List.all_cons, List.all_nil, List.any_cons, List.any_nil, List.set_cons_zero, List.set_cons_succ,     nwOf, D.flat, ints_ok, bls_ok, if_true, if_false, Bool.false_eq_true, Bool.not_true, Bool.not_false, Bool.and_true, Bool.true_and, Bool.or_true, Bool.true_or, Bool.or_false, Bool.false_or, Bool.and_self, Bool.or_self, Bool.and_false, Bool.false_and, r_lwhole hh]
theorem all_const {α : Type} (xs : List α) : (xs.map fun _ => true).all id = true := by
  rw [List.all_map, List.all_eq_true]
  intro x _
  rfl
theorem maxL_eq {a b : List Int} (h : ∀ x, x ∈ a ↔ x ∈ b) : maxL a = maxL b := by
  cases a with
  | nil =>
    cases b with
    | nil => rfl
    | cons y b => exact absurd ((h y).mpr (by simp)) (by simp)
  | cons x a =>
    cases b with
    | nil => exact absurd ((h x).mp (by simp)) (by simp)
    | cons y b =>
      obtain ⟨h1, h2⟩ := maxL_spec x a
      obtain ⟨h3, h4⟩ := maxL_spec y b
      exact max_one h1 h2 ((h _).mpr h3) (fun z hz => h4 z ((h z).mp hz))
theorem r_luneven (hh : Ext pHlp p) {k : Nat} {n : Int} {ss : List (List Int)} {cs : List Int} (h : inRow ss cs.length) (hs : ss.length ≤ 1000) :
    runP glT fu p (k + 2) "_law_uneven" [dFam n ss, dI cs] = .ok (.int (unevenOf ss cs), 0, true) := by
  rw [runP_eq (hh "_law_uneven" f_law_uneven (by kernel_rfl)) rfl]
  simp only [f_law_uneven, runD, List.length_cons, List.length_nil, List.replicate, List.map_cons, List.map_nil, execSs, execS, setT, keep_true, shut_int, shut_bl, shut_non, shut_str, shut_lst, shut_tup, shut_lst0, shut_tup0, shutL_ints, shutL_dI, shutL_nil, shutL_cons, CE.vars, CEs.vars, List.nil_append, List.cons_append, List.append_nil, keep_f, own0, own0n, ownSs, demF, List.contains_cons, List.contains_nil, Nat.reduceBEq, Nat.reduceBNe, bne_self_eq_false, Nat.reduceAdd, beq_self_eq_true, Option.map_some, Option.map_none, List.any_cons, List.any_nil, Bool.or_false, Bool.and_true, Bool.and_false, Bool.or_true, e_var, e_int, e_bl, e_non, e_str, e_gcon, e_bin, e_neg, e_cmp, e_chain, e_and, e_or, e_not, e_ite, e_call, e_blt, e_isi, e_idx, e_sl, e_lst, e_tup, es_nil, es_cons, ec_nil, ec_one, eo_nil, eo_one,     Res.bind_ok, Res.bind_exc, Res.nx_ok, bool_b, okB, opt_i, callV_ok, callV_exc, bltV, len_l, len_t, sum_i, all_b, any_b, abs_i, lst_l, int_b, int_i, idx_l, idx_t, sl_l, sl_s, nwD_ints, nwD_true, nwD_nil, lst0, tup0, lst1, tup1, lst2, tup2, lst3, tup3, lst4, tup4, lst5, tup5, lst6, tup6, lst7, tup7, lst8, tup8, lst12, tup12, lst16, tup16, kUni, List.filter_nil, List.filter_cons, Nat.add_zero, neg_i, bin_ii, bin_cat, bin_rep, List.getElem?_cons_zero, List.getElem?_cons_succ, List.map_cons, List.map_nil, List.all_cons, List.all_nil, List.any_cons, List.any_nil, List.set_cons_zero, List.set_cons_succ,     nwOf, D.flat, ints_ok, bls_ok, if_true, if_false, Bool.false_eq_true, Bool.not_true, Bool.not_false, Bool.and_true, Bool.true_and, Bool.or_true, Bool.true_or, Bool.or_false, Bool.false_or, Bool.and_self, Bool.or_self, Bool.and_false, Bool.false_and]
  rw [e_compI (sumsOf ss cs) (fun i => (.int i, 0, true)) (fun i => if i < 0 then -i else i) (it_ints (kk := 1) (by simp only [e_var, e_int, e_bl, e_non, e_str, e_gcon, e_bin, e_neg, e_cmp, e_chain, e_and, e_or, e_not, e_ite, e_call, e_blt, e_isi, e_idx, e_sl, e_lst, e_tup, es_nil, es_cons, ec_nil, ec_one, eo_nil, eo_one,     Res.bind_ok, Res.bind_exc, Res.nx_ok, bool_b, okB, opt_i, callV_ok, callV_exc, bltV, len_l, len_t, sum_i, all_b, any_b, abs_i, lst_l, int_b, int_i, idx_l, idx_t, sl_l, sl_s, nwD_ints, nwD_true, nwD_nil, lst0, tup0, lst1, tup1, lst2, tup2, lst3, tup3, lst4, tup4, lst5, tup5, lst6, tup6, lst7, tup7, lst8, tup8, lst12, tup12, lst16, tup16, kUni, List.filter_nil, List.filter_cons, Nat.add_zero, neg_i, bin_ii, bin_cat, bin_rep, List.getElem?_cons_zero, List.getElem?_cons_succ, List.map_cons, List.map_nil, List.all_cons, List.all_nil, List.any_cons, List.any_nil, List.set_cons_zero, List.set_cons_succ,     nwOf, D.flat, ints_ok, bls_ok, if_true, if_false, Bool.false_eq_true, Bool.not_true, Bool.not_false, Bool.and_true, Bool.true_and, Bool.or_true, Bool.true_or, Bool.or_false, Bool.false_or, Bool.and_self, Bool.or_self, Bool.and_false, Bool.false_and, r_lsums hh h])) rfl fun i hi => ?_]
  rotate_left
  · refine ⟨_, 0, true, rfl, ?_⟩
    simp only [e_var, e_int, e_bl, e_non, e_str, e_gcon, e_bin, e_neg, e_cmp, e_chain, e_and, e_or, e_not, e_ite, e_call, e_blt, e_isi, e_idx, e_sl, e_lst, e_tup, es_nil, es_cons, ec_nil, ec_one, eo_nil, eo_one,     Res.bind_ok, Res.bind_exc, Res.nx_ok, bool_b, okB, opt_i, callV_ok, callV_exc, bltV, len_l, len_t, sum_i, all_b, any_b, abs_i, lst_l, int_b, int_i, idx_l, idx_t, sl_l, sl_s, nwD_ints, nwD_true, nwD_nil, lst0, tup0, lst1, tup1, lst2, tup2, lst3, tup3, lst4, tup4, lst5, tup5, lst6, tup6, lst7, tup7, lst8, tup8, lst12, tup12, lst16, tup16, kUni, List.filter_nil, List.filter_cons, Nat.add_zero, neg_i, bin_ii, bin_cat, bin_rep, List.getElem?_cons_zero, List.getElem?_cons_succ, List.map_cons, List.map_nil, List.all_cons, List.all_nil, List.any_cons, List.any_nil, List.set_cons_zero, List.set_cons_succ,     nwOf, D.flat, ints_ok, bls_ok, if_true, if_false, Bool.false_eq_true, Bool.not_true, Bool.not_false, Bool.and_true, Bool.true_and, Bool.or_true, Bool.true_or, Bool.or_false, Bool.false_or, Bool.and_self, Bool.or_self, Bool.and_false, Bool.false_and]
  simp only [e_var, e_int, e_bl, e_non, e_str, e_gcon, e_bin, e_neg, e_cmp, e_chain, e_and, e_or, e_not, e_ite, e_call, e_blt, e_isi, e_idx, e_sl, e_lst, e_tup, es_nil, es_cons, ec_nil, ec_one, eo_nil, eo_one,     Res.bind_ok, Res.bind_exc, Res.nx_ok, bool_b, okB, opt_i, callV_ok, callV_exc, bltV, len_l, len_t, sum_i, all_b, any_b, abs_i, lst_l, int_b, int_i, idx_l, idx_t, sl_l, sl_s, nwD_ints, nwD_true, nwD_nil, lst0, tup0, lst1, tup1, lst2, tup2, lst3, tup3, lst4, tup4, lst5, tup5, lst6, tup6, lst7, tup7, lst8, tup8, lst12, tup12, lst16, tup16, kUni, List.filter_nil, List.filter_cons, Nat.add_zero, neg_i, bin_ii, bin_cat, bin_rep, List.getElem?_cons_zero, List.getElem?_cons_succ, List.map_cons, List.map_nil, List.all_cons, List.all_nil, List.any_cons, List.any_nil, List.set_cons_zero, List.set_cons_succ,     nwOf, D.flat, ints_ok, bls_ok, if_true, if_false, Bool.false_eq_true, Bool.not_true, Bool.not_false, Bool.and_true, Bool.true_and, Bool.or_true, Bool.true_or, Bool.or_false, Bool.false_or, Bool.and_self, Bool.or_self, Bool.and_false, Bool.false_and, List.length_map]
  rw [if_pos (by unfold sumsOf LIM; simp; omega)]
  simp only [e_var, e_int, e_bl, e_non, e_str, e_gcon, e_bin, e_neg, e_cmp, e_chain, e_and, e_or, e_not, e_ite, e_call, e_blt, e_isi, e_idx, e_sl, e_lst, e_tup, es_nil, es_cons, ec_nil, ec_one, eo_nil, eo_one,     Res.bind_ok, Res.bind_exc, Res.nx_ok, bool_b, okB, opt_i, callV_ok, callV_exc, bltV, len_l, len_t, sum_i, all_b, any_b, abs_i, lst_l, int_b, int_i, idx_l, idx_t, sl_l, sl_s, nwD_ints, nwD_true, nwD_nil, lst0, tup0, lst1, tup1, lst2, tup2, lst3, tup3, lst4, tup4, lst5, tup5, lst6, tup6, lst7, tup7, lst8, tup8, lst12, tup12, lst16, tup16, kUni, List.filter_nil, List.filter_cons, Nat.add_zero, neg_i, bin_ii, bin_cat, bin_rep, List.getElem?_cons_zero, List.getElem?_cons_succ, List.map_cons, List.map_nil, List.all_cons, List.all_nil, List.any_cons, List.any_nil, List.set_cons_zero, List.set_cons_succ,     nwOf, D.flat, ints_ok, bls_ok, if_true, if_false, Bool.false_eq_true, Bool.not_true, Bool.not_false, Bool.and_true, Bool.true_and, Bool.or_true, Bool.true_or, Bool.or_false, Bool.false_or, Bool.and_self, Bool.or_self, Bool.and_false, Bool.false_and]
  rw [show ([D.int 0] ++ List.map D.int (List.map (fun i => if i < 0 then -i else i) (sumsOf ss cs))) = (0 :: (sumsOf ss cs).map (fun i => if i < 0 then -i else i)).map D.int by simp]
  rw [max_nd (by simp)]
  simp only [e_var, e_int, e_bl, e_non, e_str, e_gcon, e_bin, e_neg, e_cmp, e_chain, e_and, e_or, e_not, e_ite, e_call, e_blt, e_isi, e_idx, e_sl, e_lst, e_tup, es_nil, es_cons, ec_nil, ec_one, eo_nil, eo_one,     Res.bind_ok, Res.bind_exc, Res.nx_ok, bool_b, okB, opt_i, callV_ok, callV_exc, bltV, len_l, len_t, sum_i, all_b, any_b, abs_i, lst_l, int_b, int_i, idx_l, idx_t, sl_l, sl_s, nwD_ints, nwD_true, nwD_nil, lst0, tup0, lst1, tup1, lst2, tup2, lst3, tup3, lst4, tup4, lst5, tup5, lst6, tup6, lst7, tup7, lst8, tup8, lst12, tup12, lst16, tup16, kUni, List.filter_nil, List.filter_cons, Nat.add_zero, neg_i, bin_ii, bin_cat, bin_rep, List.getElem?_cons_zero, List.getElem?_cons_succ, List.map_cons, List.map_nil, List.all_cons, List.all_nil, List.any_cons, List.any_nil, List.set_cons_zero, List.set_cons_succ,     nwOf, D.flat, ints_ok, bls_ok, if_true, if_false, Bool.false_eq_true, Bool.not_true, Bool.not_false, Bool.and_true, Bool.true_and, Bool.or_true, Bool.true_or, Bool.or_false, Bool.false_or, Bool.and_self, Bool.or_self, Bool.and_false, Bool.false_and, unevenOf]
  rw [maxL_eq (b := (sumsOf ss cs).map (fun i => if i < 0 then -i else i) ++ [0]) (fun x => by simp only [List.mem_cons, List.mem_append, List.not_mem_nil, or_false]; exact or_comm)]
end
end TT

set_option Elab.async false
set_option linter.all false
set_option autoImplicit false
set_option maxRecDepth 100000
set_option maxHeartbeats 2000000
/-! UG: more words; totals. -/
namespace TT
open PySem L2
theorem itV_step {a b c : Int} {k1 k2 k3 : Nat} {n1 n2 n3 : Bool} (h1 : 0 ≤ a) (h2 : a ≤ 1000000) (h3 : 0 ≤ b) (h4 : b ≤ 1000000) (h5 : 0 < c) (h6 : c ≤ 1000000) :
    itemsOf .range [(.int a, k1, n1), (.int b, k2, n2), (.int c, k3, n3)] = .ok (((List.range (Builtin.Range.rangeSize a b c).toNat).map fun (i : Nat) => a + (i : Int) * c).map fun i => (.int i, 0, true)) := by
  simp only [itemsOf, itRange]
  rw [if_pos]
  · rw [List.map_map]
    rfl
  · simp only [h1, h2, h3, h4, h5, h6, decide_true, Bool.and_self]
theorem max_ii {i j : Int} {k l : Nat} {n m : Bool} : maxV [(.int i, k, n), (.int j, l, m)] = .ok (.int (if j > i then j else i), 0, true) := rfl
theorem max_ints {ns : List Int} {k : Nat} {n : Bool} (h : ns ≠ []) : maxV [(dI ns, k, n)] = .ok (.int (maxL ns), 0, true) := by
  cases ns with
  | nil => exact absurd rfl h
  | cons a ns => simp only [maxV, ints_ok]
theorem cut63 (ns : List Int) (h : ns.length ≤ 63) : cutD ns none (some 63) = ns := by
  unfold cutD HT.sIx
  simp only
  rw [if_neg (by decide)]
  simp only [List.drop_zero, Nat.sub_zero]
  rw [List.take_of_length_le]
  have : Int.toNat 63 = 63 := rfl
  omega
theorem fam_of {n : Int} {ss : List (List Int)} {most : Int} (h1 : 1 ≤ n) (h2 : n ≤ most) (h3 : (ss.length : Int) ≤ 12) (h4 : ∀ s ∈ ss, okPl n s = true) : famOk most n ss = true := by
  unfold famOk
  simp only [Bool.and_eq_true, decide_eq_true_eq, List.all_map, List.all_eq_true, Function.comp_apply, id_eq]
  exact ⟨⟨⟨h1, h2⟩, by omega⟩, h4⟩

section
variable {fu : Nat} {p : Prg}
/-! ### sizes -/
theorem inc_len : ∀ (s : List Int) (a n : Int), s.Pairwise (· < ·) → (∀ i ∈ s, a ≤ i ∧ i < n) → (s.length : Int) ≤ max 0 (n - a)
  | [], a, n, _, _ => by simp; omega
  | x :: s, a, n, hp, hb => by
    obtain ⟨h1, h2⟩ := List.pairwise_cons.mp hp
    have hx := hb x (by simp)
    have := inc_len s (x + 1) n h2 fun i hi => ⟨by have := h1 i hi; omega, (hb i (by simp [hi])).2⟩
    rw [List.length_cons]
    omega
theorem okPl_len {n : Int} {s : List Int} (h : okPl n s = true) : (s.length : Int) ≤ n ∧ 1 ≤ s.length := by
  obtain ⟨h1, h2, h3⟩ := okPl_iff.mp h
  have := inc_len s 0 n h3 h2
  have h4 : 1 ≤ s.length := by
    cases s with
    | nil => exact absurd rfl h1
    | cons a l => simp
  omega
theorem sum_abs : ∀ {l : List Int}, (∀ x ∈ l, -1 ≤ x ∧ x ≤ 1) → -(l.length : Int) ≤ l.sum ∧ l.sum ≤ l.length
  | [], _ => by simp
  | x :: l, h => by
    have h1 := h x (by simp)
    have h2 := sum_abs (l := l) fun y hy => h y (by simp [hy])
    rw [List.sum_cons, List.length_cons]
    omega
theorem atR_mem {row : List Int} {i : Int} (h0 : 0 ≤ i) (h1 : i < row.length) : atR row i ∈ row := by
  unfold atR
  have hl : i.toNat < row.length := by omega
  rw [List.getD_eq_getElem?_getD, List.getElem?_eq_getElem hl]
  simp
theorem sums_bound {n : Int} {ss : List (List Int)} {cs : List Int} (h : ∀ s ∈ ss, okPl n s = true) (hc : ∀ c ∈ cs, -1 ≤ c ∧ c ≤ 1) (hl : (cs.length : Int) = n) : ∀ x ∈ sumsOf ss cs, -n ≤ x ∧ x ≤ n := by
  intro x hx
  obtain ⟨s, hs, rfl⟩ := List.mem_map.mp hx
  have hk := okPl_iff.mp (h s hs)
  have hlen := okPl_len (h s hs)
  have := sum_abs (l := s.map (atR cs)) fun y hy => by
    obtain ⟨i, hi, rfl⟩ := List.mem_map.mp hy
    exact hc _ (atR_mem (hk.2.1 i hi).1 (by rw [hl]; exact (hk.2.1 i hi).2))
  rw [List.length_map] at this
  omega
/-! ### totals -/
def totalOf (ss : List (List Int)) (cs : List Int) : Int := ((sumsOf ss cs).map fun x => x * x).sum
theorem r_total_of (hp : Ext pPkg p) {k : Nat} {n : Int} {ss : List (List Int)} {cs : List Int} (h : inRow ss cs.length) (hb : ∀ x ∈ sumsOf ss cs, x.natAbs < 2 ^ 100) :
    runP glT fu p (k + 2) "total_of" [dFam n ss, dI cs] = .ok (.int (totalOf ss cs), 0, true) := by
  rw [runP_eq (hp "total_of" f_total_of (by kernel_rfl)) rfl]
  simp only [f_total_of, runD, List.length_cons, List.length_nil, List.replicate, List.map_cons, List.map_nil, execSs, execS, setT, keep_true, shut_int, shut_bl, shut_non, shut_str, shut_lst, shut_tup, shut_lst0, shut_tup0, shutL_ints, shutL_dI, shutL_nil, shutL_cons, CE.vars, CEs.vars, List.nil_append, List.cons_append, List.append_nil, keep_f, own0, own0n, ownSs, demF, List.contains_cons, List.contains_nil, Nat.reduceBEq, Nat.reduceBNe, bne_self_eq_false, Nat.reduceAdd, beq_self_eq_true, Option.map_some, Option.map_none, List.any_cons, List.any_nil, Bool.or_false, Bool.and_true, Bool.and_false, Bool.or_true, e_var, e_int, e_bl, e_non, e_str, e_gcon, e_bin, e_neg, e_cmp, e_chain, e_and, e_or, e_not, e_ite, e_call, e_blt, e_isi, e_idx, e_sl, e_lst, e_tup, es_nil, es_cons, ec_nil, ec_one, eo_nil, eo_one,     Res.bind_ok, Res.bind_exc, Res.nx_ok, bool_b, okB, opt_i, callV_ok, callV_exc, bltV, len_l, len_t, sum_i, all_b, any_b, abs_i, lst_l, int_b, int_i, idx_l, idx_t, sl_l, sl_s, nwD_ints, nwD_true, nwD_nil, lst0, tup0, lst1, tup1, lst2, tup2, lst3, tup3, lst4, tup4, lst5, tup5, lst6, tup6, lst7, tup7, lst8, tup8, lst12, tup12, lst16, tup16, kUni, List.filter_nil, List.filter_cons, Nat.add_zero, neg_i, bin_ii, bin_cat, bin_rep, List.getElem?_cons_zero, List.getElem?_cons_succ, List.map_cons, List.map_nil, List.all_cons, List.all_nil, List.any_cons, List.any_nil, List.set_cons_zero, List.set_cons_succ,     nwOf, D.flat, ints_ok, bls_ok, if_true, if_false, Bool.false_eq_true, Bool.not_true, Bool.not_false, Bool.and_true, Bool.true_and, Bool.or_true, Bool.true_or, Bool.or_false, Bool.false_or, Bool.and_self, Bool.or_self, Bool.and_false, Bool.false_and]
  rw [e_compX (sumsOf ss cs) (fun i => (.int i, 0, true)) (fun x => x * x) (it_ints (kk := 1) (by simp only [e_var, e_int, e_bl, e_non, e_str, e_gcon, e_bin, e_neg, e_cmp, e_chain, e_and, e_or, e_not, e_ite, e_call, e_blt, e_isi, e_idx, e_sl, e_lst, e_tup, es_nil, es_cons, ec_nil, ec_one, eo_nil, eo_one,     Res.bind_ok, Res.bind_exc, Res.nx_ok, bool_b, okB, opt_i, callV_ok, callV_exc, bltV, len_l, len_t, sum_i, all_b, any_b, abs_i, lst_l, int_b, int_i, idx_l, idx_t, sl_l, sl_s, nwD_ints, nwD_true, nwD_nil, lst0, tup0, lst1, tup1, lst2, tup2, lst3, tup3, lst4, tup4, lst5, tup5, lst6, tup6, lst7, tup7, lst8, tup8, lst12, tup12, lst16, tup16, kUni, List.filter_nil, List.filter_cons, Nat.add_zero, neg_i, bin_ii, bin_cat, bin_rep, List.getElem?_cons_zero, List.getElem?_cons_succ, List.map_cons, List.map_nil, List.all_cons, List.all_nil, List.any_cons, List.any_nil, List.set_cons_zero, List.set_cons_succ,     nwOf, D.flat, ints_ok, bls_ok, if_true, if_false, Bool.false_eq_true, Bool.not_true, Bool.not_false, Bool.and_true, Bool.true_and, Bool.or_true, Bool.true_or, Bool.or_false, Bool.false_or, Bool.and_self, Bool.or_self, Bool.and_false, Bool.false_and, r_sums_of hp h])) rfl fun i hi => ?_]
  · simp only [e_var, e_int, e_bl, e_non, e_str, e_gcon, e_bin, e_neg, e_cmp, e_chain, e_and, e_or, e_not, e_ite, e_call, e_blt, e_isi, e_idx, e_sl, e_lst, e_tup, es_nil, es_cons, ec_nil, ec_one, eo_nil, eo_one,     Res.bind_ok, Res.bind_exc, Res.nx_ok, bool_b, okB, opt_i, callV_ok, callV_exc, bltV, len_l, len_t, sum_i, all_b, any_b, abs_i, lst_l, int_b, int_i, idx_l, idx_t, sl_l, sl_s, nwD_ints, nwD_true, nwD_nil, lst0, tup0, lst1, tup1, lst2, tup2, lst3, tup3, lst4, tup4, lst5, tup5, lst6, tup6, lst7, tup7, lst8, tup8, lst12, tup12, lst16, tup16, kUni, List.filter_nil, List.filter_cons, Nat.add_zero, neg_i, bin_ii, bin_cat, bin_rep, List.getElem?_cons_zero, List.getElem?_cons_succ, List.map_cons, List.map_nil, List.all_cons, List.all_nil, List.any_cons, List.any_nil, List.set_cons_zero, List.set_cons_succ,     nwOf, D.flat, ints_ok, bls_ok, if_true, if_false, Bool.false_eq_true, Bool.not_true, Bool.not_false, Bool.and_true, Bool.true_and, Bool.or_true, Bool.true_or, Bool.or_false, Bool.false_or, Bool.and_self, Bool.or_self, Bool.and_false, Bool.false_and, totalOf]
  · refine ⟨_, 0, true, rfl, ?_⟩
    simp only [e_var, e_int, e_bl, e_non, e_str, e_gcon, e_bin, e_neg, e_cmp, e_chain, e_and, e_or, e_not, e_ite, e_call, e_blt, e_isi, e_idx, e_sl, e_lst, e_tup, es_nil, es_cons, ec_nil, ec_one, eo_nil, eo_one,     Res.bind_ok, Res.bind_exc, Res.nx_ok, bool_b, okB, opt_i, callV_ok, callV_exc, bltV, len_l, len_t, sum_i, all_b, any_b, abs_i, lst_l, int_b, int_i, idx_l, idx_t, sl_l, sl_s, nwD_ints, nwD_true, nwD_nil, lst0, tup0, lst1, tup1, lst2, tup2, lst3, tup3, lst4, tup4, lst5, tup5, lst6, tup6, lst7, tup7, lst8, tup8, lst12, tup12, lst16, tup16, kUni, List.filter_nil, List.filter_cons, Nat.add_zero, neg_i, bin_ii, bin_cat, bin_rep, List.getElem?_cons_zero, List.getElem?_cons_succ, List.map_cons, List.map_nil, List.all_cons, List.all_nil, List.any_cons, List.any_nil, List.set_cons_zero, List.set_cons_succ,     nwOf, D.flat, ints_ok, bls_ok, if_true, if_false, Bool.false_eq_true, Bool.not_true, Bool.not_false, Bool.and_true, Bool.true_and, Bool.or_true, Bool.true_or, Bool.or_false, Bool.false_or, Bool.and_self, Bool.or_self, Bool.and_false, Bool.false_and, mul_ok (hb i hi) (hb i hi) (by decide)]
theorem small100 {x n : Int} (h : -n ≤ x ∧ x ≤ n) (hn : n ≤ 1000) : x.natAbs < 2 ^ 100 := by
  have : (2 : Nat) ^ 100 = 1267650600228229401496703205376 := by decide
  omega
theorem fam_pl {most n : Int} {ss : List (List Int)} (h : famOk most n ss = true) : ∀ s ∈ ss, okPl n s = true := by
  unfold famOk at h
  simp only [Bool.and_eq_true, decide_eq_true_eq, List.all_map, List.all_eq_true, Function.comp_apply, id_eq] at h
  exact h.2
theorem col_b {n : Int} {cs : List Int} (h : colOk n cs = true) : ∀ c ∈ cs, -1 ≤ c ∧ c ≤ 1 := fun c hc => by
  rcases (col_len h).2 c hc with h | h <;> omega
theorem sums_small {most n : Int} {ss : List (List Int)} {cs : List Int} (h1 : famOk most n ss = true) (hm : most ≤ 1000) (h2 : colOk n cs = true) : ∀ x ∈ sumsOf ss cs, x.natAbs < 2 ^ 100 := fun x hx =>
  small100 (sums_bound (fam_pl h1) (col_b h2) (col_len h2).1 x hx) (by have := fam_in h1; omega)
theorem r_total (hp : Ext pPkg p) {k : Nat} {n : Int} {ss : List (List Int)} {cs : List Int} (h1 : famOk 20 n ss = true) (h2 : colOk n cs = true) :
    runP glT fu p (k + 4) "total" [dFam n ss, dI cs] = .ok (.int (totalOf ss cs), 0, true) := by
  rw [runP_eq (hp "total" f_total (by kernel_rfl)) rfl]
  simp only [f_total, runD, List.length_cons, List.length_nil, List.replicate, List.map_cons, List.map_nil, execSs, execS, setT, keep_true, shut_int, shut_bl, shut_non, shut_str, shut_lst, shut_tup, shut_lst0, shut_tup0, shutL_ints, shutL_dI, shutL_nil, shutL_cons, CE.vars, CEs.vars, List.nil_append, List.cons_append, List.append_nil, keep_f, own0, own0n, ownSs, demF, List.contains_cons, List.contains_nil, Nat.reduceBEq, Nat.reduceBNe, bne_self_eq_false, Nat.reduceAdd, beq_self_eq_true, Option.map_some, Option.map_none, List.any_cons, List.any_nil, Bool.or_false, Bool.and_true, Bool.and_false, Bool.or_true, e_var, e_int, e_bl, e_non, e_str, e_gcon, e_bin, e_neg, e_cmp, e_chain, e_and, e_or, e_not, e_ite, e_call, e_blt, e_isi, e_idx, e_sl, e_lst, e_tup, es_nil, es_cons, ec_nil, ec_one, eo_nil, eo_one,     Res.bind_ok, Res.bind_exc, Res.nx_ok, bool_b, okB, opt_i, callV_ok, callV_exc, bltV, len_l, len_t, sum_i, all_b, any_b, abs_i, lst_l, int_b, int_i, idx_l, idx_t, sl_l, sl_s, nwD_ints, nwD_true, nwD_nil, lst0, tup0, lst1, tup1, lst2, tup2, lst3, tup3, lst4, tup4, lst5, tup5, lst6, tup6, lst7, tup7, lst8, tup8, lst12, tup12, lst16, tup16, kUni, List.filter_nil, List.filter_cons, Nat.add_zero, neg_i, bin_ii, bin_cat, bin_rep, List.getElem?_cons_zero, List.getElem?_cons_succ, List.map_cons, List.map_nil, List.all_cons, List.all_nil, List.any_cons, List.any_nil, List.set_cons_zero, List.set_cons_succ,     nwOf, D.flat, ints_ok, bls_ok, if_true, if_false, Bool.false_eq_true, Bool.not_true, Bool.not_false, Bool.and_true, Bool.true_and, Bool.or_true, Bool.true_or, Bool.or_false, Bool.false_or, Bool.and_self, Bool.or_self, Bool.and_false, Bool.false_and, gl_most, r_checkFam hp, h1, r_checkCol hp, h2]
  rw [r_total_of hp (by rw [(col_len h2).1]; exact (fam_in h1).1) (sums_small h1 (by decide) h2)]
  simp only [e_var, e_int, e_bl, e_non, e_str, e_gcon, e_bin, e_neg, e_cmp, e_chain, e_and, e_or, e_not, e_ite, e_call, e_blt, e_isi, e_idx, e_sl, e_lst, e_tup, es_nil, es_cons, ec_nil, ec_one, eo_nil, eo_one,     Res.bind_ok, Res.bind_exc, Res.nx_ok, bool_b, okB, opt_i, callV_ok, callV_exc, bltV, len_l, len_t, sum_i, all_b, any_b, abs_i, lst_l, int_b, int_i, idx_l, idx_t, sl_l, sl_s, nwD_ints, nwD_true, nwD_nil, lst0, tup0, lst1, tup1, lst2, tup2, lst3, tup3, lst4, tup4, lst5, tup5, lst6, tup6, lst7, tup7, lst8, tup8, lst12, tup12, lst16, tup16, kUni, List.filter_nil, List.filter_cons, Nat.add_zero, neg_i, bin_ii, bin_cat, bin_rep, List.getElem?_cons_zero, List.getElem?_cons_succ, List.map_cons, List.map_nil, List.all_cons, List.all_nil, List.any_cons, List.any_nil, List.set_cons_zero, List.set_cons_succ,     nwOf, D.flat, ints_ok, bls_ok, if_true, if_false, Bool.false_eq_true, Bool.not_true, Bool.not_false, Bool.and_true, Bool.true_and, Bool.or_true, Bool.true_or, Bool.or_false, Bool.false_or, Bool.and_self, Bool.or_self, Bool.and_false, Bool.false_and]
theorem r_areCol (hh : Ext pHlp p) {k : Nat} {n : Int} {cs : List Int} : runP glT fu p (k + 2) "_law_are_colours" [dI cs, .int n] = .ok (.bl (colOk n cs), 0, true) := by
  rw [runP_eq (hh "_law_are_colours" f_law_are_colours (by kernel_rfl)) rfl]
  simp only [f_law_are_colours, runD, List.length_cons, List.length_nil, List.replicate, List.map_cons, List.map_nil, execSs, execS, setT, keep_true, shut_int, shut_bl, shut_non, shut_str, shut_lst, shut_tup, shut_lst0, shut_tup0, shutL_ints, shutL_dI, shutL_nil, shutL_cons, CE.vars, CEs.vars, List.nil_append, List.cons_append, List.append_nil, keep_f, own0, own0n, ownSs, demF, List.contains_cons, List.contains_nil, Nat.reduceBEq, Nat.reduceBNe, bne_self_eq_false, Nat.reduceAdd, beq_self_eq_true, Option.map_some, Option.map_none, List.any_cons, List.any_nil, Bool.or_false, Bool.and_true, Bool.and_false, Bool.or_true, e_var, e_int, e_bl, e_non, e_str, e_gcon, e_bin, e_neg, e_cmp, e_chain, e_and, e_or, e_not, e_ite, e_call, e_blt, e_isi, e_idx, e_sl, e_lst, e_tup, es_nil, es_cons, ec_nil, ec_one, eo_nil, eo_one,     Res.bind_ok, Res.bind_exc, Res.nx_ok, bool_b, okB, opt_i, callV_ok, callV_exc, bltV, len_l, len_t, sum_i, all_b, any_b, abs_i, lst_l, int_b, int_i, idx_l, idx_t, sl_l, sl_s, nwD_ints, nwD_true, nwD_nil, lst0, tup0, lst1, tup1, lst2, tup2, lst3, tup3, lst4, tup4, lst5, tup5, lst6, tup6, lst7, tup7, lst8, tup8, lst12, tup12, lst16, tup16, kUni, List.filter_nil, List.filter_cons, Nat.add_zero, neg_i, bin_ii, bin_cat, bin_rep, List.getElem?_cons_zero, List.getElem?_cons_succ, List.map_cons, List.map_nil, List.all_cons, List.all_nil, List.any_cons, List.any_nil, List.set_cons_zero, List.set_cons_succ,     nwOf, D.flat, ints_ok, bls_ok, if_true, if_false, Bool.false_eq_true, Bool.not_true, Bool.not_false, Bool.and_true, Bool.true_and, Bool.or_true, Bool.true_or, Bool.or_false, Bool.false_or, Bool.and_self, Bool.or_self, Bool.and_false, Bool.false_and, isiD, cmp_ne, py_int, eqD_int, List.length_map, colOk]
  by_cases h1 : (cs.length : Int) = n
  rotate_left
  · simp only [h1, decide_false, e_var, e_int, e_bl, e_non, e_str, e_gcon, e_bin, e_neg, e_cmp, e_chain, e_and, e_or, e_not, e_ite, e_call, e_blt, e_isi, e_idx, e_sl, e_lst, e_tup, es_nil, es_cons, ec_nil, ec_one, eo_nil, eo_one,     Res.bind_ok, Res.bind_exc, Res.nx_ok, bool_b, okB, opt_i, callV_ok, callV_exc, bltV, len_l, len_t, sum_i, all_b, any_b, abs_i, lst_l, int_b, int_i, idx_l, idx_t, sl_l, sl_s, nwD_ints, nwD_true, nwD_nil, lst0, tup0, lst1, tup1, lst2, tup2, lst3, tup3, lst4, tup4, lst5, tup5, lst6, tup6, lst7, tup7, lst8, tup8, lst12, tup12, lst16, tup16, kUni, List.filter_nil, List.filter_cons, Nat.add_zero, neg_i, bin_ii, bin_cat, bin_rep, List.getElem?_cons_zero, List.getElem?_cons_succ, List.map_cons, List.map_nil, List.all_cons, List.all_nil, List.any_cons, List.any_nil, List.set_cons_zero, List.set_cons_succ,     nwOf, D.flat, ints_ok, bls_ok, if_true, if_false, Bool.false_eq_true, Bool.not_true, Bool.not_false, Bool.and_true, Bool.true_and, Bool.or_true, Bool.true_or, Bool.or_false, Bool.false_or, Bool.and_self, Bool.or_self, Bool.and_false, Bool.false_and, runD, List.length_cons, List.length_nil, List.replicate, List.map_cons, List.map_nil, execSs, execS, setT, keep_true, shut_int, shut_bl, shut_non, shut_str, shut_lst, shut_tup, shut_lst0, shut_tup0, shutL_ints, shutL_dI, shutL_nil, shutL_cons, CE.vars, CEs.vars, List.nil_append, List.cons_append, List.append_nil, keep_f, own0, own0n, ownSs, demF, List.contains_cons, List.contains_nil, Nat.reduceBEq, Nat.reduceBNe, bne_self_eq_false, Nat.reduceAdd, beq_self_eq_true, Option.map_some, Option.map_none, List.any_cons, List.any_nil, Bool.or_false, Bool.and_true, Bool.and_false, Bool.or_true]
  simp only [h1, decide_true, e_var, e_int, e_bl, e_non, e_str, e_gcon, e_bin, e_neg, e_cmp, e_chain, e_and, e_or, e_not, e_ite, e_call, e_blt, e_isi, e_idx, e_sl, e_lst, e_tup, es_nil, es_cons, ec_nil, ec_one, eo_nil, eo_one,     Res.bind_ok, Res.bind_exc, Res.nx_ok, bool_b, okB, opt_i, callV_ok, callV_exc, bltV, len_l, len_t, sum_i, all_b, any_b, abs_i, lst_l, int_b, int_i, idx_l, idx_t, sl_l, sl_s, nwD_ints, nwD_true, nwD_nil, lst0, tup0, lst1, tup1, lst2, tup2, lst3, tup3, lst4, tup4, lst5, tup5, lst6, tup6, lst7, tup7, lst8, tup8, lst12, tup12, lst16, tup16, kUni, List.filter_nil, List.filter_cons, Nat.add_zero, neg_i, bin_ii, bin_cat, bin_rep, List.getElem?_cons_zero, List.getElem?_cons_succ, List.map_cons, List.map_nil, List.all_cons, List.all_nil, List.any_cons, List.any_nil, List.set_cons_zero, List.set_cons_succ,     nwOf, D.flat, ints_ok, bls_ok, if_true, if_false, Bool.false_eq_true, Bool.not_true, Bool.not_false, Bool.and_true, Bool.true_and, Bool.or_true, Bool.true_or, Bool.or_false, Bool.false_or, Bool.and_self, Bool.or_self, Bool.and_false, Bool.false_and, runD, List.length_cons, List.length_nil, List.replicate, List.map_cons, List.map_nil, execSs, execS, setT, keep_true, shut_int, shut_bl, shut_non, shut_str, shut_lst, shut_tup, shut_lst0, shut_tup0, shutL_ints, shutL_dI, shutL_nil, shutL_cons, CE.vars, CEs.vars, List.nil_append, List.cons_append, List.append_nil, keep_f, own0, own0n, ownSs, demF, List.contains_cons, List.contains_nil, Nat.reduceBEq, Nat.reduceBNe, bne_self_eq_false, Nat.reduceAdd, beq_self_eq_true, Option.map_some, Option.map_none, List.any_cons, List.any_nil, Bool.or_false, Bool.and_true, Bool.and_false, Bool.or_true]
  rw [e_compB cs (fun i => (.int i, 0, false)) (fun c => decide (c = 1) || decide (c = -1)) (it_ints (kk := 0) (by simp only [e_var, e_int, e_bl, e_non, e_str, e_gcon, e_bin, e_neg, e_cmp, e_chain, e_and, e_or, e_not, e_ite, e_call, e_blt, e_isi, e_idx, e_sl, e_lst, e_tup, es_nil, es_cons, ec_nil, ec_one, eo_nil, eo_one,     Res.bind_ok, Res.bind_exc, Res.nx_ok, bool_b, okB, opt_i, callV_ok, callV_exc, bltV, len_l, len_t, sum_i, all_b, any_b, abs_i, lst_l, int_b, int_i, idx_l, idx_t, sl_l, sl_s, nwD_ints, nwD_true, nwD_nil, lst0, tup0, lst1, tup1, lst2, tup2, lst3, tup3, lst4, tup4, lst5, tup5, lst6, tup6, lst7, tup7, lst8, tup8, lst12, tup12, lst16, tup16, kUni, List.filter_nil, List.filter_cons, Nat.add_zero, neg_i, bin_ii, bin_cat, bin_rep, List.getElem?_cons_zero, List.getElem?_cons_succ, List.map_cons, List.map_nil, List.all_cons, List.all_nil, List.any_cons, List.any_nil, List.set_cons_zero, List.set_cons_succ,     nwOf, D.flat, ints_ok, bls_ok, if_true, if_false, Bool.false_eq_true, Bool.not_true, Bool.not_false, Bool.and_true, Bool.true_and, Bool.or_true, Bool.true_or, Bool.or_false, Bool.false_or, Bool.and_self, Bool.or_self, Bool.and_false, Bool.false_and])) rfl fun i hi => ?_]
  · simp only [e_var, e_int, e_bl, e_non, e_str, e_gcon, e_bin, e_neg, e_cmp, e_chain, e_and, e_or, e_not, e_ite, e_call, e_blt, e_isi, e_idx, e_sl, e_lst, e_tup, es_nil, es_cons, ec_nil, ec_one, eo_nil, eo_one,     Res.bind_ok, Res.bind_exc, Res.nx_ok, bool_b, okB, opt_i, callV_ok, callV_exc, bltV, len_l, len_t, sum_i, all_b, any_b, abs_i, lst_l, int_b, int_i, idx_l, idx_t, sl_l, sl_s, nwD_ints, nwD_true, nwD_nil, lst0, tup0, lst1, tup1, lst2, tup2, lst3, tup3, lst4, tup4, lst5, tup5, lst6, tup6, lst7, tup7, lst8, tup8, lst12, tup12, lst16, tup16, kUni, List.filter_nil, List.filter_cons, Nat.add_zero, neg_i, bin_ii, bin_cat, bin_rep, List.getElem?_cons_zero, List.getElem?_cons_succ, List.map_cons, List.map_nil, List.all_cons, List.all_nil, List.any_cons, List.any_nil, List.set_cons_zero, List.set_cons_succ,     nwOf, D.flat, ints_ok, bls_ok, if_true, if_false, Bool.false_eq_true, Bool.not_true, Bool.not_false, Bool.and_true, Bool.true_and, Bool.or_true, Bool.true_or, Bool.or_false, Bool.false_or, Bool.and_self, Bool.or_self, Bool.and_false, Bool.false_and]
  · refine ⟨_, 0, true, rfl, ?_⟩
    simp only [e_var, e_int, e_bl, e_non, e_str, e_gcon, e_bin, e_neg, e_cmp, e_chain, e_and, e_or, e_not, e_ite, e_call, e_blt, e_isi, e_idx, e_sl, e_lst, e_tup, es_nil, es_cons, ec_nil, ec_one, eo_nil, eo_one,     Res.bind_ok, Res.bind_exc, Res.nx_ok, bool_b, okB, opt_i, callV_ok, callV_exc, bltV, len_l, len_t, sum_i, all_b, any_b, abs_i, lst_l, int_b, int_i, idx_l, idx_t, sl_l, sl_s, nwD_ints, nwD_true, nwD_nil, lst0, tup0, lst1, tup1, lst2, tup2, lst3, tup3, lst4, tup4, lst5, tup5, lst6, tup6, lst7, tup7, lst8, tup8, lst12, tup12, lst16, tup16, kUni, List.filter_nil, List.filter_cons, Nat.add_zero, neg_i, bin_ii, bin_cat, bin_rep, List.getElem?_cons_zero, List.getElem?_cons_succ, List.map_cons, List.map_nil, List.all_cons, List.all_nil, List.any_cons, List.any_nil, List.set_cons_zero, List.set_cons_succ,     nwOf, D.flat, ints_ok, bls_ok, if_true, if_false, Bool.false_eq_true, Bool.not_true, Bool.not_false, Bool.and_true, Bool.true_and, Bool.or_true, Bool.true_or, Bool.or_false, Bool.false_or, Bool.and_self, Bool.or_self, Bool.and_false, Bool.false_and, r_lwhole hh, cmp_inT]
end
end TT

set_option Elab.async false
set_option linter.all false
set_option autoImplicit false
set_option maxRecDepth 100000
set_option maxHeartbeats 2000000
/-! UH: fair colours. -/
namespace TT
open PySem L2
section
variable {fu : Nat} {p : Prg}
theorem forL_fold {α S : Type} {body : Env → Res Fl} {t : Tg} (g : α → Val) (stp : S → α → S) (E : S → Env → Prop) : ∀ (xs : List α) (s : S) (env : Env), E s env → (∀ (s : S) (x : α) (e : Env), x ∈ xs → E s e → ∃ e1, setT e t (g x) = .ok e1 ∧ ∃ e2, body e1 = .ok (.nx e2) ∧ E (stp s x) e2) →
    ∃ e', forL body t (xs.map g) env = .ok (.nx e') ∧ E (xs.foldl stp s) e'
  | [], s, env, h0, _ => ⟨env, rfl, h0⟩
  | x :: xs, s, env, h0, hs => by
    obtain ⟨e1, h1, e2, h2, h3⟩ := hs s x env (by simp) h0
    obtain ⟨e', h4, h5⟩ := forL_fold g stp E xs (stp s x) e2 h3 fun s y e hy he => hs s y e (by simp [hy]) he
    refine ⟨e', ?_, h5⟩
    rw [List.map_cons, forL, h1]
    simp only [Res.bind_ok, h2]
    exact h4
theorem itV_enum {ss : List (List Int)} {k : Nat} {nw : Bool} : itemsOf .enum [(dLL ss, k, nw)] = .ok (ss.zipIdx.map fun q => (.tup [.int (q.2 : Int), dI q.1], 0, nw)) := by
  simp only [itemsOf, itEnum]
  congr 1
  rw [List.zipIdx_map, List.map_map]
  rfl
theorem it_enum {Γ : Str → List D → Res Val} {gl : Str → Option D} {env : Env} {c : CE} {ss : List (List Int)} {kk : Nat} {nw : Bool} (h : evalE Γ gl c env = .ok (dLL ss, kk, nw)) : (evalEs Γ gl (.cons c .nil) env >>= itemsOf .enum) = .ok (ss.zipIdx.map fun q => (.tup [.int (q.2 : Int), dI q.1], 0, nw)) := by
  rw [es_cons, h]
  simp only [Res.bind_ok, es_nil, itV_enum]
theorem atR_pre {pre rest : List Int} {x : Int} : atR (pre ++ x :: rest) (pre.length : Int) = x := by simp [atR]
theorem ixN_ok {n : Nat} {i : Int} (h0 : 0 ≤ i) (h1 : i < n) : ixN n i = some i.toNat := by
  unfold ixN
  rw [if_pos h0, if_pos h1]
theorem aug_ints {env : Env} {i : Nat} {so : List Int} {n b : Int} {nw : Bool} {k1 k2 : Nat} {n1 n2 : Bool} (h0 : 0 ≤ n) (h1 : n < so.length) (hl : so.length ≤ 100000) (h : env[i]? = some (some (dI so, 1, nw)) := by rfl) :
    withL env i [] (fAug .Add (.int n, k1, n1) (.int b, k2, n2)) = .ok (env.set i (some (dI (so.set n.toNat (atR so n + b)), 1, nw))) := by
  have hlt : n.toNat < so.length := by omega
  rw [withL0 h (ds' := (so.set n.toNat (atR so n + b)).map D.int) (b := true) ?_ (by simp; omega)]
  · simp [dI]
  · simp only [fAug, List.length_map, ixN_ok h0 h1, List.getElem?_map, List.getElem?_eq_getElem hlt, Option.map_some]
    congr 2
    rw [List.map_set]
    congr 2
    unfold atR
    rw [List.getD_eq_getElem?_getD, List.getElem?_eq_getElem hlt]
    rfl
theorem set_ints {env : Env} {i : Nat} {so : List Int} {n b : Int} {nw : Bool} {k1 k2 : Nat} {n1 n2 : Bool} (h0 : 0 ≤ n) (h1 : n < so.length) (hl : so.length ≤ 100000) (h : env[i]? = some (some (dI so, 1, nw)) := by rfl) :
    withL env i [] (fSet (.int n, k1, n1) (.int b, k2, n2)) = .ok (env.set i (some (dI (so.set n.toNat b), 1, nw))) := by
  rw [withL0 h (ds' := (so.set n.toNat b).map D.int) (b := true) ?_ (by simp; omega)]
  · simp [dI]
  · simp only [fSet, List.length_map, ixN_ok h0 h1, nwOf, D.flat, Bool.or_true]
    rw [List.map_set]
section
variable {Γ : Str → List D → Res Val} {gl : Str → Option D} {env e2 : Env} {s : CS} {ss : CSs} {v : Val}
theorem x_nx (h : execS Γ gl fu s env = .ok (.nx e2)) : execSs Γ gl fu (.cons s ss) env = execSs Γ gl fu ss e2 := by
  rw [execSs, h]
  rfl
theorem x_rt (h : execS Γ gl fu s env = .ok (.rt v)) : execSs Γ gl fu (.cons s ss) env = .ok (.rt v) := by
  rw [execSs, h]
  rfl
theorem x_exc {c : Str} (h : execS Γ gl fu s env = .exc c) : execSs Γ gl fu (.cons s ss) env = .exc c := by
  rw [execSs, h]
  rfl
theorem x_nil : execSs Γ gl fu .nil env = .ok (.nx env) := by rw [execSs]
theorem rd_rt {n : Nat} {ds : List D} (h : execSs Γ gl fu ss (ds.map (fun d => some (d, 0, false)) ++ List.replicate (n - ds.length) none) = .ok (.rt v)) : runD Γ gl fu ss n ds = .ok v := by
  rw [runD, h]
  rfl
theorem rd_nx {n : Nat} {ds : List D} (h : execSs Γ gl fu ss (ds.map (fun d => some (d, 0, false)) ++ List.replicate (n - ds.length) none) = .ok (.nx e2)) : runD Γ gl fu ss n ds = .ok (.non, 0, true) := by
  rw [runD, h]
  rfl
end
/-- the sets that have a place, by their numbers -/
def mineOf (ss : List (List Int)) (q : Int) : List Int := (ss.zipIdx.filter fun s => decide (q ∈ s.1)).map fun s => (s.2 : Int)
theorem mine_at (P : List Int → Bool) (F : List Int → Int) : ∀ (ss : List (List Int)) (pre : List Int), ((ss.zipIdx pre.length).filter fun s => P s.1).map (fun s => atR (pre ++ ss.map F) (s.2 : Int)) = (ss.filter P).map F
  | [], _ => rfl
  | s :: ss, pre => by
    have ih := mine_at P F ss (pre ++ [F s])
    rw [List.length_append, List.length_singleton, List.append_assoc, List.singleton_append] at ih
    rw [List.zipIdx_cons, List.filter_cons, List.filter_cons, List.map_cons]
    cases h : P s with
    | true =>
      simp only [h, if_true, List.map_cons, atR_pre]
      rw [ih]
    | false =>
      simp only [h, Bool.false_eq_true, if_false]
      exact ih
theorem mine_add (P : List Int → Bool) (F : List Int → Int) (c : Int) : ∀ (ss : List (List Int)) (pre : List Int), (((ss.zipIdx pre.length).filter fun s => P s.1).map fun s => (s.2 : Int)).foldl (fun so i => so.set i.toNat (atR so i + c)) (pre ++ ss.map F) = pre ++ ss.map fun s => if P s then F s + c else F s
  | [], _ => rfl
  | s :: ss, pre => by
    rw [List.zipIdx_cons, List.filter_cons, List.map_cons, List.map_cons]
    cases h : P s with
    | true =>
      have ih := mine_add P F c ss (pre ++ [F s + c])
      rw [List.length_append, List.length_singleton, List.append_assoc, List.singleton_append] at ih
      simp only [h, if_true, List.map_cons, List.foldl_cons, atR_pre]
      rw [show (pre ++ F s :: ss.map F).set (pre.length : Int).toNat (F s + c) = pre ++ (F s + c) :: ss.map F by simp]
      rw [ih]
      simp
    | false =>
      have ih := mine_add P F c ss (pre ++ [F s])
      rw [List.length_append, List.length_singleton, List.append_assoc, List.singleton_append] at ih
      simp only [h, Bool.false_eq_true, if_false]
      rw [ih]
      simp
theorem mine_mem {ss : List (List Int)} {q i : Int} (h : i ∈ mineOf ss q) : 0 ≤ i ∧ i < ss.length := by
  unfold mineOf at h
  obtain ⟨⟨s, j⟩, h1, rfl⟩ := List.mem_map.mp h
  have := List.mem_zipIdx (List.mem_filter.mp h1).1
  simp at this ⊢
  omega
/-! ### the plain functions -/
def pSum (cs s : List Int) (q : Int) : Int := (s.map fun i => if i < q then atR cs i else 0).sum
def fairCol (ss : List (List Int)) (cs : List Int) (q : Int) : Int := if 0 < ((ss.filter fun s => decide (q ∈ s)).map fun s => pSum cs s q).sum then -1 else 1
def fairL (ss : List (List Int)) : Nat → List Int
  | 0 => []
  | m + 1 => fairL ss m ++ [fairCol ss (fairL ss m) m]
theorem fairL_len (ss : List (List Int)) : ∀ m, (fairL ss m).length = m
  | 0 => rfl
  | m + 1 => by simp [fairL, fairL_len ss m]
theorem fairCol_pm (ss : List (List Int)) (cs : List Int) (q : Int) : fairCol ss cs q = 1 ∨ fairCol ss cs q = -1 := by
  unfold fairCol
  split <;> simp
theorem fairL_pm (ss : List (List Int)) : ∀ m, ∀ c ∈ fairL ss m, c = 1 ∨ c = -1
  | 0, c, h => by cases h
  | m + 1, c, h => by
    rcases List.mem_append.mp h with h | h
    · exact fairL_pm ss m c h
    · rw [List.mem_singleton.mp h]; exact fairCol_pm _ _ _
theorem atR_app {cs : List Int} {c i : Int} (h0 : 0 ≤ i) (h1 : i < cs.length) : atR (cs ++ [c]) i = atR cs i := by
  unfold atR
  rw [List.getD_eq_getElem?_getD, List.getD_eq_getElem?_getD, List.getElem?_append_left (by omega)]
theorem atR_last {cs : List Int} {c : Int} : atR (cs ++ [c]) (cs.length : Int) = c := by simp [atR]
theorem pSum_step (cs : List Int) (c : Int) : ∀ (s : List Int), s.Nodup → (∀ i ∈ s, 0 ≤ i) → pSum (cs ++ [c]) s ((cs.length : Int) + 1) = pSum cs s cs.length + if (cs.length : Int) ∈ s then c else 0
  | [], _, _ => by simp [pSum]
  | i :: s, nd, h => by
    have ih := pSum_step cs c s (List.nodup_cons.mp nd).2 fun j hj => h j (by simp [hj])
    have hi := h i (by simp)
    unfold pSum at ih ⊢
    rw [List.map_cons, List.map_cons, List.sum_cons, List.sum_cons, ih]
    by_cases e : i = cs.length
    · subst e
      have : (cs.length : Int) ∉ s := (List.nodup_cons.mp nd).1
      rw [if_pos (show (cs.length : Int) < (cs.length : Int) + 1 by omega), if_neg (show ¬ (cs.length : Int) < (cs.length : Int) by omega), atR_last, if_neg this, if_pos (show (cs.length : Int) ∈ (cs.length : Int) :: s by simp)]
      omega
    · by_cases l : i < cs.length
      · rw [if_pos (show i < (cs.length : Int) + 1 by omega), if_pos l, atR_app hi l]
        by_cases m : (cs.length : Int) ∈ s
        · rw [if_pos m, if_pos (show (cs.length : Int) ∈ i :: s by simp [m])]; omega
        · rw [if_neg m, if_neg (show ¬ (cs.length : Int) ∈ i :: s by simp only [List.mem_cons, m, or_false]; omega)]; omega
      · rw [if_neg (show ¬ i < (cs.length : Int) + 1 by omega), if_neg l]
        by_cases m : (cs.length : Int) ∈ s
        · rw [if_pos m, if_pos (show (cs.length : Int) ∈ i :: s by simp [m])]; omega
        · rw [if_neg m, if_neg (show ¬ (cs.length : Int) ∈ i :: s by simp only [List.mem_cons, m, or_false]; omega)]; omega
theorem okPl_nd {n : Int} {s : List Int} (h : okPl n s = true) : s.Nodup ∧ ∀ i ∈ s, 0 ≤ i := by
  obtain ⟨_, h2, h3⟩ := okPl_iff.mp h
  exact ⟨h3.imp (by intro a b h; omega), fun i hi => (h2 i hi).1⟩
theorem pSum_map {n : Int} {ss : List (List Int)} (h : ∀ s ∈ ss, okPl n s = true) (cs : List Int) (c : Int) : (ss.map fun s => if decide ((cs.length : Int) ∈ s) = true then pSum cs s cs.length + c else pSum cs s cs.length) = ss.map fun s => pSum (cs ++ [c]) s ((cs.length : Int) + 1) := by
  apply List.map_congr_left
  intro s hs
  obtain ⟨h1, h2⟩ := okPl_nd (h s hs)
  rw [pSum_step cs c s h1 h2]
  by_cases m : (cs.length : Int) ∈ s <;> simp [m]
/-! ### fair -/
theorem rep_ints (i : Int) (n : Nat) : (List.replicate n [D.int i]).flatten = (List.replicate n i).map D.int := by
  induction n with
  | zero => rfl
  | succ n ih => rw [List.replicate_succ, List.flatten_cons, ih, List.replicate_succ]; rfl
theorem zeros_p (ss : List (List Int)) : List.replicate ss.length 0 = ss.map fun s => pSum [] s 0 := by
  refine (List.eq_replicate_iff.mpr ⟨by simp, ?_⟩).symm
  intro x hx
  obtain ⟨s, _, rfl⟩ := List.mem_map.mp hx
  unfold pSum
  have : (s.map fun i => if i < 0 then atR [] i else 0) = s.map fun _ => 0 := by
    apply List.map_congr_left
    intro i _
    simp [atR]
  rw [this]
  clear this hx
  rename_i hs
  clear hs
  induction s with
  | nil => rfl
  | cons a s ih => simpa using ih
theorem rep_ok {n : Nat} {x : D} {a c : Nat} {b d : Bool} (h : n ≤ 1000) : binV .Mult (.lst [x], a, b) (.int (n : Int), c, d) = .ok (.lst (List.replicate n [x]).flatten, 1, nwD b (List.replicate n [x]).flatten) := by
  rw [bin_rep, if_pos]
  · rfl
  · refine ⟨?_, ?_, ?_⟩
    · omega
    · omega
    · simp only [List.length_singleton, Int.toNat_natCast, LIM]; omega
theorem zer_ok {Γ : Str → List D → Res Val} {gl : Str → Option D} {env : Env} {n : Int} {ss : List (List Int)} {k : Nat} {nw : Bool} (hr : ss.length ≤ 1000) : evalE Γ gl (.bin .Mult (.lst (.cons (.cst (.int 0)) .nil)) (.blt .len (.cons (.idx (.var 0) (.cst (.int 1))) .nil))) (some (dFam n ss, k, nw) :: env) = .ok (dI (List.replicate ss.length 0), 1, true) := by
  have h1 : evalE Γ gl (.lst (.cons (.cst (.int 0)) .nil)) (some (dFam n ss, k, nw) :: env) = .ok (.lst [.int 0], 1, true) := by simp only [e_var, e_int, e_bl, e_non, e_str, e_gcon, e_bin, e_neg, e_cmp, e_chain, e_and, e_or, e_not, e_ite, e_call, e_blt, e_isi, e_idx, e_sl, e_lst, e_tup, es_nil, es_cons, ec_nil, ec_one, eo_nil, eo_one,     Res.bind_ok, Res.bind_exc, Res.nx_ok, bool_b, okB, opt_i, callV_ok, callV_exc, bltV, len_l, len_t, sum_i, all_b, any_b, abs_i, lst_l, int_b, int_i, idx_l, idx_t, sl_l, sl_s, nwD_ints, nwD_true, nwD_nil, lst0, tup0, lst1, tup1, lst2, tup2, lst3, tup3, lst4, tup4, lst5, tup5, lst6, tup6, lst7, tup7, lst8, tup8, lst12, tup12, lst16, tup16, kUni, List.filter_nil, List.filter_cons, Nat.add_zero, neg_i, bin_ii, bin_cat, List.getElem?_cons_zero, List.getElem?_cons_succ, List.map_cons, List.map_nil, List.all_cons, List.all_nil, List.any_cons, List.any_nil, List.set_cons_zero, List.set_cons_succ,     nwOf, D.flat, ints_ok, bls_ok, if_true, if_false, Bool.false_eq_true, Bool.not_true, Bool.not_false, Bool.and_true, Bool.true_and, Bool.or_true, Bool.true_or, Bool.or_false, Bool.false_or, Bool.and_self, Bool.or_self, Bool.and_false, Bool.false_and]
  have h2 : evalE Γ gl (.blt .len (.cons (.idx (.var 0) (.cst (.int 1))) .nil)) (some (dFam n ss, k, nw) :: env) = .ok (.int ss.length, 0, true) := by simp only [e_var, e_int, e_bl, e_non, e_str, e_gcon, e_bin, e_neg, e_cmp, e_chain, e_and, e_or, e_not, e_ite, e_call, e_blt, e_isi, e_idx, e_sl, e_lst, e_tup, es_nil, es_cons, ec_nil, ec_one, eo_nil, eo_one,     Res.bind_ok, Res.bind_exc, Res.nx_ok, bool_b, okB, opt_i, callV_ok, callV_exc, bltV, len_l, len_t, sum_i, all_b, any_b, abs_i, lst_l, int_b, int_i, idx_l, idx_t, sl_l, sl_s, nwD_ints, nwD_true, nwD_nil, lst0, tup0, lst1, tup1, lst2, tup2, lst3, tup3, lst4, tup4, lst5, tup5, lst6, tup6, lst7, tup7, lst8, tup8, lst12, tup12, lst16, tup16, kUni, List.filter_nil, List.filter_cons, Nat.add_zero, neg_i, bin_ii, bin_cat, List.getElem?_cons_zero, List.getElem?_cons_succ, List.map_cons, List.map_nil, List.all_cons, List.all_nil, List.any_cons, List.any_nil, List.set_cons_zero, List.set_cons_succ,     nwOf, D.flat, ints_ok, bls_ok, if_true, if_false, Bool.false_eq_true, Bool.not_true, Bool.not_false, Bool.and_true, Bool.true_and, Bool.or_true, Bool.true_or, Bool.or_false, Bool.false_or, Bool.and_self, Bool.or_self, Bool.and_false, Bool.false_and, atD1, List.length_map]
  rw [e_bin, h1, Res.bind_ok, h2, Res.bind_ok, rep_ok hr, rep_ints]
  rfl
theorem fair_step (hp : Ext pPkg p) {k : Nat} {n : Int} {ss : List (List Int)} (hpl : ∀ s ∈ ss, okPl n s = true) (hr : ss.length ≤ 1000) {j : Nat} (hj : j ≤ 1000) {o4 o5 o6 o7 : Option Val} :
    ∃ o4' o5' o6' o7', execSs (runP glT fu p k) glT fu l_fair_1 [some (dFam n ss, 0, false), some (dI (fairL ss j), 1, true), some (dI (ss.map fun s => pSum (fairL ss j) s j), 1, true), some (D.int (j : Int), 0, true), o4, o5, o6, o7] =
      .ok (.nx [some (dFam n ss, 0, false), some (dI (fairL ss (j + 1)), 1, true), some (dI (ss.map fun s => pSum (fairL ss (j + 1)) s ((j + 1 : Nat) : Int)), 1, true), some (D.int (j : Int), 0, true), o4', o5', o6', o7']) := by
  have hfl := fairL_len ss j
  generalize hS : (ss.map fun s => pSum (fairL ss j) s j) = S
  have hSl : S.length = ss.length := by rw [← hS]; simp
  simp only [l_fair_1, runD, List.length_cons, List.length_nil, List.replicate, List.map_cons, List.map_nil, execSs, execS, setT, keep_true, shut_int, shut_bl, shut_non, shut_str, shut_lst, shut_tup, shut_lst0, shut_tup0, shutL_ints, shutL_dI, shutL_nil, shutL_cons, CE.vars, CEs.vars, List.nil_append, List.cons_append, List.append_nil, keep_f, own0, own0n, ownSs, demF, List.contains_cons, List.contains_nil, Nat.reduceBEq, Nat.reduceBNe, bne_self_eq_false, Nat.reduceAdd, beq_self_eq_true, Option.map_some, Option.map_none, List.any_cons, List.any_nil, Bool.or_false, Bool.and_true, Bool.and_false, Bool.or_true, e_var, e_int, e_bl, e_non, e_str, e_gcon, e_bin, e_neg, e_cmp, e_chain, e_and, e_or, e_not, e_ite, e_call, e_blt, e_isi, e_idx, e_sl, e_lst, e_tup, es_nil, es_cons, ec_nil, ec_one, eo_nil, eo_one,     Res.bind_ok, Res.bind_exc, Res.nx_ok, bool_b, okB, opt_i, callV_ok, callV_exc, bltV, len_l, len_t, sum_i, all_b, any_b, abs_i, lst_l, int_b, int_i, idx_l, idx_t, sl_l, sl_s, nwD_ints, nwD_true, nwD_nil, lst0, tup0, lst1, tup1, lst2, tup2, lst3, tup3, lst4, tup4, lst5, tup5, lst6, tup6, lst7, tup7, lst8, tup8, lst12, tup12, lst16, tup16, kUni, List.filter_nil, List.filter_cons, Nat.add_zero, neg_i, bin_ii, bin_cat, List.getElem?_cons_zero, List.getElem?_cons_succ, List.map_cons, List.map_nil, List.all_cons, List.all_nil, List.any_cons, List.any_nil, List.set_cons_zero, List.set_cons_succ,     nwOf, D.flat, ints_ok, bls_ok, if_true, if_false, Bool.false_eq_true, Bool.not_true, Bool.not_false, Bool.and_true, Bool.true_and, Bool.or_true, Bool.true_or, Bool.or_false, Bool.false_or, Bool.and_self, Bool.or_self, Bool.and_false, Bool.false_and]
  rw [e_compIf ss.zipIdx (fun q => (.tup [.int (q.2 : Int), dI q.1], 0, false)) (fun q => (q.2 : Int)) (fun q => decide ((j : Int) ∈ q.1)) (it_enum (kk := 0) (by simp only [e_var, e_int, e_bl, e_non, e_str, e_gcon, e_bin, e_neg, e_cmp, e_chain, e_and, e_or, e_not, e_ite, e_call, e_blt, e_isi, e_idx, e_sl, e_lst, e_tup, es_nil, es_cons, ec_nil, ec_one, eo_nil, eo_one,     Res.bind_ok, Res.bind_exc, Res.nx_ok, bool_b, okB, opt_i, callV_ok, callV_exc, bltV, len_l, len_t, sum_i, all_b, any_b, abs_i, lst_l, int_b, int_i, idx_l, idx_t, sl_l, sl_s, nwD_ints, nwD_true, nwD_nil, lst0, tup0, lst1, tup1, lst2, tup2, lst3, tup3, lst4, tup4, lst5, tup5, lst6, tup6, lst7, tup7, lst8, tup8, lst12, tup12, lst16, tup16, kUni, List.filter_nil, List.filter_cons, Nat.add_zero, neg_i, bin_ii, bin_cat, List.getElem?_cons_zero, List.getElem?_cons_succ, List.map_cons, List.map_nil, List.all_cons, List.all_nil, List.any_cons, List.any_nil, List.set_cons_zero, List.set_cons_succ,     nwOf, D.flat, ints_ok, bls_ok, if_true, if_false, Bool.false_eq_true, Bool.not_true, Bool.not_false, Bool.and_true, Bool.true_and, Bool.or_true, Bool.true_or, Bool.or_false, Bool.false_or, Bool.and_self, Bool.or_self, Bool.and_false, Bool.false_and, atD1])) rfl fun q hq => ?_]
  rotate_left
  · refine ⟨_, 0, false, rfl, ?_, ?_⟩
    · simp only [setM, List.zip_cons_cons, List.zip_nil_right, e_var, e_int, e_bl, e_non, e_str, e_gcon, e_bin, e_neg, e_cmp, e_chain, e_and, e_or, e_not, e_ite, e_call, e_blt, e_isi, e_idx, e_sl, e_lst, e_tup, es_nil, es_cons, ec_nil, ec_one, eo_nil, eo_one,     Res.bind_ok, Res.bind_exc, Res.nx_ok, bool_b, okB, opt_i, callV_ok, callV_exc, bltV, len_l, len_t, sum_i, all_b, any_b, abs_i, lst_l, int_b, int_i, idx_l, idx_t, sl_l, sl_s, nwD_ints, nwD_true, nwD_nil, lst0, tup0, lst1, tup1, lst2, tup2, lst3, tup3, lst4, tup4, lst5, tup5, lst6, tup6, lst7, tup7, lst8, tup8, lst12, tup12, lst16, tup16, kUni, List.filter_nil, List.filter_cons, Nat.add_zero, neg_i, bin_ii, bin_cat, List.getElem?_cons_zero, List.getElem?_cons_succ, List.map_cons, List.map_nil, List.all_cons, List.all_nil, List.any_cons, List.any_nil, List.set_cons_zero, List.set_cons_succ,     nwOf, D.flat, ints_ok, bls_ok, if_true, if_false, Bool.false_eq_true, Bool.not_true, Bool.not_false, Bool.and_true, Bool.true_and, Bool.or_true, Bool.true_or, Bool.or_false, Bool.false_or, Bool.and_self, Bool.or_self, Bool.and_false, Bool.false_and, cmp_in]
    · intro _
      simp only [setM, List.zip_cons_cons, List.zip_nil_right, e_var, e_int, e_bl, e_non, e_str, e_gcon, e_bin, e_neg, e_cmp, e_chain, e_and, e_or, e_not, e_ite, e_call, e_blt, e_isi, e_idx, e_sl, e_lst, e_tup, es_nil, es_cons, ec_nil, ec_one, eo_nil, eo_one,     Res.bind_ok, Res.bind_exc, Res.nx_ok, bool_b, okB, opt_i, callV_ok, callV_exc, bltV, len_l, len_t, sum_i, all_b, any_b, abs_i, lst_l, int_b, int_i, idx_l, idx_t, sl_l, sl_s, nwD_ints, nwD_true, nwD_nil, lst0, tup0, lst1, tup1, lst2, tup2, lst3, tup3, lst4, tup4, lst5, tup5, lst6, tup6, lst7, tup7, lst8, tup8, lst12, tup12, lst16, tup16, kUni, List.filter_nil, List.filter_cons, Nat.add_zero, neg_i, bin_ii, bin_cat, List.getElem?_cons_zero, List.getElem?_cons_succ, List.map_cons, List.map_nil, List.all_cons, List.all_nil, List.any_cons, List.any_nil, List.set_cons_zero, List.set_cons_succ,     nwOf, D.flat, ints_ok, bls_ok, if_true, if_false, Bool.false_eq_true, Bool.not_true, Bool.not_false, Bool.and_true, Bool.true_and, Bool.or_true, Bool.true_or, Bool.or_false, Bool.false_or, Bool.and_self, Bool.or_self, Bool.and_false, Bool.false_and]
  rw [show (ss.zipIdx.filter fun q => decide ((j : Int) ∈ q.1)).map (fun q => (q.2 : Int)) = mineOf ss j from rfl]
  simp only [runD, List.length_cons, List.length_nil, List.replicate, List.map_cons, List.map_nil, execSs, execS, setT, keep_true, shut_int, shut_bl, shut_non, shut_str, shut_lst, shut_tup, shut_lst0, shut_tup0, shutL_ints, shutL_dI, shutL_nil, shutL_cons, CE.vars, CEs.vars, List.nil_append, List.cons_append, List.append_nil, keep_f, own0, own0n, ownSs, demF, List.contains_cons, List.contains_nil, Nat.reduceBEq, Nat.reduceBNe, bne_self_eq_false, Nat.reduceAdd, beq_self_eq_true, Option.map_some, Option.map_none, List.any_cons, List.any_nil, Bool.or_false, Bool.and_true, Bool.and_false, Bool.or_true, e_var, e_int, e_bl, e_non, e_str, e_gcon, e_bin, e_neg, e_cmp, e_chain, e_and, e_or, e_not, e_ite, e_call, e_blt, e_isi, e_idx, e_sl, e_lst, e_tup, es_nil, es_cons, ec_nil, ec_one, eo_nil, eo_one,     Res.bind_ok, Res.bind_exc, Res.nx_ok, bool_b, okB, opt_i, callV_ok, callV_exc, bltV, len_l, len_t, sum_i, all_b, any_b, abs_i, lst_l, int_b, int_i, idx_l, idx_t, sl_l, sl_s, nwD_ints, nwD_true, nwD_nil, lst0, tup0, lst1, tup1, lst2, tup2, lst3, tup3, lst4, tup4, lst5, tup5, lst6, tup6, lst7, tup7, lst8, tup8, lst12, tup12, lst16, tup16, kUni, List.filter_nil, List.filter_cons, Nat.add_zero, neg_i, bin_ii, bin_cat, List.getElem?_cons_zero, List.getElem?_cons_succ, List.map_cons, List.map_nil, List.all_cons, List.all_nil, List.any_cons, List.any_nil, List.set_cons_zero, List.set_cons_succ,     nwOf, D.flat, ints_ok, bls_ok, if_true, if_false, Bool.false_eq_true, Bool.not_true, Bool.not_false, Bool.and_true, Bool.true_and, Bool.or_true, Bool.true_or, Bool.or_false, Bool.false_or, Bool.and_self, Bool.or_self, Bool.and_false, Bool.false_and]
  rw [e_compI (mineOf ss j) (fun i => (.int i, 0, true)) (atR S) (it_ints (kk := 0) (by simp only [e_var, e_int, e_bl, e_non, e_str, e_gcon, e_bin, e_neg, e_cmp, e_chain, e_and, e_or, e_not, e_ite, e_call, e_blt, e_isi, e_idx, e_sl, e_lst, e_tup, es_nil, es_cons, ec_nil, ec_one, eo_nil, eo_one,     Res.bind_ok, Res.bind_exc, Res.nx_ok, bool_b, okB, opt_i, callV_ok, callV_exc, bltV, len_l, len_t, sum_i, all_b, any_b, abs_i, lst_l, int_b, int_i, idx_l, idx_t, sl_l, sl_s, nwD_ints, nwD_true, nwD_nil, lst0, tup0, lst1, tup1, lst2, tup2, lst3, tup3, lst4, tup4, lst5, tup5, lst6, tup6, lst7, tup7, lst8, tup8, lst12, tup12, lst16, tup16, kUni, List.filter_nil, List.filter_cons, Nat.add_zero, neg_i, bin_ii, bin_cat, List.getElem?_cons_zero, List.getElem?_cons_succ, List.map_cons, List.map_nil, List.all_cons, List.all_nil, List.any_cons, List.any_nil, List.set_cons_zero, List.set_cons_succ,     nwOf, D.flat, ints_ok, bls_ok, if_true, if_false, Bool.false_eq_true, Bool.not_true, Bool.not_false, Bool.and_true, Bool.true_and, Bool.or_true, Bool.true_or, Bool.or_false, Bool.false_or, Bool.and_self, Bool.or_self, Bool.and_false, Bool.false_and])) rfl fun i hi => ?_]
  rotate_left
  · obtain ⟨g1, g2⟩ := mine_mem hi
    refine ⟨_, 0, true, rfl, ?_⟩
    simp only [e_var, e_int, e_bl, e_non, e_str, e_gcon, e_bin, e_neg, e_cmp, e_chain, e_and, e_or, e_not, e_ite, e_call, e_blt, e_isi, e_idx, e_sl, e_lst, e_tup, es_nil, es_cons, ec_nil, ec_one, eo_nil, eo_one,     Res.bind_ok, Res.bind_exc, Res.nx_ok, bool_b, okB, opt_i, callV_ok, callV_exc, bltV, len_l, len_t, sum_i, all_b, any_b, abs_i, lst_l, int_b, int_i, idx_l, idx_t, sl_l, sl_s, nwD_ints, nwD_true, nwD_nil, lst0, tup0, lst1, tup1, lst2, tup2, lst3, tup3, lst4, tup4, lst5, tup5, lst6, tup6, lst7, tup7, lst8, tup8, lst12, tup12, lst16, tup16, kUni, List.filter_nil, List.filter_cons, Nat.add_zero, neg_i, bin_ii, bin_cat, List.getElem?_cons_zero, List.getElem?_cons_succ, List.map_cons, List.map_nil, List.all_cons, List.all_nil, List.any_cons, List.any_nil, List.set_cons_zero, List.set_cons_succ,     nwOf, D.flat, ints_ok, bls_ok, if_true, if_false, Bool.false_eq_true, Bool.not_true, Bool.not_false, Bool.and_true, Bool.true_and, Bool.or_true, Bool.true_or, Bool.or_false, Bool.false_or, Bool.and_self, Bool.or_self, Bool.and_false, Bool.false_and, atD_int g1 (show i < S.length by omega)]
  have hsum : ((mineOf ss j).map (atR S)).sum = ((ss.filter fun s => decide ((j : Int) ∈ s)).map fun s => pSum (fairL ss j) s j).sum := by
    have := mine_at (fun s => decide ((j : Int) ∈ s)) (fun s => pSum (fairL ss j) s j) ss []
    rw [List.nil_append, hS] at this
    rw [← this]
    unfold mineOf
    rw [List.map_map]
    rfl
  have hcol : fairCol ss (fairL ss j) j = if 0 < ((mineOf ss j).map (atR S)).sum then -1 else 1 := by
    unfold fairCol
    rw [hsum]
  simp only [runD, List.length_cons, List.length_nil, List.replicate, List.map_cons, List.map_nil, execSs, execS, setT, keep_true, shut_int, shut_bl, shut_non, shut_str, shut_lst, shut_tup, shut_lst0, shut_tup0, shutL_ints, shutL_dI, shutL_nil, shutL_cons, CE.vars, CEs.vars, List.nil_append, List.cons_append, List.append_nil, keep_f, own0, own0n, ownSs, demF, List.contains_cons, List.contains_nil, Nat.reduceBEq, Nat.reduceBNe, bne_self_eq_false, Nat.reduceAdd, beq_self_eq_true, Option.map_some, Option.map_none, List.any_cons, List.any_nil, Bool.or_false, Bool.and_true, Bool.and_false, Bool.or_true, e_var, e_int, e_bl, e_non, e_str, e_gcon, e_bin, e_neg, e_cmp, e_chain, e_and, e_or, e_not, e_ite, e_call, e_blt, e_isi, e_idx, e_sl, e_lst, e_tup, es_nil, es_cons, ec_nil, ec_one, eo_nil, eo_one,     Res.bind_ok, Res.bind_exc, Res.nx_ok, bool_b, okB, opt_i, callV_ok, callV_exc, bltV, len_l, len_t, sum_i, all_b, any_b, abs_i, lst_l, int_b, int_i, idx_l, idx_t, sl_l, sl_s, nwD_ints, nwD_true, nwD_nil, lst0, tup0, lst1, tup1, lst2, tup2, lst3, tup3, lst4, tup4, lst5, tup5, lst6, tup6, lst7, tup7, lst8, tup8, lst12, tup12, lst16, tup16, kUni, List.filter_nil, List.filter_cons, Nat.add_zero, neg_i, bin_ii, bin_cat, List.getElem?_cons_zero, List.getElem?_cons_succ, List.map_cons, List.map_nil, List.all_cons, List.all_nil, List.any_cons, List.any_nil, List.set_cons_zero, List.set_cons_succ,     nwOf, D.flat, ints_ok, bls_ok, if_true, if_false, Bool.false_eq_true, Bool.not_true, Bool.not_false, Bool.and_true, Bool.true_and, Bool.or_true, Bool.true_or, Bool.or_false, Bool.false_or, Bool.and_self, Bool.or_self, Bool.and_false, Bool.false_and, cmp_gt]
  have hite : (if decide (0 < ((mineOf ss j).map (atR S)).sum) = true then (Res.ok ((D.int (-1), 0, true) : Val)) else Res.ok ((D.int 1, 0, true) : Val)) = .ok (.int (fairCol ss (fairL ss j) j), 0, true) := by
    rw [hcol]
    by_cases h : 0 < ((mineOf ss j).map (atR S)).sum
    · simp [h]
    · simp [h]
  generalize hc : fairCol ss (fairL ss j) j = c at hite
  simp only [hite, runD, List.length_cons, List.length_nil, List.replicate, List.map_cons, List.map_nil, execSs, execS, setT, keep_true, shut_int, shut_bl, shut_non, shut_str, shut_lst, shut_tup, shut_lst0, shut_tup0, shutL_ints, shutL_dI, shutL_nil, shutL_cons, CE.vars, CEs.vars, List.nil_append, List.cons_append, List.append_nil, keep_f, own0, own0n, ownSs, demF, List.contains_cons, List.contains_nil, Nat.reduceBEq, Nat.reduceBNe, bne_self_eq_false, Nat.reduceAdd, beq_self_eq_true, Option.map_some, Option.map_none, List.any_cons, List.any_nil, Bool.or_false, Bool.and_true, Bool.and_false, Bool.or_true, e_var, e_int, e_bl, e_non, e_str, e_gcon, e_bin, e_neg, e_cmp, e_chain, e_and, e_or, e_not, e_ite, e_call, e_blt, e_isi, e_idx, e_sl, e_lst, e_tup, es_nil, es_cons, ec_nil, ec_one, eo_nil, eo_one,     Res.bind_ok, Res.bind_exc, Res.nx_ok, bool_b, okB, opt_i, callV_ok, callV_exc, bltV, len_l, len_t, sum_i, all_b, any_b, abs_i, lst_l, int_b, int_i, idx_l, idx_t, sl_l, sl_s, nwD_ints, nwD_true, nwD_nil, lst0, tup0, lst1, tup1, lst2, tup2, lst3, tup3, lst4, tup4, lst5, tup5, lst6, tup6, lst7, tup7, lst8, tup8, lst12, tup12, lst16, tup16, kUni, List.filter_nil, List.filter_cons, Nat.add_zero, neg_i, bin_ii, bin_cat, List.getElem?_cons_zero, List.getElem?_cons_succ, List.map_cons, List.map_nil, List.all_cons, List.all_nil, List.any_cons, List.any_nil, List.set_cons_zero, List.set_cons_succ,     nwOf, D.flat, ints_ok, bls_ok, if_true, if_false, Bool.false_eq_true, Bool.not_true, Bool.not_false, Bool.and_true, Bool.true_and, Bool.or_true, Bool.true_or, Bool.or_false, Bool.false_or, Bool.and_self, Bool.or_self, Bool.and_false, Bool.false_and, ownS, itV_ints]
  obtain ⟨e2, g1, o5', g2, g3⟩ := forL_fold (body := execSs (runP glT fu p k) glT fu l_fair_2) (t := .one 5) (fun i : Int => ((D.int i, 0, true) : Val)) (fun (so : List Int) i => so.set i.toNat (atR so i + c))
    (fun so e => ∃ o5' : Option Val, e = [some (dFam n ss, 0, false), some (dI (fairL ss j), 1, true), some (dI so, 1, true), some (D.int (j : Int), 0, true), some (dI (mineOf ss j), 0, true), o5', o6, some (D.int c, 0, true)] ∧ so.length = ss.length)
    (mineOf ss j) S [some (dFam n ss, 0, false), some (dI (fairL ss j), 1, true), some (dI S, 1, true), some (D.int (j : Int), 0, true), some (dI (mineOf ss j), 0, true), o5, o6, some (D.int c, 0, true)] ⟨o5, rfl, hSl⟩ (fun so i e hi hE => by
      obtain ⟨o5', rfl, hl⟩ := hE
      obtain ⟨m1, m2⟩ := mine_mem hi
      refine ⟨_, rfl, [some (dFam n ss, 0, false), some (dI (fairL ss j), 1, true), some (dI (so.set i.toNat (atR so i + c)), 1, true), some (D.int (j : Int), 0, true), some (dI (mineOf ss j), 0, true), some (D.int i, 0, true), o6, some (D.int c, 0, true)], ?_, some (D.int i, 0, true), rfl, by simp [hl]⟩
      simp only [l_fair_2, runD, List.length_cons, List.length_nil, List.replicate, List.map_cons, List.map_nil, execSs, execS, setT, keep_true, shut_int, shut_bl, shut_non, shut_str, shut_lst, shut_tup, shut_lst0, shut_tup0, shutL_ints, shutL_dI, shutL_nil, shutL_cons, CE.vars, CEs.vars, List.nil_append, List.cons_append, List.append_nil, keep_f, own0, own0n, ownSs, demF, List.contains_cons, List.contains_nil, Nat.reduceBEq, Nat.reduceBNe, bne_self_eq_false, Nat.reduceAdd, beq_self_eq_true, Option.map_some, Option.map_none, List.any_cons, List.any_nil, Bool.or_false, Bool.and_true, Bool.and_false, Bool.or_true, e_var, e_int, e_bl, e_non, e_str, e_gcon, e_bin, e_neg, e_cmp, e_chain, e_and, e_or, e_not, e_ite, e_call, e_blt, e_isi, e_idx, e_sl, e_lst, e_tup, es_nil, es_cons, ec_nil, ec_one, eo_nil, eo_one,     Res.bind_ok, Res.bind_exc, Res.nx_ok, bool_b, okB, opt_i, callV_ok, callV_exc, bltV, len_l, len_t, sum_i, all_b, any_b, abs_i, lst_l, int_b, int_i, idx_l, idx_t, sl_l, sl_s, nwD_ints, nwD_true, nwD_nil, lst0, tup0, lst1, tup1, lst2, tup2, lst3, tup3, lst4, tup4, lst5, tup5, lst6, tup6, lst7, tup7, lst8, tup8, lst12, tup12, lst16, tup16, kUni, List.filter_nil, List.filter_cons, Nat.add_zero, neg_i, bin_ii, bin_cat, List.getElem?_cons_zero, List.getElem?_cons_succ, List.map_cons, List.map_nil, List.all_cons, List.all_nil, List.any_cons, List.any_nil, List.set_cons_zero, List.set_cons_succ,     nwOf, D.flat, ints_ok, bls_ok, if_true, if_false, Bool.false_eq_true, Bool.not_true, Bool.not_false, Bool.and_true, Bool.true_and, Bool.or_true, Bool.true_or, Bool.or_false, Bool.false_or, Bool.and_self, Bool.or_self, Bool.and_false, Bool.false_and, pathX]
      rw [aug_ints (so := so) (nw := true) m1 (by omega) (by omega)]
      simp only [runD, List.length_cons, List.length_nil, List.replicate, List.map_cons, List.map_nil, execSs, execS, setT, keep_true, shut_int, shut_bl, shut_non, shut_str, shut_lst, shut_tup, shut_lst0, shut_tup0, shutL_ints, shutL_dI, shutL_nil, shutL_cons, CE.vars, CEs.vars, List.nil_append, List.cons_append, List.append_nil, keep_f, own0, own0n, ownSs, demF, List.contains_cons, List.contains_nil, Nat.reduceBEq, Nat.reduceBNe, bne_self_eq_false, Nat.reduceAdd, beq_self_eq_true, Option.map_some, Option.map_none, List.any_cons, List.any_nil, Bool.or_false, Bool.and_true, Bool.and_false, Bool.or_true, e_var, e_int, e_bl, e_non, e_str, e_gcon, e_bin, e_neg, e_cmp, e_chain, e_and, e_or, e_not, e_ite, e_call, e_blt, e_isi, e_idx, e_sl, e_lst, e_tup, es_nil, es_cons, ec_nil, ec_one, eo_nil, eo_one,     Res.bind_ok, Res.bind_exc, Res.nx_ok, bool_b, okB, opt_i, callV_ok, callV_exc, bltV, len_l, len_t, sum_i, all_b, any_b, abs_i, lst_l, int_b, int_i, idx_l, idx_t, sl_l, sl_s, nwD_ints, nwD_true, nwD_nil, lst0, tup0, lst1, tup1, lst2, tup2, lst3, tup3, lst4, tup4, lst5, tup5, lst6, tup6, lst7, tup7, lst8, tup8, lst12, tup12, lst16, tup16, kUni, List.filter_nil, List.filter_cons, Nat.add_zero, neg_i, bin_ii, bin_cat, List.getElem?_cons_zero, List.getElem?_cons_succ, List.map_cons, List.map_nil, List.all_cons, List.all_nil, List.any_cons, List.any_nil, List.set_cons_zero, List.set_cons_succ,     nwOf, D.flat, ints_ok, bls_ok, if_true, if_false, Bool.false_eq_true, Bool.not_true, Bool.not_false, Bool.and_true, Bool.true_and, Bool.or_true, Bool.true_or, Bool.or_false, Bool.false_or, Bool.and_self, Bool.or_self, Bool.and_false, Bool.false_and])
  subst g2
  rw [g1]
  have hS2 : (mineOf ss j).foldl (fun (so : List Int) i => so.set i.toNat (atR so i + c)) S = ss.map fun s => pSum (fairL ss (j + 1)) s ((j + 1 : Nat) : Int) := by
    have := mine_add (fun s => decide ((j : Int) ∈ s)) (fun s => pSum (fairL ss j) s j) c ss []
    rw [List.nil_append, hS] at this
    rw [show mineOf ss j = ((ss.zipIdx ([] : List Int).length).filter fun s => decide ((j : Int) ∈ s.1)).map fun s => (s.2 : Int) from rfl, this, List.nil_append]
    have h2 := pSum_map hpl (fairL ss j) c
    rw [hfl] at h2
    rw [h2, fairL, hc]
    rfl
  rw [hS2]
  refine ⟨some (dI (mineOf ss j), 0, true), o5', o6, some (D.int c, 0, true), ?_⟩
  simp only [runD, List.length_cons, List.length_nil, List.replicate, List.map_cons, List.map_nil, execSs, execS, setT, keep_true, shut_int, shut_bl, shut_non, shut_str, shut_lst, shut_tup, shut_lst0, shut_tup0, shutL_ints, shutL_dI, shutL_nil, shutL_cons, CE.vars, CEs.vars, List.nil_append, List.cons_append, List.append_nil, keep_f, own0, own0n, ownSs, demF, List.contains_cons, List.contains_nil, Nat.reduceBEq, Nat.reduceBNe, bne_self_eq_false, Nat.reduceAdd, beq_self_eq_true, Option.map_some, Option.map_none, List.any_cons, List.any_nil, Bool.or_false, Bool.and_true, Bool.and_false, Bool.or_true, e_var, e_int, e_bl, e_non, e_str, e_gcon, e_bin, e_neg, e_cmp, e_chain, e_and, e_or, e_not, e_ite, e_call, e_blt, e_isi, e_idx, e_sl, e_lst, e_tup, es_nil, es_cons, ec_nil, ec_one, eo_nil, eo_one,     Res.bind_ok, Res.bind_exc, Res.nx_ok, bool_b, okB, opt_i, callV_ok, callV_exc, bltV, len_l, len_t, sum_i, all_b, any_b, abs_i, lst_l, int_b, int_i, idx_l, idx_t, sl_l, sl_s, nwD_ints, nwD_true, nwD_nil, lst0, tup0, lst1, tup1, lst2, tup2, lst3, tup3, lst4, tup4, lst5, tup5, lst6, tup6, lst7, tup7, lst8, tup8, lst12, tup12, lst16, tup16, kUni, List.filter_nil, List.filter_cons, Nat.add_zero, neg_i, bin_ii, bin_cat, List.getElem?_cons_zero, List.getElem?_cons_succ, List.map_cons, List.map_nil, List.all_cons, List.all_nil, List.any_cons, List.any_nil, List.set_cons_zero, List.set_cons_succ,     nwOf, D.flat, ints_ok, bls_ok, if_true, if_false, Bool.false_eq_true, Bool.not_true, Bool.not_false, Bool.and_true, Bool.true_and, Bool.or_true, Bool.true_or, Bool.or_false, Bool.false_or, Bool.and_self, Bool.or_self, Bool.and_false, Bool.false_and, pathX]
  rw [app_ints (cs := fairL ss j) (nw := true) (by omega)]
  simp only [runD, List.length_cons, List.length_nil, List.replicate, List.map_cons, List.map_nil, execSs, execS, setT, keep_true, shut_int, shut_bl, shut_non, shut_str, shut_lst, shut_tup, shut_lst0, shut_tup0, shutL_ints, shutL_dI, shutL_nil, shutL_cons, CE.vars, CEs.vars, List.nil_append, List.cons_append, List.append_nil, keep_f, own0, own0n, ownSs, demF, List.contains_cons, List.contains_nil, Nat.reduceBEq, Nat.reduceBNe, bne_self_eq_false, Nat.reduceAdd, beq_self_eq_true, Option.map_some, Option.map_none, List.any_cons, List.any_nil, Bool.or_false, Bool.and_true, Bool.and_false, Bool.or_true, e_var, e_int, e_bl, e_non, e_str, e_gcon, e_bin, e_neg, e_cmp, e_chain, e_and, e_or, e_not, e_ite, e_call, e_blt, e_isi, e_idx, e_sl, e_lst, e_tup, es_nil, es_cons, ec_nil, ec_one, eo_nil, eo_one,     Res.bind_ok, Res.bind_exc, Res.nx_ok, bool_b, okB, opt_i, callV_ok, callV_exc, bltV, len_l, len_t, sum_i, all_b, any_b, abs_i, lst_l, int_b, int_i, idx_l, idx_t, sl_l, sl_s, nwD_ints, nwD_true, nwD_nil, lst0, tup0, lst1, tup1, lst2, tup2, lst3, tup3, lst4, tup4, lst5, tup5, lst6, tup6, lst7, tup7, lst8, tup8, lst12, tup12, lst16, tup16, kUni, List.filter_nil, List.filter_cons, Nat.add_zero, neg_i, bin_ii, bin_cat, List.getElem?_cons_zero, List.getElem?_cons_succ, List.map_cons, List.map_nil, List.all_cons, List.all_nil, List.any_cons, List.any_nil, List.set_cons_zero, List.set_cons_succ,     nwOf, D.flat, ints_ok, bls_ok, if_true, if_false, Bool.false_eq_true, Bool.not_true, Bool.not_false, Bool.and_true, Bool.true_and, Bool.or_true, Bool.true_or, Bool.or_false, Bool.false_or, Bool.and_self, Bool.or_self, Bool.and_false, Bool.false_and]
  rw [fairL, hc]
theorem r_fair (hp : Ext pPkg p) {k : Nat} {n : Int} {ss : List (List Int)} (hf : famOk 20 n ss = true) : runP glT fu p (k + 4) "fair" [dFam n ss] = .ok (dI (fairL ss n.toNat), 1, true) := by
  rw [runP_eq (hp "fair" f_fair (by kernel_rfl)) rfl]
  obtain ⟨q1, q2, q3, q4⟩ := fam_in hf
  have hpl := fam_pl hf
  have hr : ss.length ≤ 1000 := by omega
  refine rd_rt ?_
  show execSs _ _ _ f_fair.body [some (dFam n ss, 0, false), none, none, none, none, none, none, none] = _
  unfold f_fair
  rw [x_nx (e2 := [some (dFam n ss, 0, false), none, none, none, none, none, none, none]) (by simp only [runD, List.length_cons, List.length_nil, List.replicate, List.map_cons, List.map_nil, execSs, execS, setT, keep_true, shut_int, shut_bl, shut_non, shut_str, shut_lst, shut_tup, shut_lst0, shut_tup0, shutL_ints, shutL_dI, shutL_nil, shutL_cons, CE.vars, CEs.vars, List.nil_append, List.cons_append, List.append_nil, keep_f, own0, own0n, ownSs, demF, List.contains_cons, List.contains_nil, Nat.reduceBEq, Nat.reduceBNe, bne_self_eq_false, Nat.reduceAdd, beq_self_eq_true, Option.map_some, Option.map_none, List.any_cons, List.any_nil, Bool.or_false, Bool.and_true, Bool.and_false, Bool.or_true, e_var, e_int, e_bl, e_non, e_str, e_gcon, e_bin, e_neg, e_cmp, e_chain, e_and, e_or, e_not, e_ite, e_call, e_blt, e_isi, e_idx, e_sl, e_lst, e_tup, es_nil, es_cons, ec_nil, ec_one, eo_nil, eo_one,     Res.bind_ok, Res.bind_exc, Res.nx_ok, bool_b, okB, opt_i, callV_ok, callV_exc, bltV, len_l, len_t, sum_i, all_b, any_b, abs_i, lst_l, int_b, int_i, idx_l, idx_t, sl_l, sl_s, nwD_ints, nwD_true, nwD_nil, lst0, tup0, lst1, tup1, lst2, tup2, lst3, tup3, lst4, tup4, lst5, tup5, lst6, tup6, lst7, tup7, lst8, tup8, lst12, tup12, lst16, tup16, kUni, List.filter_nil, List.filter_cons, Nat.add_zero, neg_i, bin_ii, bin_cat, List.getElem?_cons_zero, List.getElem?_cons_succ, List.map_cons, List.map_nil, List.all_cons, List.all_nil, List.any_cons, List.any_nil, List.set_cons_zero, List.set_cons_succ,     nwOf, D.flat, ints_ok, bls_ok, if_true, if_false, Bool.false_eq_true, Bool.not_true, Bool.not_false, Bool.and_true, Bool.true_and, Bool.or_true, Bool.true_or, Bool.or_false, Bool.false_or, Bool.and_self, Bool.or_self, Bool.and_false, Bool.false_and, gl_most, r_checkFam hp, hf])]
  rw [x_nx (e2 := [some (dFam n ss, 0, false), some (D.lst [], 1, true), some (dI (List.replicate ss.length 0), 1, true), none, none, none, none, none]) (by simp only [runD, List.length_cons, List.length_nil, List.replicate, List.map_cons, List.map_nil, execSs, execS, setT, keep_true, shut_int, shut_bl, shut_non, shut_str, shut_lst, shut_tup, shut_lst0, shut_tup0, shutL_ints, shutL_dI, shutL_nil, shutL_cons, CE.vars, CEs.vars, List.nil_append, List.cons_append, List.append_nil, keep_f, own0, own0n, ownSs, demF, List.contains_cons, List.contains_nil, Nat.reduceBEq, Nat.reduceBNe, bne_self_eq_false, Nat.reduceAdd, beq_self_eq_true, Option.map_some, Option.map_none, List.any_cons, List.any_nil, Bool.or_false, Bool.and_true, Bool.and_false, Bool.or_true, e_var, e_int, e_bl, e_non, e_str, e_gcon, e_neg, e_cmp, e_chain, e_and, e_or, e_not, e_ite, e_call, e_blt, e_isi, e_idx, e_sl, e_lst, e_tup, es_nil, es_cons, ec_nil, ec_one, eo_nil, eo_one,     Res.bind_ok, Res.bind_exc, Res.nx_ok, bool_b, okB, opt_i, callV_ok, callV_exc, bltV, len_l, len_t, sum_i, all_b, any_b, abs_i, lst_l, int_b, int_i, idx_l, idx_t, sl_l, sl_s, nwD_ints, nwD_true, nwD_nil, lst0, tup0, lst1, tup1, lst2, tup2, lst3, tup3, lst4, tup4, lst5, tup5, lst6, tup6, lst7, tup7, lst8, tup8, lst12, tup12, lst16, tup16, kUni, List.filter_nil, List.filter_cons, Nat.add_zero, neg_i, bin_ii, bin_cat, List.getElem?_cons_zero, List.getElem?_cons_succ, List.map_cons, List.map_nil, List.all_cons, List.all_nil, List.any_cons, List.any_nil, List.set_cons_zero, List.set_cons_succ,     nwOf, D.flat, ints_ok, bls_ok, if_true, if_false, Bool.false_eq_true, Bool.not_true, Bool.not_false, Bool.and_true, Bool.true_and, Bool.or_true, Bool.true_or, Bool.or_false, Bool.false_or, Bool.and_self, Bool.or_self, Bool.and_false, Bool.false_and, zer_ok hr, setM, List.zip_cons_cons, List.zip_nil_right, Nat.reduceSub])]
  obtain ⟨e', g1, o3, o4, o5, o6, o7, g2⟩ := forL_inv (body := execSs (runP glT fu p (k + 3)) glT fu l_fair_1) (t := .one 3) (fun i : Int => ((.int i, 0, true) : Val))
    (fun m env => ∃ o3 o4 o5 o6 o7 : Option Val, env = [some (dFam n ss, 0, false), some (dI (fairL ss m), 1, true), some (dI (ss.map fun s => pSum (fairL ss m) s m), 1, true), o3, o4, o5, o6, o7]) (upTo n) 0
    [some (dFam n ss, 0, false), some (D.lst [], 1, true), some (dI (List.replicate ss.length 0), 1, true), none, none, none, none, none] ⟨none, none, none, none, none, by rw [zeros_p]; rfl⟩ (fun j x e hj hI => by
      rw [Nat.zero_add] at hI ⊢
      obtain ⟨o3, o4, o5, o6, o7, rfl⟩ := hI
      obtain ⟨rfl, hx⟩ := upTo_get hj
      obtain ⟨o4', o5', o6', o7', g⟩ := fair_step (fu := fu) (k := k + 3) hp hpl hr (show j ≤ 1000 by omega) (o4 := o4) (o5 := o5) (o6 := o6) (o7 := o7)
      exact ⟨_, rfl, _, g, _, _, _, _, _, rfl⟩)
  subst g2
  rw [Nat.zero_add, upTo_len] at g1
  rw [x_nx (by simp only [runD, List.length_cons, List.length_nil, List.replicate, List.map_cons, List.map_nil, execSs, execS, setT, keep_true, shut_int, shut_bl, shut_non, shut_str, shut_lst, shut_tup, shut_lst0, shut_tup0, shutL_ints, shutL_dI, shutL_nil, shutL_cons, CE.vars, CEs.vars, List.nil_append, List.cons_append, List.append_nil, keep_f, own0, own0n, ownSs, demF, List.contains_cons, List.contains_nil, Nat.reduceBEq, Nat.reduceBNe, bne_self_eq_false, Nat.reduceAdd, beq_self_eq_true, Option.map_some, Option.map_none, List.any_cons, List.any_nil, Bool.or_false, Bool.and_true, Bool.and_false, Bool.or_true, e_var, e_int, e_bl, e_non, e_str, e_gcon, e_bin, e_neg, e_cmp, e_chain, e_and, e_or, e_not, e_ite, e_call, e_blt, e_isi, e_idx, e_sl, e_lst, e_tup, es_nil, es_cons, ec_nil, ec_one, eo_nil, eo_one,     Res.bind_ok, Res.bind_exc, Res.nx_ok, bool_b, okB, opt_i, callV_ok, callV_exc, bltV, len_l, len_t, sum_i, all_b, any_b, abs_i, lst_l, int_b, int_i, idx_l, idx_t, sl_l, sl_s, nwD_ints, nwD_true, nwD_nil, lst0, tup0, lst1, tup1, lst2, tup2, lst3, tup3, lst4, tup4, lst5, tup5, lst6, tup6, lst7, tup7, lst8, tup8, lst12, tup12, lst16, tup16, kUni, List.filter_nil, List.filter_cons, Nat.add_zero, neg_i, bin_ii, bin_cat, List.getElem?_cons_zero, List.getElem?_cons_succ, List.map_cons, List.map_nil, List.all_cons, List.all_nil, List.any_cons, List.any_nil, List.set_cons_zero, List.set_cons_succ,     nwOf, D.flat, ints_ok, bls_ok, if_true, if_false, Bool.false_eq_true, Bool.not_true, Bool.not_false, Bool.and_true, Bool.true_and, Bool.or_true, Bool.true_or, Bool.or_false, Bool.false_or, Bool.and_self, Bool.or_self, Bool.and_false, Bool.false_and, atD0, itV_range (n := n) (by omega) (by omega), ownS, g1]; rfl)]
  rw [x_rt (by simp only [runD, List.length_cons, List.length_nil, List.replicate, List.map_cons, List.map_nil, execSs, execS, setT, keep_true, shut_int, shut_bl, shut_non, shut_str, shut_lst, shut_tup, shut_lst0, shut_tup0, shutL_ints, shutL_dI, shutL_nil, shutL_cons, CE.vars, CEs.vars, List.nil_append, List.cons_append, List.append_nil, keep_f, own0, own0n, ownSs, demF, List.contains_cons, List.contains_nil, Nat.reduceBEq, Nat.reduceBNe, bne_self_eq_false, Nat.reduceAdd, beq_self_eq_true, Option.map_some, Option.map_none, List.any_cons, List.any_nil, Bool.or_false, Bool.and_true, Bool.and_false, Bool.or_true, e_var, e_int, e_bl, e_non, e_str, e_gcon, e_bin, e_neg, e_cmp, e_chain, e_and, e_or, e_not, e_ite, e_call, e_blt, e_isi, e_idx, e_sl, e_lst, e_tup, es_nil, es_cons, ec_nil, ec_one, eo_nil, eo_one,     Res.bind_ok, Res.bind_exc, Res.nx_ok, bool_b, okB, opt_i, callV_ok, callV_exc, bltV, len_l, len_t, sum_i, all_b, any_b, abs_i, lst_l, int_b, int_i, idx_l, idx_t, sl_l, sl_s, nwD_ints, nwD_true, nwD_nil, lst0, tup0, lst1, tup1, lst2, tup2, lst3, tup3, lst4, tup4, lst5, tup5, lst6, tup6, lst7, tup7, lst8, tup8, lst12, tup12, lst16, tup16, kUni, List.filter_nil, List.filter_cons, Nat.add_zero, neg_i, bin_ii, bin_cat, List.getElem?_cons_zero, List.getElem?_cons_succ, List.map_cons, List.map_nil, List.all_cons, List.all_nil, List.any_cons, List.any_nil, List.set_cons_zero, List.set_cons_succ,     nwOf, D.flat, ints_ok, bls_ok, if_true, if_false, Bool.false_eq_true, Bool.not_true, Bool.not_false, Bool.and_true, Bool.true_and, Bool.or_true, Bool.true_or, Bool.or_false, Bool.false_or, Bool.and_self, Bool.or_self, Bool.and_false, Bool.false_and, getV]; rfl)]
end
end TT

set_option Elab.async false
set_option linter.all false
set_option autoImplicit false
set_option maxRecDepth 100000
set_option maxHeartbeats 2000000
/-! UI: the law's fair colours; fair totals. -/
namespace TT
open PySem L2
section
variable {fu : Nat} {p : Prg}
theorem forL_nx {body : Env → Res Fl} {t : Tg} {v : Val} {vs : List Val} {env e1 e2 : Env} (h1 : setT env t v = .ok e1) (h2 : body e1 = .ok (.nx e2)) : forL body t (v :: vs) env = forL body t vs e2 := by
  rw [forL, h1]
  simp only [Res.bind_ok, h2]
theorem itV_tup2 {a b : D} {k : Nat} {nw : Bool} : itemsOf .seq [(.tup [a, b], k, nw)] = .ok [(a, 0, nw), (b, 0, nw)] := rfl
theorem fold_if {α : Type} (P : α → Bool) (F : α → Int) : ∀ (l : List α) (a : Int), l.foldl (fun a s => if P s then a + F s else a) a = a + ((l.filter P).map F).sum
  | [], a => by simp
  | x :: l, a => by
    rw [List.foldl_cons, List.filter_cons]
    cases h : P x with
    | true =>
      simp only [if_true, List.map_cons, List.sum_cons]
      rw [fold_if P F l]
      omega
    | false =>
      simp only [Bool.false_eq_true, if_false]
      rw [fold_if P F l]
theorem sum_filter_if (q : Int) (f : Int → Int) : ∀ (s : List Int), ((s.filter fun i => decide (i ≤ q)).map f).sum = (s.map fun i => if i < q + 1 then f i else 0).sum
  | [] => rfl
  | i :: s => by
    have ih := sum_filter_if q f s
    rw [List.filter_cons, List.map_cons, List.sum_cons, ← ih]
    by_cases h : i ≤ q
    · rw [if_pos (by simp [h]), if_pos (by omega), List.map_cons, List.sum_cons]
    · rw [if_neg (by simp [h]), if_neg (by omega)]; omega
theorem pSum_abs {n q : Int} {s cs : List Int} (hs : okPl n s = true) (hc : ∀ c ∈ cs, -1 ≤ c ∧ c ≤ 1) (hq : q ≤ cs.length) : -n ≤ pSum cs s q ∧ pSum cs s q ≤ n := by
  have hk := okPl_iff.mp hs
  have hlen := okPl_len hs
  unfold pSum
  have := sum_abs (l := s.map fun i => if i < q then atR cs i else 0) fun y hy => by
    obtain ⟨i, hi, rfl⟩ := List.mem_map.mp hy
    split
    · exact hc _ (atR_mem (hk.2.1 i hi).1 (by omega))
    · omega
  rw [List.length_map] at this
  omega
theorem cat_one {cs : List Int} {c : Int} : List.map D.int cs ++ [D.int c] = List.map D.int (cs ++ [c]) := by simp
/-- one colour tried -/
theorem lfair_try (hh : Ext pHlp p) {k : Nat} {n : Int} {ss : List (List Int)} {cs tot : List Int} {c : Int} (hpl : ∀ s ∈ ss, okPl n s = true) (hn : n ≤ 1000) (hc : ∀ c ∈ cs, c = 1 ∨ c = -1) (hc1 : c = 1 ∨ c = -1) (ht : tot.length ≤ 10) (hl : cs.length ≤ 1000) {o5 o6 o7 o8 o9 : Option Val} :
    ∃ o5' o6' o7' o8' o9', execSs (runP glT fu p k) glT fu l_law_fair_2 [some (dFam n ss, 0, false), some (dI cs, 1, true), some (.int cs.length, 0, true), some (dI tot, 1, true), some (.int c, 0, true), o5, o6, o7, o8, o9] =
      .ok (.nx [some (dFam n ss, 0, false), some (dI cs, 1, true), some (.int cs.length, 0, true), some (dI (tot ++ [((ss.filter fun s => decide ((cs.length : Int) ∈ s)).map fun s => pSum (cs ++ [c]) s ((cs.length : Int) + 1) * pSum (cs ++ [c]) s ((cs.length : Int) + 1)).sum]), 1, true), some (.int c, 0, true), o5', o6', o7', o8', o9']) := by
  have hb : ∀ x ∈ cs ++ [c], -1 ≤ x ∧ x ≤ 1 := by
    intro x hx
    rcases List.mem_append.mp hx with h | h
    · rcases hc x h with h | h <;> omega
    · rw [List.mem_singleton.mp h]
      rcases hc1 with h | h <;> omega
  have hL : cs.length + 1 ≤ LIM := by unfold LIM; omega
  unfold l_law_fair_2
  rw [x_nx (e2 := [some (dFam n ss, 0, false), some (dI cs, 1, true), some (.int cs.length, 0, true), some (dI tot, 1, true), some (.int c, 0, true), some (dI (cs ++ [c]), 1, true), some (.int 0, 1, true), o7, o8, o9]) (by
    simp only [runD, List.length_cons, List.length_nil, List.replicate, List.map_cons, List.map_nil, execSs, execS, setT, keep_true, shut_int, shut_bl, shut_non, shut_str, shut_lst, shut_tup, shut_lst0, shut_tup0, shutL_ints, shutL_dI, shutL_nil, shutL_cons, CE.vars, CEs.vars, List.nil_append, List.cons_append, List.append_nil, keep_f, own0, own0n, ownSs, demF, List.contains_cons, List.contains_nil, Nat.reduceBEq, Nat.reduceBNe, bne_self_eq_false, Nat.reduceAdd, beq_self_eq_true, Option.map_some, Option.map_none, List.any_cons, List.any_nil, Bool.or_false, Bool.and_true, Bool.and_false, Bool.or_true, e_var, e_int, e_bl, e_non, e_str, e_gcon, e_bin, e_neg, e_cmp, e_chain, e_and, e_or, e_not, e_ite, e_call, e_blt, e_isi, e_idx, e_sl, e_lst, e_tup, es_nil, es_cons, ec_nil, ec_one, eo_nil, eo_one,     Res.bind_ok, Res.bind_exc, Res.nx_ok, bool_b, okB, opt_i, callV_ok, callV_exc, bltV, len_l, len_t, sum_i, all_b, any_b, abs_i, lst_l, int_b, int_i, idx_l, idx_t, sl_l, sl_s, nwD_ints, nwD_true, nwD_nil, lst0, tup0, lst1, tup1, lst2, tup2, lst3, tup3, lst4, tup4, lst5, tup5, lst6, tup6, lst7, tup7, lst8, tup8, lst12, tup12, lst16, tup16, kUni, List.filter_nil, List.filter_cons, Nat.add_zero, neg_i, bin_ii, bin_cat, List.getElem?_cons_zero, List.getElem?_cons_succ, List.map_cons, List.map_nil, List.all_cons, List.all_nil, List.any_cons, List.any_nil, List.set_cons_zero, List.set_cons_succ,     nwOf, D.flat, ints_ok, bls_ok, if_true, if_false, Bool.false_eq_true, Bool.not_true, Bool.not_false, Bool.and_true, Bool.true_and, Bool.or_true, Bool.true_or, Bool.or_false, Bool.false_or, Bool.and_self, Bool.or_self, Bool.and_false, Bool.false_and, setM, List.zip_cons_cons, List.zip_nil_right, Nat.reduceSub, cat_one, List.length_map, if_pos hL])]
  obtain ⟨e', g1, o7', o8', kk, g2⟩ := forL_fold (body := execSs (runP glT fu p k) glT fu l_law_fair_3) (t := .one 7) (fun s : List Int => ((dI s, 0, false) : Val)) (fun (a : Int) s => if decide ((cs.length : Int) ∈ s) = true then a + pSum (cs ++ [c]) s ((cs.length : Int) + 1) * pSum (cs ++ [c]) s ((cs.length : Int) + 1) else a)
    (fun a e => ∃ (o7 o8 : Option Val) (kk : Nat), e = [some (dFam n ss, 0, false), some (dI cs, 1, true), some (.int cs.length, 0, true), some (dI tot, 1, true), some (.int c, 0, true), some (dI (cs ++ [c]), 1, true), some (.int a, kk, true), o7, o8, o9]) ss 0 _ ⟨o7, o8, 1, rfl⟩ (fun a s e hs hE => by
      obtain ⟨o7, o8, kk, rfl⟩ := hE
      refine ⟨_, rfl, ?_⟩
      by_cases hm : (cs.length : Int) ∈ s
      · refine ⟨[some (dFam n ss, 0, false), some (dI cs, 1, true), some (.int cs.length, 0, true), some (dI tot, 1, true), some (.int c, 0, true), some (dI (cs ++ [c]), 1, true), some (.int (a + pSum (cs ++ [c]) s ((cs.length : Int) + 1) * pSum (cs ++ [c]) s ((cs.length : Int) + 1)), 0, true), some (dI s, 0, false), some (.int (pSum (cs ++ [c]) s ((cs.length : Int) + 1)), 0, true), o9], ?_, ?_⟩
        rotate_left
        · rw [if_pos (by simp [hm])]
          exact ⟨_, _, 0, rfl⟩
        have hk := okPl_iff.mp (hpl s hs)
        have hP := small100 (pSum_abs (hpl s hs) hb (q := (cs.length : Int) + 1) (by simp)) hn
        unfold l_law_fair_3
        simp only [runD, List.length_cons, List.length_nil, List.replicate, List.map_cons, List.map_nil, execSs, execS, setT, keep_true, shut_int, shut_bl, shut_non, shut_str, shut_lst, shut_tup, shut_lst0, shut_tup0, shutL_ints, shutL_dI, shutL_nil, shutL_cons, CE.vars, CEs.vars, List.nil_append, List.cons_append, List.append_nil, keep_f, own0, own0n, ownSs, demF, List.contains_cons, List.contains_nil, Nat.reduceBEq, Nat.reduceBNe, bne_self_eq_false, Nat.reduceAdd, beq_self_eq_true, Option.map_some, Option.map_none, List.any_cons, List.any_nil, Bool.or_false, Bool.and_true, Bool.and_false, Bool.or_true, e_var, e_int, e_bl, e_non, e_str, e_gcon, e_bin, e_neg, e_cmp, e_chain, e_and, e_or, e_not, e_ite, e_call, e_blt, e_isi, e_idx, e_sl, e_lst, e_tup, es_nil, es_cons, ec_nil, ec_one, eo_nil, eo_one,     Res.bind_ok, Res.bind_exc, Res.nx_ok, bool_b, okB, opt_i, callV_ok, callV_exc, bltV, len_l, len_t, sum_i, all_b, any_b, abs_i, lst_l, int_b, int_i, idx_l, idx_t, sl_l, sl_s, nwD_ints, nwD_true, nwD_nil, lst0, tup0, lst1, tup1, lst2, tup2, lst3, tup3, lst4, tup4, lst5, tup5, lst6, tup6, lst7, tup7, lst8, tup8, lst12, tup12, lst16, tup16, kUni, List.filter_nil, List.filter_cons, Nat.add_zero, neg_i, bin_ii, bin_cat, List.getElem?_cons_zero, List.getElem?_cons_succ, List.map_cons, List.map_nil, List.all_cons, List.all_nil, List.any_cons, List.any_nil, List.set_cons_zero, List.set_cons_succ,     nwOf, D.flat, ints_ok, bls_ok, if_true, if_false, Bool.false_eq_true, Bool.not_true, Bool.not_false, Bool.and_true, Bool.true_and, Bool.or_true, Bool.true_or, Bool.or_false, Bool.false_or, Bool.and_self, Bool.or_self, Bool.and_false, Bool.false_and, cmp_in, hm, decide_true]
        rw [e_compIf s (fun i => (.int i, 0, false)) (atR (cs ++ [c])) (fun i => decide (i ≤ (cs.length : Int))) (it_ints (kk := 0) (by simp only [e_var, e_int, e_bl, e_non, e_str, e_gcon, e_bin, e_neg, e_cmp, e_chain, e_and, e_or, e_not, e_ite, e_call, e_blt, e_isi, e_idx, e_sl, e_lst, e_tup, es_nil, es_cons, ec_nil, ec_one, eo_nil, eo_one,     Res.bind_ok, Res.bind_exc, Res.nx_ok, bool_b, okB, opt_i, callV_ok, callV_exc, bltV, len_l, len_t, sum_i, all_b, any_b, abs_i, lst_l, int_b, int_i, idx_l, idx_t, sl_l, sl_s, nwD_ints, nwD_true, nwD_nil, lst0, tup0, lst1, tup1, lst2, tup2, lst3, tup3, lst4, tup4, lst5, tup5, lst6, tup6, lst7, tup7, lst8, tup8, lst12, tup12, lst16, tup16, kUni, List.filter_nil, List.filter_cons, Nat.add_zero, neg_i, bin_ii, bin_cat, List.getElem?_cons_zero, List.getElem?_cons_succ, List.map_cons, List.map_nil, List.all_cons, List.all_nil, List.any_cons, List.any_nil, List.set_cons_zero, List.set_cons_succ,     nwOf, D.flat, ints_ok, bls_ok, if_true, if_false, Bool.false_eq_true, Bool.not_true, Bool.not_false, Bool.and_true, Bool.true_and, Bool.or_true, Bool.true_or, Bool.or_false, Bool.false_or, Bool.and_self, Bool.or_self, Bool.and_false, Bool.false_and])) rfl fun i hi => ?_]
        · simp only [runD, List.length_cons, List.length_nil, List.replicate, List.map_cons, List.map_nil, execSs, execS, setT, keep_true, shut_int, shut_bl, shut_non, shut_str, shut_lst, shut_tup, shut_lst0, shut_tup0, shutL_ints, shutL_dI, shutL_nil, shutL_cons, CE.vars, CEs.vars, List.nil_append, List.cons_append, List.append_nil, keep_f, own0, own0n, ownSs, demF, List.contains_cons, List.contains_nil, Nat.reduceBEq, Nat.reduceBNe, bne_self_eq_false, Nat.reduceAdd, beq_self_eq_true, Option.map_some, Option.map_none, List.any_cons, List.any_nil, Bool.or_false, Bool.and_true, Bool.and_false, Bool.or_true, e_var, e_int, e_bl, e_non, e_str, e_gcon, e_bin, e_neg, e_cmp, e_chain, e_and, e_or, e_not, e_ite, e_call, e_blt, e_isi, e_idx, e_sl, e_lst, e_tup, es_nil, es_cons, ec_nil, ec_one, eo_nil, eo_one,     Res.bind_ok, Res.bind_exc, Res.nx_ok, bool_b, okB, opt_i, callV_ok, callV_exc, bltV, len_l, len_t, sum_i, all_b, any_b, abs_i, lst_l, int_b, int_i, idx_l, idx_t, sl_l, sl_s, nwD_ints, nwD_true, nwD_nil, lst0, tup0, lst1, tup1, lst2, tup2, lst3, tup3, lst4, tup4, lst5, tup5, lst6, tup6, lst7, tup7, lst8, tup8, lst12, tup12, lst16, tup16, kUni, List.filter_nil, List.filter_cons, Nat.add_zero, neg_i, bin_ii, bin_cat, List.getElem?_cons_zero, List.getElem?_cons_succ, List.map_cons, List.map_nil, List.all_cons, List.all_nil, List.any_cons, List.any_nil, List.set_cons_zero, List.set_cons_succ,     nwOf, D.flat, ints_ok, bls_ok, if_true, if_false, Bool.false_eq_true, Bool.not_true, Bool.not_false, Bool.and_true, Bool.true_and, Bool.or_true, Bool.true_or, Bool.or_false, Bool.false_or, Bool.and_self, Bool.or_self, Bool.and_false, Bool.false_and, sum_filter_if]
          rw [show (s.map fun i => if i < (cs.length : Int) + 1 then atR (cs ++ [c]) i else 0).sum = pSum (cs ++ [c]) s ((cs.length : Int) + 1) from rfl]
          simp only [runD, List.length_cons, List.length_nil, List.replicate, List.map_cons, List.map_nil, execSs, execS, setT, keep_true, shut_int, shut_bl, shut_non, shut_str, shut_lst, shut_tup, shut_lst0, shut_tup0, shutL_ints, shutL_dI, shutL_nil, shutL_cons, CE.vars, CEs.vars, List.nil_append, List.cons_append, List.append_nil, keep_f, own0, own0n, ownSs, demF, List.contains_cons, List.contains_nil, Nat.reduceBEq, Nat.reduceBNe, bne_self_eq_false, Nat.reduceAdd, beq_self_eq_true, Option.map_some, Option.map_none, List.any_cons, List.any_nil, Bool.or_false, Bool.and_true, Bool.and_false, Bool.or_true, e_var, e_int, e_bl, e_non, e_str, e_gcon, e_bin, e_neg, e_cmp, e_chain, e_and, e_or, e_not, e_ite, e_call, e_blt, e_isi, e_idx, e_sl, e_lst, e_tup, es_nil, es_cons, ec_nil, ec_one, eo_nil, eo_one,     Res.bind_ok, Res.bind_exc, Res.nx_ok, bool_b, okB, opt_i, callV_ok, callV_exc, bltV, len_l, len_t, sum_i, all_b, any_b, abs_i, lst_l, int_b, int_i, idx_l, idx_t, sl_l, sl_s, nwD_ints, nwD_true, nwD_nil, lst0, tup0, lst1, tup1, lst2, tup2, lst3, tup3, lst4, tup4, lst5, tup5, lst6, tup6, lst7, tup7, lst8, tup8, lst12, tup12, lst16, tup16, kUni, List.filter_nil, List.filter_cons, Nat.add_zero, neg_i, bin_ii, bin_cat, List.getElem?_cons_zero, List.getElem?_cons_succ, List.map_cons, List.map_nil, List.all_cons, List.all_nil, List.any_cons, List.any_nil, List.set_cons_zero, List.set_cons_succ,     nwOf, D.flat, ints_ok, bls_ok, if_true, if_false, Bool.false_eq_true, Bool.not_true, Bool.not_false, Bool.and_true, Bool.true_and, Bool.or_true, Bool.true_or, Bool.or_false, Bool.false_or, Bool.and_self, Bool.or_self, Bool.and_false, Bool.false_and, mul_ok hP hP (by decide), add_ok]
        · obtain ⟨i1, i2⟩ := hk.2.1 i hi
          refine ⟨_, 0, true, rfl, ?_, ?_⟩
          · simp only [e_var, e_int, e_bl, e_non, e_str, e_gcon, e_bin, e_neg, e_cmp, e_chain, e_and, e_or, e_not, e_ite, e_call, e_blt, e_isi, e_idx, e_sl, e_lst, e_tup, es_nil, es_cons, ec_nil, ec_one, eo_nil, eo_one,     Res.bind_ok, Res.bind_exc, Res.nx_ok, bool_b, okB, opt_i, callV_ok, callV_exc, bltV, len_l, len_t, sum_i, all_b, any_b, abs_i, lst_l, int_b, int_i, idx_l, idx_t, sl_l, sl_s, nwD_ints, nwD_true, nwD_nil, lst0, tup0, lst1, tup1, lst2, tup2, lst3, tup3, lst4, tup4, lst5, tup5, lst6, tup6, lst7, tup7, lst8, tup8, lst12, tup12, lst16, tup16, kUni, List.filter_nil, List.filter_cons, Nat.add_zero, neg_i, bin_ii, bin_cat, List.getElem?_cons_zero, List.getElem?_cons_succ, List.map_cons, List.map_nil, List.all_cons, List.all_nil, List.any_cons, List.any_nil, List.set_cons_zero, List.set_cons_succ,     nwOf, D.flat, ints_ok, bls_ok, if_true, if_false, Bool.false_eq_true, Bool.not_true, Bool.not_false, Bool.and_true, Bool.true_and, Bool.or_true, Bool.true_or, Bool.or_false, Bool.false_or, Bool.and_self, Bool.or_self, Bool.and_false, Bool.false_and, cmp_le]
          · intro hb2
            have hb3 : i ≤ (cs.length : Int) := by simpa using hb2
            simp only [e_var, e_int, e_bl, e_non, e_str, e_gcon, e_bin, e_neg, e_cmp, e_chain, e_and, e_or, e_not, e_ite, e_call, e_blt, e_isi, e_idx, e_sl, e_lst, e_tup, es_nil, es_cons, ec_nil, ec_one, eo_nil, eo_one,     Res.bind_ok, Res.bind_exc, Res.nx_ok, bool_b, okB, opt_i, callV_ok, callV_exc, bltV, len_l, len_t, sum_i, all_b, any_b, abs_i, lst_l, int_b, int_i, idx_l, idx_t, sl_l, sl_s, nwD_ints, nwD_true, nwD_nil, lst0, tup0, lst1, tup1, lst2, tup2, lst3, tup3, lst4, tup4, lst5, tup5, lst6, tup6, lst7, tup7, lst8, tup8, lst12, tup12, lst16, tup16, kUni, List.filter_nil, List.filter_cons, Nat.add_zero, neg_i, bin_ii, bin_cat, List.getElem?_cons_zero, List.getElem?_cons_succ, List.map_cons, List.map_nil, List.all_cons, List.all_nil, List.any_cons, List.any_nil, List.set_cons_zero, List.set_cons_succ,     nwOf, D.flat, ints_ok, bls_ok, if_true, if_false, Bool.false_eq_true, Bool.not_true, Bool.not_false, Bool.and_true, Bool.true_and, Bool.or_true, Bool.true_or, Bool.or_false, Bool.false_or, Bool.and_self, Bool.or_self, Bool.and_false, Bool.false_and, atD_int i1 (show i < ((cs ++ [c]).length : Int) by simp; omega)]
      · refine ⟨_, ?_, some (dI s, 0, false), o8, kk, rfl⟩
        rw [if_neg (by simp [hm])]
        unfold l_law_fair_3
        simp only [runD, List.length_cons, List.length_nil, List.replicate, List.map_cons, List.map_nil, execSs, execS, setT, keep_true, shut_int, shut_bl, shut_non, shut_str, shut_lst, shut_tup, shut_lst0, shut_tup0, shutL_ints, shutL_dI, shutL_nil, shutL_cons, CE.vars, CEs.vars, List.nil_append, List.cons_append, List.append_nil, keep_f, own0, own0n, ownSs, demF, List.contains_cons, List.contains_nil, Nat.reduceBEq, Nat.reduceBNe, bne_self_eq_false, Nat.reduceAdd, beq_self_eq_true, Option.map_some, Option.map_none, List.any_cons, List.any_nil, Bool.or_false, Bool.and_true, Bool.and_false, Bool.or_true, e_var, e_int, e_bl, e_non, e_str, e_gcon, e_bin, e_neg, e_cmp, e_chain, e_and, e_or, e_not, e_ite, e_call, e_blt, e_isi, e_idx, e_sl, e_lst, e_tup, es_nil, es_cons, ec_nil, ec_one, eo_nil, eo_one,     Res.bind_ok, Res.bind_exc, Res.nx_ok, bool_b, okB, opt_i, callV_ok, callV_exc, bltV, len_l, len_t, sum_i, all_b, any_b, abs_i, lst_l, int_b, int_i, idx_l, idx_t, sl_l, sl_s, nwD_ints, nwD_true, nwD_nil, lst0, tup0, lst1, tup1, lst2, tup2, lst3, tup3, lst4, tup4, lst5, tup5, lst6, tup6, lst7, tup7, lst8, tup8, lst12, tup12, lst16, tup16, kUni, List.filter_nil, List.filter_cons, Nat.add_zero, neg_i, bin_ii, bin_cat, List.getElem?_cons_zero, List.getElem?_cons_succ, List.map_cons, List.map_nil, List.all_cons, List.all_nil, List.any_cons, List.any_nil, List.set_cons_zero, List.set_cons_succ,     nwOf, D.flat, ints_ok, bls_ok, if_true, if_false, Bool.false_eq_true, Bool.not_true, Bool.not_false, Bool.and_true, Bool.true_and, Bool.or_true, Bool.true_or, Bool.or_false, Bool.false_or, Bool.and_self, Bool.or_self, Bool.and_false, Bool.false_and, cmp_in, hm, decide_false])
  subst g2
  rw [fold_if, Int.zero_add] at g1
  rw [x_nx (by simp only [runD, List.length_cons, List.length_nil, List.replicate, List.map_cons, List.map_nil, execSs, execS, setT, keep_true, shut_int, shut_bl, shut_non, shut_str, shut_lst, shut_tup, shut_lst0, shut_tup0, shutL_ints, shutL_dI, shutL_nil, shutL_cons, CE.vars, CEs.vars, List.nil_append, List.cons_append, List.append_nil, keep_f, own0, own0n, ownSs, demF, List.contains_cons, List.contains_nil, Nat.reduceBEq, Nat.reduceBNe, bne_self_eq_false, Nat.reduceAdd, beq_self_eq_true, Option.map_some, Option.map_none, List.any_cons, List.any_nil, Bool.or_false, Bool.and_true, Bool.and_false, Bool.or_true, e_var, e_int, e_bl, e_non, e_str, e_gcon, e_bin, e_neg, e_cmp, e_chain, e_and, e_or, e_not, e_ite, e_call, e_blt, e_isi, e_idx, e_sl, e_lst, e_tup, es_nil, es_cons, ec_nil, ec_one, eo_nil, eo_one,     Res.bind_ok, Res.bind_exc, Res.nx_ok, bool_b, okB, opt_i, callV_ok, callV_exc, bltV, len_l, len_t, sum_i, all_b, any_b, abs_i, lst_l, int_b, int_i, idx_l, idx_t, sl_l, sl_s, nwD_ints, nwD_true, nwD_nil, lst0, tup0, lst1, tup1, lst2, tup2, lst3, tup3, lst4, tup4, lst5, tup5, lst6, tup6, lst7, tup7, lst8, tup8, lst12, tup12, lst16, tup16, kUni, List.filter_nil, List.filter_cons, Nat.add_zero, neg_i, bin_ii, bin_cat, List.getElem?_cons_zero, List.getElem?_cons_succ, List.map_cons, List.map_nil, List.all_cons, List.all_nil, List.any_cons, List.any_nil, List.set_cons_zero, List.set_cons_succ,     nwOf, D.flat, ints_ok, bls_ok, if_true, if_false, Bool.false_eq_true, Bool.not_true, Bool.not_false, Bool.and_true, Bool.true_and, Bool.or_true, Bool.true_or, Bool.or_false, Bool.false_or, Bool.and_self, Bool.or_self, Bool.and_false, Bool.false_and, atD1, itV_lists, ownS, g1]; rfl)]
  rw [x_nx (by simp only [runD, List.length_cons, List.length_nil, List.replicate, List.map_cons, List.map_nil, execSs, execS, setT, keep_true, shut_int, shut_bl, shut_non, shut_str, shut_lst, shut_tup, shut_lst0, shut_tup0, shutL_ints, shutL_dI, shutL_nil, shutL_cons, CE.vars, CEs.vars, List.nil_append, List.cons_append, List.append_nil, keep_f, own0, own0n, ownSs, demF, List.contains_cons, List.contains_nil, Nat.reduceBEq, Nat.reduceBNe, bne_self_eq_false, Nat.reduceAdd, beq_self_eq_true, Option.map_some, Option.map_none, List.any_cons, List.any_nil, Bool.or_false, Bool.and_true, Bool.and_false, Bool.or_true, e_var, e_int, e_bl, e_non, e_str, e_gcon, e_bin, e_neg, e_cmp, e_chain, e_and, e_or, e_not, e_ite, e_call, e_blt, e_isi, e_idx, e_sl, e_lst, e_tup, es_nil, es_cons, ec_nil, ec_one, eo_nil, eo_one,     Res.bind_ok, Res.bind_exc, Res.nx_ok, bool_b, okB, opt_i, callV_ok, callV_exc, bltV, len_l, len_t, sum_i, all_b, any_b, abs_i, lst_l, int_b, int_i, idx_l, idx_t, sl_l, sl_s, nwD_ints, nwD_true, nwD_nil, lst0, tup0, lst1, tup1, lst2, tup2, lst3, tup3, lst4, tup4, lst5, tup5, lst6, tup6, lst7, tup7, lst8, tup8, lst12, tup12, lst16, tup16, kUni, List.filter_nil, List.filter_cons, Nat.add_zero, neg_i, bin_ii, bin_cat, List.getElem?_cons_zero, List.getElem?_cons_succ, List.map_cons, List.map_nil, List.all_cons, List.all_nil, List.any_cons, List.any_nil, List.set_cons_zero, List.set_cons_succ,     nwOf, D.flat, ints_ok, bls_ok, if_true, if_false, Bool.false_eq_true, Bool.not_true, Bool.not_false, Bool.and_true, Bool.true_and, Bool.or_true, Bool.true_or, Bool.or_false, Bool.false_or, Bool.and_self, Bool.or_self, Bool.and_false, Bool.false_and, pathX]; rw [app_ints (cs := tot) (nw := true) (by omega)]; rfl), x_nil]
  exact ⟨_, _, _, _, _, rfl⟩
theorem sq_diff (P : List Int → Int) : ∀ (l : List (List Int)), (l.map fun s => (P s + 1) * (P s + 1)).sum = (l.map fun s => (P s + -1) * (P s + -1)).sum + 4 * (l.map P).sum
  | [] => by simp
  | s :: l => by
    have ih := sq_diff P l
    simp only [List.map_cons, List.sum_cons]
    have : (P s + 1) * (P s + 1) = (P s + -1) * (P s + -1) + 4 * P s := by
      simp only [Int.add_mul, Int.mul_add]; omega
    omega
theorem tried {n : Int} {ss : List (List Int)} (hpl : ∀ s ∈ ss, okPl n s = true) (cs : List Int) (c : Int) : ((ss.filter fun s => decide ((cs.length : Int) ∈ s)).map fun s => pSum (cs ++ [c]) s ((cs.length : Int) + 1) * pSum (cs ++ [c]) s ((cs.length : Int) + 1)) = (ss.filter fun s => decide ((cs.length : Int) ∈ s)).map fun s => (pSum cs s cs.length + c) * (pSum cs s cs.length + c) := by
  apply List.map_congr_left
  intro s hs
  obtain ⟨h1, h2⟩ := List.mem_filter.mp hs
  have hm : (cs.length : Int) ∈ s := by simpa using h2
  obtain ⟨h3, h4⟩ := okPl_nd (hpl s h1)
  rw [pSum_step cs c s h3 h4, if_pos hm]
theorem r_lfair (hh : Ext pHlp p) {k : Nat} {n : Int} {ss : List (List Int)} (hpl : ∀ s ∈ ss, okPl n s = true) (hn : n ≤ 1000) (hn0 : 0 ≤ n) : runP glT fu p (k + 1) "_law_fair" [dFam n ss] = .ok (dI (fairL ss n.toNat), 1, true) := by
  rw [runP_eq (hh "_law_fair" f_law_fair (by kernel_rfl)) rfl]
  refine rd_rt ?_
  show execSs _ _ _ f_law_fair.body [some (dFam n ss, 0, false), none, none, none, none, none, none, none, none, none] = _
  unfold f_law_fair
  rw [x_nx (e2 := [some (dFam n ss, 0, false), some (D.lst [], 1, true), none, none, none, none, none, none, none, none]) (by simp only [runD, List.length_cons, List.length_nil, List.replicate, List.map_cons, List.map_nil, execSs, execS, setT, keep_true, shut_int, shut_bl, shut_non, shut_str, shut_lst, shut_tup, shut_lst0, shut_tup0, shutL_ints, shutL_dI, shutL_nil, shutL_cons, CE.vars, CEs.vars, List.nil_append, List.cons_append, List.append_nil, keep_f, own0, own0n, ownSs, demF, List.contains_cons, List.contains_nil, Nat.reduceBEq, Nat.reduceBNe, bne_self_eq_false, Nat.reduceAdd, beq_self_eq_true, Option.map_some, Option.map_none, List.any_cons, List.any_nil, Bool.or_false, Bool.and_true, Bool.and_false, Bool.or_true, e_var, e_int, e_bl, e_non, e_str, e_gcon, e_bin, e_neg, e_cmp, e_chain, e_and, e_or, e_not, e_ite, e_call, e_blt, e_isi, e_idx, e_sl, e_lst, e_tup, es_nil, es_cons, ec_nil, ec_one, eo_nil, eo_one,     Res.bind_ok, Res.bind_exc, Res.nx_ok, bool_b, okB, opt_i, callV_ok, callV_exc, bltV, len_l, len_t, sum_i, all_b, any_b, abs_i, lst_l, int_b, int_i, idx_l, idx_t, sl_l, sl_s, nwD_ints, nwD_true, nwD_nil, lst0, tup0, lst1, tup1, lst2, tup2, lst3, tup3, lst4, tup4, lst5, tup5, lst6, tup6, lst7, tup7, lst8, tup8, lst12, tup12, lst16, tup16, kUni, List.filter_nil, List.filter_cons, Nat.add_zero, neg_i, bin_ii, bin_cat, List.getElem?_cons_zero, List.getElem?_cons_succ, List.map_cons, List.map_nil, List.all_cons, List.all_nil, List.any_cons, List.any_nil, List.set_cons_zero, List.set_cons_succ,     nwOf, D.flat, ints_ok, bls_ok, if_true, if_false, Bool.false_eq_true, Bool.not_true, Bool.not_false, Bool.and_true, Bool.true_and, Bool.or_true, Bool.true_or, Bool.or_false, Bool.false_or, Bool.and_self, Bool.or_self, Bool.and_false, Bool.false_and])]
  obtain ⟨e', g1, o2, o3, o4, o5, o6, o7, o8, o9, g2⟩ := forL_inv (body := execSs (runP glT fu p k) glT fu l_law_fair_1) (t := .one 2) (fun i : Int => ((.int i, 0, true) : Val))
    (fun m env => ∃ o2 o3 o4 o5 o6 o7 o8 o9 : Option Val, env = [some (dFam n ss, 0, false), some (dI (fairL ss m), 1, true), o2, o3, o4, o5, o6, o7, o8, o9]) (upTo n) 0
    [some (dFam n ss, 0, false), some (D.lst [], 1, true), none, none, none, none, none, none, none, none] ⟨none, none, none, none, none, none, none, none, rfl⟩ (fun j x e hj hI => by
      rw [Nat.zero_add] at hI ⊢
      obtain ⟨o2, o3, o4, o5, o6, o7, o8, o9, rfl⟩ := hI
      obtain ⟨rfl, hx⟩ := upTo_get hj
      have hfl := fairL_len ss j
      refine ⟨_, rfl, ?_⟩
      unfold l_law_fair_1
      rw [x_nx (e2 := [some (dFam n ss, 0, false), some (dI (fairL ss j), 1, true), some (.int (j : Int), 0, true), some (D.lst [], 1, true), o4, o5, o6, o7, o8, o9]) (by simp only [runD, List.length_cons, List.length_nil, List.replicate, List.map_cons, List.map_nil, execSs, execS, setT, keep_true, shut_int, shut_bl, shut_non, shut_str, shut_lst, shut_tup, shut_lst0, shut_tup0, shutL_ints, shutL_dI, shutL_nil, shutL_cons, CE.vars, CEs.vars, List.nil_append, List.cons_append, List.append_nil, keep_f, own0, own0n, ownSs, demF, List.contains_cons, List.contains_nil, Nat.reduceBEq, Nat.reduceBNe, bne_self_eq_false, Nat.reduceAdd, beq_self_eq_true, Option.map_some, Option.map_none, List.any_cons, List.any_nil, Bool.or_false, Bool.and_true, Bool.and_false, Bool.or_true, e_var, e_int, e_bl, e_non, e_str, e_gcon, e_bin, e_neg, e_cmp, e_chain, e_and, e_or, e_not, e_ite, e_call, e_blt, e_isi, e_idx, e_sl, e_lst, e_tup, es_nil, es_cons, ec_nil, ec_one, eo_nil, eo_one,     Res.bind_ok, Res.bind_exc, Res.nx_ok, bool_b, okB, opt_i, callV_ok, callV_exc, bltV, len_l, len_t, sum_i, all_b, any_b, abs_i, lst_l, int_b, int_i, idx_l, idx_t, sl_l, sl_s, nwD_ints, nwD_true, nwD_nil, lst0, tup0, lst1, tup1, lst2, tup2, lst3, tup3, lst4, tup4, lst5, tup5, lst6, tup6, lst7, tup7, lst8, tup8, lst12, tup12, lst16, tup16, kUni, List.filter_nil, List.filter_cons, Nat.add_zero, neg_i, bin_ii, bin_cat, List.getElem?_cons_zero, List.getElem?_cons_succ, List.map_cons, List.map_nil, List.all_cons, List.all_nil, List.any_cons, List.any_nil, List.set_cons_zero, List.set_cons_succ,     nwOf, D.flat, ints_ok, bls_ok, if_true, if_false, Bool.false_eq_true, Bool.not_true, Bool.not_false, Bool.and_true, Bool.true_and, Bool.or_true, Bool.true_or, Bool.or_false, Bool.false_or, Bool.and_self, Bool.or_self, Bool.and_false, Bool.false_and])]
      obtain ⟨a5, a6, a7, a8, a9, ha⟩ := lfair_try (fu := fu) hh (k := k) (n := n) (ss := ss) (cs := fairL ss j) (tot := []) (c := 1) hpl hn (fairL_pm ss j) (.inl rfl) (by simp) (by omega) (o5 := o5) (o6 := o6) (o7 := o7) (o8 := o8) (o9 := o9)
      obtain ⟨b5, b6, b7, b8, b9, hb⟩ := lfair_try (fu := fu) hh (k := k) (n := n) (ss := ss) (cs := fairL ss j) (tot := [((ss.filter fun s => decide (((fairL ss j).length : Int) ∈ s)).map fun s => pSum (fairL ss j ++ [1]) s (((fairL ss j).length : Int) + 1) * pSum (fairL ss j ++ [1]) s (((fairL ss j).length : Int) + 1)).sum]) (c := -1) hpl hn (fairL_pm ss j) (.inr rfl) (by simp) (by omega) (o5 := a5) (o6 := a6) (o7 := a7) (o8 := a8) (o9 := a9)
      rw [List.nil_append] at ha
      rw [List.singleton_append] at hb
      rw [tried hpl] at ha
      rw [tried hpl, tried hpl] at hb
      rw [hfl] at ha hb
      have hd := sq_diff (fun s => pSum (fairL ss j) s j) (ss.filter fun s => decide ((j : Int) ∈ s))
      have hcol : fairCol ss (fairL ss j) j = if 0 < ((ss.filter fun s => decide ((j : Int) ∈ s)).map fun s => pSum (fairL ss j) s j).sum then -1 else 1 := rfl
      generalize ((ss.filter fun s => decide ((j : Int) ∈ s)).map fun s => (pSum (fairL ss j) s j + 1) * (pSum (fairL ss j) s j + 1)).sum = t1 at ha hb hd
      generalize ((ss.filter fun s => decide ((j : Int) ∈ s)).map fun s => (pSum (fairL ss j) s j + -1) * (pSum (fairL ss j) s j + -1)).sum = t2 at hb hd
      generalize ((ss.filter fun s => decide ((j : Int) ∈ s)).map fun s => pSum (fairL ss j) s j).sum = T at hd hcol
      have hcol2 : (if decide (t1 ≤ t2) = true then (Res.ok ((D.int 1, 0, true) : Val)) else Res.ok ((D.int (-1), 0, true) : Val)) = .ok (.int (fairCol ss (fairL ss j) j), 0, true) := by
        rw [hcol]
        by_cases h : 0 < T
        · rw [if_pos h, if_neg (by simp; omega)]
        · rw [if_neg h, if_pos (by simp; omega)]
      rw [x_nx (e2 := [some (dFam n ss, 0, false), some (dI (fairL ss j), 1, true), some (.int (j : Int), 0, true), some (dI [t1, t2], 1, true), some (.int (-1), 0, true), b5, b6, b7, b8, b9]) (by
        simp only [runD, List.length_cons, List.length_nil, List.replicate, List.map_cons, List.map_nil, execSs, execS, setT, keep_true, shut_int, shut_bl, shut_non, shut_str, shut_lst, shut_tup, shut_lst0, shut_tup0, shutL_ints, shutL_dI, shutL_nil, shutL_cons, CE.vars, CEs.vars, List.nil_append, List.cons_append, List.append_nil, keep_f, own0, own0n, ownSs, demF, List.contains_cons, List.contains_nil, Nat.reduceBEq, Nat.reduceBNe, bne_self_eq_false, Nat.reduceAdd, beq_self_eq_true, Option.map_some, Option.map_none, List.any_cons, List.any_nil, Bool.or_false, Bool.and_true, Bool.and_false, Bool.or_true, e_var, e_int, e_bl, e_non, e_str, e_gcon, e_bin, e_neg, e_cmp, e_chain, e_and, e_or, e_not, e_ite, e_call, e_blt, e_isi, e_idx, e_sl, e_lst, e_tup, es_nil, es_cons, ec_nil, ec_one, eo_nil, eo_one,     Res.bind_ok, Res.bind_exc, Res.nx_ok, bool_b, okB, opt_i, callV_ok, callV_exc, bltV, len_l, len_t, sum_i, all_b, any_b, abs_i, lst_l, int_b, int_i, idx_l, idx_t, sl_l, sl_s, nwD_ints, nwD_true, nwD_nil, lst0, tup0, lst1, tup1, lst2, tup2, lst3, tup3, lst4, tup4, lst5, tup5, lst6, tup6, lst7, tup7, lst8, tup8, lst12, tup12, lst16, tup16, kUni, List.filter_nil, List.filter_cons, Nat.add_zero, neg_i, bin_ii, bin_cat, List.getElem?_cons_zero, List.getElem?_cons_succ, List.map_cons, List.map_nil, List.all_cons, List.all_nil, List.any_cons, List.any_nil, List.set_cons_zero, List.set_cons_succ,     nwOf, D.flat, ints_ok, bls_ok, if_true, if_false, Bool.false_eq_true, Bool.not_true, Bool.not_false, Bool.and_true, Bool.true_and, Bool.or_true, Bool.true_or, Bool.or_false, Bool.false_or, Bool.and_self, Bool.or_self, Bool.and_false, Bool.false_and, itV_tup2, ownS]
        rw [forL_nx rfl ha, forL_nx rfl hb, forL])]
      rw [x_nx (e2 := [some (dFam n ss, 0, false), some (dI (fairL ss (j + 1)), 1, true), some (.int (j : Int), 0, true), some (dI [t1, t2], 1, true), some (.int (-1), 0, true), b5, b6, b7, b8, b9]) (by
        simp only [runD, List.length_cons, List.length_nil, List.replicate, List.map_cons, List.map_nil, execSs, execS, setT, keep_true, shut_int, shut_bl, shut_non, shut_str, shut_lst, shut_tup, shut_lst0, shut_tup0, shutL_ints, shutL_dI, shutL_nil, shutL_cons, CE.vars, CEs.vars, List.nil_append, List.cons_append, List.append_nil, keep_f, own0, own0n, ownSs, demF, List.contains_cons, List.contains_nil, Nat.reduceBEq, Nat.reduceBNe, bne_self_eq_false, Nat.reduceAdd, beq_self_eq_true, Option.map_some, Option.map_none, List.any_cons, List.any_nil, Bool.or_false, Bool.and_true, Bool.and_false, Bool.or_true, e_var, e_int, e_bl, e_non, e_str, e_gcon, e_bin, e_neg, e_cmp, e_chain, e_and, e_or, e_not, e_ite, e_call, e_blt, e_isi, e_idx, e_sl, e_lst, e_tup, es_nil, es_cons, ec_nil, ec_one, eo_nil, eo_one,     Res.bind_ok, Res.bind_exc, Res.nx_ok, bool_b, okB, opt_i, callV_ok, callV_exc, bltV, len_l, len_t, sum_i, all_b, any_b, abs_i, lst_l, int_b, int_i, idx_l, idx_t, sl_l, sl_s, nwD_ints, nwD_true, nwD_nil, lst0, tup0, lst1, tup1, lst2, tup2, lst3, tup3, lst4, tup4, lst5, tup5, lst6, tup6, lst7, tup7, lst8, tup8, lst12, tup12, lst16, tup16, kUni, List.filter_nil, List.filter_cons, Nat.add_zero, neg_i, bin_ii, bin_cat, List.getElem?_cons_zero, List.getElem?_cons_succ, List.map_cons, List.map_nil, List.all_cons, List.all_nil, List.any_cons, List.any_nil, List.set_cons_zero, List.set_cons_succ,     nwOf, D.flat, ints_ok, bls_ok, if_true, if_false, Bool.false_eq_true, Bool.not_true, Bool.not_false, Bool.and_true, Bool.true_and, Bool.or_true, Bool.true_or, Bool.or_false, Bool.false_or, Bool.and_self, Bool.or_self, Bool.and_false, Bool.false_and, atD0, atD1, cmp_le, hcol2, pathX]
        rw [app_ints (cs := fairL ss j) (nw := true) (by omega)]
        rfl), x_nil]
      exact ⟨_, rfl, _, _, _, _, _, _, _, _, rfl⟩)
  subst g2
  rw [Nat.zero_add, upTo_len] at g1
  rw [x_nx (by simp only [runD, List.length_cons, List.length_nil, List.replicate, List.map_cons, List.map_nil, execSs, execS, setT, keep_true, shut_int, shut_bl, shut_non, shut_str, shut_lst, shut_tup, shut_lst0, shut_tup0, shutL_ints, shutL_dI, shutL_nil, shutL_cons, CE.vars, CEs.vars, List.nil_append, List.cons_append, List.append_nil, keep_f, own0, own0n, ownSs, demF, List.contains_cons, List.contains_nil, Nat.reduceBEq, Nat.reduceBNe, bne_self_eq_false, Nat.reduceAdd, beq_self_eq_true, Option.map_some, Option.map_none, List.any_cons, List.any_nil, Bool.or_false, Bool.and_true, Bool.and_false, Bool.or_true, e_var, e_int, e_bl, e_non, e_str, e_gcon, e_bin, e_neg, e_cmp, e_chain, e_and, e_or, e_not, e_ite, e_call, e_blt, e_isi, e_idx, e_sl, e_lst, e_tup, es_nil, es_cons, ec_nil, ec_one, eo_nil, eo_one,     Res.bind_ok, Res.bind_exc, Res.nx_ok, bool_b, okB, opt_i, callV_ok, callV_exc, bltV, len_l, len_t, sum_i, all_b, any_b, abs_i, lst_l, int_b, int_i, idx_l, idx_t, sl_l, sl_s, nwD_ints, nwD_true, nwD_nil, lst0, tup0, lst1, tup1, lst2, tup2, lst3, tup3, lst4, tup4, lst5, tup5, lst6, tup6, lst7, tup7, lst8, tup8, lst12, tup12, lst16, tup16, kUni, List.filter_nil, List.filter_cons, Nat.add_zero, neg_i, bin_ii, bin_cat, List.getElem?_cons_zero, List.getElem?_cons_succ, List.map_cons, List.map_nil, List.all_cons, List.all_nil, List.any_cons, List.any_nil, List.set_cons_zero, List.set_cons_succ,     nwOf, D.flat, ints_ok, bls_ok, if_true, if_false, Bool.false_eq_true, Bool.not_true, Bool.not_false, Bool.and_true, Bool.true_and, Bool.or_true, Bool.true_or, Bool.or_false, Bool.false_or, Bool.and_self, Bool.or_self, Bool.and_false, Bool.false_and, atD0, itV_range (n := n) (by omega) (by omega), ownS, g1]; rfl)]
  rw [x_rt (by simp only [runD, List.length_cons, List.length_nil, List.replicate, List.map_cons, List.map_nil, execSs, execS, setT, keep_true, shut_int, shut_bl, shut_non, shut_str, shut_lst, shut_tup, shut_lst0, shut_tup0, shutL_ints, shutL_dI, shutL_nil, shutL_cons, CE.vars, CEs.vars, List.nil_append, List.cons_append, List.append_nil, keep_f, own0, own0n, ownSs, demF, List.contains_cons, List.contains_nil, Nat.reduceBEq, Nat.reduceBNe, bne_self_eq_false, Nat.reduceAdd, beq_self_eq_true, Option.map_some, Option.map_none, List.any_cons, List.any_nil, Bool.or_false, Bool.and_true, Bool.and_false, Bool.or_true, e_var, e_int, e_bl, e_non, e_str, e_gcon, e_bin, e_neg, e_cmp, e_chain, e_and, e_or, e_not, e_ite, e_call, e_blt, e_isi, e_idx, e_sl, e_lst, e_tup, es_nil, es_cons, ec_nil, ec_one, eo_nil, eo_one,     Res.bind_ok, Res.bind_exc, Res.nx_ok, bool_b, okB, opt_i, callV_ok, callV_exc, bltV, len_l, len_t, sum_i, all_b, any_b, abs_i, lst_l, int_b, int_i, idx_l, idx_t, sl_l, sl_s, nwD_ints, nwD_true, nwD_nil, lst0, tup0, lst1, tup1, lst2, tup2, lst3, tup3, lst4, tup4, lst5, tup5, lst6, tup6, lst7, tup7, lst8, tup8, lst12, tup12, lst16, tup16, kUni, List.filter_nil, List.filter_cons, Nat.add_zero, neg_i, bin_ii, bin_cat, List.getElem?_cons_zero, List.getElem?_cons_succ, List.map_cons, List.map_nil, List.all_cons, List.all_nil, List.any_cons, List.any_nil, List.set_cons_zero, List.set_cons_succ,     nwOf, D.flat, ints_ok, bls_ok, if_true, if_false, Bool.false_eq_true, Bool.not_true, Bool.not_false, Bool.and_true, Bool.true_and, Bool.or_true, Bool.true_or, Bool.or_false, Bool.false_or, Bool.and_self, Bool.or_self, Bool.and_false, Bool.false_and, getV]; rfl)]
/-! ### the fair total -/
theorem sq_step (P : List Int → Int) (M : List Int → Bool) (c : Int) (hc : c * c = 1) : ∀ (l : List (List Int)), (l.map fun s => (P s + if M s then c else 0) * (P s + if M s then c else 0)).sum = (l.map fun s => P s * P s).sum + 2 * (c * ((l.filter M).map P).sum) + (l.map fun s => if M s then (1 : Int) else 0).sum
  | [] => by simp
  | s :: l => by
    have ih := sq_step P M c hc l
    simp only [List.map_cons, List.sum_cons, List.filter_cons]
    cases h : M s with
    | true =>
      simp only [if_true, List.map_cons, List.sum_cons]
      rw [ih]
      have e1 : (P s + c) * (P s + c) = P s * P s + 2 * (c * P s) + 1 := by
        rw [Int.add_mul, Int.mul_add, Int.mul_add, hc, Int.mul_comm (P s) c]; omega
      rw [e1, Int.mul_add c]
      omega
    | false =>
      simp only [Bool.false_eq_true, if_false, Int.add_zero]
      rw [ih]
      omega
def sqs (ss : List (List Int)) (cs : List Int) (m : Nat) : Int := (ss.map fun s => pSum cs s m * pSum cs s m).sum
def cnt (ss : List (List Int)) (m : Nat) : Int := (ss.map fun s => pSum (List.replicate m 1) s m).sum
theorem fair_le {n : Int} {ss : List (List Int)} (hpl : ∀ s ∈ ss, okPl n s = true) : ∀ m, sqs ss (fairL ss m) m ≤ cnt ss m
  | 0 => by
    unfold sqs cnt
    have : ∀ s : List Int, pSum [] s ((0 : Nat) : Int) = 0 := fun s => by
      have := zeros_p [s]
      simpa using this.symm
    simp only [fairL, List.replicate, this]
    have z : ∀ l : List (List Int), (l.map fun _ => (0 : Int) * 0).sum ≤ (l.map fun _ => (0 : Int)).sum := by
      intro l
      induction l with
      | nil => simp
      | cons a l ih => simpa using ih
    exact z ss
  | m + 1 => by
    have ih := fair_le hpl m
    have hfl := fairL_len ss m
    have e1 : sqs ss (fairL ss (m + 1)) (m + 1) = (ss.map fun s => (pSum (fairL ss m) s m + if decide ((m : Int) ∈ s) = true then fairCol ss (fairL ss m) m else 0) * (pSum (fairL ss m) s m + if decide ((m : Int) ∈ s) = true then fairCol ss (fairL ss m) m else 0)).sum := by
      unfold sqs
      congr 1
      apply List.map_congr_left
      intro s hs
      obtain ⟨h3, h4⟩ := okPl_nd (hpl s hs)
      have := pSum_step (fairL ss m) (fairCol ss (fairL ss m) m) s h3 h4
      rw [hfl] at this
      rw [fairL, show ((m + 1 : Nat) : Int) = (m : Int) + 1 by omega, this]
      simp only [decide_eq_true_eq]
    have e2 : cnt ss (m + 1) = cnt ss m + (ss.map fun s => if decide ((m : Int) ∈ s) = true then (1 : Int) else 0).sum := by
      unfold cnt
      have key : ∀ l : List (List Int), (∀ s ∈ l, okPl n s = true) → (l.map fun s => pSum (List.replicate (m + 1) 1) s ((m + 1 : Nat) : Int)).sum = (l.map fun s => pSum (List.replicate m 1) s m).sum + (l.map fun s => if decide ((m : Int) ∈ s) = true then (1 : Int) else 0).sum := by
        intro l hl
        induction l with
        | nil => simp
        | cons s l ih2 =>
          have h5 := ih2 fun t ht => hl t (by simp [ht])
          obtain ⟨h3, h4⟩ := okPl_nd (hl s (by simp))
          have := pSum_step (List.replicate m 1) 1 s h3 h4
          rw [List.length_replicate] at this
          simp only [List.map_cons, List.sum_cons, h5]
          rw [List.replicate_succ', show ((m + 1 : Nat) : Int) = (m : Int) + 1 by omega, this]
          simp only [decide_eq_true_eq]
          omega
      exact key ss hpl
    have hc : fairCol ss (fairL ss m) m * fairCol ss (fairL ss m) m = 1 := by
      rcases fairCol_pm ss (fairL ss m) m with h | h <;> rw [h] <;> rfl
    have hT : fairCol ss (fairL ss m) m * ((ss.filter fun s => decide ((m : Int) ∈ s)).map fun s => pSum (fairL ss m) s m).sum ≤ 0 := by
      unfold fairCol
      split <;> omega
    have e3 := sq_step (fun s => pSum (fairL ss m) s m) (fun s => decide ((m : Int) ∈ s)) (fairCol ss (fairL ss m) m) hc ss
    unfold sqs at ih
    rw [e1, e2, e3]
    omega
theorem pSum_all {n : Int} {s cs : List Int} (h : okPl n s = true) : pSum cs s n = (s.map (atR cs)).sum := by
  unfold pSum
  congr 1
  apply List.map_congr_left
  intro i hi
  rw [if_pos ((okPl_iff.mp h).2.1 i hi).2]
theorem fair_total {n : Int} {ss : List (List Int)} (hn : 0 ≤ n) (hpl : ∀ s ∈ ss, okPl n s = true) : totalOf ss (fairL ss n.toNat) ≤ (ss.map fun s => (s.length : Int)).sum := by
  have h := fair_le hpl n.toNat
  have e1 : sqs ss (fairL ss n.toNat) n.toNat = totalOf ss (fairL ss n.toNat) := by
    unfold sqs totalOf sumsOf
    rw [List.map_map]
    congr 1
    apply List.map_congr_left
    intro s hs
    have := pSum_all (cs := fairL ss n.toNat) (hpl s hs)
    rw [Int.toNat_of_nonneg hn, this]
    rfl
  have e2 : cnt ss n.toNat = (ss.map fun s => (s.length : Int)).sum := by
    unfold cnt
    congr 1
    apply List.map_congr_left
    intro s hs
    rw [Int.toNat_of_nonneg hn, pSum_all (hpl s hs)]
    have : s.map (atR (List.replicate n.toNat 1)) = s.map fun _ => (1 : Int) := by
      apply List.map_congr_left
      intro i hi
      obtain ⟨h1, h2⟩ := (okPl_iff.mp (hpl s hs)).2.1 i hi
      unfold atR
      rw [List.getD_eq_getElem?_getD, List.getElem?_replicate, if_pos (by omega)]
      rfl
    rw [this]
    clear this hs
    induction s with
    | nil => rfl
    | cons a s ih => rw [List.map_cons, List.sum_cons, ih, List.length_cons]; omega
  rw [e1, e2] at h
  exact h
theorem fair_ok {n : Int} (hn : 0 ≤ n) (ss : List (List Int)) : colOk n (fairL ss n.toNat) = true := by
  unfold colOk
  simp only [Bool.and_eq_true, decide_eq_true_eq, List.all_map, List.all_eq_true, Function.comp_apply, id_eq, Bool.or_eq_true]
  exact ⟨by rw [fairL_len]; omega, fairL_pm ss _⟩
end
end TT

set_option Elab.async false
set_option linter.all false
set_option maxRecDepth 100000
set_option maxHeartbeats 4000000
/-! Hk08: the law's own defs. -/
namespace TT
open PySem L2
def l_law_2 : CSs := (.cons (.asg (.one 6) (.call "fair" (.cons (.var 4) .nil))) (.cons (.ife (.or (.not (.call "_law_are_colours" (.cons (.var 6) (.cons (.idx (.var 2) (.cst (.int 0))) .nil)))) (.or (.cmp .NotEq (.var 6) (.call "_law_fair" (.cons (.var 2) .nil))) (.cmp .NotEq (.var 4) (.var 2)))) (.cons (.ret (.cst (.bl false))) .nil) .nil) (.cons (.app 6 [] (.cst (.int 0))) .nil)))
def l_law_1 : CSs := (.cons (.asg (.one 2) (.call "_law_family" (.cons (.var 0) (.cons (.var 1) (.cons (.cst (.int 20)) (.cons (.cst (.int 12)) .nil)))))) (.cons (.asg (.one 3) (.call "_law_colours" (.cons (.var 0) (.cons (.bin .Add (.var 1) (.cst (.int 2))) (.cons (.idx (.var 2) (.cst (.int 0))) .nil))))) (.cons (.par [4, 5] (.cons (.call "_law_copy" (.cons (.var 2) .nil)) (.cons (.blt .list (.cons (.var 3) .nil)) .nil))) (.cons (.asg (.one 6) (.call "total" (.cons (.var 4) (.cons (.var 5) .nil)))) (.cons (.asg (.one 7) (.comp (.bin .Mult (.var 8) (.var 8)) (.one 8) .seq (.cons (.call "_law_sums" (.cons (.var 2) (.cons (.var 3) .nil))) .nil) .nil)) (.cons (.ife (.or (.not (.call "_law_whole" (.cons (.var 6) .nil))) (.cmp .NotEq (.var 6) (.blt .sum (.cons (.var 7) .nil)))) (.cons (.ret (.cst (.bl false))) .nil) .nil) (.cons (.fors (.one 9) .range (.cons (.cst (.int 2)) .nil) l_law_2) (.cons (.asg (.one 10) (.blt .sum (.cons (.comp (.blt .len (.cons (.var 8) .nil)) (.one 8) .seq (.cons (.idx (.var 2) (.cst (.int 1))) .nil) .nil) .nil))) (.cons (.ife (.or (.cmp .Gt (.call "total" (.cons (.var 4) (.cons (.call "fair" (.cons (.var 4) .nil)) .nil))) (.var 10)) (.cmp .NotEq (.var 5) (.var 3))) (.cons (.ret (.cst (.bl false))) .nil) .nil) .nil)))))))))
def f_law : Fd := ⟨1, 11, (.cons (.asg (.one 0) (.sl (.var 0) .nil (.cons (.cst (.int 63)) .nil))) (.cons (.fors (.one 1) .range (.cons (.cst (.int 0)) (.cons (.blt .max (.cons (.cst (.int 1)) (.cons (.blt .len (.cons (.var 0) .nil)) .nil))) (.cons (.bin .Add (.cst (.int 1)) (.bin .FloorDiv (.blt .len (.cons (.var 0) .nil)) (.cst (.int 4)))) .nil))) l_law_1) (.cons (.ret (.and (.cmp .Eq (.call "fair" (.cons (.tup (.cons (.cst (.int 3)) (.cons (.lst (.cons (.lst (.cons (.cst (.int 0)) (.cons (.cst (.int 1)) (.cons (.cst (.int 2)) .nil)))) (.cons (.lst (.cons (.cst (.int 1)) (.cons (.cst (.int 2)) .nil))) .nil))) .nil))) .nil)) (.lst (.cons (.cst (.int 1)) (.cons (.neg (.cst (.int 1))) (.cons (.cst (.int 1)) .nil))))) (.cmp .Eq (.call "total" (.cons (.tup (.cons (.cst (.int 2)) (.cons (.lst (.cons (.lst (.cons (.cst (.int 0)) (.cons (.cst (.int 1)) .nil))) (.cons (.lst (.cons (.cst (.int 0)) .nil)) .nil))) .nil))) (.cons (.lst (.cons (.cst (.int 1)) (.cons (.cst (.int 1)) .nil))) .nil))) (.cst (.int 5))))) .nil)))⟩
def prg : Prg := (("_law_copy" : Str), f_law_copy_k01) :: (("law" : Str), f_law) :: (pHlp ++ pPkg)
end TT

set_option Elab.async false
set_option linter.all false
set_option autoImplicit false
set_option maxRecDepth 100000
set_option maxHeartbeats 2000000
/-! Lk08: the law of totals, run over plain data. -/
namespace TT
open PySem L2
theorem hp1 : Ext pPkg prg := ext_cons (ext_cons ext_pkg (by kernel_rfl)) (by kernel_rfl)
theorem hh1 : Ext pHlp prg := ext_cons (ext_cons ext_hlp (by kernel_rfl)) (by kernel_rfl)
theorem hc1 : prg.lookup ("_law_copy" : Str) = some f_law_copy_k01 := by kernel_rfl
theorem law_body {ns : List Int} {x : Int} (hx : 0 ≤ x) {o1 o2 o3 o4 o5 o6 o7 o8 o9 o10 : Option Val} : ∃ o1' o2' o3' o4' o5' o6' o7' o8' o9' o10' : Option Val,
    execSs (runP glT 100000 prg 39) glT 100000 l_law_1 [some (dI ns, 0, true), some (.int x, 0, true), o2, o3, o4, o5, o6, o7, o8, o9, o10] = .ok (.nx [some (dI ns, 0, true), o1', o2', o3', o4', o5', o6', o7', o8', o9', o10']) := by
  obtain ⟨n, ss, f1, f2, f3, f4, f5⟩ := r_family (fu := 100000) hh1 (k := 36) (ns := ns) (by' := x) (most := 20) (sets := 12) hx (by decide) (by decide) (by decide) (by decide)
  obtain ⟨cs, c1, c2⟩ := r_colours (fu := 100000) hh1 (k := 36) (ns := ns) (by' := x + 2) (n := n) (by omega) (by omega) (by omega)
  have hf := fam_of f2 f3 f4 f5
  obtain ⟨q1, q2, q3, q4⟩ := fam_in hf
  obtain ⟨cl, cc⟩ := col_len c2
  have hin : inRow ss cs.length := by rw [cl]; exact q1
  have hfo : colOk n (fairL ss n.toNat) = true := fair_ok (by omega) ss
  have hfl := (col_len hfo).1
  unfold l_law_1
  rw [x_nx (e2 := [some (dI ns, 0, true), some (.int x, 0, true), some (dFam n ss, 1, true), o3, o4, o5, o6, o7, o8, o9, o10]) (by simp only [runD, List.length_cons, List.length_nil, List.replicate, List.map_cons, List.map_nil, execSs, execS, setT, keep_true, shut_int, shut_bl, shut_non, shut_str, shut_lst, shut_tup, shut_lst0, shut_tup0, shutL_ints, shutL_dI, shutL_nil, shutL_cons, CE.vars, CEs.vars, List.nil_append, List.cons_append, List.append_nil, keep_f, own0, own0n, ownSs, demF, List.contains_cons, List.contains_nil, Nat.reduceBEq, Nat.reduceBNe, bne_self_eq_false, Nat.reduceAdd, beq_self_eq_true, Option.map_some, Option.map_none, List.any_cons, List.any_nil, Bool.or_false, Bool.and_true, Bool.and_false, Bool.or_true, e_var, e_int, e_bl, e_non, e_str, e_gcon, e_bin, e_neg, e_cmp, e_chain, e_and, e_or, e_not, e_ite, e_call, e_blt, e_isi, e_idx, e_sl, e_lst, e_tup, es_nil, es_cons, ec_nil, ec_one, eo_nil, eo_one,     Res.bind_ok, Res.bind_exc, Res.nx_ok, bool_b, okB, opt_i, callV_ok, callV_exc, bltV, len_l, len_t, sum_i, all_b, any_b, abs_i, lst_l, int_b, int_i, idx_l, idx_t, sl_l, sl_s, nwD_ints, nwD_true, nwD_nil, lst0, tup0, lst1, tup1, lst2, tup2, lst3, tup3, lst4, tup4, lst5, tup5, lst6, tup6, lst7, tup7, lst8, tup8, lst12, tup12, lst16, tup16, kUni, List.filter_nil, List.filter_cons, Nat.add_zero, neg_i, bin_ii, bin_cat, List.getElem?_cons_zero, List.getElem?_cons_succ, List.map_cons, List.map_nil, List.all_cons, List.all_nil, List.any_cons, List.any_nil, List.set_cons_zero, List.set_cons_succ,     nwOf, D.flat, ints_ok, bls_ok, if_true, if_false, Bool.false_eq_true, Bool.not_true, Bool.not_false, Bool.and_true, Bool.true_and, Bool.or_true, Bool.true_or, Bool.or_false, Bool.false_or, Bool.and_self, Bool.or_self, Bool.and_false, Bool.false_and, f1])]
  rw [x_nx (e2 := [some (dI ns, 0, true), some (.int x, 0, true), some (dFam n ss, 1, true), some (dI cs, 1, true), o4, o5, o6, o7, o8, o9, o10]) (by simp only [runD, List.length_cons, List.length_nil, List.replicate, List.map_cons, List.map_nil, execSs, execS, setT, keep_true, shut_int, shut_bl, shut_non, shut_str, shut_lst, shut_tup, shut_lst0, shut_tup0, shutL_ints, shutL_dI, shutL_nil, shutL_cons, CE.vars, CEs.vars, List.nil_append, List.cons_append, List.append_nil, keep_f, own0, own0n, ownSs, demF, List.contains_cons, List.contains_nil, Nat.reduceBEq, Nat.reduceBNe, bne_self_eq_false, Nat.reduceAdd, beq_self_eq_true, Option.map_some, Option.map_none, List.any_cons, List.any_nil, Bool.or_false, Bool.and_true, Bool.and_false, Bool.or_true, e_var, e_int, e_bl, e_non, e_str, e_gcon, e_bin, e_neg, e_cmp, e_chain, e_and, e_or, e_not, e_ite, e_call, e_blt, e_isi, e_idx, e_sl, e_lst, e_tup, es_nil, es_cons, ec_nil, ec_one, eo_nil, eo_one,     Res.bind_ok, Res.bind_exc, Res.nx_ok, bool_b, okB, opt_i, callV_ok, callV_exc, bltV, len_l, len_t, sum_i, all_b, any_b, abs_i, lst_l, int_b, int_i, idx_l, idx_t, sl_l, sl_s, nwD_ints, nwD_true, nwD_nil, lst0, tup0, lst1, tup1, lst2, tup2, lst3, tup3, lst4, tup4, lst5, tup5, lst6, tup6, lst7, tup7, lst8, tup8, lst12, tup12, lst16, tup16, kUni, List.filter_nil, List.filter_cons, Nat.add_zero, neg_i, bin_ii, bin_cat, List.getElem?_cons_zero, List.getElem?_cons_succ, List.map_cons, List.map_nil, List.all_cons, List.all_nil, List.any_cons, List.any_nil, List.set_cons_zero, List.set_cons_succ,     nwOf, D.flat, ints_ok, bls_ok, if_true, if_false, Bool.false_eq_true, Bool.not_true, Bool.not_false, Bool.and_true, Bool.true_and, Bool.or_true, Bool.true_or, Bool.or_false, Bool.false_or, Bool.and_self, Bool.or_self, Bool.and_false, Bool.false_and, add_ok, atD0, c1])]
  rw [x_nx (e2 := [some (dI ns, 0, true), some (.int x, 0, true), some (dFam n ss, 1, true), some (dI cs, 1, true), some (dFam n ss, 3, true), some (dI cs, 1, true), o6, o7, o8, o9, o10]) (by simp only [runD, List.length_cons, List.length_nil, List.replicate, List.map_cons, List.map_nil, execSs, execS, setT, keep_true, shut_int, shut_bl, shut_non, shut_str, shut_lst, shut_tup, shut_lst0, shut_tup0, shutL_ints, shutL_dI, shutL_nil, shutL_cons, CE.vars, CEs.vars, List.nil_append, List.cons_append, List.append_nil, keep_f, own0, own0n, ownSs, demF, List.contains_cons, List.contains_nil, Nat.reduceBEq, Nat.reduceBNe, bne_self_eq_false, Nat.reduceAdd, beq_self_eq_true, Option.map_some, Option.map_none, List.any_cons, List.any_nil, Bool.or_false, Bool.and_true, Bool.and_false, Bool.or_true, e_var, e_int, e_bl, e_non, e_str, e_gcon, e_bin, e_neg, e_cmp, e_chain, e_and, e_or, e_not, e_ite, e_call, e_blt, e_isi, e_idx, e_sl, e_lst, e_tup, es_nil, es_cons, ec_nil, ec_one, eo_nil, eo_one,     Res.bind_ok, Res.bind_exc, Res.nx_ok, bool_b, okB, opt_i, callV_ok, callV_exc, bltV, len_l, len_t, sum_i, all_b, any_b, abs_i, lst_l, int_b, int_i, idx_l, idx_t, sl_l, sl_s, nwD_ints, nwD_true, nwD_nil, lst0, tup0, lst1, tup1, lst2, tup2, lst3, tup3, lst4, tup4, lst5, tup5, lst6, tup6, lst7, tup7, lst8, tup8, lst12, tup12, lst16, tup16, kUni, List.filter_nil, List.filter_cons, Nat.add_zero, neg_i, bin_ii, bin_cat, List.getElem?_cons_zero, List.getElem?_cons_succ, List.map_cons, List.map_nil, List.all_cons, List.all_nil, List.any_cons, List.any_nil, List.set_cons_zero, List.set_cons_succ,     nwOf, D.flat, ints_ok, bls_ok, if_true, if_false, Bool.false_eq_true, Bool.not_true, Bool.not_false, Bool.and_true, Bool.true_and, Bool.or_true, Bool.true_or, Bool.or_false, Bool.false_or, Bool.and_self, Bool.or_self, Bool.and_false, Bool.false_and, r_copy hc1, setMany])]
  rw [x_nx (e2 := [some (dI ns, 0, true), some (.int x, 0, true), some (dFam n ss, 1, true), some (dI cs, 1, true), some (dFam n ss, 3, true), some (dI cs, 1, true), some (.int (totalOf ss cs), 0, true), o7, o8, o9, o10]) (by simp only [runD, List.length_cons, List.length_nil, List.replicate, List.map_cons, List.map_nil, execSs, execS, setT, keep_true, shut_int, shut_bl, shut_non, shut_str, shut_lst, shut_tup, shut_lst0, shut_tup0, shutL_ints, shutL_dI, shutL_nil, shutL_cons, CE.vars, CEs.vars, List.nil_append, List.cons_append, List.append_nil, keep_f, own0, own0n, ownSs, demF, List.contains_cons, List.contains_nil, Nat.reduceBEq, Nat.reduceBNe, bne_self_eq_false, Nat.reduceAdd, beq_self_eq_true, Option.map_some, Option.map_none, List.any_cons, List.any_nil, Bool.or_false, Bool.and_true, Bool.and_false, Bool.or_true, e_var, e_int, e_bl, e_non, e_str, e_gcon, e_bin, e_neg, e_cmp, e_chain, e_and, e_or, e_not, e_ite, e_call, e_blt, e_isi, e_idx, e_sl, e_lst, e_tup, es_nil, es_cons, ec_nil, ec_one, eo_nil, eo_one,     Res.bind_ok, Res.bind_exc, Res.nx_ok, bool_b, okB, opt_i, callV_ok, callV_exc, bltV, len_l, len_t, sum_i, all_b, any_b, abs_i, lst_l, int_b, int_i, idx_l, idx_t, sl_l, sl_s, nwD_ints, nwD_true, nwD_nil, lst0, tup0, lst1, tup1, lst2, tup2, lst3, tup3, lst4, tup4, lst5, tup5, lst6, tup6, lst7, tup7, lst8, tup8, lst12, tup12, lst16, tup16, kUni, List.filter_nil, List.filter_cons, Nat.add_zero, neg_i, bin_ii, bin_cat, List.getElem?_cons_zero, List.getElem?_cons_succ, List.map_cons, List.map_nil, List.all_cons, List.all_nil, List.any_cons, List.any_nil, List.set_cons_zero, List.set_cons_succ,     nwOf, D.flat, ints_ok, bls_ok, if_true, if_false, Bool.false_eq_true, Bool.not_true, Bool.not_false, Bool.and_true, Bool.true_and, Bool.or_true, Bool.true_or, Bool.or_false, Bool.false_or, Bool.and_self, Bool.or_self, Bool.and_false, Bool.false_and, r_total hp1 hf c2])]
  have hsq : ∀ env : Env, evalE (runP glT 100000 prg 39) glT (.comp (.bin .Mult (.var 8) (.var 8)) (.one 8) .seq (.cons (.call "_law_sums" (.cons (.var 2) (.cons (.var 3) .nil))) .nil) .nil) [some (dI ns, 0, true), some (.int x, 0, true), some (dFam n ss, 1, true), some (dI cs, 1, true), some (dFam n ss, 3, true), some (dI cs, 1, true), some (.int (totalOf ss cs), 0, true), o7, o8, o9, o10] = .ok (dI ((sumsOf ss cs).map fun x => x * x), 2, true) := by
    intro env
    rw [e_compX (sumsOf ss cs) (fun i => (.int i, 0, true)) (fun x => x * x) (it_ints (kk := 1) (by simp only [e_var, e_int, e_bl, e_non, e_str, e_gcon, e_bin, e_neg, e_cmp, e_chain, e_and, e_or, e_not, e_ite, e_call, e_blt, e_isi, e_idx, e_sl, e_lst, e_tup, es_nil, es_cons, ec_nil, ec_one, eo_nil, eo_one,     Res.bind_ok, Res.bind_exc, Res.nx_ok, bool_b, okB, opt_i, callV_ok, callV_exc, bltV, len_l, len_t, sum_i, all_b, any_b, abs_i, lst_l, int_b, int_i, idx_l, idx_t, sl_l, sl_s, nwD_ints, nwD_true, nwD_nil, lst0, tup0, lst1, tup1, lst2, tup2, lst3, tup3, lst4, tup4, lst5, tup5, lst6, tup6, lst7, tup7, lst8, tup8, lst12, tup12, lst16, tup16, kUni, List.filter_nil, List.filter_cons, Nat.add_zero, neg_i, bin_ii, bin_cat, List.getElem?_cons_zero, List.getElem?_cons_succ, List.map_cons, List.map_nil, List.all_cons, List.all_nil, List.any_cons, List.any_nil, List.set_cons_zero, List.set_cons_succ,     nwOf, D.flat, ints_ok, bls_ok, if_true, if_false, Bool.false_eq_true, Bool.not_true, Bool.not_false, Bool.and_true, Bool.true_and, Bool.or_true, Bool.true_or, Bool.or_false, Bool.false_or, Bool.and_self, Bool.or_self, Bool.and_false, Bool.false_and, r_lsums hh1 hin])) rfl fun i hi => ?_]
    refine ⟨_, 0, true, rfl, ?_⟩
    simp only [e_var, e_int, e_bl, e_non, e_str, e_gcon, e_bin, e_neg, e_cmp, e_chain, e_and, e_or, e_not, e_ite, e_call, e_blt, e_isi, e_idx, e_sl, e_lst, e_tup, es_nil, es_cons, ec_nil, ec_one, eo_nil, eo_one,     Res.bind_ok, Res.bind_exc, Res.nx_ok, bool_b, okB, opt_i, callV_ok, callV_exc, bltV, len_l, len_t, sum_i, all_b, any_b, abs_i, lst_l, int_b, int_i, idx_l, idx_t, sl_l, sl_s, nwD_ints, nwD_true, nwD_nil, lst0, tup0, lst1, tup1, lst2, tup2, lst3, tup3, lst4, tup4, lst5, tup5, lst6, tup6, lst7, tup7, lst8, tup8, lst12, tup12, lst16, tup16, kUni, List.filter_nil, List.filter_cons, Nat.add_zero, neg_i, bin_ii, bin_cat, List.getElem?_cons_zero, List.getElem?_cons_succ, List.map_cons, List.map_nil, List.all_cons, List.all_nil, List.any_cons, List.any_nil, List.set_cons_zero, List.set_cons_succ,     nwOf, D.flat, ints_ok, bls_ok, if_true, if_false, Bool.false_eq_true, Bool.not_true, Bool.not_false, Bool.and_true, Bool.true_and, Bool.or_true, Bool.true_or, Bool.or_false, Bool.false_or, Bool.and_self, Bool.or_self, Bool.and_false, Bool.false_and, mul_ok (sums_small hf (by decide) c2 i hi) (sums_small hf (by decide) c2 i hi) (by decide)]
  rw [x_nx (e2 := [some (dI ns, 0, true), some (.int x, 0, true), some (dFam n ss, 1, true), some (dI cs, 1, true), some (dFam n ss, 3, true), some (dI cs, 1, true), some (.int (totalOf ss cs), 0, true), some (dI ((sumsOf ss cs).map fun x => x * x), 2, true), o8, o9, o10]) (by simp only [runD, List.length_cons, List.length_nil, List.replicate, List.map_cons, List.map_nil, execSs, execS, setT, keep_true, shut_int, shut_bl, shut_non, shut_str, shut_lst, shut_tup, shut_lst0, shut_tup0, shutL_ints, shutL_dI, shutL_nil, shutL_cons, CE.vars, CEs.vars, List.nil_append, List.cons_append, List.append_nil, keep_f, own0, own0n, ownSs, demF, List.contains_cons, List.contains_nil, Nat.reduceBEq, Nat.reduceBNe, bne_self_eq_false, Nat.reduceAdd, beq_self_eq_true, Option.map_some, Option.map_none, List.any_cons, List.any_nil, Bool.or_false, Bool.and_true, Bool.and_false, Bool.or_true, hsq []]; simp only [runD, List.length_cons, List.length_nil, List.replicate, List.map_cons, List.map_nil, execSs, execS, setT, keep_true, shut_int, shut_bl, shut_non, shut_str, shut_lst, shut_tup, shut_lst0, shut_tup0, shutL_ints, shutL_dI, shutL_nil, shutL_cons, CE.vars, CEs.vars, List.nil_append, List.cons_append, List.append_nil, keep_f, own0, own0n, ownSs, demF, List.contains_cons, List.contains_nil, Nat.reduceBEq, Nat.reduceBNe, bne_self_eq_false, Nat.reduceAdd, beq_self_eq_true, Option.map_some, Option.map_none, List.any_cons, List.any_nil, Bool.or_false, Bool.and_true, Bool.and_false, Bool.or_true, e_var, e_int, e_bl, e_non, e_str, e_gcon, e_bin, e_neg, e_cmp, e_chain, e_and, e_or, e_not, e_ite, e_call, e_blt, e_isi, e_idx, e_sl, e_lst, e_tup, es_nil, es_cons, ec_nil, ec_one, eo_nil, eo_one,     Res.bind_ok, Res.bind_exc, Res.nx_ok, bool_b, okB, opt_i, callV_ok, callV_exc, bltV, len_l, len_t, sum_i, all_b, any_b, abs_i, lst_l, int_b, int_i, idx_l, idx_t, sl_l, sl_s, nwD_ints, nwD_true, nwD_nil, lst0, tup0, lst1, tup1, lst2, tup2, lst3, tup3, lst4, tup4, lst5, tup5, lst6, tup6, lst7, tup7, lst8, tup8, lst12, tup12, lst16, tup16, kUni, List.filter_nil, List.filter_cons, Nat.add_zero, neg_i, bin_ii, bin_cat, List.getElem?_cons_zero, List.getElem?_cons_succ, List.map_cons, List.map_nil, List.all_cons, List.all_nil, List.any_cons, List.any_nil, List.set_cons_zero, List.set_cons_succ,     nwOf, D.flat, ints_ok, bls_ok, if_true, if_false, Bool.false_eq_true, Bool.not_true, Bool.not_false, Bool.and_true, Bool.true_and, Bool.or_true, Bool.true_or, Bool.or_false, Bool.false_or, Bool.and_self, Bool.or_self, Bool.and_false, Bool.false_and])]
  rw [x_nx (e2 := [some (dI ns, 0, true), some (.int x, 0, true), some (dFam n ss, 1, true), some (dI cs, 1, true), some (dFam n ss, 3, true), some (dI cs, 1, true), some (.int (totalOf ss cs), 0, true), some (dI ((sumsOf ss cs).map fun x => x * x), 2, true), o8, o9, o10]) (by
    simp only [runD, List.length_cons, List.length_nil, List.replicate, List.map_cons, List.map_nil, execSs, execS, setT, keep_true, shut_int, shut_bl, shut_non, shut_str, shut_lst, shut_tup, shut_lst0, shut_tup0, shutL_ints, shutL_dI, shutL_nil, shutL_cons, CE.vars, CEs.vars, List.nil_append, List.cons_append, List.append_nil, keep_f, own0, own0n, ownSs, demF, List.contains_cons, List.contains_nil, Nat.reduceBEq, Nat.reduceBNe, bne_self_eq_false, Nat.reduceAdd, beq_self_eq_true, Option.map_some, Option.map_none, List.any_cons, List.any_nil, Bool.or_false, Bool.and_true, Bool.and_false, Bool.or_true, e_var, e_int, e_bl, e_non, e_str, e_gcon, e_bin, e_neg, e_cmp, e_chain, e_and, e_or, e_not, e_ite, e_call, e_blt, e_isi, e_idx, e_sl, e_lst, e_tup, es_nil, es_cons, ec_nil, ec_one, eo_nil, eo_one,     Res.bind_ok, Res.bind_exc, Res.nx_ok, bool_b, okB, opt_i, callV_ok, callV_exc, bltV, len_l, len_t, sum_i, all_b, any_b, abs_i, lst_l, int_b, int_i, idx_l, idx_t, sl_l, sl_s, nwD_ints, nwD_true, nwD_nil, lst0, tup0, lst1, tup1, lst2, tup2, lst3, tup3, lst4, tup4, lst5, tup5, lst6, tup6, lst7, tup7, lst8, tup8, lst12, tup12, lst16, tup16, kUni, List.filter_nil, List.filter_cons, Nat.add_zero, neg_i, bin_ii, bin_cat, List.getElem?_cons_zero, List.getElem?_cons_succ, List.map_cons, List.map_nil, List.all_cons, List.all_nil, List.any_cons, List.any_nil, List.set_cons_zero, List.set_cons_succ,     nwOf, D.flat, ints_ok, bls_ok, if_true, if_false, Bool.false_eq_true, Bool.not_true, Bool.not_false, Bool.and_true, Bool.true_and, Bool.or_true, Bool.true_or, Bool.or_false, Bool.false_or, Bool.and_self, Bool.or_self, Bool.and_false, Bool.false_and, r_lwhole hh1, cmp_ne, py_int, eqD_int, totalOf, decide_true])]
  have hloop : ∀ o6 : Option Val, ∃ o6' o9' : Option Val, forL (execSs (runP glT 100000 prg 39) glT 100000 l_law_2) (.one 9) ((upTo 2).map fun i => ((.int i, 0, true) : Val)) [some (dI ns, 0, true), some (.int x, 0, true), some (dFam n ss, 1, true), some (dI cs, 1, true), some (dFam n ss, 3, true), some (dI cs, 1, true), o6, some (dI ((sumsOf ss cs).map fun x => x * x), 2, true), o8, o9, o10] = .ok (.nx [some (dI ns, 0, true), some (.int x, 0, true), some (dFam n ss, 1, true), some (dI cs, 1, true), some (dFam n ss, 3, true), some (dI cs, 1, true), o6', some (dI ((sumsOf ss cs).map fun x => x * x), 2, true), o8, o9', o10]) := by
    intro o6
    obtain ⟨e2, g1, o6, o9, g2⟩ := forL_inv (body := execSs (runP glT 100000 prg 39) glT 100000 l_law_2) (t := .one 9) (fun i : Int => ((.int i, 0, true) : Val))
        (fun _ e => ∃ o6 o9 : Option Val, e = [some (dI ns, 0, true), some (D.int x, 0, true), some (dFam n ss, 1, true), some (dI cs, 1, true), some (dFam n ss, 3, true), some (dI cs, 1, true), o6, some (dI ((sumsOf ss cs).map fun x => x * x), 2, true), o8, o9, o10]) (upTo 2) 0 [some (dI ns, 0, true), some (D.int x, 0, true), some (dFam n ss, 1, true), some (dI cs, 1, true), some (dFam n ss, 3, true), some (dI cs, 1, true), o6, some (dI ((sumsOf ss cs).map fun x => x * x), 2, true), o8, o9, o10] ⟨o6, o9, rfl⟩ (fun j2 y e hj2 hI => by
          obtain ⟨o6, o9, rfl⟩ := hI
          refine ⟨_, rfl, ?_⟩
          unfold l_law_2
          rw [x_nx (e2 := [some (dI ns, 0, true), some (D.int x, 0, true), some (dFam n ss, 1, true), some (dI cs, 1, true), some (dFam n ss, 3, true), some (dI cs, 1, true), some (dI (fairL ss n.toNat), 1, true), some (dI ((sumsOf ss cs).map fun x => x * x), 2, true), o8, some (.int y, 0, true), o10]) (by simp only [runD, List.length_cons, List.length_nil, List.replicate, List.map_cons, List.map_nil, execSs, execS, setT, keep_true, shut_int, shut_bl, shut_non, shut_str, shut_lst, shut_tup, shut_lst0, shut_tup0, shutL_ints, shutL_dI, shutL_nil, shutL_cons, CE.vars, CEs.vars, List.nil_append, List.cons_append, List.append_nil, keep_f, own0, own0n, ownSs, demF, List.contains_cons, List.contains_nil, Nat.reduceBEq, Nat.reduceBNe, bne_self_eq_false, Nat.reduceAdd, beq_self_eq_true, Option.map_some, Option.map_none, List.any_cons, List.any_nil, Bool.or_false, Bool.and_true, Bool.and_false, Bool.or_true, e_var, e_int, e_bl, e_non, e_str, e_gcon, e_bin, e_neg, e_cmp, e_chain, e_and, e_or, e_not, e_ite, e_call, e_blt, e_isi, e_idx, e_sl, e_lst, e_tup, es_nil, es_cons, ec_nil, ec_one, eo_nil, eo_one,     Res.bind_ok, Res.bind_exc, Res.nx_ok, bool_b, okB, opt_i, callV_ok, callV_exc, bltV, len_l, len_t, sum_i, all_b, any_b, abs_i, lst_l, int_b, int_i, idx_l, idx_t, sl_l, sl_s, nwD_ints, nwD_true, nwD_nil, lst0, tup0, lst1, tup1, lst2, tup2, lst3, tup3, lst4, tup4, lst5, tup5, lst6, tup6, lst7, tup7, lst8, tup8, lst12, tup12, lst16, tup16, kUni, List.filter_nil, List.filter_cons, Nat.add_zero, neg_i, bin_ii, bin_cat, List.getElem?_cons_zero, List.getElem?_cons_succ, List.map_cons, List.map_nil, List.all_cons, List.all_nil, List.any_cons, List.any_nil, List.set_cons_zero, List.set_cons_succ,     nwOf, D.flat, ints_ok, bls_ok, if_true, if_false, Bool.false_eq_true, Bool.not_true, Bool.not_false, Bool.and_true, Bool.true_and, Bool.or_true, Bool.true_or, Bool.or_false, Bool.false_or, Bool.and_self, Bool.or_self, Bool.and_false, Bool.false_and, r_fair hp1 hf])]
          rw [x_nx (e2 := [some (dI ns, 0, true), some (D.int x, 0, true), some (dFam n ss, 1, true), some (dI cs, 1, true), some (dFam n ss, 3, true), some (dI cs, 1, true), some (dI (fairL ss n.toNat), 1, true), some (dI ((sumsOf ss cs).map fun x => x * x), 2, true), o8, some (.int y, 0, true), o10]) (by
            simp only [runD, List.length_cons, List.length_nil, List.replicate, List.map_cons, List.map_nil, execSs, execS, setT, keep_true, shut_int, shut_bl, shut_non, shut_str, shut_lst, shut_tup, shut_lst0, shut_tup0, shutL_ints, shutL_dI, shutL_nil, shutL_cons, CE.vars, CEs.vars, List.nil_append, List.cons_append, List.append_nil, keep_f, own0, own0n, ownSs, demF, List.contains_cons, List.contains_nil, Nat.reduceBEq, Nat.reduceBNe, bne_self_eq_false, Nat.reduceAdd, beq_self_eq_true, Option.map_some, Option.map_none, List.any_cons, List.any_nil, Bool.or_false, Bool.and_true, Bool.and_false, Bool.or_true, e_var, e_int, e_bl, e_non, e_str, e_gcon, e_bin, e_neg, e_cmp, e_chain, e_and, e_or, e_not, e_ite, e_call, e_blt, e_isi, e_idx, e_sl, e_lst, e_tup, es_nil, es_cons, ec_nil, ec_one, eo_nil, eo_one,     Res.bind_ok, Res.bind_exc, Res.nx_ok, bool_b, okB, opt_i, callV_ok, callV_exc, bltV, len_l, len_t, sum_i, all_b, any_b, abs_i, lst_l, int_b, int_i, idx_l, idx_t, sl_l, sl_s, nwD_ints, nwD_true, nwD_nil, lst0, tup0, lst1, tup1, lst2, tup2, lst3, tup3, lst4, tup4, lst5, tup5, lst6, tup6, lst7, tup7, lst8, tup8, lst12, tup12, lst16, tup16, kUni, List.filter_nil, List.filter_cons, Nat.add_zero, neg_i, bin_ii, bin_cat, List.getElem?_cons_zero, List.getElem?_cons_succ, List.map_cons, List.map_nil, List.all_cons, List.all_nil, List.any_cons, List.any_nil, List.set_cons_zero, List.set_cons_succ,     nwOf, D.flat, ints_ok, bls_ok, if_true, if_false, Bool.false_eq_true, Bool.not_true, Bool.not_false, Bool.and_true, Bool.true_and, Bool.or_true, Bool.true_or, Bool.or_false, Bool.false_or, Bool.and_self, Bool.or_self, Bool.and_false, Bool.false_and, atD0, r_areCol hh1, hfo, r_lfair hh1 f5 (show n ≤ 1000 by omega) (show 0 ≤ n by omega), cmp_ne, py_lst, py_tup, pyAll_ints, pyAll_cons, pyAll_nil, pyAll_dI, py_int, eqD_lst, eqD_tup, eqD_int, eqLs_cons, eqLs_nil, eqLs_ints, eqLs_dI, decide_true])]
          rw [x_nx (by simp only [runD, List.length_cons, List.length_nil, List.replicate, List.map_cons, List.map_nil, execSs, execS, setT, keep_true, shut_int, shut_bl, shut_non, shut_str, shut_lst, shut_tup, shut_lst0, shut_tup0, shutL_ints, shutL_dI, shutL_nil, shutL_cons, CE.vars, CEs.vars, List.nil_append, List.cons_append, List.append_nil, keep_f, own0, own0n, ownSs, demF, List.contains_cons, List.contains_nil, Nat.reduceBEq, Nat.reduceBNe, bne_self_eq_false, Nat.reduceAdd, beq_self_eq_true, Option.map_some, Option.map_none, List.any_cons, List.any_nil, Bool.or_false, Bool.and_true, Bool.and_false, Bool.or_true, e_var, e_int, e_bl, e_non, e_str, e_gcon, e_bin, e_neg, e_cmp, e_chain, e_and, e_or, e_not, e_ite, e_call, e_blt, e_isi, e_idx, e_sl, e_lst, e_tup, es_nil, es_cons, ec_nil, ec_one, eo_nil, eo_one,     Res.bind_ok, Res.bind_exc, Res.nx_ok, bool_b, okB, opt_i, callV_ok, callV_exc, bltV, len_l, len_t, sum_i, all_b, any_b, abs_i, lst_l, int_b, int_i, idx_l, idx_t, sl_l, sl_s, nwD_ints, nwD_true, nwD_nil, lst0, tup0, lst1, tup1, lst2, tup2, lst3, tup3, lst4, tup4, lst5, tup5, lst6, tup6, lst7, tup7, lst8, tup8, lst12, tup12, lst16, tup16, kUni, List.filter_nil, List.filter_cons, Nat.add_zero, neg_i, bin_ii, bin_cat, List.getElem?_cons_zero, List.getElem?_cons_succ, List.map_cons, List.map_nil, List.all_cons, List.all_nil, List.any_cons, List.any_nil, List.set_cons_zero, List.set_cons_succ,     nwOf, D.flat, ints_ok, bls_ok, if_true, if_false, Bool.false_eq_true, Bool.not_true, Bool.not_false, Bool.and_true, Bool.true_and, Bool.or_true, Bool.true_or, Bool.or_false, Bool.false_or, Bool.and_self, Bool.or_self, Bool.and_false, Bool.false_and, pathX]; rw [app_ints (cs := fairL ss n.toNat) (nw := true) (by omega)]; rfl), x_nil]
          exact ⟨_, rfl, _, _, rfl⟩)
    subst g2
    exact ⟨_, _, g1⟩
  obtain ⟨o6', o9', hl2⟩ := hloop (some (.int (totalOf ss cs), 0, true))
  rw [x_nx (by simp only [runD, List.length_cons, List.length_nil, List.replicate, List.map_cons, List.map_nil, execSs, execS, setT, keep_true, shut_int, shut_bl, shut_non, shut_str, shut_lst, shut_tup, shut_lst0, shut_tup0, shutL_ints, shutL_dI, shutL_nil, shutL_cons, CE.vars, CEs.vars, List.nil_append, List.cons_append, List.append_nil, keep_f, own0, own0n, ownSs, demF, List.contains_cons, List.contains_nil, Nat.reduceBEq, Nat.reduceBNe, bne_self_eq_false, Nat.reduceAdd, beq_self_eq_true, Option.map_some, Option.map_none, List.any_cons, List.any_nil, Bool.or_false, Bool.and_true, Bool.and_false, Bool.or_true, e_var, e_int, e_bl, e_non, e_str, e_gcon, e_bin, e_neg, e_cmp, e_chain, e_and, e_or, e_not, e_ite, e_call, e_blt, e_isi, e_idx, e_sl, e_lst, e_tup, es_nil, es_cons, ec_nil, ec_one, eo_nil, eo_one,     Res.bind_ok, Res.bind_exc, Res.nx_ok, bool_b, okB, opt_i, callV_ok, callV_exc, bltV, len_l, len_t, sum_i, all_b, any_b, abs_i, lst_l, int_b, int_i, idx_l, idx_t, sl_l, sl_s, nwD_ints, nwD_true, nwD_nil, lst0, tup0, lst1, tup1, lst2, tup2, lst3, tup3, lst4, tup4, lst5, tup5, lst6, tup6, lst7, tup7, lst8, tup8, lst12, tup12, lst16, tup16, kUni, List.filter_nil, List.filter_cons, Nat.add_zero, neg_i, bin_ii, bin_cat, List.getElem?_cons_zero, List.getElem?_cons_succ, List.map_cons, List.map_nil, List.all_cons, List.all_nil, List.any_cons, List.any_nil, List.set_cons_zero, List.set_cons_succ,     nwOf, D.flat, ints_ok, bls_ok, if_true, if_false, Bool.false_eq_true, Bool.not_true, Bool.not_false, Bool.and_true, Bool.true_and, Bool.or_true, Bool.true_or, Bool.or_false, Bool.false_or, Bool.and_self, Bool.or_self, Bool.and_false, Bool.false_and, itV_range (n := 2) (by decide) (by decide), ownS, hl2]; rfl)]
  have hln : evalE (runP glT 100000 prg 39) glT (.comp (.blt .len (.cons (.var 8) .nil)) (.one 8) .seq (.cons (.idx (.var 2) (.cst (.int 1))) .nil) .nil) [some (dI ns, 0, true), some (.int x, 0, true), some (dFam n ss, 1, true), some (dI cs, 1, true), some (dFam n ss, 3, true), some (dI cs, 1, true), o6', some (dI ((sumsOf ss cs).map fun x => x * x), 2, true), o8, o9', o10] = .ok (dI (ss.map fun s => (s.length : Int)), 1, true) := by
    rw [e_compI ss (fun s => (dI s, 0, true)) (fun s => (s.length : Int)) (it_lists (kk := 0) (by simp only [e_var, e_int, e_bl, e_non, e_str, e_gcon, e_bin, e_neg, e_cmp, e_chain, e_and, e_or, e_not, e_ite, e_call, e_blt, e_isi, e_idx, e_sl, e_lst, e_tup, es_nil, es_cons, ec_nil, ec_one, eo_nil, eo_one,     Res.bind_ok, Res.bind_exc, Res.nx_ok, bool_b, okB, opt_i, callV_ok, callV_exc, bltV, len_l, len_t, sum_i, all_b, any_b, abs_i, lst_l, int_b, int_i, idx_l, idx_t, sl_l, sl_s, nwD_ints, nwD_true, nwD_nil, lst0, tup0, lst1, tup1, lst2, tup2, lst3, tup3, lst4, tup4, lst5, tup5, lst6, tup6, lst7, tup7, lst8, tup8, lst12, tup12, lst16, tup16, kUni, List.filter_nil, List.filter_cons, Nat.add_zero, neg_i, bin_ii, bin_cat, List.getElem?_cons_zero, List.getElem?_cons_succ, List.map_cons, List.map_nil, List.all_cons, List.all_nil, List.any_cons, List.any_nil, List.set_cons_zero, List.set_cons_succ,     nwOf, D.flat, ints_ok, bls_ok, if_true, if_false, Bool.false_eq_true, Bool.not_true, Bool.not_false, Bool.and_true, Bool.true_and, Bool.or_true, Bool.true_or, Bool.or_false, Bool.false_or, Bool.and_self, Bool.or_self, Bool.and_false, Bool.false_and, atD1])) rfl fun s hs => ?_]
    refine ⟨_, 0, true, rfl, ?_⟩
    simp only [e_var, e_int, e_bl, e_non, e_str, e_gcon, e_bin, e_neg, e_cmp, e_chain, e_and, e_or, e_not, e_ite, e_call, e_blt, e_isi, e_idx, e_sl, e_lst, e_tup, es_nil, es_cons, ec_nil, ec_one, eo_nil, eo_one,     Res.bind_ok, Res.bind_exc, Res.nx_ok, bool_b, okB, opt_i, callV_ok, callV_exc, bltV, len_l, len_t, sum_i, all_b, any_b, abs_i, lst_l, int_b, int_i, idx_l, idx_t, sl_l, sl_s, nwD_ints, nwD_true, nwD_nil, lst0, tup0, lst1, tup1, lst2, tup2, lst3, tup3, lst4, tup4, lst5, tup5, lst6, tup6, lst7, tup7, lst8, tup8, lst12, tup12, lst16, tup16, kUni, List.filter_nil, List.filter_cons, Nat.add_zero, neg_i, bin_ii, bin_cat, List.getElem?_cons_zero, List.getElem?_cons_succ, List.map_cons, List.map_nil, List.all_cons, List.all_nil, List.any_cons, List.any_nil, List.set_cons_zero, List.set_cons_succ,     nwOf, D.flat, ints_ok, bls_ok, if_true, if_false, Bool.false_eq_true, Bool.not_true, Bool.not_false, Bool.and_true, Bool.true_and, Bool.or_true, Bool.true_or, Bool.or_false, Bool.false_or, Bool.and_self, Bool.or_self, Bool.and_false, Bool.false_and, List.length_map]
  rw [x_nx (e2 := [some (dI ns, 0, true), some (.int x, 0, true), some (dFam n ss, 1, true), some (dI cs, 1, true), some (dFam n ss, 3, true), some (dI cs, 1, true), o6', some (dI ((sumsOf ss cs).map fun x => x * x), 2, true), o8, o9', some (.int (ss.map fun s => (s.length : Int)).sum, 0, true)]) (by simp only [runD, List.length_cons, List.length_nil, List.replicate, List.map_cons, List.map_nil, execSs, execS, setT, keep_true, shut_int, shut_bl, shut_non, shut_str, shut_lst, shut_tup, shut_lst0, shut_tup0, shutL_ints, shutL_dI, shutL_nil, shutL_cons, CE.vars, CEs.vars, List.nil_append, List.cons_append, List.append_nil, keep_f, own0, own0n, ownSs, demF, List.contains_cons, List.contains_nil, Nat.reduceBEq, Nat.reduceBNe, bne_self_eq_false, Nat.reduceAdd, beq_self_eq_true, Option.map_some, Option.map_none, List.any_cons, List.any_nil, Bool.or_false, Bool.and_true, Bool.and_false, Bool.or_true, e_blt, es_cons, es_nil, hln]; simp only [runD, List.length_cons, List.length_nil, List.replicate, List.map_cons, List.map_nil, execSs, execS, setT, keep_true, shut_int, shut_bl, shut_non, shut_str, shut_lst, shut_tup, shut_lst0, shut_tup0, shutL_ints, shutL_dI, shutL_nil, shutL_cons, CE.vars, CEs.vars, List.nil_append, List.cons_append, List.append_nil, keep_f, own0, own0n, ownSs, demF, List.contains_cons, List.contains_nil, Nat.reduceBEq, Nat.reduceBNe, bne_self_eq_false, Nat.reduceAdd, beq_self_eq_true, Option.map_some, Option.map_none, List.any_cons, List.any_nil, Bool.or_false, Bool.and_true, Bool.and_false, Bool.or_true, e_var, e_int, e_bl, e_non, e_str, e_gcon, e_bin, e_neg, e_cmp, e_chain, e_and, e_or, e_not, e_ite, e_call, e_blt, e_isi, e_idx, e_sl, e_lst, e_tup, es_nil, es_cons, ec_nil, ec_one, eo_nil, eo_one,     Res.bind_ok, Res.bind_exc, Res.nx_ok, bool_b, okB, opt_i, callV_ok, callV_exc, bltV, len_l, len_t, sum_i, all_b, any_b, abs_i, lst_l, int_b, int_i, idx_l, idx_t, sl_l, sl_s, nwD_ints, nwD_true, nwD_nil, lst0, tup0, lst1, tup1, lst2, tup2, lst3, tup3, lst4, tup4, lst5, tup5, lst6, tup6, lst7, tup7, lst8, tup8, lst12, tup12, lst16, tup16, kUni, List.filter_nil, List.filter_cons, Nat.add_zero, neg_i, bin_ii, bin_cat, List.getElem?_cons_zero, List.getElem?_cons_succ, List.map_cons, List.map_nil, List.all_cons, List.all_nil, List.any_cons, List.any_nil, List.set_cons_zero, List.set_cons_succ,     nwOf, D.flat, ints_ok, bls_ok, if_true, if_false, Bool.false_eq_true, Bool.not_true, Bool.not_false, Bool.and_true, Bool.true_and, Bool.or_true, Bool.true_or, Bool.or_false, Bool.false_or, Bool.and_self, Bool.or_self, Bool.and_false, Bool.false_and])]
  have hle := fair_total (show 0 ≤ n by omega) f5
  rw [x_nx (e2 := [some (dI ns, 0, true), some (.int x, 0, true), some (dFam n ss, 1, true), some (dI cs, 1, true), some (dFam n ss, 3, true), some (dI cs, 1, true), o6', some (dI ((sumsOf ss cs).map fun x => x * x), 2, true), o8, o9', some (.int (ss.map fun s => (s.length : Int)).sum, 0, true)]) (by
    simp only [runD, List.length_cons, List.length_nil, List.replicate, List.map_cons, List.map_nil, execSs, execS, setT, keep_true, shut_int, shut_bl, shut_non, shut_str, shut_lst, shut_tup, shut_lst0, shut_tup0, shutL_ints, shutL_dI, shutL_nil, shutL_cons, CE.vars, CEs.vars, List.nil_append, List.cons_append, List.append_nil, keep_f, own0, own0n, ownSs, demF, List.contains_cons, List.contains_nil, Nat.reduceBEq, Nat.reduceBNe, bne_self_eq_false, Nat.reduceAdd, beq_self_eq_true, Option.map_some, Option.map_none, List.any_cons, List.any_nil, Bool.or_false, Bool.and_true, Bool.and_false, Bool.or_true, e_var, e_int, e_bl, e_non, e_str, e_gcon, e_bin, e_neg, e_cmp, e_chain, e_and, e_or, e_not, e_ite, e_call, e_blt, e_isi, e_idx, e_sl, e_lst, e_tup, es_nil, es_cons, ec_nil, ec_one, eo_nil, eo_one,     Res.bind_ok, Res.bind_exc, Res.nx_ok, bool_b, okB, opt_i, callV_ok, callV_exc, bltV, len_l, len_t, sum_i, all_b, any_b, abs_i, lst_l, int_b, int_i, idx_l, idx_t, sl_l, sl_s, nwD_ints, nwD_true, nwD_nil, lst0, tup0, lst1, tup1, lst2, tup2, lst3, tup3, lst4, tup4, lst5, tup5, lst6, tup6, lst7, tup7, lst8, tup8, lst12, tup12, lst16, tup16, kUni, List.filter_nil, List.filter_cons, Nat.add_zero, neg_i, bin_ii, bin_cat, List.getElem?_cons_zero, List.getElem?_cons_succ, List.map_cons, List.map_nil, List.all_cons, List.all_nil, List.any_cons, List.any_nil, List.set_cons_zero, List.set_cons_succ,     nwOf, D.flat, ints_ok, bls_ok, if_true, if_false, Bool.false_eq_true, Bool.not_true, Bool.not_false, Bool.and_true, Bool.true_and, Bool.or_true, Bool.true_or, Bool.or_false, Bool.false_or, Bool.and_self, Bool.or_self, Bool.and_false, Bool.false_and, r_fair hp1 hf, r_total hp1 hf hfo, cmp_gt, show decide ((ss.map fun s => (s.length : Int)).sum < totalOf ss (fairL ss n.toNat)) = false by simpa using hle, cmp_ne, py_lst, pyAll_ints, eqD_lst, eqLs_ints, decide_true]), x_nil]
  exact ⟨_, _, _, _, _, _, _, _, _, _, rfl⟩
theorem law_true : ∀ ns : List Int, ns.length ≤ 63 → ∃ kk nw, runP glT 100000 prg 40 "law" [.scr ns] = .ok (.bl true, kk, nw) := by
  intro ns hns
  rw [runP_eq (show prg.lookup ("law" : Str) = some f_law by kernel_rfl) rfl]
  have hmax : 0 ≤ (if (ns.length : Int) > 1 then (ns.length : Int) else 1) ∧ (if (ns.length : Int) > 1 then (ns.length : Int) else 1) ≤ 1000000 := by
    split <;> omega
  have hdv : 0 < 1 + (ns.length : Int) / 4 ∧ 1 + (ns.length : Int) / 4 ≤ 1000000 := by omega
  refine ⟨0, true, rd_rt ?_⟩
  show execSs _ _ _ f_law.body [some (.scr ns, 0, false), none, none, none, none, none, none, none, none, none, none] = _
  unfold f_law
  rw [x_nx (e2 := [some (dI ns, 1, true), none, none, none, none, none, none, none, none, none, none]) (by simp only [runD, List.length_cons, List.length_nil, List.replicate, List.map_cons, List.map_nil, execSs, execS, setT, keep_true, shut_int, shut_bl, shut_non, shut_str, shut_lst, shut_tup, shut_lst0, shut_tup0, shutL_ints, shutL_dI, shutL_nil, shutL_cons, CE.vars, CEs.vars, List.nil_append, List.cons_append, List.append_nil, keep_f, own0, own0n, ownSs, demF, List.contains_cons, List.contains_nil, Nat.reduceBEq, Nat.reduceBNe, bne_self_eq_false, Nat.reduceAdd, beq_self_eq_true, Option.map_some, Option.map_none, List.any_cons, List.any_nil, Bool.or_false, Bool.and_true, Bool.and_false, Bool.or_true, e_var, e_int, e_bl, e_non, e_str, e_gcon, e_bin, e_neg, e_cmp, e_chain, e_and, e_or, e_not, e_ite, e_call, e_blt, e_isi, e_idx, e_sl, e_lst, e_tup, es_nil, es_cons, ec_nil, ec_one, eo_nil, eo_one,     Res.bind_ok, Res.bind_exc, Res.nx_ok, bool_b, okB, opt_i, callV_ok, callV_exc, bltV, len_l, len_t, sum_i, all_b, any_b, abs_i, lst_l, int_b, int_i, idx_l, idx_t, sl_l, sl_s, nwD_ints, nwD_true, nwD_nil, lst0, tup0, lst1, tup1, lst2, tup2, lst3, tup3, lst4, tup4, lst5, tup5, lst6, tup6, lst7, tup7, lst8, tup8, lst12, tup12, lst16, tup16, kUni, List.filter_nil, List.filter_cons, Nat.add_zero, neg_i, bin_ii, bin_cat, List.getElem?_cons_zero, List.getElem?_cons_succ, List.map_cons, List.map_nil, List.all_cons, List.all_nil, List.any_cons, List.any_nil, List.set_cons_zero, List.set_cons_succ,     nwOf, D.flat, ints_ok, bls_ok, if_true, if_false, Bool.false_eq_true, Bool.not_true, Bool.not_false, Bool.and_true, Bool.true_and, Bool.or_true, Bool.true_or, Bool.or_false, Bool.false_or, Bool.and_self, Bool.or_self, Bool.and_false, Bool.false_and, cut63 ns hns, show ns.length ≤ LIM from Nat.le_trans hns (by decide)])]
  generalize hits : ((List.range (Builtin.Range.rangeSize 0 (if (ns.length : Int) > 1 then (ns.length : Int) else 1) (1 + (ns.length : Int) / 4)).toNat).map fun (i : Nat) => (0 : Int) + (i : Int) * (1 + (ns.length : Int) / 4)) = its
  have hpos : ∀ i ∈ its, 0 ≤ i := by
    rw [← hits]
    intro i hi
    obtain ⟨j, _, rfl⟩ := List.mem_map.mp hi
    have : 0 ≤ (j : Int) * (1 + (ns.length : Int) / 4) := Int.mul_nonneg (by omega) (by omega)
    omega
  obtain ⟨e', h1, o1, o2, o3, o4, o5, o6, o7, o8, o9, o10, h2⟩ := forL_inv (body := execSs (runP glT 100000 prg 39) glT 100000 l_law_1) (t := .one 1) (fun i : Int => ((.int i, 0, true) : Val))
    (fun _ e => ∃ o1 o2 o3 o4 o5 o6 o7 o8 o9 o10 : Option Val, e = [some (dI ns, 0, true), o1, o2, o3, o4, o5, o6, o7, o8, o9, o10]) its 0
    [some (dI ns, 0, true), none, none, none, none, none, none, none, none, none, none] ⟨none, none, none, none, none, none, none, none, none, none, rfl⟩ (fun j x e hj hI => by
      obtain ⟨o1, o2, o3, o4, o5, o6, o7, o8, o9, o10, rfl⟩ := hI
      have hx : 0 ≤ x := hpos x (List.mem_of_getElem? hj)
      obtain ⟨a1, a2, a3, a4, a5, a6, a7, a8, a9, a10, ha⟩ := law_body (ns := ns) hx (o1 := o1) (o2 := o2) (o3 := o3) (o4 := o4) (o5 := o5) (o6 := o6) (o7 := o7) (o8 := o8) (o9 := o9) (o10 := o10)
      exact ⟨_, rfl, _, ha, _, _, _, _, _, _, _, _, _, _, rfl⟩)
  subst h2
  rw [x_nx (by
    simp only [runD, List.length_cons, List.length_nil, List.replicate, List.map_cons, List.map_nil, execSs, execS, setT, keep_true, shut_int, shut_bl, shut_non, shut_str, shut_lst, shut_tup, shut_lst0, shut_tup0, shutL_ints, shutL_dI, shutL_nil, shutL_cons, CE.vars, CEs.vars, List.nil_append, List.cons_append, List.append_nil, keep_f, own0, own0n, ownSs, demF, List.contains_cons, List.contains_nil, Nat.reduceBEq, Nat.reduceBNe, bne_self_eq_false, Nat.reduceAdd, beq_self_eq_true, Option.map_some, Option.map_none, List.any_cons, List.any_nil, Bool.or_false, Bool.and_true, Bool.and_false, Bool.or_true, e_var, e_int, e_bl, e_non, e_str, e_gcon, e_bin, e_neg, e_cmp, e_chain, e_and, e_or, e_not, e_ite, e_call, e_blt, e_isi, e_idx, e_sl, e_lst, e_tup, es_nil, es_cons, ec_nil, ec_one, eo_nil, eo_one,     Res.bind_ok, Res.bind_exc, Res.nx_ok, bool_b, okB, opt_i, callV_ok, callV_exc, bltV, len_l, len_t, sum_i, all_b, any_b, abs_i, lst_l, int_b, int_i, idx_l, idx_t, sl_l, sl_s, nwD_ints, nwD_true, nwD_nil, lst0, tup0, lst1, tup1, lst2, tup2, lst3, tup3, lst4, tup4, lst5, tup5, lst6, tup6, lst7, tup7, lst8, tup8, lst12, tup12, lst16, tup16, kUni, List.filter_nil, List.filter_cons, Nat.add_zero, neg_i, bin_ii, bin_cat, List.getElem?_cons_zero, List.getElem?_cons_succ, List.map_cons, List.map_nil, List.all_cons, List.all_nil, List.any_cons, List.any_nil, List.set_cons_zero, List.set_cons_succ,     nwOf, D.flat, ints_ok, bls_ok, if_true, if_false, Bool.false_eq_true, Bool.not_true, Bool.not_false, Bool.and_true, Bool.true_and, Bool.or_true, Bool.true_or, Bool.or_false, Bool.false_or, Bool.and_self, Bool.or_self, Bool.and_false, Bool.false_and, List.length_map, max_ii, div_ok (i := (ns.length : Int)) (j := 4) (b := 20) (by decide) (by decide) (by decide), add_ok, itV_step (a := 0) (by decide) (by decide) hmax.1 hmax.2 hdv.1 hdv.2, hits, ownS]
    exact h1)]
  have a1 := r_fair (fu := 100000) hp1 (k := 35) (n := 3) (ss := [[0, 1, 2], [1, 2]]) (by decide)
  have a2 := r_total (fu := 100000) hp1 (k := 35) (n := 2) (ss := [[0, 1], [0]]) (cs := [1, 1]) (by decide) (by decide)
  rw [show fairL [[0, 1, 2], [1, 2]] (3 : Int).toNat = [1, -1, 1] by decide] at a1
  rw [show totalOf [[0, 1], [0]] [1, 1] = 5 by decide] at a2
  simp only [dFam, dLL, dI, List.map_cons, List.map_nil] at a1 a2
  rw [x_rt (by simp only [runD, List.length_cons, List.length_nil, List.replicate, List.map_cons, List.map_nil, execSs, execS, setT, keep_true, shut_int, shut_bl, shut_non, shut_str, shut_lst, shut_tup, shut_lst0, shut_tup0, shutL_ints, shutL_dI, shutL_nil, shutL_cons, CE.vars, CEs.vars, List.nil_append, List.cons_append, List.append_nil, keep_f, own0, own0n, ownSs, demF, List.contains_cons, List.contains_nil, Nat.reduceBEq, Nat.reduceBNe, bne_self_eq_false, Nat.reduceAdd, beq_self_eq_true, Option.map_some, Option.map_none, List.any_cons, List.any_nil, Bool.or_false, Bool.and_true, Bool.and_false, Bool.or_true, e_var, e_int, e_bl, e_non, e_str, e_gcon, e_bin, e_neg, e_cmp, e_chain, e_and, e_or, e_not, e_ite, e_call, e_blt, e_isi, e_idx, e_sl, e_lst, e_tup, es_nil, es_cons, ec_nil, ec_one, eo_nil, eo_one,     Res.bind_ok, Res.bind_exc, Res.nx_ok, bool_b, okB, opt_i, callV_ok, callV_exc, bltV, len_l, len_t, sum_i, all_b, any_b, abs_i, lst_l, int_b, int_i, idx_l, idx_t, sl_l, sl_s, nwD_ints, nwD_true, nwD_nil, lst0, tup0, lst1, tup1, lst2, tup2, lst3, tup3, lst4, tup4, lst5, tup5, lst6, tup6, lst7, tup7, lst8, tup8, lst12, tup12, lst16, tup16, kUni, List.filter_nil, List.filter_cons, Nat.add_zero, neg_i, bin_ii, bin_cat, List.getElem?_cons_zero, List.getElem?_cons_succ, List.map_cons, List.map_nil, List.all_cons, List.all_nil, List.any_cons, List.any_nil, List.set_cons_zero, List.set_cons_succ,     nwOf, D.flat, ints_ok, bls_ok, if_true, if_false, Bool.false_eq_true, Bool.not_true, Bool.not_false, Bool.and_true, Bool.true_and, Bool.or_true, Bool.true_or, Bool.or_false, Bool.false_or, Bool.and_self, Bool.or_self, Bool.and_false, Bool.false_and, a1, a2, cmp_eq, py_lst, pyAll_cons, pyAll_nil, py_int, eqD_lst, eqD_int, eqLs_cons, eqLs_nil, decide_true]; rfl)]
end TT

set_option Elab.async false
set_option linter.all false
set_option maxRecDepth 100000
set_option maxHeartbeats 4000000
namespace TT
open PySem L2 PySem.Spec PyProof.Rows
def topS (i : Nat) : Stmt := PySem.Challenge.pw_twotints_k08_whole_totals.main.body.getD i (.Pass ⟨0, 0, 0, 0⟩)
def e_is_whole : Ent := ⟨"is_whole", topS 7, ["thing"], ["thing"], f_is_whole⟩
def e_are_places : Ent := ⟨"are_places", topS 8, ["thing", "many", "place", "one", "other"], ["thing", "many"], f_are_places⟩
def e_check_family : Ent := ⟨"check_family", topS 9, ["family", "most", "sets", "one"], ["family", "most"], f_check_family⟩
def e_check_colours : Ent := ⟨"check_colours", topS 10, ["family", "colours", "colour"], ["family", "colours"], f_check_colours⟩
def e_sums_of : Ent := ⟨"sums_of", topS 11, ["family", "row", "one", "place"], ["family", "row"], f_sums_of⟩
def e_total_of : Ent := ⟨"total_of", topS 13, ["family", "colours", "one"], ["family", "colours"], f_total_of⟩
def e_total : Ent := ⟨"total", topS 15, ["family", "colours"], ["family", "colours"], f_total⟩
def e_fair : Ent := ⟨"fair", topS 16, ["family", "found", "so_far", "place", "mine", "at", "one", "colour"], ["family"], f_fair⟩
def e_law_cell_at : Ent := ⟨"_law_cell_at", topS 18, ["_law_script", "_law_k"], ["_law_script", "_law_k"], f_law_cell_at⟩
def e_law_draw : Ent := ⟨"_law_draw", topS 19, ["_law_cell", "_law_k", "_law_many", "_law_primes"], ["_law_cell", "_law_k", "_law_many"], f_law_draw⟩
def e_law_value : Ent := ⟨"_law_value", topS 20, ["_law_cell", "_law_turn", "_law_rest", "_law_mixed"], ["_law_cell", "_law_turn"], f_law_value⟩
def e_law_whole : Ent := ⟨"_law_whole", topS 21, ["_law_number"], ["_law_number"], f_law_whole⟩
def e_law_family : Ent := ⟨"_law_family", topS 22, ["_law_script", "_law_by", "_law_most", "_law_sets", "_law_cell", "_law_many", "_law_kind", "_law_found", "_law_at", "_law_number", "_law_one", "_law_place"], ["_law_script", "_law_by", "_law_most", "_law_sets"], f_law_family⟩
def e_law_copy : Ent := ⟨"_law_copy", topS 23, ["_law_family_here", "_law_one"], ["_law_family_here"], f_law_copy_k01⟩
def e_law_colours : Ent := ⟨"_law_colours", topS 24, ["_law_script", "_law_by", "_law_many", "_law_found", "_law_at", "_law_number"], ["_law_script", "_law_by", "_law_many"], f_law_colours⟩
def e_law_sums : Ent := ⟨"_law_sums", topS 25, ["_law_family_here", "_law_row", "_law_one", "_law_place"], ["_law_family_here", "_law_row"], f_law_sums⟩
def e_law_are_colours : Ent := ⟨"_law_are_colours", topS 26, ["_law_found", "_law_many", "_law_one"], ["_law_found", "_law_many"], f_law_are_colours⟩
def e_law_fair : Ent := ⟨"_law_fair", topS 27, ["_law_family_here", "_law_colours_here", "_law_place", "_law_tried", "_law_colour", "_law_told", "_law_cost", "_law_one", "_law_here", "_law_spot"], ["_law_family_here"], f_law_fair⟩
def e_law : Ent := ⟨"law", topS 28, ["_law_script", "_law_by", "_law_family_here", "_law_colours_here", "_law_handed", "_law_mine", "_law_found", "_law_squares", "_law_one", "_law_again", "_law_sizes"], ["_law_script"], f_law⟩
def tab : List Ent := e_is_whole :: e_are_places :: e_check_family :: e_check_colours :: e_sums_of :: e_total_of :: e_total :: e_fair :: e_law_cell_at :: e_law_draw :: e_law_value :: e_law_whole :: e_law_family :: e_law_copy :: e_law_colours :: e_law_sums :: e_law_are_colours :: e_law_fair :: e_law :: []
def tabC : List Str := ["MOST", "MOST_SETS"]
def tabX : List Str := ["BadFamily", "BadColours"]
theorem ok_is_whole : EntOk 60 (fnsOf tab) tabC tabX e_is_whole := ⟨⟨rfl, rfl, rfl, by decide +kernel, rfl, by decide +kernel, by decide +kernel⟩, by kernel_rfl, rfl, rfl, fun _ _ _ _ _ _ _ _ us hl => match us, hl with | [_], _ => rfl⟩
theorem ok_are_places : EntOk 60 (fnsOf tab) tabC tabX e_are_places := ⟨⟨rfl, rfl, rfl, by decide +kernel, rfl, by decide +kernel, by decide +kernel⟩, by kernel_rfl, rfl, rfl, fun _ _ _ _ _ _ _ _ us hl => match us, hl with | [_, _], _ => rfl⟩
theorem ok_check_family : EntOk 60 (fnsOf tab) tabC tabX e_check_family := ⟨⟨rfl, rfl, rfl, by decide +kernel, rfl, by decide +kernel, by decide +kernel⟩, by kernel_rfl, rfl, rfl, fun _ _ _ _ _ _ _ _ us hl => match us, hl with | [_, _], _ => rfl⟩
theorem ok_check_colours : EntOk 60 (fnsOf tab) tabC tabX e_check_colours := ⟨⟨rfl, rfl, rfl, by decide +kernel, rfl, by decide +kernel, by decide +kernel⟩, by kernel_rfl, rfl, rfl, fun _ _ _ _ _ _ _ _ us hl => match us, hl with | [_, _], _ => rfl⟩
theorem ok_sums_of : EntOk 60 (fnsOf tab) tabC tabX e_sums_of := ⟨⟨rfl, rfl, rfl, by decide +kernel, rfl, by decide +kernel, by decide +kernel⟩, by kernel_rfl, rfl, rfl, fun _ _ _ _ _ _ _ _ us hl => match us, hl with | [_, _], _ => rfl⟩
theorem ok_total_of : EntOk 60 (fnsOf tab) tabC tabX e_total_of := ⟨⟨rfl, rfl, rfl, by decide +kernel, rfl, by decide +kernel, by decide +kernel⟩, by kernel_rfl, rfl, rfl, fun _ _ _ _ _ _ _ _ us hl => match us, hl with | [_, _], _ => rfl⟩
theorem ok_total : EntOk 60 (fnsOf tab) tabC tabX e_total := ⟨⟨rfl, rfl, rfl, by decide +kernel, rfl, by decide +kernel, by decide +kernel⟩, by kernel_rfl, rfl, rfl, fun _ _ _ _ _ _ _ _ us hl => match us, hl with | [_, _], _ => rfl⟩
theorem ok_fair : EntOk 60 (fnsOf tab) tabC tabX e_fair := ⟨⟨rfl, rfl, rfl, by decide +kernel, rfl, by decide +kernel, by decide +kernel⟩, by kernel_rfl, rfl, rfl, fun _ _ _ _ _ _ _ _ us hl => match us, hl with | [_], _ => rfl⟩
theorem ok_law_cell_at : EntOk 60 (fnsOf tab) tabC tabX e_law_cell_at := ⟨⟨rfl, rfl, rfl, by decide +kernel, rfl, by decide +kernel, by decide +kernel⟩, by kernel_rfl, rfl, rfl, fun _ _ _ _ _ _ _ _ us hl => match us, hl with | [_, _], _ => rfl⟩
theorem ok_law_draw : EntOk 60 (fnsOf tab) tabC tabX e_law_draw := ⟨⟨rfl, rfl, rfl, by decide +kernel, rfl, by decide +kernel, by decide +kernel⟩, by kernel_rfl, rfl, rfl, fun _ _ _ _ _ _ _ _ us hl => match us, hl with | [_, _, _], _ => rfl⟩
theorem ok_law_value : EntOk 60 (fnsOf tab) tabC tabX e_law_value := ⟨⟨rfl, rfl, rfl, by decide +kernel, rfl, by decide +kernel, by decide +kernel⟩, by kernel_rfl, rfl, rfl, fun _ _ _ _ _ _ _ _ us hl => match us, hl with | [_, _], _ => rfl⟩
theorem ok_law_whole : EntOk 60 (fnsOf tab) tabC tabX e_law_whole := ⟨⟨rfl, rfl, rfl, by decide +kernel, rfl, by decide +kernel, by decide +kernel⟩, by kernel_rfl, rfl, rfl, fun _ _ _ _ _ _ _ _ us hl => match us, hl with | [_], _ => rfl⟩
theorem ok_law_family : EntOk 60 (fnsOf tab) tabC tabX e_law_family := ⟨⟨rfl, rfl, rfl, by decide +kernel, rfl, by decide +kernel, by decide +kernel⟩, by kernel_rfl, rfl, rfl, fun _ _ _ _ _ _ _ _ us hl => match us, hl with | [_, _, _, _], _ => rfl⟩
theorem ok_law_copy : EntOk 60 (fnsOf tab) tabC tabX e_law_copy := ⟨⟨rfl, rfl, rfl, by decide +kernel, rfl, by decide +kernel, by decide +kernel⟩, by kernel_rfl, rfl, rfl, fun _ _ _ _ _ _ _ _ us hl => match us, hl with | [_], _ => rfl⟩
theorem ok_law_colours : EntOk 60 (fnsOf tab) tabC tabX e_law_colours := ⟨⟨rfl, rfl, rfl, by decide +kernel, rfl, by decide +kernel, by decide +kernel⟩, by kernel_rfl, rfl, rfl, fun _ _ _ _ _ _ _ _ us hl => match us, hl with | [_, _, _], _ => rfl⟩
theorem ok_law_sums : EntOk 60 (fnsOf tab) tabC tabX e_law_sums := ⟨⟨rfl, rfl, rfl, by decide +kernel, rfl, by decide +kernel, by decide +kernel⟩, by kernel_rfl, rfl, rfl, fun _ _ _ _ _ _ _ _ us hl => match us, hl with | [_, _], _ => rfl⟩
theorem ok_law_are_colours : EntOk 60 (fnsOf tab) tabC tabX e_law_are_colours := ⟨⟨rfl, rfl, rfl, by decide +kernel, rfl, by decide +kernel, by decide +kernel⟩, by kernel_rfl, rfl, rfl, fun _ _ _ _ _ _ _ _ us hl => match us, hl with | [_, _], _ => rfl⟩
theorem ok_law_fair : EntOk 60 (fnsOf tab) tabC tabX e_law_fair := ⟨⟨rfl, rfl, rfl, by decide +kernel, rfl, by decide +kernel, by decide +kernel⟩, by kernel_rfl, rfl, rfl, fun _ _ _ _ _ _ _ _ us hl => match us, hl with | [_], _ => rfl⟩
theorem ok_law : EntOk 60 (fnsOf tab) tabC tabX e_law := ⟨⟨rfl, rfl, rfl, by decide +kernel, rfl, by decide +kernel, by decide +kernel⟩, by kernel_rfl, rfl, rfl, fun _ _ _ _ _ _ _ _ us hl => match us, hl with | [_], _ => rfl⟩
theorem tab_ok : ∀ e ∈ tab, EntOk 60 (fnsOf tab) tabC tabX e := by
  intro e he
  unfold tab at he
  simp only [List.mem_cons, List.not_mem_nil, or_false] at he
  rcases he with rfl | rfl | rfl | rfl | rfl | rfl | rfl | rfl | rfl | rfl | rfl | rfl | rfl | rfl | rfl | rfl | rfl | rfl | rfl
  · exact ok_is_whole
  · exact ok_are_places
  · exact ok_check_family
  · exact ok_check_colours
  · exact ok_sums_of
  · exact ok_total_of
  · exact ok_total
  · exact ok_fair
  · exact ok_law_cell_at
  · exact ok_law_draw
  · exact ok_law_value
  · exact ok_law_whole
  · exact ok_law_family
  · exact ok_law_copy
  · exact ok_law_colours
  · exact ok_law_sums
  · exact ok_law_are_colours
  · exact ok_law_fair
  · exact ok_law
theorem tab_prg : ∀ e ∈ tab, prg.lookup e.x = some e.fd := by
  intro e he
  unfold tab at he
  simp only [List.mem_cons, List.not_mem_nil, or_false] at he
  rcases he with rfl | rfl | rfl | rfl | rfl | rfl | rfl | rfl | rfl | rfl | rfl | rfl | rfl | rfl | rfl | rfl | rfl | rfl | rfl
  · kernel_rfl
  · kernel_rfl
  · kernel_rfl
  · kernel_rfl
  · kernel_rfl
  · kernel_rfl
  · kernel_rfl
  · kernel_rfl
  · kernel_rfl
  · kernel_rfl
  · kernel_rfl
  · kernel_rfl
  · kernel_rfl
  · kernel_rfl
  · kernel_rfl
  · kernel_rfl
  · kernel_rfl
  · kernel_rfl
  · kernel_rfl
end TT
open PySem PySem.W PyProof.Rows
set_option maxRecDepth 100000 in
set_option maxHeartbeats 0 in
theorem PySem.Challenge.cw_twotints_k08_whole_totals_holds : PySem.Challenge.rw_twotints_k08_whole_totals.Holds := by
  w_on; o_law; k_head; (case hw => w_witness2)
  k_fill
  refine L2.walk_of (l := PySem.Challenge.rw_twotints_k08_whole_totals) (n := 63) (k := 40) (x := "_law_script") (CX := fun w => L2.CX PySem.Challenge.rw_twotints_k08_whole_totals.prog w) (sp := fun w => TT.spL _ 63) rfl (by decide) rfl ⟨rfl, by decide, by decide⟩ (fun w h Y => PySem.W.kIn_of Y) ?F (fun _ _ a ns hl _ hS => ⟨a, ns, rfl, hS, hl, fun _ => rfl⟩) (fun _ _ _ _ _ h => TT.cx_no h)
  case F =>
    intro w mg fa h KX G hmg
    have d_is_whole : TT.DynOk (L2.KOf KX) mg TT.e_is_whole := by
      refine' TT.dyn_mk KX G ?a ?l ?c ?k
      (case a => k_is); (case l => k_is); (case c => k_is); (case k => k_is)
    have d_are_places : TT.DynOk (L2.KOf KX) mg TT.e_are_places := by
      refine' TT.dyn_mk KX G ?a ?l ?c ?k
      (case a => k_is); (case l => k_is); (case c => k_is); (case k => k_is)
    have d_check_family : TT.DynOk (L2.KOf KX) mg TT.e_check_family := by
      refine' TT.dyn_mk KX G ?a ?l ?c ?k
      (case a => k_is); (case l => k_is); (case c => k_is); (case k => k_is)
    have d_check_colours : TT.DynOk (L2.KOf KX) mg TT.e_check_colours := by
      refine' TT.dyn_mk KX G ?a ?l ?c ?k
      (case a => k_is); (case l => k_is); (case c => k_is); (case k => k_is)
    have d_sums_of : TT.DynOk (L2.KOf KX) mg TT.e_sums_of := by
      refine' TT.dyn_mk KX G ?a ?l ?c ?k
      (case a => k_is); (case l => k_is); (case c => k_is); (case k => k_is)
    have d_total_of : TT.DynOk (L2.KOf KX) mg TT.e_total_of := by
      refine' TT.dyn_mk KX G ?a ?l ?c ?k
      (case a => k_is); (case l => k_is); (case c => k_is); (case k => k_is)
    have d_total : TT.DynOk (L2.KOf KX) mg TT.e_total := by
      refine' TT.dyn_mk KX G ?a ?l ?c ?k
      (case a => k_is); (case l => k_is); (case c => k_is); (case k => k_is)
    have d_fair : TT.DynOk (L2.KOf KX) mg TT.e_fair := by
      refine' TT.dyn_mk KX G ?a ?l ?c ?k
      (case a => k_is); (case l => k_is); (case c => k_is); (case k => k_is)
    have d_law_cell_at : TT.DynOk (L2.KOf KX) mg TT.e_law_cell_at := by
      refine' TT.dyn_mk KX G ?a ?l ?c ?k
      (case a => k_is); (case l => k_is); (case c => k_is); (case k => k_is)
    have d_law_draw : TT.DynOk (L2.KOf KX) mg TT.e_law_draw := by
      refine' TT.dyn_mk KX G ?a ?l ?c ?k
      (case a => k_is); (case l => k_is); (case c => k_is); (case k => k_is)
    have d_law_value : TT.DynOk (L2.KOf KX) mg TT.e_law_value := by
      refine' TT.dyn_mk KX G ?a ?l ?c ?k
      (case a => k_is); (case l => k_is); (case c => k_is); (case k => k_is)
    have d_law_whole : TT.DynOk (L2.KOf KX) mg TT.e_law_whole := by
      refine' TT.dyn_mk KX G ?a ?l ?c ?k
      (case a => k_is); (case l => k_is); (case c => k_is); (case k => k_is)
    have d_law_family : TT.DynOk (L2.KOf KX) mg TT.e_law_family := by
      refine' TT.dyn_mk KX G ?a ?l ?c ?k
      (case a => k_is); (case l => k_is); (case c => k_is); (case k => k_is)
    have d_law_copy : TT.DynOk (L2.KOf KX) mg TT.e_law_copy := by
      refine' TT.dyn_mk KX G ?a ?l ?c ?k
      (case a => k_is); (case l => k_is); (case c => k_is); (case k => k_is)
    have d_law_colours : TT.DynOk (L2.KOf KX) mg TT.e_law_colours := by
      refine' TT.dyn_mk KX G ?a ?l ?c ?k
      (case a => k_is); (case l => k_is); (case c => k_is); (case k => k_is)
    have d_law_sums : TT.DynOk (L2.KOf KX) mg TT.e_law_sums := by
      refine' TT.dyn_mk KX G ?a ?l ?c ?k
      (case a => k_is); (case l => k_is); (case c => k_is); (case k => k_is)
    have d_law_are_colours : TT.DynOk (L2.KOf KX) mg TT.e_law_are_colours := by
      refine' TT.dyn_mk KX G ?a ?l ?c ?k
      (case a => k_is); (case l => k_is); (case c => k_is); (case k => k_is)
    have d_law_fair : TT.DynOk (L2.KOf KX) mg TT.e_law_fair := by
      refine' TT.dyn_mk KX G ?a ?l ?c ?k
      (case a => k_is); (case l => k_is); (case c => k_is); (case k => k_is)
    have d_law : TT.DynOk (L2.KOf KX) mg TT.e_law := by
      refine' TT.dyn_mk KX G ?a ?l ?c ?k
      (case a => k_is); (case l => k_is); (case c => k_is); (case k => k_is)
    have x_BadFamily : TT.ExcOk (L2.KOf KX) mg "BadFamily" := by
      refine' TT.exc_mk KX G ?a ?e ?k ?s ?t
      (case a => k_is); (case e => k_exc); (case k => k_is); (case s => k_is); (case t => k_is)
    have x_BadColours : TT.ExcOk (L2.KOf KX) mg "BadColours" := by
      refine' TT.exc_mk KX G ?a ?e ?k ?s ?t
      (case a => k_is); (case e => k_exc); (case k => k_is); (case s => k_is); (case t => k_is)
    have c_MOST : ∃ t, mg "MOST" = some (.int 20 t) := by
      refine' TT.con_mk KX G ?a
      (case a => k_is)
    have c_MOST_SETS : ∃ t, mg "MOST_SETS" = some (.int 12 t) := by
      refine' TT.con_mk KX G ?a
      (case a => k_is)
    have hb : ∀ x ∈ TT.bltNames, mg x = none := by
      intro x hx
      unfold TT.bltNames at hx
      simp only [List.mem_cons, List.not_mem_nil, or_false] at hx
      rcases hx with rfl | rfl | rfl | rfl | rfl | rfl | rfl | rfl | rfl | rfl | rfl | rfl | rfl | rfl | rfl | rfl | rfl | rfl <;> exact PySem.W.mg_none_of KX G (by k_is)
    exact TT.end_ok (T := TT.tab) (e := TT.e_law) (gl := TT.glT) (fu := 100000) (p := TT.prg) KX G hmg TT.tab_ok (by
      intro e he
      unfold TT.tab at he
      simp only [List.mem_cons, List.not_mem_nil, or_false] at he
      rcases he with rfl | rfl | rfl | rfl | rfl | rfl | rfl | rfl | rfl | rfl | rfl | rfl | rfl | rfl | rfl | rfl | rfl | rfl | rfl
      · exact d_is_whole
      · exact d_are_places
      · exact d_check_family
      · exact d_check_colours
      · exact d_sums_of
      · exact d_total_of
      · exact d_total
      · exact d_fair
      · exact d_law_cell_at
      · exact d_law_draw
      · exact d_law_value
      · exact d_law_whole
      · exact d_law_family
      · exact d_law_copy
      · exact d_law_colours
      · exact d_law_sums
      · exact d_law_are_colours
      · exact d_law_fair
      · exact d_law
      ) hb (by
      intro x hx
      unfold TT.tabC at hx
      simp only [List.mem_cons, List.not_mem_nil, or_false] at hx
      rcases hx with rfl | rfl
      · obtain ⟨t, e⟩ := c_MOST; exact ⟨_, .int 20, .int 20, e, ⟨t, rfl⟩, fun _ => .int _, by kernel_rfl⟩
      · obtain ⟨t, e⟩ := c_MOST_SETS; exact ⟨_, .int 12, .int 12, e, ⟨t, rfl⟩, fun _ => .int _, by kernel_rfl⟩
      ) (by
      intro x hx
      unfold TT.tabX at hx
      simp only [List.mem_cons, List.not_mem_nil, or_false] at hx
      rcases hx with rfl | rfl
      · exact x_BadFamily
      · exact x_BadColours
      ) TT.tab_prg (by unfold TT.tab; simp) rfl rfl rfl 63 TT.law_true
