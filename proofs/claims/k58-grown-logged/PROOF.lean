import PyProof.Rows.All
import Wide.All
import OpenK.AllK
import Wide.FinOn
import KE.KStateDown
import HandS.ForMost
import HandS.Wide
import HandS.TupAny
import HandS.IsInst
import HandS.DictTup
import HandS.Conv
import HandS.SortKw
import KE.KDictPairs
import KE.KDictCopyH
import KE.SortKeyHeap
import KE.KDictSum
import KE.KSortKey
import HandS.TupLe
import HandS.HeadEnd
import PySem.Challenge.RW_swaprest_k58_grown_and_logged_sums
import Flt.Len
set_option Elab.async false
set_option linter.all false
set_option maxRecDepth 100000
set_option autoImplicit false
set_option exponentiation.threshold 300
/-! the value layer: data, slots, heaps -/
namespace Sw
open PySem PySem.Spec PyProof.Rows L2
inductive D where
  | non | bl (b : Bool) | int (i : Int) | str (s : Str) | fr (q : Rat)
  | tup (xs : List D) | lst (xs : List D)
  | dct (kvs : List (List Int × D))
  | obj (C : Str) (fs : List (Str × D))
  | scr (ns : List Int)
structure Bs where
  K : PySem.W.Frag
  mg : Str → Option Value
abbrev bs (X : Cx) : Bs := ⟨X.K, X.mg⟩
def kI (ks : List Int) : List Key := ks.map Sum.inl
mutual
def Rp (B : Bs) (F : Hp) : D → V → Prop
  | .non, v => v = .non
  | .bl b, v => v = .bl b
  | .int i, v => v = .int i
  | .str s, v => v = .str s
  | .fr q, v => ∃ a, v = .ref a ∧ SqT B.K F a [.int q.num, .int q.den]
  | .tup ds, v => ∃ a vs, v = .ref a ∧ F a = some (.tup vs) ∧ RpA B F ds vs
  | .lst ds, v => ∃ a vs, v = .ref a ∧ Rd F a (.lst vs) ∧ RpA B F ds vs
  | .dct kvs, v => ∃ a ws, v = .ref a ∧ F a = some (.dT ws) ∧ RpK B F kvs ws
  | .obj C fs, v => ∃ a c dx gs, v = .ref a ∧ B.mg C = some (.ref c) ∧ F a = some (.ins c dx gs) ∧ RpF B F fs gs
  | .scr ns, v => ∃ a, v = .ref a ∧ SqL B.K F a (ns.map V.int)
def RpA (B : Bs) (F : Hp) : List D → List V → Prop
  | [], vs => vs = []
  | d :: ds, vs => ∃ v r, vs = v :: r ∧ Rp B F d v ∧ RpA B F ds r
def RpK (B : Bs) (F : Hp) : List (List Int × D) → List (List Key × V) → Prop
  | [], vs => vs = []
  | (k, d) :: ds, vs => ∃ v r, vs = (kI k, v) :: r ∧ Rp B F d v ∧ RpK B F ds r
def RpF (B : Bs) (F : Hp) : List (Str × D) → List (Str × V) → Prop
  | [], vs => vs = []
  | (k, d) :: ds, vs => ∃ v r, vs = (k, v) :: r ∧ Rp B F d v ∧ RpF B F ds r
end
theorem Rd.same {F F' : Hp} {a : Addr} {u : HO} (s : Same F F') (h : Rd F a u) : Rd F' a u := by
  rcases h with h | ⟨o, h⟩
  · exact .inl (s _ _ h)
  · exact .inr ⟨o, s _ _ h⟩
theorem SqL.same {K : PySem.W.Frag} {F F' : Hp} {a : Addr} {xs : List V} (s : Same F F') (h : SqL K F a xs) : SqL K F' a xs := by
  rcases h with h | h
  · exact .inl (Rd.same s h)
  · exact .inr h
theorem SqT.same {K : PySem.W.Frag} {F F' : Hp} {a : Addr} {xs : List V} (s : Same F F') (h : SqT K F a xs) : SqT K F' a xs := by
  rcases h with h | h
  · exact .inl (Rd.same s h)
  · exact .inr h
section
variable {B : Bs} {F F' : Hp}
mutual
theorem Rp.same (s : Same F F') : ∀ (d : D) (v : V), Rp B F d v → Rp B F' d v
  | .non, _, h => h
  | .bl _, _, h => h
  | .int _, _, h => h
  | .str _, _, h => h
  | .fr _, _, ⟨a, e, h⟩ => ⟨a, e, SqT.same s h⟩
  | .tup ds, _, ⟨a, vs, e, h, r⟩ => ⟨a, vs, e, s _ _ h, RpA.same s ds vs r⟩
  | .lst ds, _, ⟨a, vs, e, h, r⟩ => ⟨a, vs, e, Rd.same s h, RpA.same s ds vs r⟩
  | .dct ds, _, ⟨a, vs, e, h, r⟩ => ⟨a, vs, e, s _ _ h, RpK.same s ds vs r⟩
  | .obj _ fs, _, ⟨a, c, dx, gs, e, m, h, r⟩ => ⟨a, c, dx, gs, e, m, s _ _ h, RpF.same s fs gs r⟩
  | .scr ns, _, ⟨a, e, h⟩ => ⟨a, e, SqL.same s h⟩
theorem RpA.same (s : Same F F') : ∀ (ds : List D) (vs : List V), RpA B F ds vs → RpA B F' ds vs
  | [], _, h => h
  | d :: ds, _, ⟨v, r, e, h, t⟩ => ⟨v, r, e, Rp.same s d v h, RpA.same s ds r t⟩
theorem RpK.same (s : Same F F') : ∀ (ds : List (List Int × D)) (vs : List (List Key × V)), RpK B F ds vs → RpK B F' ds vs
  | [], _, h => h
  | (_, d) :: ds, _, ⟨v, r, e, h, t⟩ => ⟨v, r, e, Rp.same s d v h, RpK.same s ds r t⟩
theorem RpF.same (s : Same F F') : ∀ (ds : List (Str × D)) (vs : List (Str × V)), RpF B F ds vs → RpF B F' ds vs
  | [], _, h => h
  | (_, d) :: ds, _, ⟨v, r, e, h, t⟩ => ⟨v, r, e, Rp.same s d v h, RpF.same s ds r t⟩
end
theorem Rp.up {d : D} {v : V} (h : Rp B F d v) (s : Same F F') : Rp B F' d v := Rp.same s d v h
theorem RpA.up {d : List D} {v : List V} (h : RpA B F d v) (s : Same F F') : RpA B F' d v := RpA.same s d v h
theorem RpK.up {d : List (List Int × D)} {v : List (List Key × V)} (h : RpK B F d v) (s : Same F F') : RpK B F' d v := RpK.same s d v h
theorem RpA.len : ∀ {ds : List D} {vs : List V}, RpA B F ds vs → vs.length = ds.length
  | [], _, h => by cases h; rfl
  | d :: ds, _, ⟨v, r, e, h, t⟩ => by subst e; simp [RpA.len t]
theorem RpA.get : ∀ {ds : List D} {vs : List V} {i : Nat} {d : D}, RpA B F ds vs → ds[i]? = some d → ∃ v, vs[i]? = some v ∧ Rp B F d v
  | [], _, i, d, h, e => by simp at e
  | d :: ds, _, 0, d', ⟨v, r, e, h, t⟩, e' => by subst e; cases e'; exact ⟨v, rfl, h⟩
  | d :: ds, _, i + 1, d', ⟨v, r, e, h, t⟩, e' => by
    subst e
    obtain ⟨v', h1, h2⟩ := RpA.get (i := i) t (by simpa using e')
    exact ⟨v', by simpa using h1, h2⟩
theorem RpA.app : ∀ {ds es : List D} {vs ws : List V}, RpA B F ds vs → RpA B F es ws → RpA B F (ds ++ es) (vs ++ ws)
  | [], _, _, _, h, h' => by cases h; exact h'
  | d :: ds, _, _, _, ⟨v, r, e, h, t⟩, h' => by subst e; exact ⟨v, _, rfl, h, RpA.app t h'⟩
theorem RpA.one {d : D} {v : V} (h : Rp B F d v) : RpA B F [d] [v] := ⟨v, [], rfl, h, rfl⟩
theorem RpA.set : ∀ {ds : List D} {vs : List V} {d : D} {v : V} (i : Nat), RpA B F ds vs → Rp B F d v → RpA B F (ds.set i d) (vs.set i v)
  | [], _, _, _, _, h, _ => by cases h; rfl
  | d :: ds, _, _, _, 0, ⟨v, r, e, h, t⟩, h' => by subst e; exact ⟨_, _, rfl, h', t⟩
  | d :: ds, _, _, _, i + 1, ⟨v, r, e, h, t⟩, h' => by subst e; exact ⟨_, _, rfl, h, RpA.set i t h'⟩
theorem RpA.take : ∀ {ds : List D} {vs : List V} (n : Nat), RpA B F ds vs → RpA B F (ds.take n) (vs.take n)
  | _, _, 0, h => by simp [RpA]
  | [], _, n + 1, h => by cases h; rfl
  | d :: ds, _, n + 1, ⟨v, r, e, h, t⟩ => by subst e; exact ⟨_, _, rfl, h, RpA.take n t⟩
theorem RpA.drop : ∀ {ds : List D} {vs : List V} (n : Nat), RpA B F ds vs → RpA B F (ds.drop n) (vs.drop n)
  | _, _, 0, h => h
  | [], _, n + 1, h => by cases h; rfl
  | d :: ds, _, n + 1, ⟨v, r, e, h, t⟩ => by subst e; exact RpA.drop n t
theorem RpA.rev : ∀ {ds : List D} {vs : List V}, RpA B F ds vs → RpA B F ds.reverse vs.reverse
  | [], _, h => by cases h; rfl
  | d :: ds, _, ⟨v, r, e, h, t⟩ => by subst e; simp only [List.reverse_cons]; exact RpA.app (RpA.rev t) (RpA.one h)
theorem RpA.ints : ∀ {ns : List Int} {vs : List V}, RpA B F (ns.map D.int) vs → vs = ns.map V.int
  | [], _, h => by cases h; rfl
  | n :: ns, _, ⟨v, r, e, h, t⟩ => by
    subst e
    have h' : v = .int n := h
    subst h'
    rw [RpA.ints t]; rfl
theorem RpA.of_ints : ∀ (ns : List Int), RpA B F (ns.map D.int) (ns.map V.int)
  | [] => rfl
  | n :: ns => ⟨_, _, rfl, rfl, RpA.of_ints ns⟩
end

/-! ### slots -/
inductive Sl where
  | un | va (d : D) | ow (c : D)
abbrev Ss := List Sl
def Cell (B : Bs) (F H : Hp) (a : Addr) : D → Prop
  | .lst ds => ∃ vs, H a = some (.lst vs) ∧ RpA B F ds vs
  | .dct kvs => ∃ ws, H a = some (.dT ws) ∧ RpK B F kvs ws
  | _ => False
theorem Cell.there {B : Bs} {F H : Hp} {a : Addr} {c : D} (h : Cell B F H a c) : ∃ o, H a = some o := by
  cases c with
  | lst ds => obtain ⟨vs, e, _⟩ := h; exact ⟨_, e⟩
  | dct ds => obtain ⟨vs, e, _⟩ := h; exact ⟨_, e⟩
  | _ => exact h.elim
theorem Cell.up {B : Bs} {F F' H H' : Hp} {a : Addr} {c : D} (h : Cell B F H a c) (s : Same F F') (e : H' a = H a) : Cell B F' H' a c := by
  cases c with
  | lst ds => obtain ⟨vs, e', r⟩ := h; exact ⟨_, e.trans e', r.up s⟩
  | dct ds => obtain ⟨vs, e', r⟩ := h; exact ⟨_, e.trans e', r.up s⟩
  | _ => exact h.elim
/-- a cell that stands in the frozen part is a value -/
theorem Cell.rp {B : Bs} {F H : Hp} {a : Addr} {c : D} (h : Cell B F H a c) (s : F a = H a) : Rp B F c (.ref a) := by
  cases c with
  | lst ds => obtain ⟨vs, e', r⟩ := h; exact ⟨a, vs, rfl, .inl (s.trans e'), r⟩
  | dct ds => obtain ⟨vs, e', r⟩ := h; exact ⟨a, vs, rfl, s.trans e', r⟩
  | _ => exact h.elim
def SlOk (B : Bs) (F H : Hp) : Sl → Option (Option V) → Prop
  | .un, _ => True
  | .va d, o => ∃ v, o = some (some v) ∧ Rp B F d v
  | .ow c, o => ∃ a, o = some (some (.ref a)) ∧ F a = none ∧ Cell B F H a c
structure Rel (B : Bs) (F : Hp) (S : Ss) (σ : L2.St) (H : Hp) : Prop where
  sub : Same F H
  len : S.length = σ.length
  ok : ∀ (i : Nat) (s : Sl), S[i]? = some s → SlOk B F H s σ[i]?
  dis : ∀ (i j : Nat) (c c' : D) (v : V), S[i]? = some (.ow c) → S[j]? = some (.ow c') → σ[i]? = some (some v) → σ[j]? = some (some v) → i = j
def OA (S : Ss) (σ : L2.St) (a : Addr) : Prop := ∃ (i : Nat) (c : D), S[i]? = some (.ow c) ∧ σ[i]? = some (some (.ref a))
theorem Rel.own {B : Bs} {F H : Hp} {S : Ss} {σ : L2.St} (r : Rel B F S σ H) {a : Addr} (h : OA S σ a) : F a = none ∧ ∃ o, H a = some o := by
  obtain ⟨i, c, e, e'⟩ := h
  obtain ⟨a', q, n, k⟩ := r.ok i _ e
  rw [e'] at q
  cases q
  exact ⟨n, k.there⟩
def keepT : HO → Bool
  | .tup _ => true
  | .frz _ (.tup _) => true
  | _ => false
theorem Cell.noT {B : Bs} {F H : Hp} {a : Addr} {c : D} (h : Cell B F H a c) : ∀ o, H a = some o → keepT o = false := fun o e => by
  cases c with
  | lst ds => obtain ⟨vs, e', r⟩ := h; rw [e] at e'; cases e'; rfl
  | dct ds => obtain ⟨vs, e', r⟩ := h; rw [e] at e'; cases e'; rfl
  | _ => exact h.elim
/-- no cell stands at a: nothing, or a tuple -/
def NoC (H : Hp) (a : Addr) : Prop := ∀ o, H a = some o → keepT o = true
theorem NoC.of {H : Hp} {a : Addr} (h : H a = none) : NoC H a := fun o e => by rw [h] at e; cases e
structure Tr (A : Addr → Prop) (F H F' H' : Hp) : Prop where
  fs : Same F F'
  hs : ∀ a o, H a = some o → ¬ A a → H' a = some o
  nf : ∀ a, F a = none → F' a ≠ none → NoC H a ∨ A a
  dm : ∀ a, H' a = none → H a = none
theorem Tr.refl {A : Addr → Prop} {F H : Hp} : Tr A F H F H := ⟨fun _ _ h => h, fun _ _ h _ => h, fun _ h h' => absurd h h', fun _ h => h⟩
/-- composition: the second step's own addresses are the first one's, or new -/
theorem Tr.trans {A A' : Addr → Prop} {F H F1 H1 F2 H2 : Hp} (t : Tr A F H F1 H1) (u : Tr A' F1 H1 F2 H2) (w : ∀ a, A' a → A a ∨ H a = none) : Tr A F H F2 H2 where
  fs := t.fs.trans u.fs
  hs := fun a o h n => u.hs a o (t.hs a o h n) fun z => by
    rcases w a z with q | q
    · exact n q
    · rw [q] at h; cases h
  nf := fun a n n' => by
    by_cases q : F1 a = none
    · rcases u.nf a q n' with z | z
      · by_cases qa : A a
        · exact .inr qa
        · exact .inl fun o ho => z o (t.hs a o ho qa)
      · rcases w a z with y | y
        · exact .inr y
        · exact .inl (.of y)
    · exact t.nf a n q
  dm := fun a n => t.dm a (u.dm a n)
theorem Tr.mono {A A' : Addr → Prop} {F H F' H' : Hp} (t : Tr A F H F' H') (w : ∀ a, A a → A' a) : Tr A' F H F' H' :=
  ⟨t.fs, fun a o h n => t.hs a o h fun z => n (w a z), fun a n n' => (t.nf a n n').imp id (w a), t.dm⟩
/-- nothing owned is touched -/
structure Tr0 (F H F' H' : Hp) : Prop where
  tr : Tr (fun _ => False) F H F' H'
  sub : Same F' H'
theorem Tr0.hs {F H F' H' : Hp} (t : Tr0 F H F' H') : Same H H' := fun a o h => t.tr.hs a o h id
theorem Tr0.refl {F H : Hp} (s : Same F H) : Tr0 F H F H := ⟨Tr.refl, s⟩
/-- a new object, frozen -/
theorem Tr0.new {F H : Hp} {p : Addr} {o : HO} (s : Same F H) (n : H p = none) : Tr0 F H (upd F p o) (upd H p o) := by
  have nF : F p = none := s.free n
  refine ⟨⟨fun a u h => ?_, fun a u h _ => ?_, fun a n1 n2 => ?_, fun a h => ?_⟩, fun a u h => ?_⟩
  · rw [upd_ne (ne_of_none h nF)]; exact h
  · rw [upd_ne (ne_of_none h n)]; exact h
  · by_cases e : a = p
    · rw [e]; exact .inl (.of n)
    · rw [upd_ne e] at n2; exact absurd n1 n2
  · by_cases e : a = p
    · rw [e, upd_same] at h; cases h
    · rw [upd_ne e] at h; exact h
  · by_cases e : a = p
    · rw [e, upd_same] at h ⊢; exact h
    · rw [upd_ne e] at h ⊢; exact s _ _ h
/-- a new object, not frozen -/
theorem Tr0.newH {F H : Hp} {p : Addr} {o : HO} (s : Same F H) (n : H p = none) : Tr0 F H F (upd H p o) := by
  refine ⟨⟨fun a u h => h, fun a u h _ => ?_, fun a n1 n2 => absurd n1 n2, fun a h => ?_⟩, fun a u h => ?_⟩
  · rw [upd_ne (ne_of_none h n)]; exact h
  · by_cases e : a = p
    · rw [e, upd_same] at h; cases h
    · rw [upd_ne e] at h; exact h
  · rw [upd_ne (ne_of_none (s _ _ h) n)]; exact s _ _ h
theorem Tr0.trans {F H F1 H1 F2 H2 : Hp} (t : Tr0 F H F1 H1) (u : Tr0 F1 H1 F2 H2) : Tr0 F H F2 H2 := ⟨t.tr.trans u.tr fun _ z => z.elim, u.sub⟩
/-- behind an expression -/
structure Po (B : Bs) (F : Hp) (S : Ss) (σ : L2.St) (H F' : Hp) (S' : Ss) (H' : Hp) : Prop where
  tr : Tr (OA S σ) F H F' H'
  rel : Rel B F' S' σ H'
  oa : ∀ a, OA S' σ a → OA S σ a
section
variable {B : Bs} {F H F1 H1 F2 H2 : Hp} {S S1 S2 : Ss} {σ : L2.St}
theorem Po.refl (r : Rel B F S σ H) : Po B F S σ H F S H := ⟨Tr.refl, r, fun _ h => h⟩
theorem Po.trans (p : Po B F S σ H F1 S1 H1) (q : Po B F1 S1 σ H1 F2 S2 H2) : Po B F S σ H F2 S2 H2 :=
  ⟨p.tr.trans q.tr fun a z => .inl (p.oa a z), q.rel, fun a z => p.oa a (q.oa a z)⟩
theorem Rel.tr0 (r : Rel B F S σ H) (t : Tr0 F H F1 H1) : Rel B F1 S σ H1 := by
  refine ⟨t.sub, r.len, fun i s e => ?_, r.dis⟩
  have q := r.ok i s e
  cases s with
  | un => trivial
  | va d => obtain ⟨v, e', h⟩ := q; exact ⟨v, e', h.up t.tr.fs⟩
  | ow c =>
    obtain ⟨a, e', n, k⟩ := q
    obtain ⟨o, ho⟩ := k.there
    refine ⟨a, e', ?_, k.up t.tr.fs ((t.hs _ _ ho).trans ho.symm)⟩
    cases z : F1 a with
    | none => rfl
    | some u =>
      rcases t.tr.nf a n (by rw [z]; simp) with w | w
      · have w2 := w _ ho; rw [k.noT _ ho] at w2; cases w2
      · exact w.elim
theorem Po.tr0 (r : Rel B F S σ H) (t : Tr0 F H F1 H1) : Po B F S σ H F1 S H1 := ⟨t.tr.mono fun _ z => z.elim, r.tr0 t, fun _ h => h⟩
/-- the owned cell in slot i is frozen -/
theorem Rel.freeze {i : Nat} {c : D} (r : Rel B F S σ H) (e : S[i]? = some (.ow c)) : ∃ v F', σ[i]? = some (some v) ∧ Po B F S σ H F' (S.set i (.va c)) H ∧ Rp B F' c v := by
  obtain ⟨a, ea, n, k⟩ := r.ok i _ e
  have hi : i < S.length := by
    rcases Nat.lt_or_ge i S.length with q | q
    · exact q
    · rw [List.getElem?_eq_none q] at e; cases e
  have key : ∀ b, (fun b => if b = a then H a else F b : Hp) b = if b = a then H a else F b := fun _ => rfl
  have fs : Same F (fun b => if b = a then H a else F b) := fun b o h => by
    show (if b = a then H a else F b) = some o
    by_cases q : b = a
    · subst q; rw [n] at h; cases h
    · rw [if_neg q]; exact h
  have ka : (fun b => if b = a then H a else F b : Hp) a = H a := if_pos rfl
  have kk : Cell B (fun b => if b = a then H a else F b) H a c := k.up fs rfl
  refine ⟨.ref a, fun b => if b = a then H a else F b, ea, ⟨⟨fs, fun _ _ h _ => h, fun b n1 n2 => ?_, fun _ h => h⟩, ⟨fun b o h => ?_, by simpa using r.len, fun j s ej => ?_, fun j j' d d' v ej ej' => ?_⟩, fun b h => ?_⟩, kk.rp ka⟩
  · have n2' : (if b = a then H a else F b) ≠ none := n2
    by_cases q : b = a
    · subst q; exact .inr ⟨i, c, e, ea⟩
    · rw [if_neg q] at n2'; exact absurd n1 n2'
  · have h' : (if b = a then H a else F b) = some o := h
    by_cases q : b = a
    · subst q; rw [if_pos rfl] at h'; exact h'
    · rw [if_neg q] at h'; exact r.sub _ _ h'
  · by_cases q : j = i
    · subst q
      rw [List.getElem?_set_self hi] at ej
      cases ej
      exact ⟨.ref a, ea, kk.rp ka⟩
    · rw [List.getElem?_set_ne (Ne.symm q)] at ej
      have z := r.ok j s ej
      cases s with
      | un => trivial
      | va d => obtain ⟨v, e', h⟩ := z; exact ⟨v, e', h.up fs⟩
      | ow c' =>
        obtain ⟨a', e', n', k'⟩ := z
        refine ⟨a', e', ?_, k'.up fs rfl⟩
        show (if a' = a then H a else F a') = none
        by_cases w : a' = a
        · subst w
          exact absurd (r.dis j i c' c _ ej e e' ea) q
        · rw [if_neg w]; exact n'
  · by_cases q : j = i
    · subst q
      rw [List.getElem?_set_self hi] at ej; cases ej
    · rw [List.getElem?_set_ne (Ne.symm q)] at ej
      by_cases q' : j' = i
      · subst q'
        rw [List.getElem?_set_self hi] at ej'; cases ej'
      · rw [List.getElem?_set_ne (Ne.symm q')] at ej'
        exact r.dis j j' d d' v ej ej'
  · obtain ⟨j, d, ej, ej'⟩ := h
    by_cases q : j = i
    · subst q
      rw [List.getElem?_set_self hi] at ej; cases ej
    · rw [List.getElem?_set_ne (Ne.symm q)] at ej
      exact ⟨j, d, ej, ej'⟩
end
end Sw
/-! the value layer: expressions and tests -/
namespace Sw
open PySem PySem.Spec PyProof.Rows L2

end Sw
namespace L2
open PySem PySem.Spec PyProof.Rows
theorem PE.imp {X : Cx} {e : Expr} {t t' : TE} (h : PE X e t) (w : ∀ σ H Q, t' σ H Q → t σ H Q) : PE X e t' := ⟨fun pins s σ H Q I q => h.run pins s σ H Q I (w σ H Q q)⟩
theorem PT.imp {X : Cx} {e : Expr} {t t' : TT} (h : PT X e t) (w : ∀ σ H Q, t' σ H Q → t σ H Q) : PT X e t' := ⟨fun pins s σ H Q I q => h.run pins s σ H Q I (w σ H Q q)⟩
theorem PW.imp {X : Cx} {e : Expr} {t t' : TT} (h : PW X e t) (w : ∀ σ H Q, t' σ H Q → t σ H Q) : PW X e t' := ⟨fun wh pins s σ H Q I q => h.run wh pins s σ H Q I (w σ H Q q)⟩
theorem PS.imp {X : Cx} {e : Stmt} {t t' : TS} (h : PS X e t) (w : ∀ D σ H, t' D σ H → t D σ H) : PS X e t' := ⟨fun pins s σ H D I q => h.run pins s σ H D I (w D σ H q)⟩
theorem PSs.imp {X : Cx} {e : List Stmt} {t t' : TS} (h : PSs X e t) (w : ∀ D σ H, t' D σ H → t D σ H) : PSs X e t' := ⟨fun pins s σ H D I q => h.run pins s σ H D I (w D σ H q)⟩
theorem PA.imp {X : Cx} {e : List Expr} {t t' : TA} (h : PA X e t) (w : ∀ σ H Q, t' σ H Q → t σ H Q) : PA X e t' := ⟨fun pos pins s σ H Q I q => h.run pos pins s σ H Q I (w σ H Q q)⟩

end L2
namespace Sw
open PySem PySem.Spec PyProof.Rows L2
/-! ### combinators -/
abbrev EF := Ss → Option (D × Ss)
abbrev TF := Ss → Option (Bool × Ss)
abbrev AF := Ss → Option (List D × Ss)
def bd {α β : Type} (r : Option (α × Ss)) (k : α → Ss → Option β) : Option β := match r with
  | some (a, S) => k a S
  | none => none
@[simp] theorem bd_some {α β : Type} (a : α) (S : Ss) (k : α → Ss → Option β) : bd (some (a, S)) k = k a S := rfl
@[simp] theorem bd_none {α β : Type} (k : α → Ss → Option β) : bd none k = none := rfl
theorem bd_inv {α β : Type} {r : Option (α × Ss)} {k : α → Ss → Option β} {x : β} (h : bd r k = some x) : ∃ a S, r = some (a, S) ∧ k a S = some x := by
  cases r with
  | none => cases h
  | some p => exact ⟨p.1, p.2, rfl, h⟩
def eC (d : D) : EF := fun S => some (d, S)
def eVar (i : Nat) : EF := fun S => match S[i]? with
  | some (.va d) => some (d, S)
  | some (.ow c) => some (c, S.set i (.va c))
  | _ => none
def eUn (g : D → Option D) (fa : EF) : EF := fun S => bd (fa S) fun x S1 => (g x).map fun d => (d, S1)
def eBin (g : D → D → Option D) (fa fb : EF) : EF := fun S => bd (fa S) fun x S1 => bd (fb S1) fun y S2 => (g x y).map fun d => (d, S2)
def eIf (t : TF) (fa fb : EF) : EF := fun S => bd (t S) fun b S1 => if b = true then fa S1 else fb S1
def tVal (f : EF) : TF := fun S => bd (f S) fun d S1 => match d with
  | .bl b => some (b, S1)
  | _ => none
def tAndF (a b : TF) : TF := fun S => bd (a S) fun c S1 => if c = true then b S1 else some (false, S1)
def tOrF (a b : TF) : TF := fun S => bd (a S) fun c S1 => if c = true then some (true, S1) else b S1
def tNotF (a : TF) : TF := fun S => bd (a S) fun c S1 => some (!c, S1)
def eAndF (a b : EF) : EF := fun S => bd (tVal a S) fun c S1 => if c = true then b S1 else some (.bl false, S1)
def eOrF (a b : EF) : EF := fun S => bd (tVal a S) fun c S1 => if c = true then some (.bl true, S1) else b S1
def eNotF (a : EF) : EF := fun S => bd (tVal a S) fun c S1 => some (.bl (!c), S1)
def aNil : AF := fun S => some ([], S)
def aCons (f : EF) (r : AF) : AF := fun S => bd (f S) fun d S1 => bd (r S1) fun ds S2 => some (d :: ds, S2)
def eA (g : List D → Option D) (f : AF) : EF := fun S => bd (f S) fun ds S1 => (g ds).map fun d => (d, S1)

/-! ### readings -/
def tV (B : Bs) (f : EF) : TE := fun σ H Q => ∃ F S, Rel B F S σ H ∧ ∃ d S', f S = some (d, S') ∧ ∀ v F' H', Po B F S σ H F' S' H' → Rp B F' d v → Q v H'
def tT (B : Bs) (f : TF) : TT := fun σ H Q => ∃ F S, Rel B F S σ H ∧ ∃ b S', f S = some (b, S') ∧ ∀ F' H', Po B F S σ H F' S' H' → Q b H'
def tAv (B : Bs) (f : AF) : TA := fun σ H Q => ∃ F S, Rel B F S σ H ∧ ∃ ds S', f S = some (ds, S') ∧ ∀ vs F' H', Po B F S σ H F' S' H' → RpA B F' ds vs → Q vs H'
/-- a new object that nothing else knows -/
def tF (B : Bs) (f : EF) : TE := fun σ H Q => ∃ F S, Rel B F S σ H ∧ ∃ c S', f S = some (c, S') ∧ ∀ a F' H', Po B F S σ H F' S' H' → F' a = none → H a = none → Cell B F' H' a c → Q (.ref a) H'
abbrev PV (X : Cx) (e : Expr) (f : EF) : Prop := PE X e (tV (bs X) f)
abbrev PVt (X : Cx) (e : Expr) (f : TF) : Prop := PT X e (tT (bs X) f)
abbrev PVw (X : Cx) (e : Expr) (f : TF) : Prop := PW X e (tT (bs X) f)
abbrev PVa (X : Cx) (es : List Expr) (f : AF) : Prop := PA X es (tAv (bs X) f)
abbrev PF (X : Cx) (e : Expr) (f : EF) : Prop := PE X e (tF (bs X) f)
/-- an operation's rule by data: it makes new objects at most -/
def rV (B : Bs) (g : D → D → Option D) : R2 := fun x y H Q => ∃ F d1 d2 d, Same F H ∧ Rp B F d1 x ∧ Rp B F d2 y ∧ g d1 d2 = some d ∧ ∀ v F' H', Tr0 F H F' H' → Rp B F' d v → Q v H'
def rV1 (B : Bs) (g : D → Option D) : V → Hp → VK → Prop := fun x H Q => ∃ F d1 d, Same F H ∧ Rp B F d1 x ∧ g d1 = some d ∧ ∀ v F' H', Tr0 F H F' H' → Rp B F' d v → Q v H'
def rVA (B : Bs) (g : List D → Option D) : List V → Hp → VK → Prop := fun xs H Q => ∃ F ds d, Same F H ∧ RpA B F ds xs ∧ g ds = some d ∧ ∀ v F' H', Tr0 F H F' H' → Rp B F' d v → Q v H'
/-- .. whose value is a new cell -/
def rVF (B : Bs) (g : List D → Option D) : List V → Hp → VK → Prop := fun xs H Q => ∃ F ds c, Same F H ∧ RpA B F ds xs ∧ g ds = some c ∧ ∀ a F' H', Tr0 F H F' H' → F' a = none → H a = none → Cell B F' H' a c → Q (.ref a) H'
def rVF2 (B : Bs) (g : D → D → Option D) : R2 := fun x y H Q => ∃ F d1 d2 c, Same F H ∧ Rp B F d1 x ∧ Rp B F d2 y ∧ g d1 d2 = some c ∧ ∀ a F' H', Tr0 F H F' H' → F' a = none → H a = none → Cell B F' H' a c → Q (.ref a) H'

section
variable {X : Cx} {e a b c : Expr} {es rest : List Expr} {fa fb f : EF} {ta tb : TF} {pos : Pos}
theorem v_var (i : Nat) {x : Str} (hN : X.N[i]? = some x := by rfl) (hv : Vis X.env.scope x := by first | exact Or.inl rfl | exact Or.inr (Or.inl rfl) | exact Or.inr (Or.inr rfl)) (hd : (x == ("__debug__" : Str)) = false := by decide)
    (hcd : (x == ("__classdict__" : Str)) = false := by decide) : PV X (.Name x pos) (eVar i) := by
  refine (pe_var (i := i) hN hv hd hcd).imp ?_
  rintro σ H Q ⟨F, S, r, d, S', e, k⟩
  unfold eVar at e
  split at e
  · rename_i d' h
    cases e
    obtain ⟨v, h1, h2⟩ := r.ok i _ h
    exact ⟨v, h1, k v F H (Po.refl r) h2⟩
  · rename_i c' h
    cases e
    obtain ⟨v, F', h1, p, h2⟩ := r.freeze h
    exact ⟨v, h1, k v F' H p h2⟩
  · cases e
theorem v_int {i : Int} {j : Nat} : PV X (.Constant (.int i) j pos) (eC (.int i)) := pe_int.imp (by
  rintro σ H Q ⟨F, S, r, d, S', e, k⟩; cases e; exact k _ F H (Po.refl r) rfl)
theorem v_bl {i : Bool} {j : Nat} : PV X (.Constant (.bool i) j pos) (eC (.bl i)) := pe_bl.imp (by
  rintro σ H Q ⟨F, S, r, d, S', e, k⟩; cases e; exact k _ F H (Po.refl r) rfl)
theorem v_non {j : Nat} : PV X (.Constant .none j pos) (eC .non) := pe_non.imp (by
  rintro σ H Q ⟨F, S, r, d, S', e, k⟩; cases e; exact k _ F H (Po.refl r) rfl)
theorem v_str {i : Str} {j : Nat} : PV X (.Constant (.str i) j pos) (eC (.str i)) := pe_str.imp (by
  rintro σ H Q ⟨F, S, r, d, S', e, k⟩; cases e; exact k _ F H (Po.refl r) rfl)
/-- a module's constant: a number, a text, a fraction -/
theorem v_glob {x : Str} {d : D} {v : V} {u : Value} (hm : X.mg x = some u) (r : RelV v u) (hd : ∀ F, Rp (bs X) F d v) (hg : Gl X x := by rfl) (hb : (x == ("__debug__" : Str)) = false := by decide) : PV X (.Name x pos) (eC d) :=
  (pe_glob hg hm r hb).imp (by
  rintro σ H Q ⟨F, S, r, d, S', e, k⟩; cases e; exact k _ F H (Po.refl r) (hd F))
theorem v_bin {op : Operator} {g : D → D → Option D} (ho : OpR X (binaryOp op) (rV (bs X) g)) (ha : PV X a fa) (hb : PV X b fb) : PV X (.BinOp a op b pos) (eBin g fa fb) := by
  refine (pe_op ho ha hb).imp ?_
  rintro σ H Q ⟨F, S, r, d, S', e, k⟩
  obtain ⟨d1, S1, e1, e⟩ := bd_inv e
  obtain ⟨d2, S2, e2, e⟩ := bd_inv e
  obtain ⟨d3, e3, e⟩ := Option.map_eq_some_iff.mp e
  cases e
  refine ⟨F, S, r, d1, S1, e1, fun x F1 H1 p1 r1 => ⟨F1, S1, p1.rel, d2, _, e2, fun y F2 H2 p2 r2 => ⟨F2, d1, d2, d, p2.rel.sub, r1.up p2.tr.fs, r2, e3, fun v F3 H3 t r3 => ?_⟩⟩⟩
  exact k v F3 H3 (p1.trans (p2.trans (Po.tr0 p2.rel t))) r3
theorem f_bin {op : Operator} {g : D → D → Option D} (ho : OpR X (binaryOp op) (rVF2 (bs X) g)) (ha : PV X a fa) (hb : PV X b fb) : PF X (.BinOp a op b pos) (eBin g fa fb) := by
  refine (pe_op ho ha hb).imp ?_
  rintro σ H Q ⟨F, S, r, d, S', e, k⟩
  obtain ⟨d1, S1, e1, e⟩ := bd_inv e
  obtain ⟨d2, S2, e2, e⟩ := bd_inv e
  obtain ⟨d3, e3, e⟩ := Option.map_eq_some_iff.mp e
  cases e
  refine ⟨F, S, r, d1, S1, e1, fun x F1 H1 p1 r1 => ⟨F1, S1, p1.rel, d2, _, e2, fun y F2 H2 p2 r2 => ⟨F2, d1, d2, d, p2.rel.sub, r1.up p2.tr.fs, r2, e3, fun v F3 H3 t n nH r3 => ?_⟩⟩⟩
  exact k v F3 H3 (p1.trans (p2.trans (Po.tr0 p2.rel t))) n (p1.tr.dm _ (p2.tr.dm _ nH)) r3
theorem v_un {op : UnaryOp} {g : D → Option D} (ho : UnR X (unaryOp op) (rV1 (bs X) g)) (ha : PV X a fa) : PV X (.UnaryOp op a pos) (eUn g fa) := by
  refine (pe_un ho ha).imp ?_
  rintro σ H Q ⟨F, S, r, d, S', e, k⟩
  obtain ⟨d1, S1, e1, e⟩ := bd_inv e
  obtain ⟨d3, e3, e⟩ := Option.map_eq_some_iff.mp e
  cases e
  refine ⟨F, S, r, d1, _, e1, fun x F1 H1 p1 r1 => ⟨F1, d1, d, p1.rel.sub, r1, e3, fun v F3 H3 t r3 => ?_⟩⟩
  exact k v F3 H3 (p1.trans (Po.tr0 p1.rel t)) r3
/-- a comparison -/
theorem v_cmp {op : CmpOp} {g : D → D → Option D} (ho : OpR X (compareOp op) (rV (bs X) g)) (ha : PV X a fa) (hb : PV X b fb) (hm : behindInMarks op b = false := by first | exact nomark _ | rfl) : PV X (.Compare a [op] [b] pos) (eBin g fa fb) := by
  refine (pe_cmpR ho ha hb hm).imp ?_
  rintro σ H Q ⟨F, S, r, d, S', e, k⟩
  obtain ⟨d1, S1, e1, e⟩ := bd_inv e
  obtain ⟨d2, S2, e2, e⟩ := bd_inv e
  obtain ⟨d3, e3, e⟩ := Option.map_eq_some_iff.mp e
  cases e
  refine ⟨F, S, r, d1, S1, e1, fun x F1 H1 p1 r1 => ⟨F1, S1, p1.rel, d2, _, e2, fun y F2 H2 p2 r2 => ⟨F2, d1, d2, d, p2.rel.sub, r1.up p2.tr.fs, r2, e3, fun v F3 H3 t r3 => ?_⟩⟩⟩
  exact k v F3 H3 (p1.trans (p2.trans (Po.tr0 p2.rel t))) r3
theorem t_cmp {op : CmpOp} {g : D → D → Option D} (ho : OpR X (compareOp op) (rV (bs X) g)) (ha : PV X a fa) (hb : PV X b fb) (hm : behindInMarks op b = false := by first | exact nomark _ | rfl) : PVt X (.Compare a [op] [b] pos) (tVal (eBin g fa fb)) := by
  refine (pt_cmpR ho ha hb hm).imp ?_
  rintro σ H Q ⟨F, S, r, d, S', e, k⟩
  obtain ⟨d0, S0, e0, e⟩ := bd_inv e
  obtain ⟨d1, S1, e1, e0⟩ := bd_inv e0
  obtain ⟨d2, S2, e2, e0⟩ := bd_inv e0
  obtain ⟨d3, e3, e0⟩ := Option.map_eq_some_iff.mp e0
  cases e0
  refine ⟨F, S, r, d1, S1, e1, fun x F1 H1 p1 r1 => ⟨F1, S1, p1.rel, d2, _, e2, fun y F2 H2 p2 r2 => ⟨F2, d1, d2, d0, p2.rel.sub, r1.up p2.tr.fs, r2, e3, fun v F3 H3 t r3 => ?_⟩⟩⟩
  split at e
  · cases e
    exact ⟨d, r3, k F3 H3 (p1.trans (p2.trans (Po.tr0 p2.rel t)))⟩
  · cases e
theorem t_val (h : PV X e f) (he : ∀ whole, isTrue e X.env whole = (do let v ← whole; standAt e.pos; holding [v] (truthy v)) := by intro _; rfl) : PVt X e (tVal f) := by
  refine (pt_val h he).imp ?_
  rintro σ H Q ⟨F, S, r, d, S', e, k⟩
  obtain ⟨d0, S0, e0, e⟩ := bd_inv e
  refine ⟨F, S, r, d0, S0, e0, fun v F1 H1 p1 r1 => ?_⟩
  split at e
  · cases e
    exact ⟨_, r1, k F1 H1 p1⟩
  · cases e
theorem t_not (ha : PVt X a ta) : PVt X (.UnaryOp .Not a pos) (tNotF ta) := by
  refine (pt_not ha).imp ?_
  rintro σ H Q ⟨F, S, r, d, S', e, k⟩
  obtain ⟨d0, S0, e0, e⟩ := bd_inv e
  cases e
  exact ⟨F, S, r, d0, _, e0, k⟩
theorem w_and1 (ha : PVt X a ta) : PVw X (.BoolOp .And [a] pos) ta := pw_and1 ha
theorem w_or1 (ha : PVt X a ta) : PVw X (.BoolOp .Or [a] pos) ta := pw_or1 ha
theorem w_and (ha : PVt X a ta) (hb : PVw X (.BoolOp .And (b :: rest) pos) tb) : PVw X (.BoolOp .And (a :: b :: rest) pos) (tAndF ta tb) := by
  refine (pw_and ha hb).imp ?_
  rintro σ H Q ⟨F, S, r, d, S', e, k⟩
  obtain ⟨d0, S0, e0, e⟩ := bd_inv e
  refine ⟨F, S, r, d0, S0, e0, fun F1 H1 p1 => ?_⟩
  split at e
  · rename_i h
    rw [if_pos h]
    exact ⟨F1, S0, p1.rel, d, S', e, fun F2 H2 p2 => k F2 H2 (p1.trans p2)⟩
  · rename_i h
    rw [if_neg h]
    cases e
    exact k F1 H1 p1
theorem w_or (ha : PVt X a ta) (hb : PVw X (.BoolOp .Or (b :: rest) pos) tb) : PVw X (.BoolOp .Or (a :: b :: rest) pos) (tOrF ta tb) := by
  refine (pw_or ha hb).imp ?_
  rintro σ H Q ⟨F, S, r, d, S', e, k⟩
  obtain ⟨d0, S0, e0, e⟩ := bd_inv e
  refine ⟨F, S, r, d0, S0, e0, fun F1 H1 p1 => ?_⟩
  split at e
  · rename_i h
    rw [if_pos h]
    cases e
    exact k F1 H1 p1
  · rename_i h
    rw [if_neg h]
    exact ⟨F1, S0, p1.rel, d, S', e, fun F2 H2 p2 => k F2 H2 (p1.trans p2)⟩
theorem t_w (h : PVw X e ta) : PVt X e ta := h.pt
theorem v_and1 {op : BoolOp} (h : PV X a f) : PV X (.BoolOp op [a] pos) f := pe_one h
theorem v_and (ha : PV X a fa) (hb : PV X (.BoolOp .And (b :: rest) pos) fb) : PV X (.BoolOp .And (a :: b :: rest) pos) (eAndF fa fb) := by
  refine (pe_and ha hb).imp ?_
  rintro σ H Q ⟨F, S, r, d, S', e, k⟩
  obtain ⟨c0, S0, e0, e⟩ := bd_inv e
  obtain ⟨d0, S1, e1, e0⟩ := bd_inv e0
  refine ⟨F, S, r, d0, S1, e1, fun x F1 H1 p1 r1 => ?_⟩
  split at e0
  · cases e0
    refine ⟨c0, r1, ?_⟩
    split at e
    · rename_i h
      rw [if_pos h]
      exact ⟨F1, S0, p1.rel, d, S', e, fun v F2 H2 p2 => k v F2 H2 (p1.trans p2)⟩
    · rename_i h
      rw [if_neg h]
      cases e
      exact k _ F1 H1 p1 rfl
  · cases e0
theorem v_or (ha : PV X a fa) (hb : PV X (.BoolOp .Or (b :: rest) pos) fb) : PV X (.BoolOp .Or (a :: b :: rest) pos) (eOrF fa fb) := by
  refine (pe_or ha hb).imp ?_
  rintro σ H Q ⟨F, S, r, d, S', e, k⟩
  obtain ⟨c0, S0, e0, e⟩ := bd_inv e
  obtain ⟨d0, S1, e1, e0⟩ := bd_inv e0
  refine ⟨F, S, r, d0, S1, e1, fun x F1 H1 p1 r1 => ?_⟩
  split at e0
  · cases e0
    refine ⟨c0, r1, ?_⟩
    split at e
    · rename_i h
      rw [if_pos h]
      cases e
      exact k _ F1 H1 p1 rfl
    · rename_i h
      rw [if_neg h]
      exact ⟨F1, S0, p1.rel, d, S', e, fun v F2 H2 p2 => k v F2 H2 (p1.trans p2)⟩
  · cases e0
theorem v_not (ha : PV X a fa) : PV X (.UnaryOp .Not a pos) (eNotF fa) := by
  refine (pe_not ha).imp ?_
  rintro σ H Q ⟨F, S, r, d, S', e, k⟩
  obtain ⟨c0, S0, e0, e⟩ := bd_inv e
  obtain ⟨d0, S1, e1, e0⟩ := bd_inv e0
  refine ⟨F, S, r, d0, S1, e1, fun x F1 H1 p1 r1 => ?_⟩
  split at e0
  · cases e0
    cases e
    exact ⟨c0, r1, k _ F1 H1 p1 rfl⟩
  · cases e0
theorem v_if {t : Expr} (hc : PVt X t ta) (ha : PV X a fa) (hb : PV X b fb) : PV X (.IfExp t a b pos) (eIf ta fa fb) := by
  refine (pe_ifExp hc ha hb).imp ?_
  rintro σ H Q ⟨F, S, r, d, S', e, k⟩
  obtain ⟨c0, S0, e0, e⟩ := bd_inv e
  refine ⟨F, S, r, c0, S0, e0, fun F1 H1 p1 => ?_⟩
  split at e
  · rename_i h
    rw [if_pos h]
    exact ⟨F1, S0, p1.rel, d, S', e, fun v F2 H2 p2 => k v F2 H2 (p1.trans p2)⟩
  · rename_i h
    rw [if_neg h]
    exact ⟨F1, S0, p1.rel, d, S', e, fun v F2 H2 p2 => k v F2 H2 (p1.trans p2)⟩
theorem a_nil : PVa X [] aNil := pa_nil.imp (by
  rintro σ H Q ⟨F, S, r, d, S', e, k⟩; cases e; exact k _ F H (Po.refl r) rfl)
theorem a_cons {fr : AF} (ha : PV X e fa) (hr : PVa X es fr) (hs : starEach (e :: es) X.env = (false, eval e X.env) :: starEach es X.env := by rfl) : PVa X (e :: es) (aCons fa fr) := by
  refine (pa_cons ha hr hs).imp ?_
  rintro σ H Q ⟨F, S, r, d, S', e, k⟩
  obtain ⟨d1, S1, e1, e⟩ := bd_inv e
  obtain ⟨ds, S2, e2, e⟩ := bd_inv e
  cases e
  exact ⟨F, S, r, d1, S1, e1, fun x F1 H1 p1 r1 => ⟨F1, S1, p1.rel, ds, _, e2, fun xs F2 H2 p2 r2 => k _ F2 H2 (p1.trans p2) ⟨x, xs, rfl, r1.up p2.tr.fs, r2⟩⟩⟩
/-- a display -/
def gTup (ds : List D) : Option D := if ds.length ≤ 16777216 then some (.tup ds) else none
def gLst (ds : List D) : Option D := if ds.length ≤ 16777216 then some (.lst ds) else none
theorem line_le {n : Nat} (h : n ≤ 16777216) : n ≤ sizeLine := by rw [sizeLine_eq]; exact h
theorem line_lt {n : Nat} (h : n < 16777216) : n < sizeLine := by rw [sizeLine_eq]; exact h
theorem v_tup {x1} {fs : AF} (h : PVa X es fs) : PV X (.Tuple es x1 pos) (eA gTup fs) := by
  refine (pe_tup h).imp ?_
  rintro σ H Q ⟨F, S, r, d, S', e, k⟩
  obtain ⟨ds, S1, e1, e⟩ := bd_inv e
  obtain ⟨d3, e3, e⟩ := Option.map_eq_some_iff.mp e
  cases e
  unfold gTup at e3
  split at e3
  · rename_i hl
    cases e3
    refine ⟨F, S, r, ds, _, e1, fun xs F1 H1 p1 r1 => ⟨line_le (by rw [r1.len]; exact hl), fun p hp => ?_⟩⟩
    have t := Tr0.new (o := .tup xs) p1.rel.sub hp
    exact k _ _ _ (p1.trans (Po.tr0 p1.rel t)) ⟨p, xs, rfl, upd_same, r1.up t.tr.fs⟩
  · cases e3
theorem f_lst {fs : AF} (h : PVa X es fs) : PF X (.List es pos) (eA gLst fs) := by
  refine (pe_lst h).imp ?_
  rintro σ H Q ⟨F, S, r, d, S', e, k⟩
  obtain ⟨ds, S1, e1, e⟩ := bd_inv e
  obtain ⟨d3, e3, e⟩ := Option.map_eq_some_iff.mp e
  cases e
  unfold gLst at e3
  split at e3
  · rename_i hl
    cases e3
    refine ⟨F, S, r, ds, _, e1, fun xs F1 H1 p1 r1 => ⟨line_le (by rw [r1.len]; exact hl), fun p hp => ?_⟩⟩
    have t := Tr0.newH (o := .lst xs) p1.rel.sub hp
    exact k p _ _ (p1.trans (Po.tr0 p1.rel t)) (p1.rel.sub.free hp) (p1.tr.dm _ hp) ⟨xs, upd_same, r1⟩
  · cases e3
/-- what is new may be frozen -/
theorem v_new (h : PF X e f) : PV X e f := by
  refine h.imp ?_
  rintro σ H Q ⟨F, S, r, d, S', e, k⟩
  refine ⟨F, S, r, d, S', e, fun a F1 H1 p n nH c => ?_⟩
  obtain ⟨o, ho⟩ := c.there
  have na : ∀ {b}, OA S' σ b → b ≠ a := fun {b} z e => by
    obtain ⟨_, o', ho'⟩ := r.own (p.oa _ z)
    rw [e, nH] at ho'; cases ho'
  have fs : Same F1 (upd F1 a o) := fun b u h => by rw [upd_ne (ne_of_none h n)]; exact h
  have sub : Same (upd F1 a o) H1 := fun b u h => by
    by_cases q : b = a
    · rw [q, upd_same] at h; cases h; rw [q]; exact ho
    · rw [upd_ne q] at h; exact p.rel.sub _ _ h
  have kk : Cell (bs X) (upd F1 a o) H1 a d := c.up fs rfl
  refine k (.ref a) (upd F1 a o) H1 ⟨⟨p.tr.fs.trans fs, p.tr.hs, fun b n1 n2 => ?_, p.tr.dm⟩, ⟨sub, p.rel.len, fun i s ei => ?_, p.rel.dis⟩, p.oa⟩ (kk.rp (upd_same.trans ho.symm))
  · by_cases q : b = a
    · rw [q]; exact .inl (.of nH)
    · rw [upd_ne q] at n2; exact p.tr.nf b n1 n2
  · have z := p.rel.ok i s ei
    cases s with
    | un => trivial
    | va d => obtain ⟨v, e', h⟩ := z; exact ⟨v, e', h.up fs⟩
    | ow c' =>
      obtain ⟨a', e', n', k'⟩ := z
      refine ⟨a', e', ?_, k'.up fs rfl⟩
      rw [upd_ne (na ⟨i, c', ei, e'⟩)]; exact n'
/-- a call of a built-in by its name -/
theorem v_callB {x : Str} {id : String} {g : List D → Option D} {fs : AF} {p : Pos} (hc : CallR X (.builtin id) (rVA (bs X) g)) (hm : X.mg x = none) (hv : bootBuiltins x = some (.builtin id)) (ha : PVa X (e :: es) fs) (hg : Gl X x := by rfl) (hn : x ≠ "__name__" := by decide)
    (hdb : (x == ("__debug__" : Str)) = false := by decide) (he : starEach (e :: es) X.env = (false, eval e X.env) :: starEach es X.env := by rfl) (hpl : (backTo pos (starEach es X.env)).any (·.1) = false := by rfl) : PV X (.Call (.Name x p) (e :: es) [] pos) (eA g fs) := by
  refine (pe_callB hc hg hm hv ha hn hdb he hpl).imp ?_
  rintro σ H Q ⟨F, S, r, d, S', e, k⟩
  obtain ⟨ds, S1, e1, e⟩ := bd_inv e
  obtain ⟨d3, e3, e⟩ := Option.map_eq_some_iff.mp e
  cases e
  exact ⟨F, S, r, ds, _, e1, fun xs F1 H1 p1 r1 => ⟨F1, ds, d, p1.rel.sub, r1, e3, fun v F2 H2 t r2 => k v F2 H2 (p1.trans (Po.tr0 p1.rel t)) r2⟩⟩
theorem v_callT {x : Str} {id : String} {g : List D → Option D} {fs : AF} {p : Pos} (hc : CallR X (.type id) (rVA (bs X) g)) (hm : X.mg x = none) (hv : bootBuiltins x = some (.type id)) (ha : PVa X (e :: es) fs) (hg : Gl X x := by rfl) (hn : x ≠ "__name__" := by decide)
    (hdb : (x == ("__debug__" : Str)) = false := by decide) (he : starEach (e :: es) X.env = (false, eval e X.env) :: starEach es X.env := by rfl) (hpl : (backTo pos (starEach es X.env)).any (·.1) = false := by rfl) : PV X (.Call (.Name x p) (e :: es) [] pos) (eA g fs) := by
  refine (pe_callTy hc hg hm hv ha hn hdb he hpl).imp ?_
  rintro σ H Q ⟨F, S, r, d, S', e, k⟩
  obtain ⟨ds, S1, e1, e⟩ := bd_inv e
  obtain ⟨d3, e3, e⟩ := Option.map_eq_some_iff.mp e
  cases e
  exact ⟨F, S, r, ds, _, e1, fun xs F1 H1 p1 r1 => ⟨F1, ds, d, p1.rel.sub, r1, e3, fun v F2 H2 t r2 => k v F2 H2 (p1.trans (Po.tr0 p1.rel t)) r2⟩⟩
theorem f_callT {x : Str} {id : String} {g : List D → Option D} {fs : AF} {p : Pos} (hc : CallR X (.type id) (rVF (bs X) g)) (hm : X.mg x = none) (hv : bootBuiltins x = some (.type id)) (ha : PVa X (e :: es) fs) (hg : Gl X x := by rfl) (hn : x ≠ "__name__" := by decide)
    (hdb : (x == ("__debug__" : Str)) = false := by decide) (he : starEach (e :: es) X.env = (false, eval e X.env) :: starEach es X.env := by rfl) (hpl : (backTo pos (starEach es X.env)).any (·.1) = false := by rfl) : PF X (.Call (.Name x p) (e :: es) [] pos) (eA g fs) := by
  refine (pe_callTy hc hg hm hv ha hn hdb he hpl).imp ?_
  rintro σ H Q ⟨F, S, r, d, S', e, k⟩
  obtain ⟨ds, S1, e1, e⟩ := bd_inv e
  obtain ⟨d3, e3, e⟩ := Option.map_eq_some_iff.mp e
  cases e
  exact ⟨F, S, r, ds, _, e1, fun xs F1 H1 p1 r1 => ⟨F1, ds, d, p1.rel.sub, r1, e3, fun v F2 H2 t n nH r2 => k v F2 H2 (p1.trans (Po.tr0 p1.rel t)) n (p1.tr.dm _ nH) r2⟩⟩
theorem f_callB {x : Str} {id : String} {g : List D → Option D} {fs : AF} {p : Pos} (hc : CallR X (.builtin id) (rVF (bs X) g)) (hm : X.mg x = none) (hv : bootBuiltins x = some (.builtin id)) (ha : PVa X (e :: es) fs) (hg : Gl X x := by rfl) (hn : x ≠ "__name__" := by decide)
    (hdb : (x == ("__debug__" : Str)) = false := by decide) (he : starEach (e :: es) X.env = (false, eval e X.env) :: starEach es X.env := by rfl) (hpl : (backTo pos (starEach es X.env)).any (·.1) = false := by rfl) : PF X (.Call (.Name x p) (e :: es) [] pos) (eA g fs) := by
  refine (pe_callB hc hg hm hv ha hn hdb he hpl).imp ?_
  rintro σ H Q ⟨F, S, r, d, S', e, k⟩
  obtain ⟨ds, S1, e1, e⟩ := bd_inv e
  obtain ⟨d3, e3, e⟩ := Option.map_eq_some_iff.mp e
  cases e
  exact ⟨F, S, r, ds, _, e1, fun xs F1 H1 p1 r1 => ⟨F1, ds, d, p1.rel.sub, r1, e3, fun v F2 H2 t n nH r2 => k v F2 H2 (p1.trans (Po.tr0 p1.rel t)) n (p1.tr.dm _ nH) r2⟩⟩
end
end Sw
/-! the value layer: statements, defs, calls -/
namespace Sw
open PySem PySem.Spec PyProof.Rows L2
inductive Out where
  | nx | ret (d : D) | rtF (c : D) | brk | cont
abbrev SF := Ss → Option (Out × Ss)
/-- behind a statement: pinned slots hold what they held -/
structure Ps (P : List Nat) (B : Bs) (F : Hp) (S : Ss) (σ : L2.St) (H F' : Hp) (S' : Ss) (σ' : L2.St) (H' : Hp) : Prop where
  tr : Tr (OA S σ) F H F' H'
  rel : Rel B F' S' σ' H'
  oa : ∀ a, OA S' σ' a → OA S σ a ∨ H a = none
  pin : ∀ i, i ∈ P → σ'[i]? = σ[i]?
section
variable {P : List Nat} {B : Bs} {F H F1 H1 F2 H2 : Hp} {S S1 S2 : Ss} {σ σ1 σ2 : L2.St}
theorem Ps.trans (p : Ps P B F S σ H F1 S1 σ1 H1) (q : Ps P B F1 S1 σ1 H1 F2 S2 σ2 H2) : Ps P B F S σ H F2 S2 σ2 H2 :=
  ⟨p.tr.trans q.tr p.oa, q.rel, fun a z => by
    rcases q.oa a z with h | h
    · exact p.oa a h
    · exact .inr (p.tr.dm a h), fun i h => (q.pin i h).trans (p.pin i h)⟩
theorem Ps.refl (r : Rel B F S σ H) : Ps P B F S σ H F S σ H := ⟨Tr.refl, r, fun _ h => .inl h, fun _ _ => rfl⟩
theorem Ps.of (p : Po B F S σ H F1 S1 H1) : Ps P B F S σ H F1 S1 σ H1 := ⟨p.tr, p.rel, fun a h => .inl (p.oa a h), fun _ _ => rfl⟩
/-- a slot takes a value -/
theorem Rel.setV {i : Nat} {d : D} {v : V} (r : Rel B F S σ H) (h : Rp B F d v) : Rel B F (S.set i (.va d)) (σ.set i (some v)) H := by
  refine ⟨r.sub, by simpa using r.len, fun j s e => ?_, fun j k c c' w e e' f f' => ?_⟩
  · by_cases q : i = j
    · subst q
      have hi : i < S.length := by
        rcases Nat.lt_or_ge i S.length with q | q
        · exact q
        · rw [List.getElem?_eq_none (by simpa using q)] at e; cases e
      rw [List.getElem?_set_self hi] at e
      cases e
      exact ⟨v, List.getElem?_set_self (by rw [← r.len]; exact hi), h⟩
    · rw [List.getElem?_set_ne q] at e
      rw [List.getElem?_set_ne q]
      exact r.ok j s e
  · have ne : ∀ {j c}, (S.set i (.va d))[j]? = some (Sl.ow c) → i ≠ j ∧ S[j]? = some (Sl.ow c) := fun {j c} e => by
      by_cases q : i = j
      · subst q
        have hi : i < S.length := by
          rcases Nat.lt_or_ge i S.length with q | q
          · exact q
          · rw [List.getElem?_eq_none (by simpa using q)] at e; cases e
        rw [List.getElem?_set_self hi] at e; cases e
      · rw [List.getElem?_set_ne q] at e
        exact ⟨q, e⟩
    obtain ⟨n1, e1⟩ := ne e
    obtain ⟨n2, e2⟩ := ne e'
    rw [List.getElem?_set_ne n1] at f
    rw [List.getElem?_set_ne n2] at f'
    exact r.dis j k c c' w e1 e2 f f'
theorem OA.setV {i : Nat} {d : D} {v : V} {a : Addr} (h : OA (S.set i (.va d)) (σ.set i (some v)) a) : OA S σ a := by
  obtain ⟨j, c, e, e'⟩ := h
  by_cases q : i = j
  · subst q
    have hi : i < S.length := by
      rcases Nat.lt_or_ge i S.length with q | q
      · exact q
      · rw [List.getElem?_eq_none (by simpa using q)] at e; cases e
    rw [List.getElem?_set_self hi] at e; cases e
  · rw [List.getElem?_set_ne q] at e e'
    exact ⟨j, c, e, e'⟩
theorem OA.setO {i : Nat} {c : D} {x a : Addr} (h : OA (S.set i (.ow c)) (σ.set i (some (.ref x))) a) : OA S σ a ∨ a = x := by
  obtain ⟨j, c', e, e'⟩ := h
  by_cases q : i = j
  · subst q
    rcases Nat.lt_or_ge i σ.length with hi | hi
    · rw [List.getElem?_set_self hi] at e'
      cases e'
      exact .inr rfl
    · rw [List.getElem?_eq_none (by simpa using hi)] at e'; cases e'
  · rw [List.getElem?_set_ne q] at e e'
    exact .inl ⟨j, c', e, e'⟩
/-- a slot takes a cell that none owns -/
theorem Rel.setO {i : Nat} {c : D} {a : Addr} (r : Rel B F S σ H) (n : F a = none) (h : Cell B F H a c) (no : ∀ j c', j ≠ i → S[j]? = some (.ow c') → σ[j]? ≠ some (some (.ref a))) : Rel B F (S.set i (.ow c)) (σ.set i (some (.ref a))) H := by
  refine ⟨r.sub, by simpa using r.len, fun j s e => ?_, fun j k d d' w e e' f f' => ?_⟩
  · by_cases q : i = j
    · subst q
      have hi : i < S.length := by
        rcases Nat.lt_or_ge i S.length with q | q
        · exact q
        · rw [List.getElem?_eq_none (by simpa using q)] at e; cases e
      rw [List.getElem?_set_self hi] at e
      cases e
      exact ⟨a, List.getElem?_set_self (by rw [← r.len]; exact hi), n, h⟩
    · rw [List.getElem?_set_ne q] at e
      rw [List.getElem?_set_ne q]
      exact r.ok j s e
  · have at_ : ∀ {j w}, (σ.set i (some (.ref a)))[j]? = some (some w) → (i = j ∧ w = .ref a) ∨ (i ≠ j ∧ σ[j]? = some (some w)) := fun {j w} f => by
      by_cases q : i = j
      · subst q
        rcases Nat.lt_or_ge i σ.length with hi | hi
        · rw [List.getElem?_set_self hi] at f
          cases f; exact .inl ⟨rfl, rfl⟩
        · rw [List.getElem?_eq_none (by simpa using hi)] at f; cases f
      · rw [List.getElem?_set_ne q] at f
        exact .inr ⟨q, f⟩
    rcases at_ f with ⟨q, z⟩ | ⟨q, z⟩
    · rcases at_ f' with ⟨q', z'⟩ | ⟨q', z'⟩
      · exact q.symm.trans q'
      · rw [List.getElem?_set_ne q'] at e'
        subst z
        exact absurd z' (no k d' (Ne.symm q') e')
    · rcases at_ f' with ⟨q', z'⟩ | ⟨q', z'⟩
      · rw [List.getElem?_set_ne q] at e
        subst z'
        exact absurd z (no j d (Ne.symm q) e)
      · rw [List.getElem?_set_ne q] at e
        rw [List.getElem?_set_ne q'] at e'
        exact r.dis j k d d' w e e' z z'
end

/-! ### readings -/
def ODone (P : List Nat) (B : Bs) (F : Hp) (S : Ss) (σ : L2.St) (H : Hp) (Dn : Ends) (F' : Hp) (σ' : L2.St) (H' : Hp) : Out → Prop
  | .nx => Dn.nx σ' H'
  | .brk => Dn.bk σ' H'
  | .cont => Dn.ct σ' H'
  | .ret d => ∀ v, Rp B F' d v → Dn.rt v H'
  | .rtF c => ∀ a, (H a = none ∨ (OA S σ a ∧ ∀ i, i ∈ P → σ[i]? ≠ some (some (.ref a)))) → F' a = none → Cell B F' H' a c → Dn.rt (.ref a) H'
def tM (P : List Nat) (B : Bs) (f : SF) : TS := fun Dn σ H => ∃ F S, Rel B F S σ H ∧ ∃ o S', f S = some (o, S') ∧ ∀ σ' F' H', Ps P B F S σ H F' S' σ' H' → ODone P B F S σ H Dn F' σ' H' o
abbrev PM (P : List Nat) (X : Cx) (s : Stmt) (f : SF) : Prop := PS X s (tM P (bs X) f)
abbrev PMs (P : List Nat) (X : Cx) (s : List Stmt) (f : SF) : Prop := PSs X s (tM P (bs X) f)
/-- what is wanted behind a first statement serves behind what follows it -/
theorem ODone.pre {P : List Nat} {B : Bs} {F H F1 H1 F2 H2 : Hp} {S S1 : Ss} {σ σ1 σ2 : L2.St} {Dn : Ends} {o : Out} (p : Ps P B F S σ H F1 S1 σ1 H1) (h : ODone P B F S σ H Dn F2 σ2 H2 o) : ODone P B F1 S1 σ1 H1 Dn F2 σ2 H2 o := by
  cases o with
  | rtF c =>
    intro a ha n k
    refine h a ?_ n k
    rcases ha with z | ⟨z, np⟩
    · exact .inl (p.tr.dm a z)
    · rcases p.oa a z with w | w
      · exact .inr ⟨w, fun i hi q => np i hi ((p.pin i hi).trans q)⟩
      · exact .inl w
  | _ => exact h

/-! ### combinators -/
def sNx : SF := fun S => some (.nx, S)
def sNo : SF := fun _ => none
def sSeq (f g : SF) : SF := fun S => bd (f S) fun o S1 => match o with
  | .nx => g S1
  | o => some (o, S1)
def sDrop (f : EF) : SF := fun S => bd (f S) fun _ S1 => some (.nx, S1)
def sSet (i : Nat) (f : EF) : SF := fun S => bd (f S) fun d S1 => some (.nx, S1.set i (.va d))
def sSetF (i : Nat) (f : EF) : SF := fun S => bd (f S) fun d S1 => some (.nx, S1.set i (.ow d))
def sRet (f : EF) : SF := fun S => bd (f S) fun d S1 => some (.ret d, S1)
def sRetF (f : EF) : SF := fun S => bd (f S) fun d S1 => some (.rtF d, S1)
def isOw : Option Sl → Bool
  | some (.ow _) => true
  | _ => false
/-- return of a name that holds a cell of its own; every pinned slot still owns its cell -/
def sRetO (P : List Nat) (i : Nat) : SF := fun S => match S[i]? with
  | some (.ow c) => if P.all (fun j => isOw S[j]?) = true then some (.rtF c, S) else none
  | _ => none
def sRetN : SF := fun S => some (.ret .non, S)
def sIf (t : TF) (f g : SF) : SF := fun S => bd (t S) fun b S1 => if b = true then f S1 else g S1
def sBrk : SF := fun S => some (.brk, S)
def sCont : SF := fun S => some (.cont, S)

section
variable {P : List Nat} {X : Cx} {st : Stmt} {rest : List Stmt} {f g : SF} {e : Expr} {fe : EF} {pos : Pos}
theorem s_nil : PMs P X [] sNx := pss_nil.imp (by
  rintro Dn σ H ⟨F, S, r, o, S', e, k⟩; cases e; exact k σ F H (Ps.refl r))
theorem s_cons (h1 : PM P X st f) (h2 : PMs P X rest g) : PMs P X (st :: rest) (sSeq f g) := by
  refine (pss_cons h1 h2).imp ?_
  rintro Dn σ H ⟨F, S, r, o, S', e, k⟩
  obtain ⟨o1, S1, e1, e⟩ := bd_inv e
  refine ⟨F, S, r, o1, S1, e1, fun σ1 F1 H1 p1 => ?_⟩
  cases o1 with
  | nx => exact ⟨F1, S1, p1.rel, o, S', e, fun σ2 F2 H2 p2 => (k σ2 F2 H2 (p1.trans p2)).pre p1⟩
  | ret d => cases e; exact k σ1 F1 H1 p1
  | rtF d => cases e; exact k σ1 F1 H1 p1
  | brk => cases e; exact k σ1 F1 H1 p1
  | cont => cases e; exact k σ1 F1 H1 p1
theorem s_one (h1 : PM P X st f) : PMs P X [st] f := pss_one h1
theorem s_never : PM P X st sNo := ps_never.imp (by
  rintro Dn σ H ⟨F, S, r, o, S', e, k⟩; cases e)
theorem s_pass : PM P X (.Pass pos) sNx := ps_pass.imp (by
  rintro Dn σ H ⟨F, S, r, o, S', e, k⟩; cases e; exact k σ F H (Ps.refl r))
theorem s_brk : PM P X (.Break pos) sBrk := ps_break.imp (by
  rintro Dn σ H ⟨F, S, r, o, S', e, k⟩; cases e; exact k σ F H (Ps.refl r))
theorem s_cont : PM P X (.Continue pos) sCont := ps_continue.imp (by
  rintro Dn σ H ⟨F, S, r, o, S', e, k⟩; cases e; exact k σ F H (Ps.refl r))
theorem s_expr (he : PV X e fe) (hs : swapsWith e none pos.line X.env = pure false := by rfl) : PM P X (.Expr e pos) (sDrop fe) := by
  refine (ps_expr he hs).imp ?_
  rintro Dn σ H ⟨F, S, r, o, S', e, k⟩
  obtain ⟨d, S1, e1, e⟩ := bd_inv e
  cases e
  exact ⟨F, S, r, d, _, e1, fun v F1 H1 p1 r1 => k σ F1 H1 (Ps.of p1)⟩
theorem s_set (i : Nat) {x : Str} {pos' : Pos} (hN : X.N.Nodup) (hP : i ∉ P) (he : PV X e fe) (hi : X.N[i]? = some x := by rfl) (hx : Loc X.env.scope x := by first | exact Or.inl rfl | exact Or.inr rfl) (hs : swapsWith e (some (.Name x pos')) pos.line X.env = pure false := by rfl)
    (hf : X.fn x = true ∨ X.env.scope.names.lookup x = some .local := by first | exact .inl rfl | exact .inr rfl) : PM P X (.Assign [.Name x pos'] e pos) (sSet i fe) := by
  refine (ps_set hN hi hx he hs hf).imp ?_
  rintro Dn σ H ⟨F, S, r, o, S', e, k⟩
  obtain ⟨d, S1, e1, e⟩ := bd_inv e
  cases e
  refine ⟨F, S, r, d, _, e1, fun v F1 H1 p1 r1 => k _ F1 H1 ⟨p1.tr, p1.rel.setV r1, fun a z => .inl (p1.oa a z.setV), fun j hj => ?_⟩⟩
  exact List.getElem?_set_ne (fun (z : i = j) => hP (z.symm ▸ hj))
theorem Po.newO {B : Bs} {F H F1 H1 : Hp} {S S1 : Ss} {σ : L2.St} {i : Nat} {c : D} {a : Addr} (r : Rel B F S σ H) (p1 : Po B F S σ H F1 S1 H1) (hP : i ∉ P) (n : F1 a = none) (nH : H a = none) (h : Cell B F1 H1 a c) :
    Ps P B F S σ H F1 (S1.set i (.ow c)) (σ.set i (some (.ref a))) H1 := by
  refine ⟨p1.tr, p1.rel.setO n h fun j c' _ ej q => ?_, fun b z => ?_, fun j hj => ?_⟩
  · obtain ⟨_, o, ho⟩ := r.own (p1.oa a ⟨j, c', ej, q⟩)
    rw [nH] at ho; cases ho
  · rcases z.setO with z | z
    · exact .inl (p1.oa b z)
    · rw [z]; exact .inr nH
  · exact List.getElem?_set_ne (fun (z : i = j) => hP (z.symm ▸ hj))
theorem s_setF (i : Nat) {x : Str} {pos' : Pos} (hN : X.N.Nodup) (hP : i ∉ P) (he : PF X e fe) (hi : X.N[i]? = some x := by rfl) (hx : Loc X.env.scope x := by first | exact Or.inl rfl | exact Or.inr rfl) (hs : swapsWith e (some (.Name x pos')) pos.line X.env = pure false := by rfl)
    (hf : X.fn x = true ∨ X.env.scope.names.lookup x = some .local := by first | exact .inl rfl | exact .inr rfl) : PM P X (.Assign [.Name x pos'] e pos) (sSetF i fe) := by
  refine (ps_set hN hi hx he hs hf).imp ?_
  rintro Dn σ H ⟨F, S, r, o, S', e, k⟩
  obtain ⟨d, S1, e1, e⟩ := bd_inv e
  cases e
  exact ⟨F, S, r, d, _, e1, fun a F1 H1 p1 n nH h => k _ F1 H1 (Po.newO r p1 hP n nH h)⟩
theorem s_ret (he : PV X e fe) : PM P X (.Return (some e) pos) (sRet fe) := by
  refine (ps_ret he).imp ?_
  rintro Dn σ H ⟨F, S, r, o, S', e, k⟩
  obtain ⟨d, S1, e1, e⟩ := bd_inv e
  cases e
  exact ⟨F, S, r, d, _, e1, fun v F1 H1 p1 r1 => k σ F1 H1 (Ps.of p1) v r1⟩
theorem s_retF (he : PF X e fe) : PM P X (.Return (some e) pos) (sRetF fe) := by
  refine (ps_ret he).imp ?_
  rintro Dn σ H ⟨F, S, r, o, S', e, k⟩
  obtain ⟨d, S1, e1, e⟩ := bd_inv e
  cases e
  refine ⟨F, S, r, d, _, e1, fun a F1 H1 p1 n nH h => k σ F1 H1 (Ps.of p1) a (.inl nH) n h⟩
theorem s_retO (i : Nat) {x : Str} {p : Pos} (hP : i ∉ P) (hN : X.N[i]? = some x := by rfl) (hv : Vis X.env.scope x := by first | exact Or.inl rfl | exact Or.inr (Or.inl rfl) | exact Or.inr (Or.inr rfl)) (hd : (x == ("__debug__" : Str)) = false := by decide)
    (hcd : (x == ("__classdict__" : Str)) = false := by decide) : PM P X (.Return (some (.Name x p)) pos) (sRetO P i) := by
  refine (ps_ret (pe_var (i := i) hN hv hd hcd)).imp ?_
  rintro Dn σ H ⟨F, S, r, o, S', e, k⟩
  unfold sRetO at e
  split at e
  · rename_i c h
    split at e
    · rename_i hall
      cases e
      obtain ⟨a, ea, n, kk⟩ := r.ok i _ h
      refine ⟨_, ea, k σ F H (Ps.refl r) a (.inr ⟨⟨i, c, h, ea⟩, fun j hj q => ?_⟩) n kk⟩
      have z := List.all_eq_true.mp hall j hj
      cases w : S[j]? with
      | none => rw [w] at z; cases z
      | some s =>
        rw [w] at z
        cases s with
        | ow c' => exact hP (r.dis j i c' c _ w h q ea ▸ hj)
        | un => cases z
        | va d => cases z
    · cases e
  · cases e
theorem s_retN : PM P X (.Return none pos) sRetN := ps_retN.imp (by
  rintro Dn σ H ⟨F, S, r, o, S', e, k⟩; cases e; exact k σ F H (Ps.refl r) _ rfl)
theorem s_if {c : Expr} {a b : List Stmt} {tc : TF} (hc : PVt X c tc) (ha : PMs P X a f) (hb : PMs P X b g) : PM P X (.If c a b pos) (sIf tc f g) := by
  refine (ps_if hc ha hb).imp ?_
  rintro Dn σ H ⟨F, S, r, o, S', e, k⟩
  obtain ⟨c, S1, e1, e⟩ := bd_inv e
  refine ⟨F, S, r, c, S1, e1, fun F1 H1 p1 => ?_⟩
  split at e
  · rename_i h
    rw [if_pos h]
    exact ⟨F1, S1, p1.rel, o, S', e, fun σ2 F2 H2 p2 => (k σ2 F2 H2 ((Ps.of p1).trans p2)).pre (Ps.of p1)⟩
  · rename_i h
    rw [if_neg h]
    exact ⟨F1, S1, p1.rel, o, S', e, fun σ2 F2 H2 p2 => (k σ2 F2 H2 ((Ps.of p1).trans p2)).pre (Ps.of p1)⟩
end
end Sw
/-! the value layer: what defs promise, calls -/
namespace Sw
open PySem PySem.Spec PyProof.Rows L2
/-- a new cell frozen -/
theorem Po.freezeNew {B : Bs} {F H F1 H1 : Hp} {S S' : Ss} {σ : L2.St} {a : Addr} {c : D} (r : Rel B F S σ H) (p : Po B F S σ H F1 S' H1) (n : F1 a = none) (nH : H a = none) (h : Cell B F1 H1 a c) :
    ∃ F2, Po B F S σ H F2 S' H1 ∧ Rp B F2 c (.ref a) := by
  obtain ⟨o, ho⟩ := h.there
  have na : ∀ {b}, OA S' σ b → b ≠ a := fun {b} z e => by
    obtain ⟨_, o', ho'⟩ := r.own (p.oa _ z)
    rw [e, nH] at ho'; cases ho'
  have fs : Same F1 (upd F1 a o) := fun b u h => by rw [upd_ne (ne_of_none h n)]; exact h
  have sub : Same (upd F1 a o) H1 := fun b u h => by
    by_cases q : b = a
    · rw [q, upd_same] at h; cases h; rw [q]; exact ho
    · rw [upd_ne q] at h; exact p.rel.sub _ _ h
  have kk : Cell B (upd F1 a o) H1 a c := h.up fs rfl
  refine ⟨upd F1 a o, ⟨⟨p.tr.fs.trans fs, p.tr.hs, fun b n1 n2 => ?_, p.tr.dm⟩, ⟨sub, p.rel.len, fun i s ei => ?_, p.rel.dis⟩, p.oa⟩, kk.rp (upd_same.trans ho.symm)⟩
  · by_cases q : b = a
    · rw [q]; exact .inl (.of nH)
    · rw [upd_ne q] at n2; exact p.tr.nf b n1 n2
  · have z := p.rel.ok i s ei
    cases s with
    | un => trivial
    | va d => obtain ⟨v, e', h⟩ := z; exact ⟨v, e', h.up fs⟩
    | ow c' =>
      obtain ⟨a', e', n', k'⟩ := z
      refine ⟨a', e', ?_, k'.up fs rfl⟩
      rw [upd_ne (na ⟨i, c', ei, e'⟩)]; exact n'

/-! ### what a def promises -/
def RDone (B : Bs) (H F' H' : Hp) (Q : VK) : Out → Prop
  | .nx => Q .non H'
  | .ret d => ∀ v, Rp B F' d v → Q v H'
  | .rtF c => ∀ a, H a = none → F' a = none → Cell B F' H' a c → Q (.ref a) H'
  | _ => False
def spM (B : Bs) (n : Nat) (m : SF) : Sp := fun vs H Q _ => vs.length = n ∧ ∃ F S, Rel B F S (vs.map some) H ∧ ∃ o S', m S = some (o, S') ∧ ∀ F' H', Tr (OA S (vs.map some)) F H F' H' → Same F' H' →
  (∀ (i : Nat) (c' : D), S'[i]? = some (.ow c') → ∃ a, vs[i]? = some (.ref a) ∧ F' a = none ∧ Cell B F' H' a c' ∧ OA S (vs.map some) a) → RDone B H F' H' Q o
/-- exactly the slots of P are owned -/
def owOk (P : List Nat) (S : Ss) : Bool := (List.range S.length).all (fun i => isOw S[i]? == P.contains i) && P.all (fun i => i < S.length)
def cutP (P : List Nat) (n : Nat) (S : Ss) : Ss := (List.range n).map fun i => if P.contains i = true then (S[i]?).getD .un else .un
def fnM (n : Nat) (P : List Nat) (body : SF) : SF := fun S => if owOk P S = true then bd (body (S ++ List.replicate (n - S.length) .un)) fun o S' => some (o, cutP P S.length S') else none
section
variable {B : Bs} {F H : Hp} {S : Ss} {σ : L2.St}
theorem isOw_of {s : Option Sl} (h : isOw s = true) : ∃ c, s = some (.ow c) := by
  cases s with
  | none => cases h
  | some s => cases s with
    | ow c => exact ⟨c, rfl⟩
    | un => cases h
    | va d => cases h
theorem owOk_ow {P : List Nat} (h : owOk P S = true) {i : Nat} {c : D} (e : S[i]? = some (.ow c)) : i ∈ P := by
  unfold owOk at h
  rw [Bool.and_eq_true] at h
  have hi : i < S.length := by
    rcases Nat.lt_or_ge i S.length with q | q
    · exact q
    · rw [List.getElem?_eq_none q] at e; cases e
  have z := List.all_eq_true.mp h.1 i (List.mem_range.mpr hi)
  rw [e] at z
  have z' : P.contains i = true := by
    have := beq_iff_eq.mp z
    rw [← this]; rfl
  exact List.contains_iff_mem.mp z'
theorem owOk_mem {P : List Nat} (h : owOk P S = true) {i : Nat} (e : i ∈ P) : ∃ c, S[i]? = some (.ow c) := by
  unfold owOk at h
  rw [Bool.and_eq_true] at h
  have hi : i < S.length := of_decide_eq_true (List.all_eq_true.mp h.2 i e)
  have z := beq_iff_eq.mp (List.all_eq_true.mp h.1 i (List.mem_range.mpr hi))
  exact isOw_of (z.trans (List.contains_iff_mem.mpr e))
theorem ext_at {α : Type} {l : List α} {k i : Nat} {x y : α} (h : (l ++ List.replicate k y)[i]? = some x) : l[i]? = some x ∨ (l.length ≤ i ∧ x = y) := by
  rcases Nat.lt_or_ge i l.length with q | q
  · rw [List.getElem?_append_left q] at h; exact .inl h
  · rw [List.getElem?_append_right q] at h
    refine .inr ⟨q, ?_⟩
    have := List.mem_of_getElem? h
    exact (List.mem_replicate.mp this).2
theorem lt_at {α : Type} {l : List α} {i : Nat} {x : α} (h : l[i]? = some x) : i < l.length := by
  rcases Nat.lt_or_ge i l.length with q | q
  · exact q
  · rw [List.getElem?_eq_none q] at h; cases h
theorem Rel.ext (r : Rel B F S σ H) (k : Nat) : Rel B F (S ++ List.replicate k .un) (σ ++ List.replicate k none) H := by
  refine ⟨r.sub, by simp [r.len], fun i s e => ?_, fun i j c c' v e e' f f' => ?_⟩
  · rcases ext_at e with q | ⟨q, z⟩
    · have hi : i < σ.length := by rw [← r.len]; exact lt_at q
      rw [List.getElem?_append_left hi]
      exact r.ok i s q
    · subst z; trivial
  · rcases ext_at e with q | ⟨q, z⟩
    · rcases ext_at e' with q' | ⟨q', z'⟩
      · rw [List.getElem?_append_left (by rw [← r.len]; exact lt_at q)] at f
        rw [List.getElem?_append_left (by rw [← r.len]; exact lt_at q')] at f'
        exact r.dis i j c c' v q q' f f'
      · cases z'
    · cases z
theorem OA.ext {k : Nat} {a : Addr} (hl : S.length = σ.length) (h : OA (S ++ List.replicate k .un) (σ ++ List.replicate k none) a) : OA S σ a := by
  obtain ⟨i, c, e, e'⟩ := h
  rcases ext_at e with q | ⟨q, z⟩
  · rw [List.getElem?_append_left (by rw [← hl]; exact lt_at q)] at e'
    exact ⟨i, c, q, e'⟩
  · cases z
end
theorem cutP_at {P : List Nat} {n i : Nat} {S : Ss} {c : D} (h : (cutP P n S)[i]? = some (.ow c)) : i ∈ P ∧ i < n ∧ S[i]? = some (.ow c) := by
  unfold cutP at h
  rw [List.getElem?_map] at h
  have hi : i < n := by
    have := lt_at (l := (List.range n).map fun i => if P.contains i = true then (S[i]?).getD .un else .un) (i := i) (by rw [List.getElem?_map]; exact h)
    simpa using this
  rw [List.getElem?_range hi] at h
  simp only [Option.map_some, Option.some.injEq] at h
  split at h
  · rename_i hp
    refine ⟨List.contains_iff_mem.mp hp, hi, ?_⟩
    cases e : S[i]? with
    | none => rw [e] at h; cases h
    | some s => rw [e] at h; exact congrArg some h
  · cases h
section
variable {Pg : Program} {w : World} {K : PySem.W.Frag} {mg : Str → Option Value} {base : Heap}
theorem spM_start {N ps : List Str} {P : List Nat} {body : SF} {vs : List V} {H : Hp} {Q : VK} {E : XK} (h : spM ⟨K, mg⟩ ps.length (fnM N.length P body) vs H Q E) :
    tM P ⟨K, mg⟩ body { nx := fun _ H' => Q .non H', rt := Q } (L2.start N vs) H := by
  obtain ⟨hl, F, S, r, o, S', e, k⟩ := h
  have hS : S.length = ps.length := by rw [r.len, List.length_map, hl]
  unfold fnM at e
  split at e
  · rename_i hw
    obtain ⟨o1, S1, e1, e⟩ := bd_inv e
    cases e
    have r' := r.ext (N.length - S.length)
    have es : L2.start N vs = vs.map some ++ List.replicate (N.length - S.length) none := by
      unfold L2.start; rw [hS, hl]
    refine ⟨F, _, by rw [es]; exact r', o, S1, e1, fun σ' F' H' p => ?_⟩
    rw [es] at p
    have oa : ∀ a, OA (S ++ List.replicate (N.length - S.length) .un) (vs.map some ++ List.replicate (N.length - S.length) none) a → OA S (vs.map some) a := fun a => OA.ext r.len
    have q := k F' H' (p.tr.mono oa) p.rel.sub fun i c' hc => ?_
    · cases o with
      | nx => exact q
      | ret d => exact q
      | rtF c =>
        intro a ha n kk
        refine q a ?_ n kk
        rcases ha with z | ⟨z, np⟩
        · exact z
        · rw [es] at z
          obtain ⟨i, c', e2, e3⟩ := oa a z
          have hi : i ∈ P := owOk_ow hw e2
          refine absurd ?_ (np i hi)
          rw [es, List.getElem?_append_left (lt_at e3)]
          exact e3
      | brk => exact q.elim
      | cont => exact q.elim
    · obtain ⟨hi, hn, e2⟩ := cutP_at hc
      obtain ⟨a, ea, na, ka⟩ := p.rel.ok i _ e2
      rw [p.pin i hi, List.getElem?_append_left (by rw [List.length_map, hl, ← hS]; exact hn)] at ea
      obtain ⟨c0, e0⟩ := owOk_mem hw hi
      refine ⟨a, ?_, na, ka, ⟨i, c0, e0, ea⟩⟩
      rw [List.getElem?_map] at ea
      cases z : vs[i]? with
      | none => rw [z] at ea; cases ea
      | some v => rw [z] at ea; cases ea; rfl
  · cases e

theorem fn_ok {x qual : Str} {st : Stmt} {f : Addr} {fd : FuncData} {N ps : List Str} {k : Nat} (Fn : Fun K x qual st f fd) (Sc : FnScope N ps (defScope st)) (P : List Nat) (body : SF)
    (hbody : ∀ (cdv : Value) (A : Around) (outer : List Env) (s : Shared) (H : Hp) (E : XK), Room k (A.deeper (envOfC qual (defScope st) s.heap.objs.size f cdv)) →
      PSs (cxOf CX0 Pg w K mg base N qual (defScope st) f cdv A outer s H E).nox (defBody st) (tM P ⟨K, mg⟩ body)) :
    FnOk Pg w K mg base CX0 (k + 1) f fd ps (spM ⟨K, mg⟩ ps.length (fnM N.length P body)) := by
  exact Fn.ok Sc (fun vs H Q E h => h.1) fun cdv A outer s H vs Q E hr h => ⟨_, hbody cdv A outer s H E hr, spM_start h⟩
end

/-! ### calls -/
section
variable {B : Bs} {F H : Hp}
theorem Rel.args : ∀ {ds : List D} {vs : List V}, Same F H → RpA B F ds vs → Rel B F (ds.map .va) (vs.map some) H := fun {ds vs} s r => by
  refine ⟨s, by simp [r.len], fun i t e => ?_, fun i j c c' v e => ?_⟩
  · rw [List.getElem?_map] at e
    cases z : ds[i]? with
    | none => rw [z] at e; cases e
    | some d =>
      rw [z] at e; cases e
      obtain ⟨v, h1, h2⟩ := r.get z
      exact ⟨v, by rw [List.getElem?_map, h1]; rfl, h2⟩
  · rw [List.getElem?_map] at e
    cases z : ds[i]? with
    | none => rw [z] at e; cases e
    | some d => rw [z] at e; cases e
theorem OA.args {ds : List D} {σ : L2.St} {a : Addr} (h : OA (ds.map .va) σ a) : False := by
  obtain ⟨i, c, e, _⟩ := h
  rw [List.getElem?_map] at e
  cases z : ds[i]? with
  | none => rw [z] at e; cases e
  | some d => rw [z] at e; cases e
end
/-- a call whose arguments are values -/
def eCall (m : SF) (fs : AF) : EF := fun S => bd (fs S) fun ds S1 => match m (ds.map .va) with
  | some (.ret d, _) => some (d, S1)
  | some (.rtF c, _) => some (c, S1)
  | some (.nx, _) => some (.non, S1)
  | _ => none
/-- .. whose answer is a new cell -/
def eCallF (m : SF) (fs : AF) : EF := fun S => bd (fs S) fun ds S1 => match m (ds.map .va) with
  | some (.rtF c, _) => some (c, S1)
  | _ => none
section
variable {X : Cx} {k n : Nat} {f : Addr} {fd : FuncData} {ps : List Str} {m : SF} {x : Str} {p pos : Pos} {e : Expr} {es : List Expr} {fs : AF}
theorem call_core {Q : VK} {F H F1 H1 : Hp} {S S1 : Ss} {σ : L2.St} {ds : List D} {vs : List V} {o : Out} {Sx : Ss} (r : Rel (bs X) F S σ H) (hn : ds.length = n) (em : m (ds.map .va) = some (o, Sx)) (p1 : Po (bs X) F S σ H F1 S1 H1) (ra : RpA (bs X) F1 ds vs)
    (hQ : ∀ F2 H2, Po (bs X) F S σ H F2 S1 H2 → RDone (bs X) H F2 H2 Q o) : spM (bs X) n m (vs ++ []) H1 Q E0 := by
  rw [List.append_nil]
  refine ⟨by rw [ra.len, hn], F1, _, Rel.args p1.rel.sub ra, o, Sx, em, fun F2 H2 t s _ => ?_⟩
  have t0 : Tr0 F1 H1 F2 H2 := ⟨t.mono fun a z => z.args, s⟩
  have q := hQ F2 H2 (p1.trans (Po.tr0 p1.rel t0))
  cases o with
  | rtF c => exact fun a nH n kk => q a (p1.tr.dm a nH) n kk
  | nx => exact q
  | ret d => exact q
  | brk => exact q
  | cont => exact q
theorem f_call (F : FnOk X.prog X.w X.K X.mg X.base CX0 k f fd ps (spM (bs X) n m)) (hr : Room k X.A) (hm : X.mg x = some (.ref f)) (hk : PySem.W.keepIn X.K (.ref f) = true) (hb : Binds X.K fd ps []) (hn : (e :: es).length = n)
    (ha : PVa X (e :: es) fs) (hfl : ∀ S ds S1, fs S = some (ds, S1) → ds.length = n) (hg : Gl X x := by rfl) (hdb : (x == ("__debug__" : Str)) = false := by decide) (he : starEach (e :: es) X.env = (false, eval e X.env) :: starEach es X.env := by rfl) (hpl : (backTo pos (starEach es X.env)).any (·.1) = false := by rfl) :
    PF X (.Call (.Name x p) (e :: es) [] pos) (eCallF m fs) := by
  refine (pe_call F hr hg hm hk hb .nil pass0 ha hdb he hpl).imp ?_
  rintro σ H Q ⟨F, S, r, d, S', e, kq⟩
  obtain ⟨ds, S1, e1, e⟩ := bd_inv e
  split at e
  · rename_i c Sx em
    cases e
    refine ⟨F, S, r, ds, _, e1, fun vs F1 H1 p1 ra => call_core r (hfl _ _ _ e1) em p1 ra fun F2 H2 p2 a nH n kk => kq a F2 H2 p2 n nH kk⟩
  · cases e
theorem v_call (F : FnOk X.prog X.w X.K X.mg X.base CX0 k f fd ps (spM (bs X) n m)) (hr : Room k X.A) (hm : X.mg x = some (.ref f)) (hk : PySem.W.keepIn X.K (.ref f) = true) (hb : Binds X.K fd ps []) (hn : (e :: es).length = n)
    (ha : PVa X (e :: es) fs) (hfl : ∀ S ds S1, fs S = some (ds, S1) → ds.length = n) (hg : Gl X x := by rfl) (hdb : (x == ("__debug__" : Str)) = false := by decide) (he : starEach (e :: es) X.env = (false, eval e X.env) :: starEach es X.env := by rfl) (hpl : (backTo pos (starEach es X.env)).any (·.1) = false := by rfl) :
    PV X (.Call (.Name x p) (e :: es) [] pos) (eCall m fs) := by
  refine (pe_call F hr hg hm hk hb .nil pass0 ha hdb he hpl).imp ?_
  rintro σ H Q ⟨F, S, r, d, S', e, kq⟩
  obtain ⟨ds, S1, e1, e⟩ := bd_inv e
  split at e
  · rename_i c Sx em
    cases e
    exact ⟨F, S, r, ds, _, e1, fun vs F1 H1 p1 ra => call_core r (hfl _ _ _ e1) em p1 ra fun F2 H2 p2 v rv => kq v F2 H2 p2 rv⟩
  · rename_i c Sx em
    cases e
    refine ⟨F, S, r, ds, _, e1, fun vs F1 H1 p1 ra => call_core r (hfl _ _ _ e1) em p1 ra fun F2 H2 p2 a nH n kk => ?_⟩
    obtain ⟨F3, p3, r3⟩ := Po.freezeNew r p2 n nH kk
    exact kq _ F3 H2 p3 r3
  · rename_i Sx em
    cases e
    exact ⟨F, S, r, ds, _, e1, fun vs F1 H1 p1 ra => call_core r (hfl _ _ _ e1) em p1 ra fun F2 H2 p2 => kq _ F2 H2 p2 rfl⟩
  · cases e
end
/-- how many arguments come -/
theorem aNil_len : ∀ S ds S1, aNil S = some (ds, S1) → ds.length = 0 := by
  rintro S ds S1 e; cases e; rfl
theorem aCons_len {f : EF} {r : AF} {n : Nat} (h : ∀ S ds S1, r S = some (ds, S1) → ds.length = n) : ∀ S ds S1, aCons f r S = some (ds, S1) → ds.length = n + 1 := by
  rintro S ds S1 e
  obtain ⟨d, S2, _, e⟩ := bd_inv e
  obtain ⟨dr, S3, e3, e⟩ := bd_inv e
  cases e
  simp [h _ _ _ e3]

/-! ### calls that hand on cells of their own -/
def ArOk (B : Bs) (F : Hp) (σ : L2.St) : List (Option Nat) → List D → List V → Prop
  | [], ds, vs => ds = [] ∧ vs = []
  | none :: ix, ds, vs => ∃ d dr v vr, ds = d :: dr ∧ vs = v :: vr ∧ Rp B F d v ∧ ArOk B F σ ix dr vr
  | some i :: ix, ds, vs => ∃ d dr v vr, ds = d :: dr ∧ vs = v :: vr ∧ σ[i]? = some (some v) ∧ ArOk B F σ ix dr vr
theorem ArOk.up {B : Bs} {F F' : Hp} {σ : L2.St} (s : Same F F') : ∀ {ix : List (Option Nat)} {ds : List D} {vs : List V}, ArOk B F σ ix ds vs → ArOk B F' σ ix ds vs
  | [], _, _, h => h
  | none :: ix, _, _, ⟨d, dr, v, vr, e1, e2, h, t⟩ => ⟨d, dr, v, vr, e1, e2, h.up s, ArOk.up s t⟩
  | some i :: ix, _, _, ⟨d, dr, v, vr, e1, e2, h, t⟩ => ⟨d, dr, v, vr, e1, e2, h, ArOk.up s t⟩
theorem ArOk.len {B : Bs} {F : Hp} {σ : L2.St} : ∀ {ix : List (Option Nat)} {ds : List D} {vs : List V}, ArOk B F σ ix ds vs → vs.length = ix.length
  | [], _, _, ⟨_, e⟩ => by rw [e]; rfl
  | none :: ix, _, _, ⟨d, dr, v, vr, e1, e2, h, t⟩ => by rw [e2, List.length_cons, List.length_cons, ArOk.len t]
  | some i :: ix, _, _, ⟨d, dr, v, vr, e1, e2, h, t⟩ => by rw [e2, List.length_cons, List.length_cons, ArOk.len t]
def tAo (B : Bs) (ix : List (Option Nat)) (f : AF) : TA := fun σ H Q => ∃ F S, Rel B F S σ H ∧ ∃ ds S', f S = some (ds, S') ∧ ∀ vs F' H', Po B F S σ H F' S' H' → ArOk B F' σ ix ds vs → Q vs H'
abbrev PVo (X : Cx) (ix : List (Option Nat)) (es : List Expr) (f : AF) : Prop := PA X es (tAo (bs X) ix f)
def parS : List (Option Nat) → List D → Ss → Ss
  | none :: ix, d :: ds, S => .va d :: parS ix ds S
  | some i :: ix, _ :: ds, S => (S[i]?).getD .un :: parS ix ds S
  | _, _, _ => []
def keepO : Sl → Sl
  | .ow c => .ow c
  | _ => .un
theorem keepO_ow {s : Sl} {c : D} (h : keepO s = .ow c) : s = .ow c := by
  cases s with
  | ow c' => exact h
  | un => cases h
  | va d => cases h
theorem keepO_va {s : Sl} {c : D} (h : keepO s = .va c) : False := by
  cases s <;> cases h
def backS : List (Option Nat) → Ss → Ss → Ss
  | none :: ix, _ :: sp, S => backS ix sp S
  | some i :: ix, s :: sp, S => backS ix sp (S.set i (keepO s))
  | _, _, S => S
def aOwn (i : Nat) (r : AF) : AF := fun S => if isOw S[i]? = true then bd (r S) fun ds S1 => some (.non :: ds, S1) else none
section
variable {X : Cx} {e : Expr} {es : List Expr} {fa : EF} {fr : AF} {ix : List (Option Nat)}
theorem o_nil : PVo X [] [] aNil := pa_nil.imp (by
  rintro σ H Q ⟨F, S, r, d, S', e, k⟩; cases e; exact k _ F H (Po.refl r) ⟨rfl, rfl⟩)
theorem o_cons (ha : PV X e fa) (hr : PVo X ix es fr) (hs : starEach (e :: es) X.env = (false, eval e X.env) :: starEach es X.env := by rfl) : PVo X (none :: ix) (e :: es) (aCons fa fr) := by
  refine (pa_cons ha hr hs).imp ?_
  rintro σ H Q ⟨F, S, r, d, S', e, k⟩
  obtain ⟨d1, S1, e1, e⟩ := bd_inv e
  obtain ⟨ds, S2, e2, e⟩ := bd_inv e
  cases e
  exact ⟨F, S, r, d1, S1, e1, fun x F1 H1 p1 r1 => ⟨F1, S1, p1.rel, ds, _, e2, fun xs F2 H2 p2 r2 => k _ F2 H2 (p1.trans p2) ⟨_, _, x, xs, rfl, rfl, r1.up p2.tr.fs, r2⟩⟩⟩
/-- a name whose cell is handed on -/
theorem o_own (i : Nat) {x : Str} {pos : Pos} (hr : PVo X ix es fr) (hN : X.N[i]? = some x := by rfl) (hv : Vis X.env.scope x := by first | exact Or.inl rfl | exact Or.inr (Or.inl rfl) | exact Or.inr (Or.inr rfl)) (hd : (x == ("__debug__" : Str)) = false := by decide)
    (hcd : (x == ("__classdict__" : Str)) = false := by decide) (hs : starEach (.Name x pos :: es) X.env = (false, eval (.Name x pos) X.env) :: starEach es X.env := by rfl) : PVo X (some i :: ix) (.Name x pos :: es) (aOwn i fr) := by
  refine (pa_cons (pe_var (i := i) hN hv hd hcd) hr hs).imp ?_
  rintro σ H Q ⟨F, S, r, d, S', e, k⟩
  unfold aOwn at e
  split at e
  · rename_i ho
    obtain ⟨c, hc⟩ := isOw_of ho
    obtain ⟨ds, S2, e2, e⟩ := bd_inv e
    cases e
    obtain ⟨a, ea, _, _⟩ := r.ok i _ hc
    exact ⟨_, ea, F, S, r, ds, _, e2, fun vs F1 H1 p1 r1 => k _ F1 H1 p1 ⟨_, _, _, _, rfl, rfl, ea, r1⟩⟩
  · cases e
end
section
variable {B : Bs} {F H : Hp} {σ : L2.St} {S : Ss}
theorem par_at : ∀ {ix : List (Option Nat)} {ds : List D} {vs : List V} {k : Nat} {s : Sl}, ArOk B F σ ix ds vs → (parS ix ds S)[k]? = some s →
    (∃ d v, s = .va d ∧ vs[k]? = some v ∧ Rp B F d v) ∨ ∃ i v, ix[k]? = some (some i) ∧ s = (S[i]?).getD .un ∧ vs[k]? = some v ∧ σ[i]? = some (some v)
  | [], _, _, k, s, ⟨e1, e2⟩, h => by subst e1; simp [parS] at h
  | none :: ix, _, _, 0, s, ⟨d, dr, v, vr, e1, e2, h, t⟩, q => by subst e1 e2; cases q; exact .inl ⟨d, v, rfl, rfl, h⟩
  | some i :: ix, _, _, 0, s, ⟨d, dr, v, vr, e1, e2, h, t⟩, q => by subst e1 e2; cases q; exact .inr ⟨i, v, rfl, rfl, rfl, h⟩
  | none :: ix, _, _, k + 1, s, ⟨d, dr, v, vr, e1, e2, h, t⟩, q => by
    subst e1 e2
    have q' : (parS ix dr S)[k]? = some s := by simpa [parS] using q
    rcases par_at t q' with ⟨d', v', z1, z2, z3⟩ | ⟨i, v', z1, z2, z3, z4⟩
    · exact .inl ⟨d', v', z1, by simpa using z2, z3⟩
    · exact .inr ⟨i, v', by simpa using z1, z2, by simpa using z3, z4⟩
  | some _ :: ix, _, _, k + 1, s, ⟨d, dr, v, vr, e1, e2, h, t⟩, q => by
    subst e1 e2
    have q' : (parS ix dr S)[k]? = some s := by simpa [parS] using q
    rcases par_at t q' with ⟨d', v', z1, z2, z3⟩ | ⟨i, v', z1, z2, z3, z4⟩
    · exact .inl ⟨d', v', z1, by simpa using z2, z3⟩
    · exact .inr ⟨i, v', by simpa using z1, z2, by simpa using z3, z4⟩
theorem own_at : ∀ {ix : List (Option Nat)} {ds : List D} {vs : List V} {k j : Nat}, ArOk B F σ ix ds vs → ix[k]? = some (some j) → ∃ v, vs[k]? = some v ∧ σ[j]? = some (some v)
  | [], _, _, k, j, _, h => by simp at h
  | none :: ix, _, _, 0, j, _, h => by simp at h
  | some i :: ix, _, _, 0, j, ⟨d, dr, v, vr, e1, e2, h, t⟩, q => by
    have e : i = j := by simpa using q
    subst e e1 e2
    exact ⟨v, rfl, h⟩
  | none :: ix, _, _, k + 1, j, ⟨d, dr, v, vr, e1, e2, h, t⟩, q => by
    subst e1 e2
    obtain ⟨v', h1, h2⟩ := own_at (k := k) t (by simpa using q)
    exact ⟨v', by simpa using h1, h2⟩
  | some _ :: ix, _, _, k + 1, j, ⟨d, dr, v, vr, e1, e2, h, t⟩, q => by
    subst e1 e2
    obtain ⟨v', h1, h2⟩ := own_at (k := k) t (by simpa using q)
    exact ⟨v', by simpa using h1, h2⟩
theorem par_len : ∀ {ix : List (Option Nat)} {ds : List D} {vs : List V}, ArOk B F σ ix ds vs → (parS ix ds S).length = vs.length
  | [], _, _, ⟨e1, e2⟩ => by subst e1 e2; rfl
  | none :: ix, _, _, ⟨d, dr, v, vr, e1, e2, h, t⟩ => by subst e1 e2; simp [parS, par_len t]
  | some i :: ix, _, _, ⟨d, dr, v, vr, e1, e2, h, t⟩ => by subst e1 e2; simp [parS, par_len t]
end
/-- the handed-on slots, each once -/
def ownIx (ix : List (Option Nat)) : List Nat := ix.filterMap id
theorem own_uniq : ∀ {ix : List (Option Nat)} {i k l : Nat}, (ownIx ix).Nodup → ix[k]? = some (some i) → ix[l]? = some (some i) → k = l
  | [], _, _, _, _, h, _ => by simp at h
  | none :: ix, i, 0, _, _, h, _ => by simp at h
  | none :: ix, i, _, 0, _, _, h => by simp at h
  | none :: ix, i, k + 1, l + 1, nd, h, h' => by
    rw [own_uniq (ix := ix) (i := i) (k := k) (l := l) (by simpa [ownIx] using nd) (by simpa using h) (by simpa using h')]
  | some j :: ix, i, 0, 0, _, _, _ => rfl
  | some j :: ix, i, 0, l + 1, nd, h, h' => by
    have e : j = i := by simpa using h
    subst e
    have nd' : j ∉ ownIx ix ∧ (ownIx ix).Nodup := by simpa [ownIx] using nd
    have h2 : ix[l]? = some (some j) := by simpa using h'
    exact absurd (show j ∈ ownIx ix from List.mem_filterMap.mpr ⟨some j, List.mem_of_getElem? h2, rfl⟩) nd'.1
  | some j :: ix, i, k + 1, 0, nd, h, h' => by
    have e : j = i := by simpa using h'
    subst e
    have nd' : j ∉ ownIx ix ∧ (ownIx ix).Nodup := by simpa [ownIx] using nd
    have h2 : ix[k]? = some (some j) := by simpa using h
    exact absurd (show j ∈ ownIx ix from List.mem_filterMap.mpr ⟨some j, List.mem_of_getElem? h2, rfl⟩) nd'.1
  | some j :: ix, i, k + 1, l + 1, nd, h, h' => by
    have nd' : j ∉ ownIx ix ∧ (ownIx ix).Nodup := by simpa [ownIx] using nd
    rw [own_uniq (ix := ix) (i := i) (k := k) (l := l) nd'.2 (by simpa using h) (by simpa using h')]
/-- what stands in a slot behind the call -/
theorem back_at : ∀ {ix : List (Option Nat)} {sp : Ss} {S : Ss} {j : Nat} {s : Sl}, sp.length = ix.length → (ownIx ix).Nodup → (backS ix sp S)[j]? = some s →
    (∃ (k : Nat) (s' : Sl), ix[k]? = some (some j) ∧ sp[k]? = some s' ∧ s = keepO s') ∨ ((∀ k : Nat, ix[k]? ≠ some (some j)) ∧ S[j]? = some s)
  | [], [], S, j, s, _, _, h => .inr ⟨fun k => by simp, h⟩
  | [], _ :: _, S, j, s, hl, _, h => by simp at hl
  | _ :: _, [], S, j, s, hl, _, h => by simp at hl
  | none :: ix, t :: sp, S, j, s, hl, nd, h => by
    rcases back_at (ix := ix) (sp := sp) (S := S) (by simpa using hl) (by simpa [ownIx] using nd) h with ⟨k, s', h1, h2, h3⟩ | ⟨h1, h2⟩
    · exact .inl ⟨k + 1, s', by simpa using h1, by simpa using h2, h3⟩
    · refine .inr ⟨fun k => ?_, h2⟩
      cases k with
      | zero => simp
      | succ k => simpa using h1 k
  | some i :: ix, t :: sp, S, j, s, hl, nd, h => by
    have nd' : i ∉ ownIx ix ∧ (ownIx ix).Nodup := by simpa [ownIx] using nd
    rcases back_at (ix := ix) (sp := sp) (S := S.set i (keepO t)) (by simpa using hl) nd'.2 h with ⟨k, s', h1, h2, h3⟩ | ⟨h1, h2⟩
    · exact .inl ⟨k + 1, s', by simpa using h1, by simpa using h2, h3⟩
    · by_cases q : i = j
      · subst q
        refine .inl ⟨0, t, rfl, rfl, ?_⟩
        have hi : i < S.length := by have := lt_at h2; simpa using this
        rw [List.getElem?_set_self hi] at h2
        exact (Option.some.inj h2).symm
      · rw [List.getElem?_set_ne q] at h2
        refine .inr ⟨fun k => ?_, h2⟩
        cases k with
        | zero => simpa using q
        | succ k => simpa using h1 k
theorem back_len : ∀ {ix : List (Option Nat)} {sp : Ss} {S : Ss}, (backS ix sp S).length = S.length
  | [], _, _ => by simp [backS]
  | none :: ix, [], _ => by simp [backS]
  | some _ :: ix, [], _ => by simp [backS]
  | none :: ix, _ :: sp, S => by simp [backS, back_len]
  | some i :: ix, s :: sp, S => by simp [backS, back_len]
def goO (ix : List (Option Nat)) (m : SF) (fs : AF) : Ss → Option (Out × Ss) := fun S => bd (fs S) fun ds S1 =>
  if (decide (ownIx ix).Nodup && (ownIx ix).all fun i => isOw S1[i]?) = true then bd (m (parS ix ds S1)) fun o sp => if sp.length = ix.length then some (o, backS ix sp S1) else none else none
def eCallO (ix : List (Option Nat)) (m : SF) (fs : AF) : EF := fun S => bd (goO ix m fs S) fun o S1 => match o with
  | .ret d => some (d, S1)
  | .rtF c => some (c, S1)
  | .nx => some (.non, S1)
  | _ => none
def eCallOF (ix : List (Option Nat)) (m : SF) (fs : AF) : EF := fun S => bd (goO ix m fs S) fun o S1 => match o with
  | .rtF c => some (c, S1)
  | _ => none
section
variable {X : Cx} {k n : Nat} {f : Addr} {fd : FuncData} {ps : List Str} {m : SF} {x : Str} {p pos : Pos} {e : Expr} {es : List Expr} {fs : AF} {ix : List (Option Nat)}
theorem callO_core {Q : VK} {F H F1 H1 : Hp} {S S1 : Ss} {σ : L2.St} {ds : List D} {vs : List V} {o : Out} {sp : Ss} (r : Rel (bs X) F S σ H) (hn : ix.length = n) (hg : (decide (ownIx ix).Nodup && (ownIx ix).all fun i => isOw S1[i]?) = true)
    (em : m (parS ix ds S1) = some (o, sp)) (hl : sp.length = ix.length) (p1 : Po (bs X) F S σ H F1 S1 H1) (ra : ArOk (bs X) F1 σ ix ds vs)
    (hQ : ∀ F2 H2, Po (bs X) F S σ H F2 (backS ix sp S1) H2 → RDone (bs X) H F2 H2 Q o) : spM (bs X) n m (vs ++ []) H1 Q E0 := by
  rw [List.append_nil]
  rw [Bool.and_eq_true] at hg
  have nd : (ownIx ix).Nodup := of_decide_eq_true hg.1
  have ow : ∀ {k i : Nat}, ix[k]? = some (some i) → ∃ c : D, S1[i]? = some (Sl.ow c) := fun {k i} h =>
    isOw_of (List.all_eq_true.mp hg.2 i (List.mem_filterMap.mpr ⟨some i, List.mem_of_getElem? h, rfl⟩))
  have R1 := p1.rel
  have rp : Rel (bs X) F1 (parS ix ds S1) (vs.map some) H1 := by
    refine ⟨R1.sub, by rw [par_len ra, List.length_map], fun k s e => ?_, fun k l c c' v e e' q q' => ?_⟩
    · rcases par_at ra e with ⟨d, v, z1, z2, z3⟩ | ⟨i, v, z1, z2, z3, z4⟩
      · subst z1
        exact ⟨v, by rw [List.getElem?_map, z2]; rfl, z3⟩
      · obtain ⟨c, hc⟩ := ow z1
        rw [hc] at z2
        subst z2
        obtain ⟨a, ea, na, ka⟩ := R1.ok i _ hc
        rw [z4] at ea
        cases ea
        exact ⟨a, by rw [List.getElem?_map, z3]; rfl, na, ka⟩
    · rcases par_at ra e with ⟨d, v', z1, z2, z3⟩ | ⟨i, v', z1, z2, z3, z4⟩
      · cases z1
      · rcases par_at ra e' with ⟨d, v'', y1, y2, y3⟩ | ⟨j, v'', y1, y2, y3, y4⟩
        · cases y1
        · obtain ⟨c1, hc1⟩ := ow z1
          obtain ⟨c2, hc2⟩ := ow y1
          rw [List.getElem?_map, z3] at q
          rw [List.getElem?_map, y3] at q'
          cases q; cases q'
          have hij := R1.dis i j c1 c2 _ hc1 hc2 z4 y4
          subst hij
          exact own_uniq nd z1 y1
  have oaP : ∀ a, OA (parS ix ds S1) (vs.map some) a → OA S1 σ a := fun a ⟨k, c, e, e'⟩ => by
    rcases par_at ra e with ⟨d, v', z1, z2, z3⟩ | ⟨i, v', z1, z2, z3, z4⟩
    · cases z1
    · obtain ⟨c1, hc1⟩ := ow z1
      rw [List.getElem?_map, z3] at e'
      cases e'
      exact ⟨i, c1, hc1, z4⟩
  refine ⟨by rw [ra.len, hn], F1, _, rp, o, sp, em, fun F2 H2 t s hcell => ?_⟩
  have stay : ∀ {j : Nat} {c : D} {a : Addr}, (∀ k : Nat, ix[k]? ≠ some (some j)) → S1[j]? = some (Sl.ow c) → σ[j]? = some (some (V.ref a)) → ¬ OA (parS ix ds S1) (vs.map some) a := fun {j c a} hn hj hσ ⟨k, c', e, e'⟩ => by
    rcases par_at ra e with ⟨d, v', z1, z2, z3⟩ | ⟨i, v', z1, z2, z3, z4⟩
    · cases z1
    · obtain ⟨c1, hc1⟩ := ow z1
      rw [List.getElem?_map, z3] at e'
      cases e'
      have hij := R1.dis i j c1 c _ hc1 hj z4 hσ
      subst hij
      exact hn k z1
  have owB : ∀ {j : Nat} {c : D}, (backS ix sp S1)[j]? = some (.ow c) → ∃ c', S1[j]? = some (Sl.ow c') := fun {j c} e => by
    rcases back_at hl nd e with ⟨k, s', h1, h2, h3⟩ | ⟨h1, h2⟩
    · exact ow h1
    · exact ⟨c, h2⟩
  have r2 : Rel (bs X) F2 (backS ix sp S1) σ H2 := by
    refine ⟨s, by rw [back_len]; exact R1.len, fun j t' e => ?_, fun i j c c' v e e' q q' => ?_⟩
    · rcases back_at hl nd e with ⟨k, s', h1, h2, h3⟩ | ⟨h1, h2⟩
      · cases t' with
        | un => trivial
        | va d => exact (keepO_va h3.symm).elim
        | ow c =>
          have e4 := keepO_ow h3.symm
          subst e4
          obtain ⟨a, ea, na, ka, _⟩ := hcell k c h2
          obtain ⟨v, hv, hσ⟩ := own_at ra h1
          rw [ea] at hv
          cases hv
          exact ⟨a, hσ, na, ka⟩
      · have z := R1.ok j t' h2
        cases t' with
        | un => trivial
        | va d => obtain ⟨v, e', h⟩ := z; exact ⟨v, e', h.up t.fs⟩
        | ow c =>
          obtain ⟨a, ea, na, ka⟩ := z
          obtain ⟨ob, hob⟩ := ka.there
          have st := stay h1 h2 ea
          refine ⟨a, ea, ?_, ka.up t.fs ((t.hs _ _ hob st).trans hob.symm)⟩
          cases w : F2 a with
          | none => rfl
          | some u =>
            rcases t.nf a na (by rw [w]; simp) with y | y
            · have y2 := y _ hob; rw [ka.noT _ hob] at y2; cases y2
            · exact absurd y st
    · obtain ⟨c1, h1⟩ := owB e
      obtain ⟨c2, h2⟩ := owB e'
      exact R1.dis i j c1 c2 v h1 h2 q q'
  have po : Po (bs X) F S σ H F2 (backS ix sp S1) H2 := by
    refine ⟨p1.tr.trans t fun a z => .inl (p1.oa a (oaP a z)), r2, fun a ⟨j, c, e, e'⟩ => ?_⟩
    obtain ⟨c1, h1⟩ := owB e
    exact p1.oa a ⟨j, c1, h1, e'⟩
  have q := hQ F2 H2 po
  cases o with
  | rtF c => exact fun a nH n kk => q a (p1.tr.dm a nH) n kk
  | nx => exact q
  | ret d => exact q
  | brk => exact q
  | cont => exact q
theorem goO_inv {S : Ss} {o : Out} {S' : Ss} (h : goO ix m fs S = some (o, S')) : ∃ ds S1 sp, fs S = some (ds, S1) ∧ (decide (ownIx ix).Nodup && (ownIx ix).all fun i => isOw S1[i]?) = true ∧ m (parS ix ds S1) = some (o, sp) ∧ sp.length = ix.length ∧ S' = backS ix sp S1 := by
  obtain ⟨ds, S1, e1, h⟩ := bd_inv h
  split at h
  · rename_i g
    obtain ⟨o', sp, e2, h⟩ := bd_inv h
    split at h
    · rename_i hl
      cases h
      exact ⟨ds, S1, sp, e1, g, e2, hl, rfl⟩
    · cases h
  · cases h
theorem f_callO (F : FnOk X.prog X.w X.K X.mg X.base CX0 k f fd ps (spM (bs X) n m)) (hr : Room k X.A) (hm : X.mg x = some (.ref f)) (hk : PySem.W.keepIn X.K (.ref f) = true) (hb : Binds X.K fd ps []) (hn : ix.length = n)
    (ha : PVo X ix (e :: es) fs) (hg : Gl X x := by rfl) (hdb : (x == ("__debug__" : Str)) = false := by decide) (he : starEach (e :: es) X.env = (false, eval e X.env) :: starEach es X.env := by rfl) (hpl : (backTo pos (starEach es X.env)).any (·.1) = false := by rfl) :
    PF X (.Call (.Name x p) (e :: es) [] pos) (eCallOF ix m fs) := by
  refine (pe_call F hr hg hm hk hb .nil pass0 ha hdb he hpl).imp ?_
  rintro σ H Q ⟨F, S, r, d, S', e, kq⟩
  obtain ⟨o, S2, e0, e⟩ := bd_inv e
  obtain ⟨ds, S1, sp, e1, g, em, hl, e3⟩ := goO_inv e0
  subst e3
  cases o with
  | rtF c =>
    cases e
    exact ⟨F, S, r, ds, S1, e1, fun vs F1 H1 p1 ra => callO_core r hn g em hl p1 ra fun F2 H2 p2 a nH n kk => kq a F2 H2 p2 n nH kk⟩
  | nx => cases e
  | ret d => cases e
  | brk => cases e
  | cont => cases e
theorem v_callO (F : FnOk X.prog X.w X.K X.mg X.base CX0 k f fd ps (spM (bs X) n m)) (hr : Room k X.A) (hm : X.mg x = some (.ref f)) (hk : PySem.W.keepIn X.K (.ref f) = true) (hb : Binds X.K fd ps []) (hn : ix.length = n)
    (ha : PVo X ix (e :: es) fs) (hg : Gl X x := by rfl) (hdb : (x == ("__debug__" : Str)) = false := by decide) (he : starEach (e :: es) X.env = (false, eval e X.env) :: starEach es X.env := by rfl) (hpl : (backTo pos (starEach es X.env)).any (·.1) = false := by rfl) :
    PV X (.Call (.Name x p) (e :: es) [] pos) (eCallO ix m fs) := by
  refine (pe_call F hr hg hm hk hb .nil pass0 ha hdb he hpl).imp ?_
  rintro σ H Q ⟨F, S, r, d, S', e, kq⟩
  obtain ⟨o, S2, e0, e⟩ := bd_inv e
  obtain ⟨ds, S1, sp, e1, g, em, hl, e3⟩ := goO_inv e0
  subst e3
  cases o with
  | rtF c =>
    cases e
    refine ⟨F, S, r, ds, S1, e1, fun vs F1 H1 p1 ra => callO_core r hn g em hl p1 ra fun F2 H2 p2 a nH n kk => ?_⟩
    obtain ⟨F3, p3, r3⟩ := Po.freezeNew r p2 n nH kk
    exact kq _ F3 H2 p3 r3
  | nx =>
    cases e
    exact ⟨F, S, r, ds, S1, e1, fun vs F1 H1 p1 ra => callO_core r hn g em hl p1 ra fun F2 H2 p2 => kq _ F2 H2 p2 rfl⟩
  | ret d =>
    cases e
    exact ⟨F, S, r, ds, S1, e1, fun vs F1 H1 p1 ra => callO_core r hn g em hl p1 ra fun F2 H2 p2 v rv => kq v F2 H2 p2 rv⟩
  | brk => cases e
  | cont => cases e
end
end Sw
/-! the value layer: what is walked, targets, loops, comprehensions -/
namespace L2
open PySem PySem.Spec PyProof.Rows
/-- every list and tuple is within the line -/
def LenOk (K : PySem.W.Frag) (H : Hp) : Prop := ∀ a xs, SqL K H a xs ∨ SqT K H a xs → xs.length ≤ sizeLine
theorem Inv.lenOk {X : Cx} {pins : List (Addr × Obj)} {σ : L2.St} {H : Hp} {s : Shared} (I : Inv X pins σ H s) : LenOk X.K H := fun a xs h => by
  rcases h with h | h
  · obtain ⟨_, _, _, z⟩ := I.list h; exact z
  · obtain ⟨_, _, _, z⟩ := I.tuple h; exact z
theorem PE.known {X : Cx} {e : Expr} {t : TE} (h : PE X e t) : PE X e (fun σ H Q => t σ H fun v H' => LenOk X.K H' → Q v H') :=
  ⟨fun pins s σ H Q I q => thn (h.run pins s σ H _ I q) fun u s' ⟨v, H', I', r, q'⟩ => ⟨v, H', I', r, q' I'.lenOk⟩⟩
theorem PA.known {X : Cx} {e : List Expr} {t : TA} (h : PA X e t) : PA X e (fun σ H Q => t σ H fun v H' => LenOk X.K H' → Q v H') :=
  ⟨fun pos pins s σ H Q I q => thn (h.run pos pins s σ H _ I q) fun u s' ⟨v, H', I', r, q'⟩ => ⟨v, H', I', r, q' I'.lenOk⟩⟩
theorem PI.imp {X : Cx} {tg e : Expr} {t t' : TI} (h : PI X tg e t) (w : ∀ σ H Q, t' σ H Q → t σ H Q) : PI X tg e t' := ⟨fun pins s σ H Q I q => h.run pins s σ H Q I (w σ H Q q)⟩
theorem PG.imp {X : Cx} {tg : Expr} {t t' : TG} (h : PG X tg t) (w : ∀ v σ H Q, t' v σ H Q → t v σ H Q) : PG X tg t' := ⟨fun pins s σ H v u Q I r q => h.run pins s σ H v u Q I r (w v σ H Q q)⟩
theorem PGs.imp {X : Cx} {tg : List Expr} {t t' : TGs} (h : PGs X tg t) (w : ∀ v σ H Q, t' v σ H Q → t v σ H Q) : PGs X tg t' := ⟨fun pins s σ H v u Q I r q => h.run pins s σ H v u Q I r (w v σ H Q q)⟩
theorem PTs.imp {X : Cx} {tg : List Expr} {t t' : TT} (h : PTs X tg t) (w : ∀ σ H Q, t' σ H Q → t σ H Q) : PTs X tg t' := ⟨fun pins s σ H Q I q => h.run pins s σ H Q I (w σ H Q q)⟩
end L2
namespace Sw
open PySem PySem.Spec PyProof.Rows L2
abbrev IFn := Ss → Option (List D × Ss)
structure ItOk (B : Bs) (F : Hp) (ds : List D) (J : It) : Prop where
  line : ds.length ≤ sizeLine
  go : ∀ (i : Nat) (d : D) F1 H1, Same F F1 → Same F1 H1 → ds[i]? = some d → J.go i H1 ∧ ∀ x H2, J.yld i H1 x H2 → ∃ F2, Tr0 F1 H1 F2 H2 ∧ Rp B F2 d x
  stop : ∀ (i : Nat) F1 H1, Same F F1 → Same F1 H1 → ds.length ≤ i → J.stop i H1
def tIv (B : Bs) (f : IFn) : TI := fun σ H R => ∃ F S, Rel B F S σ H ∧ ∃ ds S', f S = some (ds, S') ∧ ∀ J F' H', Po B F S σ H F' S' H' → ItOk B F' ds J → R J H'
abbrev PIv (X : Cx) (tg e : Expr) (f : IFn) : Prop := PI X tg e (tIv (bs X) f)
def iL (f : EF) : IFn := fun S => bd (f S) fun d S1 => match d with
  | .lst ds => some (ds, S1)
  | _ => none
def iT (f : EF) : IFn := fun S => bd (f S) fun d S1 => match d with
  | .tup ds => some (ds, S1)
  | _ => none
def rngD (lo : Int) (n : Nat) : List D := (List.range n).map fun (i : Nat) => .int (lo + (i : Int))
def iR1 (f : AF) : IFn := fun S => bd (f S) fun d S1 => match d with
  | [.int j] => if -(2 ^ 62) ≤ j ∧ j ≤ 16777216 then some (rngD 0 j.toNat, S1) else none
  | _ => none
def iR2 (f : AF) : IFn := fun S => bd (f S) fun d S1 => match d with
  | [.int i, .int j] => if (-(2 ^ 62) ≤ i ∧ i < 2 ^ 62 ∧ -(2 ^ 62) ≤ j ∧ j < 2 ^ 62) ∧ j - i ≤ 16777216 then some (rngD i (j - i).toNat, S1) else none
  | _ => none
def enumD (ds : List D) : List D := ds.zipIdx.map fun p => .tup [.int (p.2 : Nat), p.1]
def iEn (f : AF) : IFn := fun S => bd (f S) fun d S1 => match d with
  | [.lst ds] => some (enumD ds, S1)
  | _ => none
def zipD (ds es : List D) : List D := (ds.zip es).map fun p => .tup [p.1, p.2]
def iZ (f : AF) : IFn := fun S => bd (f S) fun d S1 => match d with
  | [.lst ds, .lst es] => some (zipD ds es, S1)
  | _ => none
section
variable {X : Cx} {tg e e2 : Expr} {fe fe2 : EF}
theorem i_list (he : PV X e fe) : PIv X tg e (iL fe) := by
  refine (pi_list he.known).imp ?_
  rintro σ H Q ⟨F, S, r, ds, S', e, k⟩
  obtain ⟨d, S1, e1, e⟩ := bd_inv e
  split at e
  · cases e
    refine ⟨F, S, r, _, _, e1, fun v F1 H1 p1 ⟨a, vs, ea, rd, ra⟩ lk => ⟨a, ea, ⟨vs, .inl (Rd.same p1.rel.sub rd)⟩, k _ F1 H1 p1 ?_⟩⟩
    refine ⟨by rw [← ra.len]; exact lk a vs (.inl (.inl (Rd.same p1.rel.sub rd))), fun i d F2 H2 s1 s2 hd => ?_, fun i F2 H2 s1 s2 hd => ⟨vs, .inl (Rd.same (s1.trans s2) rd), by rw [ra.len]; exact hd⟩⟩
    obtain ⟨v, hv, rv⟩ := ra.get hd
    refine ⟨⟨vs, v, .inl (Rd.same (s1.trans s2) rd), hv⟩, fun x H3 ⟨eH, hx⟩ => ?_⟩
    subst eH
    have := hx vs (.inl (Rd.same (s1.trans s2) rd))
    rw [hv] at this; cases this
    exact ⟨F2, Tr0.refl s2, rv.up s1⟩
  · cases e
theorem i_tup (he : PV X e fe) : PIv X tg e (iT fe) := by
  refine (pi_tup he.known).imp ?_
  rintro σ H Q ⟨F, S, r, ds, S', e, k⟩
  obtain ⟨d, S1, e1, e⟩ := bd_inv e
  split at e
  · cases e
    refine ⟨F, S, r, _, _, e1, fun v F1 H1 p1 ⟨a, vs, ea, rd, ra⟩ lk => ⟨a, ea, ⟨vs, .of (p1.rel.sub _ _ rd)⟩, k _ F1 H1 p1 ?_⟩⟩
    refine ⟨by rw [← ra.len]; exact lk a vs (.inr (.of (p1.rel.sub _ _ rd))), fun i d F2 H2 s1 s2 hd => ?_, fun i F2 H2 s1 s2 hd => ⟨vs, .of ((s1.trans s2) _ _ rd), by rw [ra.len]; exact hd⟩⟩
    obtain ⟨v, hv, rv⟩ := ra.get hd
    refine ⟨⟨vs, v, .of ((s1.trans s2) _ _ rd), hv⟩, fun x H3 ⟨eH, hx⟩ => ?_⟩
    subst eH
    have := hx vs (.of ((s1.trans s2) _ _ rd))
    rw [hv] at this; cases this
    exact ⟨F2, Tr0.refl s2, rv.up s1⟩
  · cases e
theorem rngD_len {lo : Int} {n : Nat} : (rngD lo n).length = n := by simp [rngD]
theorem rngD_ok {B : Bs} {F : Hp} {lo : Int} {n : Nat} (h : n ≤ 16777216) : ItOk B F (rngD lo n) (Itr lo n) := by
  refine ⟨by rw [rngD_len]; exact line_le h, fun i d F1 H1 s1 s2 hd => ?_, fun i F1 H1 s1 s2 hd => by rw [rngD_len] at hd; exact hd⟩
  have hi : i < n := by have := lt_at hd; rwa [rngD_len] at this
  refine ⟨hi, fun x H2 ⟨e, ex⟩ => ?_⟩
  subst e
  unfold rngD at hd
  rw [List.getElem?_map, List.getElem?_range hi] at hd
  cases hd
  exact ⟨F1, Tr0.refl s2, ex⟩
theorem i_range1 {fa : AF} {p pos : Pos} (hm : X.mg "range" = none) (ha : PVa X [e] fa) (hg : Gl X "range" := by rfl) (hs : starEach [e] X.env = [(false, eval e X.env)] := by rfl) : PIv X tg (.Call (.Name "range" p) [e] [] pos) (iR1 fa) := by
  refine (pi_range1 hg hm ha hs).imp ?_
  rintro σ H Q ⟨F, S, r, ds, S', e, k⟩
  obtain ⟨d, S1, e1, e⟩ := bd_inv e
  split at e
  · rename_i j
    split at e
    · rename_i hj
      cases e
      refine ⟨F, S, r, _, _, e1, fun vs F1 H1 p1 ra => ⟨j, ra.ints (ns := [j]), hj.1, by omega, k _ F1 H1 p1 (rngD_ok (by omega))⟩⟩
    · cases e
  · cases e
theorem i_range2 {fa : AF} {p pos : Pos} (hm : X.mg "range" = none) (ha : PVa X [e, e2] fa) (hg : Gl X "range" := by rfl) (hs : starEach [e, e2] X.env = [(false, eval e X.env), (false, eval e2 X.env)] := by rfl) (hs2 : starEach [e2] X.env = [(false, eval e2 X.env)] := by rfl) :
    PIv X tg (.Call (.Name "range" p) [e, e2] [] pos) (iR2 fa) := by
  refine (pi_range2 hg hm ha hs hs2).imp ?_
  rintro σ H Q ⟨F, S, r, ds, S', e, k⟩
  obtain ⟨d, S1, e1, e⟩ := bd_inv e
  split at e
  · rename_i i j
    split at e
    · rename_i hj
      cases e
      refine ⟨F, S, r, _, _, e1, fun vs F1 H1 p1 ra => ⟨i, j, ra.ints (ns := [i, j]), hj.1, k _ F1 H1 p1 (rngD_ok (by omega))⟩⟩
    · cases e
  · cases e
theorem i_enum {fa : AF} {p pos tpos : Pos} {elts : List Expr} {kk : Nat} (hm : X.mg "enumerate" = none) (ha : PVa X [e] fa) (hg : Gl X "enumerate" := by rfl) (hs : starEach [e] X.env = [(false, eval e X.env)] := by rfl) :
    PIv X (.Tuple elts kk tpos) (.Call (.Name "enumerate" p) [e] [] pos) (iEn fa) := by
  refine (pi_enum hg hm ha.known hs).imp ?_
  rintro σ H Q ⟨F, S, r, ds, S', e, k⟩
  obtain ⟨d, S1, e1, e⟩ := bd_inv e
  split at e
  · rename_i ds
    cases e
    refine ⟨F, S, r, _, _, e1, fun vs F1 H1 p1 ⟨v, r0, ev, ⟨a, xs, ea, rd, ra⟩, e0⟩ lk => ?_⟩
    subst ev ea
    have e0' : r0 = [] := e0
    subst e0'
    have q0 : SqL X.K H1 a xs := .inl (Rd.same p1.rel.sub rd)
    refine ⟨a, xs, rfl, q0, k _ F1 H1 p1 ⟨?_, fun i d F2 H2 s1 s2 hd => ?_, fun i F2 H2 s1 s2 hd => ?_⟩⟩
    · simp only [enumD, List.length_map, List.length_zipIdx]
      rw [← ra.len]; exact lk a xs (.inl q0)
    · have q2 : SqL X.K H2 a xs := .inl (Rd.same (s1.trans s2) rd)
      unfold enumD at hd
      rw [List.getElem?_map, List.getElem?_zipIdx] at hd
      cases z : ds[i]? with
      | none => rw [z] at hd; cases hd
      | some d0 =>
        rw [z] at hd
        simp only [Option.map_some, Option.some.injEq, Nat.zero_add] at hd
        subst hd
        obtain ⟨v, hv, rv⟩ := ra.get z
        refine ⟨⟨xs, v, q2, hv⟩, fun x H3 ⟨T, y, ex, nT, eH, hy⟩ => ?_⟩
        subst ex eH
        have := hy xs q2
        rw [hv] at this; cases this
        have t := Tr0.new (o := .tup [.int (i : Nat), v]) s2 nT
        exact ⟨_, t, T, _, rfl, upd_same, _, _, rfl, rfl, _, _, rfl, (rv.up s1).up t.tr.fs, rfl⟩
    · simp only [enumD, List.length_map, List.length_zipIdx] at hd
      exact ⟨xs, .inl (Rd.same (s1.trans s2) rd), by rw [ra.len]; exact hd⟩
  · cases e
theorem i_zip {fa : AF} {p pos tpos : Pos} {elts : List Expr} {kk : Nat} (hm : X.mg "zip" = none) (ha : PVa X [e, e2] fa) (hg : Gl X "zip" := by rfl) (hs : starEach [e, e2] X.env = (false, eval e X.env) :: starEach [e2] X.env := by rfl)
    (hpl : (backTo pos (starEach [e2] X.env)).any (·.1) = false := by rfl) : PIv X (.Tuple elts kk tpos) (.Call (.Name "zip" p) [e, e2] [] pos) (iZ fa) := by
  refine (pi_zip hg hm ha.known hs hpl).imp ?_
  rintro σ H Q ⟨F, S, r, ds, S', e, k⟩
  obtain ⟨d, S1, e1, e⟩ := bd_inv e
  split at e
  · rename_i ds es
    cases e
    refine ⟨F, S, r, _, _, e1, fun vs F1 H1 p1 ⟨v, r0, ev, ⟨a, xs, ea, rd, ra⟩, v2, r2, ev2, ⟨b, ys, eb, rd2, ra2⟩, e0⟩ lk => ?_⟩
    subst ev ea
    have e0' : r2 = [] := e0
    subst e0'
    subst ev2 eb
    have q1 : SqL X.K H1 a xs := .inl (Rd.same p1.rel.sub rd)
    have q2 : SqL X.K H1 b ys := .inl (Rd.same p1.rel.sub rd2)
    refine ⟨a, b, xs, ys, rfl, q1, q2, k _ F1 H1 p1 ⟨?_, fun i d F2 H2 s1 s2 hd => ?_, fun i F2 H2 s1 s2 hd => ?_⟩⟩
    · simp only [zipD, List.length_map, List.length_zip]
      have := lk a xs (.inl q1)
      rw [ra.len] at this
      omega
    · have w1 : SqL X.K H2 a xs := .inl (Rd.same (s1.trans s2) rd)
      have w2 : SqL X.K H2 b ys := .inl (Rd.same (s1.trans s2) rd2)
      unfold zipD at hd
      rw [List.getElem?_map] at hd
      obtain ⟨pq, z, hd⟩ := Option.map_eq_some_iff.mp hd
      subst hd
      obtain ⟨z1, z2⟩ := List.getElem?_zip_eq_some.mp z
      obtain ⟨v, hv, rv⟩ := ra.get z1
      obtain ⟨u, hu, ru⟩ := ra2.get z2
      refine ⟨⟨xs, ys, v, u, w1, w2, hv, hu⟩, fun x H3 ⟨T, y, y', ex, nT, eH, hy, hy'⟩ => ?_⟩
      subst ex eH
      have := hy xs w1
      rw [hv] at this; cases this
      have := hy' ys w2
      rw [hu] at this; cases this
      have t := Tr0.new (o := .tup [v, u]) s2 nT
      exact ⟨_, t, T, _, rfl, upd_same, _, _, rfl, (rv.up s1).up t.tr.fs, _, _, rfl, (ru.up s1).up t.tr.fs, rfl⟩
    · simp only [zipD, List.length_map, List.length_zip] at hd
      refine ⟨xs, ys, .inl (Rd.same (s1.trans s2) rd), .inl (Rd.same (s1.trans s2) rd2), ?_⟩
      rw [ra.len, ra2.len]; omega
  · cases e
end

/-! ### targets -/
abbrev GF := D → Ss → Option Ss
abbrev GsF := List D → Ss → Option Ss
structure Pg (P T : List Nat) (S S' : Ss) (σ σ' : L2.St) : Prop where
  oa : ∀ a, OA S' σ' a → OA S σ a
  pin : ∀ i, i ∈ P → σ'[i]? = σ[i]?
  only : ∀ i, i ∉ T → σ'[i]? = σ[i]?
  len : σ'.length = σ.length
def tG (P T : List Nat) (B : Bs) (g : GF) : TG := fun v σ H Q => ∃ F S d, Rel B F S σ H ∧ Rp B F d v ∧ ∃ S', g d S = some S' ∧ ∀ σ', Rel B F S' σ' H → Pg P T S S' σ σ' → Q σ' H
def tGs (P T : List Nat) (B : Bs) (g : GsF) : TGs := fun vs σ H Q => ∃ F S ds, Rel B F S σ H ∧ RpA B F ds vs ∧ ∃ S', g ds S = some S' ∧ ∀ σ', Rel B F S' σ' H → Pg P T S S' σ σ' → Q σ' H
abbrev PGv (P T : List Nat) (X : Cx) (tg : Expr) (g : GF) : Prop := PG X tg (tG P T (bs X) g)
abbrev PGsv (P T : List Nat) (X : Cx) (tg : List Expr) (g : GsF) : Prop := PGs X tg (tGs P T (bs X) g)
def gNm (i : Nat) : GF := fun d S => some (S.set i (.va d))
def gsNil : GsF := fun ds S => match ds with
  | [] => some S
  | _ => none
def gsCons (g : GF) (r : GsF) : GsF := fun ds S => match ds with
  | d :: ds => match g d S with
    | some S1 => r ds S1
    | none => none
  | [] => none
def gTp (n : Nat) (g : GsF) : GF := fun d S => match d with
  | .tup ds => if ds.length = n then g ds S else none
  | _ => none
theorem Pg.trans {P T : List Nat} {S S1 S2 : Ss} {σ σ1 σ2 : L2.St} (p : Pg P T S S1 σ σ1) (q : Pg P T S1 S2 σ1 σ2) : Pg P T S S2 σ σ2 :=
  ⟨fun a h => p.oa a (q.oa a h), fun i h => (q.pin i h).trans (p.pin i h), fun i h => (q.only i h).trans (p.only i h), q.len.trans p.len⟩
section
variable {P T : List Nat} {X : Cx} {tg : Expr} {tgs : List Expr} {pos : Pos} {g : GF} {gs : GsF}
theorem g_name (i : Nat) {x : Str} (hN : X.N.Nodup) (hP : i ∉ P := by decide) (hT : i ∈ T := by decide) (hi : X.N[i]? = some x := by rfl) (hx : L2.Loc X.env.scope x := by first | exact Or.inl rfl | exact Or.inr rfl) (hf : X.fn x = true ∨ X.env.scope.names.lookup x = some .local := by first | exact .inl rfl | exact .inr rfl) : PGv P T X (.Name x pos) (gNm i) := by
  refine (pg_name hN hi hx hf).imp ?_
  rintro v σ H Q ⟨F, S, d, r, rv, S', e, k⟩
  cases e
  exact k _ (r.setV rv) ⟨fun a h => h.setV, fun j hj => List.getElem?_set_ne (fun (z : i = j) => hP (z.symm ▸ hj)), fun j hj => List.getElem?_set_ne (fun (z : i = j) => hj (z ▸ hT)), by simp⟩
theorem gs_nil : PGsv P T X [] gsNil := by
  refine pgs_nil.imp ?_
  rintro v σ H Q ⟨F, S, d, r, rv, S', e, k⟩
  unfold gsNil at e
  split at e
  · cases e
    exact ⟨rv, k σ r ⟨fun a h => h, fun _ _ => rfl, fun _ _ => rfl, rfl⟩⟩
  · cases e
theorem gs_cons (h1 : PGv P T X tg g) (h2 : PGsv P T X tgs gs) (hs : (assignEach (tg :: tgs) X.env).map (·.2) = assign tg X.env :: (assignEach tgs X.env).map (·.2) := by rfl) : PGsv P T X (tg :: tgs) (gsCons g gs) := by
  refine (pgs_cons h1 h2 hs).imp ?_
  rintro v σ H Q ⟨F, S, d, r, rv, S', e, k⟩
  unfold gsCons at e
  split at e
  · rename_i d0 ds
    split at e
    · rename_i S1 e1
      obtain ⟨v0, vr, ev, h, t⟩ := rv
      exact ⟨v0, vr, ev, F, S, d0, r, h, S1, e1, fun σ1 r1 p1 => ⟨F, S1, ds, r1, t, S', e, fun σ2 r2 p2 => k σ2 r2 (p1.trans p2)⟩⟩
    · cases e
  · cases e
theorem g_tup {n k : Nat} (hc : X.calm = true) (h : PGsv P T X tgs gs) (hn : (assignEach tgs X.env).length = n := by rfl) (hst : (assignEach tgs X.env).findIdx? (·.1) = none := by rfl) : PGv P T X (.Tuple tgs k pos) (gTp n gs) := by
  refine (pg_tup hc h hn hst).imp ?_
  rintro v σ H Q ⟨F, S, d, r, rv, S', e, k⟩
  unfold gTp at e
  split at e
  · split at e
    · rename_i ds hl
      obtain ⟨a, vs, ev, h, t⟩ := rv
      exact ⟨a, vs, ev, .of (r.sub _ _ h), by rw [t.len, hl], F, S, ds, r, t, S', e, k⟩
    · cases e
  · cases e
/-- target = value -/
def sAsg (f : EF) (g : GF) : SF := fun S => bd (f S) fun d S1 => match g d S1 with
  | some S2 => some (.nx, S2)
  | none => none
theorem Pg.ps {B : Bs} {F H F1 H1 : Hp} {S S1 S2 : Ss} {σ σ' : L2.St} (p : Po B F S σ H F1 S1 H1) (r : Rel B F1 S2 σ' H1) (q : Pg P T S1 S2 σ σ') : Ps P B F S σ H F1 S2 σ' H1 :=
  ⟨p.tr, r, fun a h => .inl (p.oa a (q.oa a h)), q.pin⟩
theorem s_asg {e : Expr} {f : EF} (he : PV X e f) (hg : PGv P T X tg g) (hs : swapsWithSole [tg] e pos.line X.env = pure false := by rfl) (hw : swappedStores [tg] e X.env = pure none := by rfl)
    (h1 : (assignEach [tg] X.env).map (·.2) = [assign tg X.env] := by rfl) : PM P X (.Assign [tg] e pos) (sAsg f g) := by
  refine (ps_asg he hg hs hw h1).imp ?_
  rintro Dn σ H ⟨F, S, r, o, S', e, k⟩
  obtain ⟨d, S1, e1, e⟩ := bd_inv e
  split at e
  · rename_i S2 e2
    cases e
    exact ⟨F, S, r, d, S1, e1, fun v F1 H1 p1 r1 => ⟨F1, S1, d, p1.rel, r1, S', e2, fun σ' r2 q => k σ' F1 H1 (q.ps p1 r2)⟩⟩
  · cases e
/-- a, b = x, y -/
def sPar (i j : Nat) (f : AF) : SF := fun S => bd (f S) fun ds S1 => match ds with
  | [d, e] => some (.nx, (S1.set i (.va d)).set j (.va e))
  | _ => none
theorem s_par (i j : Nat) {x y : Str} {a b : Expr} {px py pt : Pos} {kt k2 : Nat} {pt2 : Pos} {f : AF} (hc : X.calm = true) (hN : X.N.Nodup) (ha : PVa X [a, b] f) (hPi : i ∉ P := by decide) (hPj : j ∉ P := by decide) (hij : i ≠ j := by decide) (hi : X.N[i]? = some x := by rfl) (hj : X.N[j]? = some y := by rfl)
    (hx : X.env.scope.names.lookup x = some .local := by rfl) (hy : X.env.scope.names.lookup y = some .local := by rfl)
    (hw : swappedStores [.Tuple [.Name x px, .Name y py] kt pt] (.Tuple [a, b] k2 pt2) X.env = pure (some [x, y]) := by rfl)
    (hs : swapsWithSole [.Tuple [.Name x px, .Name y py] kt pt] (.Tuple [a, b] k2 pt2) pos.line X.env = pure false := by rfl) :
    PM P X (.Assign [.Tuple [.Name x px, .Name y py] kt pt] (.Tuple [a, b] k2 pt2) pos) (sPar i j f) := by
  refine (ps_par hc hN hi hj hij hx hy ha hw hs).imp ?_
  rintro Dn σ H ⟨F, S, r, o, S', e, k⟩
  obtain ⟨ds, S1, e1, e⟩ := bd_inv e
  split at e
  · rename_i d0 d1
    cases e
    refine ⟨F, S, r, _, S1, e1, fun vs F1 H1 p1 ⟨v, vr, ev, h1, w, wr, ew, h2, e0⟩ => ?_⟩
    have e0' : wr = [] := e0
    subst e0' ew ev
    refine ⟨v, w, rfl, k _ F1 H1 ⟨p1.tr, (p1.rel.setV h1).setV h2, fun a z => .inl (p1.oa a z.setV.setV), fun q hq => ?_⟩⟩
    rw [List.getElem?_set_ne (fun (z : j = q) => hPj (z.symm ▸ hq)), List.getElem?_set_ne (fun (z : i = q) => hPi (z.symm ▸ hq))]
  · cases e
end

/-! ### for, while -/
def forL (g : GF) (b : SF) : List D → SF
  | [], S => some (.nx, S)
  | d :: ds, S => match g d S with
    | none => none
    | some S1 => match b S1 with
      | some (.nx, S2) => forL g b ds S2
      | some (.cont, S2) => forL g b ds S2
      | some (.brk, S2) => some (.nx, S2)
      | some (.ret d, S2) => some (.ret d, S2)
      | some (.rtF d, S2) => some (.rtF d, S2)
      | none => none
def sFor (it : IFn) (g : GF) (b : SF) : SF := fun S => bd (it S) fun ds S1 => forL g b ds S1
def whL (t : TF) (b : SF) : Nat → SF
  | 0, _ => none
  | n + 1, S => bd (t S) fun c S1 => if c = true then match b S1 with
      | some (.nx, S2) => whL t b n S2
      | some (.cont, S2) => whL t b n S2
      | some (.brk, S2) => some (.nx, S2)
      | some (.ret d, S2) => some (.ret d, S2)
      | some (.rtF d, S2) => some (.rtF d, S2)
      | none => none
    else some (.nx, S1)
open Classical in
noncomputable def sWh (t : TF) (b : SF) : SF := fun S => if h : ∃ (n : Nat) (r : Out × Ss), whL t b n S = some r then some (Classical.choose (Classical.choose_spec h)) else none
theorem whL_det {t : TF} {b : SF} : ∀ {n m : Nat} {S : Ss} {r q : Out × Ss}, whL t b n S = some r → whL t b m S = some q → r = q
  | 0, _, _, _, _, h, _ => by cases h
  | _ + 1, 0, _, _, _, _, h => by cases h
  | n + 1, m + 1, S, r, q, h, h' => by
    unfold whL at h h'
    obtain ⟨c, S1, e1, h⟩ := bd_inv h
    rw [e1, bd_some] at h'
    split at h
    · rename_i hc
      rw [if_pos hc] at h'
      split at h
      · rename_i e2; rw [e2] at h'; exact whL_det h h'
      · rename_i e2; rw [e2] at h'; exact whL_det h h'
      · rename_i e2; rw [e2] at h'; exact Option.some.inj (h.symm.trans h')
      · rename_i e2; rw [e2] at h'; exact Option.some.inj (h.symm.trans h')
      · rename_i e2; rw [e2] at h'; exact Option.some.inj (h.symm.trans h')
      · cases h
    · rename_i hc
      rw [if_neg hc] at h'
      exact Option.some.inj (h.symm.trans h')
theorem sWh_of {t : TF} {b : SF} {n : Nat} {S : Ss} {r : Out × Ss} (h : whL t b n S = some r) : sWh t b S = some r := by
  have ex : ∃ (n : Nat) (r : Out × Ss), whL t b n S = some r := ⟨n, r, h⟩
  unfold sWh
  rw [dif_pos ex]
  exact congrArg some (whL_det (Classical.choose_spec (Classical.choose_spec ex)) h)
theorem sWh_inv {t : TF} {b : SF} {S : Ss} {r : Out × Ss} (h : sWh t b S = some r) : ∃ n, whL t b n S = some r := by
  unfold sWh at h
  split at h
  · rename_i ex
    exact ⟨_, (Classical.choose_spec (Classical.choose_spec ex)).trans h⟩
  · cases h
theorem lt_drop {α : Type} {l : List α} {i : Nat} (h : i < l.length) : ∃ x, l[i]? = some x ∧ l.drop i = x :: l.drop (i + 1) :=
  ⟨l[i], by simp [h], List.drop_eq_getElem_cons h⟩
section
variable {P T : List Nat} {X : Cx} {tg iter : Expr} {body : List Stmt} {it : IFn} {g : GF} {b : SF} {pos : Pos}
theorem s_for (hp : PassesOwn (model X.prog X.w) X.A X.env X.xe) (hc : X.calm = true) (hi : PIv X tg iter it) (hg : PGv P T X tg g) (hb : PMs P X body b)
    (hs : ∀ x, foldedSetIterable iter X.env x = pure x := by intro _; rfl) : PM P X (.For tg iter body [] pos) (sFor it g b) := by
  refine (ps_for hp hc hi hg hb hs).imp ?_
  rintro Dn σ H ⟨F, S, r, o, S', e, k⟩
  obtain ⟨ds, S1, e1, e⟩ := bd_inv e
  refine ⟨F, S, r, ds, S1, e1, fun J F1 H1 p1 ok => ?_⟩
  refine ⟨fun i m σi Hi => m = ds.length - i ∧ i ≤ ds.length ∧ ∃ Fi Si, Ps P (bs X) F S σ H Fi Si σi Hi ∧ Same F1 Fi ∧ forL g b (ds.drop i) Si = some (o, S'), ⟨ds.length, by simp, Nat.zero_le _, F1, S1, Ps.of p1, Same.refl _, e⟩, ?_⟩
  rintro i m σi Hi ⟨rfl, hi', Fi, Si, pi, si, ei⟩
  by_cases hlt : i < ds.length
  · obtain ⟨d, hd, hdr⟩ := lt_drop hlt
    obtain ⟨jgo, jy⟩ := ok.go i d Fi Hi si pi.rel.sub hd
    rw [hdr] at ei
    unfold forL at ei
    split at ei
    · cases ei
    · rename_i S2 eg
      refine .inr ⟨jgo, fun σ' H' => ∃ F' S'', Ps P (bs X) F S σ H F' S'' σ' H' ∧ Same F1 F' ∧ forL g b (ds.drop (i + 1)) S'' = some (o, S'), fun σ' H' ⟨F', S'', h1, h2, h3⟩ => ⟨ds.length - (i + 1), by omega, rfl, hlt, F', S'', h1, h2, h3⟩, fun x H2 y => ?_⟩
      obtain ⟨F2, t2, rx⟩ := jy x H2 y
      have r2 := pi.rel.tr0 t2
      refine ⟨F2, Si, d, r2, rx, S2, eg, fun σ2 r3 pg => ?_⟩
      have p3 : Ps P (bs X) F S σ H F2 S2 σ2 H2 := (pi.trans (Ps.of (Po.tr0 pi.rel t2))).trans (pg.ps (Po.refl r2) r3)
      have s3 : Same F1 F2 := si.trans t2.tr.fs
      cases eb : b S2 with
      | none => rw [eb] at ei; cases ei
      | some p =>
        obtain ⟨o2, S3⟩ := p
        rw [eb] at ei
        refine ⟨F2, S2, r3, o2, S3, eb, fun σ4 F4 H4 p4 => ?_⟩
        have p5 := p3.trans p4
        have s5 := s3.trans p4.tr.fs
        cases o2 with
        | nx => exact ⟨F4, S3, p5, s5, ei⟩
        | cont => exact ⟨F4, S3, p5, s5, ei⟩
        | brk => cases ei; exact k σ4 F4 H4 p5
        | ret d => cases ei; exact k σ4 F4 H4 p5
        | rtF d => cases ei; exact (k σ4 F4 H4 p5).pre p3
  · have e0 : i = ds.length := by omega
    subst e0
    rw [List.drop_length] at ei
    cases ei
    exact .inl ⟨ok.stop _ Fi Hi si pi.rel.sub (Nat.le_refl _), k σi Fi Hi pi⟩
theorem s_while {c : Expr} {t : TF} (hp : PassesOwn (model X.prog X.w) X.A X.env X.xe) (hc : PVt X c t) (hb : PMs P X body b) : PM P X (.While c body [] pos) (sWh t b) := by
  refine (ps_while hp hc hb).imp ?_
  rintro Dn σ H ⟨F, S, r, o, S', e, k⟩
  obtain ⟨n, e⟩ := sWh_inv e
  refine ⟨fun m σi Hi => ∃ Fi Si, Ps P (bs X) F S σ H Fi Si σi Hi ∧ whL t b m Si = some (o, S'), ⟨n, F, S, Ps.refl r, e⟩, ?_⟩
  rintro m σi Hi ⟨Fi, Si, pi, ei⟩
  cases m with
  | zero => cases ei
  | succ m =>
    unfold whL at ei
    obtain ⟨c0, S1, e1, ei⟩ := bd_inv ei
    refine ⟨Fi, Si, pi.rel, c0, S1, e1, fun F1 H1 p1 => ?_⟩
    have p2 := pi.trans (Ps.of p1)
    dsimp only
    split at ei
    · rename_i h
      rw [if_pos h]
      refine ⟨fun σ' H' => ∃ F' S'', Ps P (bs X) F S σ H F' S'' σ' H' ∧ whL t b m S'' = some (o, S'), fun σ' H' ⟨F', S'', h1, h2⟩ => ⟨m, Nat.lt_succ_self _, F', S'', h1, h2⟩, ?_⟩
      cases eb : b S1 with
      | none => rw [eb] at ei; cases ei
      | some p =>
        obtain ⟨o2, S3⟩ := p
        rw [eb] at ei
        refine ⟨F1, S1, p1.rel, o2, S3, eb, fun σ4 F4 H4 p4 => ?_⟩
        have p5 := p2.trans p4
        cases o2 with
        | nx => exact ⟨F4, S3, p5, ei⟩
        | cont => exact ⟨F4, S3, p5, ei⟩
        | brk => cases ei; exact k σ4 F4 H4 p5
        | ret d => cases ei; exact k σ4 F4 H4 p5
        | rtF d => cases ei; exact (k σ4 F4 H4 p5).pre p2
    · rename_i h
      rw [if_neg h]
      cases ei
      exact k σi F1 H1 p2
end
end Sw
/-! the value layer: list comprehensions -/
namespace Sw
open PySem PySem.Spec PyProof.Rows L2
def wipeS (S : Ss) : List Nat → Ss
  | [] => S
  | v :: vs => (wipeS S vs).set v .un
def unwS (S0 S : Ss) : List Nat → Ss
  | [] => S
  | v :: vs => (unwS S0 S vs).set v ((S0[v]?).getD .un)
theorem wipeS_len (S : Ss) : ∀ vs, (wipeS S vs).length = S.length
  | [] => rfl
  | v :: vs => by simp [wipeS, wipeS_len S vs]
theorem unwS_len (S0 S : Ss) : ∀ vs, (unwS S0 S vs).length = S.length
  | [] => rfl
  | v :: vs => by simp [unwS, unwS_len S0 S vs]
theorem wipe_out {σ : L2.St} {j : Nat} : ∀ {vs : List Nat}, j ∉ vs → (wipe σ vs)[j]? = σ[j]?
  | [], _ => rfl
  | v :: vs, h => by
    simp only [List.mem_cons, not_or] at h
    show ((wipe σ vs).set v none)[j]? = _
    rw [List.getElem?_set_ne (Ne.symm h.1), wipe_out h.2]
theorem wipe_in {σ : L2.St} {j : Nat} : ∀ {vs : List Nat}, j ∈ vs → j < σ.length → (wipe σ vs)[j]? = some none
  | v :: vs, h, hj => by
    show ((wipe σ vs).set v none)[j]? = _
    by_cases q : v = j
    · subst q; rw [List.getElem?_set_self (by rw [wipe_length]; exact hj)]
    · rw [List.getElem?_set_ne q]
      exact wipe_in ((List.mem_cons.mp h).resolve_left (Ne.symm q)) hj
theorem wipeS_out {S : Ss} {j : Nat} : ∀ {vs : List Nat}, j ∉ vs → (wipeS S vs)[j]? = S[j]?
  | [], _ => rfl
  | v :: vs, h => by
    simp only [List.mem_cons, not_or] at h
    show ((wipeS S vs).set v .un)[j]? = _
    rw [List.getElem?_set_ne (Ne.symm h.1), wipeS_out h.2]
theorem wipeS_in {S : Ss} {j : Nat} {s : Sl} : ∀ {vs : List Nat}, j ∈ vs → (wipeS S vs)[j]? = some s → s = .un
  | v :: vs, h, e => by
    have e' : ((wipeS S vs).set v .un)[j]? = some s := e
    by_cases q : v = j
    · subst q
      rw [List.getElem?_set_self (by have := lt_at e'; simpa using this)] at e'
      exact (Option.some.inj e').symm
    · rw [List.getElem?_set_ne q] at e'
      exact wipeS_in ((List.mem_cons.mp h).resolve_left (Ne.symm q)) e'
theorem unwS_out {S0 S : Ss} {j : Nat} : ∀ {vs : List Nat}, j ∉ vs → (unwS S0 S vs)[j]? = S[j]?
  | [], _ => rfl
  | v :: vs, h => by
    simp only [List.mem_cons, not_or] at h
    show ((unwS S0 S vs).set v _)[j]? = _
    rw [List.getElem?_set_ne (Ne.symm h.1), unwS_out h.2]
theorem unwS_in {S0 S : Ss} {j : Nat} {s : Sl} : ∀ {vs : List Nat}, j ∈ vs → (unwS S0 S vs)[j]? = some s → s = (S0[j]?).getD .un
  | v :: vs, h, e => by
    have e' : ((unwS S0 S vs).set v ((S0[v]?).getD .un))[j]? = some s := e
    by_cases q : v = j
    · subst q
      rw [List.getElem?_set_self (by have := lt_at e'; simpa using this)] at e'
      exact (Option.some.inj e').symm
    · rw [List.getElem?_set_ne q] at e'
      exact unwS_in ((List.mem_cons.mp h).resolve_left (Ne.symm q)) e'
theorem wipe_eq {σ σ' : L2.St} {vs : List Nat} (h : ∀ i, i ∉ vs → σ'[i]? = σ[i]?) (hl : σ'.length = σ.length) : wipe σ' vs = wipe σ vs := by
  refine List.ext_getElem? fun i => ?_
  by_cases q : i ∈ vs
  · rcases Nat.lt_or_ge i σ.length with hi | hi
    · rw [wipe_in q hi, wipe_in q (by rw [hl]; exact hi)]
    · rw [List.getElem?_eq_none (by rw [wipe_length]; omega), List.getElem?_eq_none (by rw [wipe_length]; omega)]
  · rw [wipe_out q, wipe_out q, h i q]
section
variable {B : Bs} {F H : Hp} {S : Ss} {σ : L2.St}
theorem Rel.wipe (r : Rel B F S σ H) (vs : List Nat) : Rel B F (wipeS S vs) (wipe σ vs) H := by
  refine ⟨r.sub, by rw [wipeS_len, wipe_length, r.len], fun i s e => ?_, fun i j c c' v e e' q q' => ?_⟩
  · by_cases z : i ∈ vs
    · rw [wipeS_in z e]; trivial
    · rw [wipeS_out z] at e
      rw [wipe_out z]
      exact r.ok i s e
  · by_cases z : i ∈ vs
    · cases wipeS_in z e
    · by_cases z' : j ∈ vs
      · cases wipeS_in z' e'
      · rw [wipeS_out z] at e; rw [wipeS_out z'] at e'
        rw [wipe_out z] at q; rw [wipe_out z'] at q'
        exact r.dis i j c c' v e e' q q'
theorem OA.wipe {vs : List Nat} {a : Addr} (h : OA (wipeS S vs) (wipe σ vs) a) : OA S σ a := by
  obtain ⟨i, c, e, e'⟩ := h
  by_cases z : i ∈ vs
  · cases wipeS_in z e
  · rw [wipeS_out z] at e
    rw [wipe_out z] at e'
    exact ⟨i, c, e, e'⟩
end
def cpL (own : List Nat) (g : GF) (t : TF) (e : EF) : List D → Ss → Option (List D × Ss)
  | [], S => some ([], S)
  | d :: ds, S => match g d S with
    | none => none
    | some S1 => bd (t S1) fun b S2 => if b = true then bd (e S2) fun r S3 => bd (cpL own g t e ds (wipeS S3 own)) fun rs S4 => some (r :: rs, S4) else cpL own g t e ds (wipeS S2 own)
def eLc (own : List Nat) (it : IFn) (g : GF) (t : TF) (e : EF) : EF := fun S => bd (it S) fun ds S1 =>
  if (own.all fun v => !isOw S1[v]?) = true then bd (cpL own g t e ds (wipeS S1 own)) fun rs S2 => some (.lst rs, unwS S1 S2 own) else none
def tTrue : TF := fun S => some (true, S)
abbrev PVts (X : Cx) (es : List Expr) (t : TF) : Prop := PTs X es (tT (bs X) t)
theorem ts_nil {X : Cx} : PVts X [] tTrue := pts_nil.imp (by
  rintro σ H Q ⟨F, S, r, b, S', e, k⟩; cases e; exact k F H (Po.refl r))
theorem ts_one {X : Cx} {c : Expr} {t : TF} (h : PVt X c t) : PVts X [c] t := pts_one h
theorem cpL_len {own : List Nat} {g : GF} {t : TF} {e : EF} : ∀ {ds : List D} {S : Ss} {rs : List D} {S' : Ss}, cpL own g t e ds S = some (rs, S') → rs.length ≤ ds.length
  | [], S, rs, S', h => by cases h; exact Nat.le_refl _
  | d :: ds, S, rs, S', h => by
    unfold cpL at h
    split at h
    · cases h
    · obtain ⟨b, S2, _, h⟩ := bd_inv h
      split at h
      · obtain ⟨r, S3, _, h⟩ := bd_inv h
        obtain ⟨rs', S4, e3, h⟩ := bd_inv h
        cases h
        have := cpL_len e3
        simp only [List.length_cons]; omega
      · have := cpL_len h
        simp only [List.length_cons]; omega
theorem lc_imp {B : Bs} {own : List Nat} {it : IFn} {g : GF} {t : TF} {e : EF} {P : List Nat} : ∀ (σ : L2.St) (H : Hp) (Q : VK), tF B (eLc own it g t e) σ H Q → tLc (tIv B it) (tG P own B g) (tT B t) (tV B e) own σ H Q := by
  rintro σ H Q ⟨F, S, r, d, S', ee, k⟩
  obtain ⟨ds, S1, e1, ee⟩ := bd_inv ee
  split at ee
  · rename_i hno
    obtain ⟨rs, S2, e2, ee⟩ := bd_inv ee
    cases ee
    refine ⟨F, S, r, ds, S1, e1, fun J F1 H1 p1 ok Dl hD => ?_⟩
    have hDH : H Dl = none := p1.tr.dm _ hD
    have nO : ¬ OA S1 σ Dl := fun z => by
      obtain ⟨_, o, ho⟩ := p1.rel.own z
      rw [hD] at ho; cases ho
    have no : ∀ v, v ∈ own → ∀ c : D, S1[v]? ≠ some (Sl.ow c) := fun v hv c q => by
      have z := List.all_eq_true.mp hno v hv
      rw [q] at z; cases z
    have t1 := Tr0.newH (o := .lst []) p1.rel.sub hD
    have r1 := (p1.rel.tr0 t1).wipe own
    refine ⟨fun i m Hi => m = ds.length - i ∧ i ≤ ds.length ∧ ∃ Fi Si acc ra ra', Rel B Fi Si (wipe σ own) Hi ∧ Tr (OA S1 σ) F1 H1 Fi Hi ∧ (∀ a, OA Si (wipe σ own) a → OA S1 σ a) ∧ Fi Dl = none ∧ Hi Dl = some (.lst acc) ∧ RpA B Fi ra acc ∧ ra.length ≤ i ∧ cpL own g t e (ds.drop i) Si = some (ra', S2) ∧ ra ++ ra' = rs,
      ⟨ds.length, by simp, Nat.zero_le _, F1, wipeS S1 own, [], [], rs, r1, (t1.tr.mono fun _ z => z.elim), fun a z => z.wipe, p1.rel.sub.free hD, upd_same, rfl, Nat.le_refl _, e2, rfl⟩, ?_⟩
    rintro i m Hi ⟨rfl, hi', Fi, Si, acc, ra, ra', ri, ti, oi, nFi, hDi, rra, hra, ei, hap⟩
    have sFi : Same F1 Fi := ti.fs
    by_cases hlt : i < ds.length
    · obtain ⟨d, hd, hdr⟩ := lt_drop hlt
      obtain ⟨jgo, jy⟩ := ok.go i d Fi Hi sFi ri.sub hd
      rw [hdr] at ei
      unfold cpL at ei
      split at ei
      · cases ei
      · rename_i S3 eg
        refine .inr ⟨jgo, fun H' => ∃ Fi Si acc ra ra', Rel B Fi Si (wipe σ own) H' ∧ Tr (OA S1 σ) F1 H1 Fi H' ∧ (∀ a, OA Si (wipe σ own) a → OA S1 σ a) ∧ Fi Dl = none ∧ H' Dl = some (.lst acc) ∧ RpA B Fi ra acc ∧ ra.length ≤ i + 1 ∧ cpL own g t e (ds.drop (i + 1)) Si = some (ra', S2) ∧ ra ++ ra' = rs,
          fun H' h => ⟨ds.length - (i + 1), by omega, rfl, hlt, h⟩, fun x H2 y => ?_⟩
        obtain ⟨F2, t2, rx⟩ := jy x H2 y
        have r2 := ri.tr0 t2
        have nF2 : F2 Dl = none := by
          cases z : F2 Dl with
          | none => rfl
          | some u =>
            rcases t2.tr.nf Dl nFi (by rw [z]; simp) with w | w
            · cases w _ hDi
            · exact w.elim
        refine ⟨F2, Si, d, r2, rx, S3, eg, fun σ2 r3 pg => ⟨wipe_eq (vs := own) (σ := wipe σ own) pg.only pg.len |>.trans (wipe_eq (fun j hj => wipe_out hj) (wipe_length _ _)), ?_⟩⟩
        have w2 : wipe σ2 own = wipe σ own := wipe_eq (vs := own) (σ := wipe σ own) pg.only pg.len |>.trans (wipe_eq (fun j hj => wipe_out hj) (wipe_length _ _))
        obtain ⟨b, S4, e4, ei⟩ := bd_inv ei
        refine ⟨F2, S3, r3, b, S4, e4, fun F4 H4 p4 => ?_⟩
        -- Dl is never owned
        have nO3 : ¬ OA S3 σ2 Dl := fun z => nO (oi _ (pg.oa _ z))
        have hD2 : H2 Dl = some (.lst acc) := t2.hs _ _ hDi
        have hD4 : H4 Dl = some (.lst acc) := p4.tr.hs _ _ hD2 nO3
        have nF4 : F4 Dl = none := by
          cases z : F4 Dl with
          | none => rfl
          | some u =>
            rcases p4.tr.nf Dl nF2 (by rw [z]; simp) with w | w
            · cases w _ hD2
            · exact absurd w nO3
        have ti2 : Tr (OA S1 σ) F1 H1 F2 H2 := ti.trans t2.tr fun _ z => z.elim
        have ti4 : Tr (OA S1 σ) F1 H1 F4 H4 := ti2.trans p4.tr fun a z => .inl (oi a (pg.oa a z))
        have s24 : Same Fi F4 := t2.tr.fs.trans p4.tr.fs
        dsimp only
        split at ei
        · rename_i hb
          rw [if_pos hb]
          obtain ⟨rv, S5, e5, ei⟩ := bd_inv ei
          obtain ⟨rs', S6, e6, ei⟩ := bd_inv ei
          cases ei
          refine ⟨F4, S4, p4.rel, rv, S5, e5, fun v F5 H5 p5 rp => ?_⟩
          have nO4 : ¬ OA S4 σ2 Dl := fun z => nO3 (p4.oa _ z)
          have hD5 : H5 Dl = some (.lst acc) := p5.tr.hs _ _ hD4 nO4
          have nF5 : F5 Dl = none := by
            cases z : F5 Dl with
            | none => rfl
            | some u =>
              rcases p5.tr.nf Dl nF4 (by rw [z]; simp) with w | w
              · cases w _ hD4
              · exact absurd w nO4
          have hlen : acc.length < sizeLine := by
            rw [rra.len]
            have := ok.line
            omega
          refine ⟨acc, hD5, hlen, F5, wipeS S5 own, acc ++ [v], ra ++ [rv], rs', ?_, ?_, fun a z => ?_, nF5, upd_same, (rra.up (s24.trans p5.tr.fs)).app (RpA.one rp), by simp; omega, e6, by rw [← hap]; simp⟩
          · have q := p5.rel.wipe own
            rw [w2] at q
            refine ⟨fun a o h => ?_, q.len, fun j s ej => ?_, q.dis⟩
            · rw [upd_ne (fun z => by rw [z, nF5] at h; cases h)]; exact q.sub _ _ h
            · have z := q.ok j s ej
              cases s with
              | un => trivial
              | va d => exact z
              | ow c =>
                obtain ⟨a, ea, na, ka⟩ := z
                have hne : a ≠ Dl := fun w => nO4 (p5.oa _ (w ▸ (OA.wipe (vs := own) (by rw [w2]; exact ⟨j, c, ej, ea⟩))))
                exact ⟨a, ea, na, ka.up (Same.refl _) (upd_ne hne)⟩
          · refine ⟨(ti4.fs.trans p5.tr.fs), fun a o h n => ?_, fun a n1 n2 => ?_, fun a h => ?_⟩
            · have hne : a ≠ Dl := fun z => by rw [z, hD] at h; cases h
              rw [upd_ne hne]
              exact p5.tr.hs a o (ti4.hs a o h n) fun z => n (oi a (pg.oa a (p4.oa a z)))
            · exact (ti4.trans p5.tr fun a z => .inl (oi a (pg.oa a (p4.oa a z)))).nf a n1 n2
            · by_cases z : a = Dl
              · rw [z]; exact hD
              · rw [upd_ne z] at h
                exact ti4.dm a (p5.tr.dm a h)
          · have z' : OA (wipeS S5 own) (wipe σ2 own) a := by rw [w2]; exact z
            exact oi a (pg.oa a (p4.oa a (p5.oa a z'.wipe)))
        · rename_i hb
          rw [if_neg hb]
          refine ⟨F4, wipeS S4 own, acc, ra, ra', by have q := p4.rel.wipe own; rw [w2] at q; exact q, ti4, fun a z => ?_, nF4, hD4, rra.up s24, by omega, ei, hap⟩
          have z' : OA (wipeS S4 own) (wipe σ2 own) a := by rw [w2]; exact z
          exact oi a (pg.oa a (p4.oa a z'.wipe))
    · have e0 : i = ds.length := by omega
      subst e0
      rw [List.drop_length] at ei
      cases ei
      rw [List.append_nil] at hap
      subst hap
      refine .inl ⟨ok.stop _ Fi Hi sFi ri.sub (Nat.le_refl _), k Dl Fi Hi ?_ nFi hDH ⟨acc, hDi, rra⟩⟩
      have hOA : ∀ a, OA (unwS S1 S2 own) σ a → OA S2 (wipe σ own) a := fun a ⟨j, c, ej, ej'⟩ => by
        by_cases z : j ∈ own
        · have q := unwS_in z ej
          cases w : S1[j]? with
          | none => rw [w] at q; cases q
          | some s => rw [w] at q; subst q; exact absurd w (no j z c)
        · rw [unwS_out z] at ej
          exact ⟨j, c, ej, by rw [wipe_out z]; exact ej'⟩
      refine ⟨p1.tr.trans ti fun a z => .inl (p1.oa a z), ⟨ri.sub, by rw [unwS_len, ri.len, wipe_length], fun j s ej => ?_, fun j j' c c' v ej ej' q q' => ?_⟩, fun a z => p1.oa a (oi a (hOA a z))⟩
      · by_cases z : j ∈ own
        · have q := unwS_in z ej
          cases w : S1[j]? with
          | none => rw [w] at q; subst q; trivial
          | some s' =>
            rw [w] at q
            have q' : s = s' := q
            subst q'
            have y := p1.rel.ok j s w
            cases s with
            | un => trivial
            | va d => obtain ⟨v, ev, hv⟩ := y; exact ⟨v, ev, hv.up ti.fs⟩
            | ow c => exact absurd w (no j z c)
        · rw [unwS_out z] at ej
          have y := ri.ok j s ej
          rw [wipe_out z] at y
          exact y
      · have g1 : ∀ {j : Nat} {c : D}, (unwS S1 S2 own)[j]? = some (Sl.ow c) → j ∉ own ∧ S2[j]? = some (Sl.ow c) := fun {j c} ej => by
          by_cases z : j ∈ own
          · have q := unwS_in z ej
            cases w : S1[j]? with
            | none => rw [w] at q; cases q
            | some s => rw [w] at q; subst q; exact absurd w (no j z c)
          · rw [unwS_out z] at ej; exact ⟨z, ej⟩
        obtain ⟨z1, h1⟩ := g1 ej
        obtain ⟨z2, h2⟩ := g1 ej'
        exact ri.dis j j' c c' v h1 h2 (by rw [wipe_out z1]; exact q) (by rw [wipe_out z2]; exact q')
  · cases ee
theorem tV_tF {B : Bs} {f : EF} : ∀ (σ : L2.St) (H : Hp) (Q : VK), tV B f σ H Q → tF B f σ H Q := by
  rintro σ H Q ⟨F, S, r, d, S', e, k⟩
  refine ⟨F, S, r, d, S', e, fun a F1 H1 p n nH c => ?_⟩
  obtain ⟨F2, p2, r2⟩ := Po.freezeNew r p n nH c
  exact k _ F2 H1 p2 r2
section
variable {P : List Nat} {X : Cx} {elt tg iter : Expr} {ifs : List Expr} {scope : Scope} {own : List (Str × Nat)} {pos : Pos} {it : IFn} {g : GF} {t : TF} {e : EF}
theorem f_lc (hc : X.calm = true) (hN : X.N.Nodup) (hi : PIv X tg iter it) (ok : BlkOk X.N X.env.scope scope own)
    (hg : ∀ (s : Shared) (H : Hp) (C : Addr) (cl : List (Str × Addr)) (fp : List Addr), PGv [] (own.map (·.2)) (X.blk s H scope (compEnvC scope cl C X.env) fp) tg g) (ht : ∀ (s : Shared) (H : Hp) (C : Addr) (cl : List (Str × Addr)) (fp : List Addr), PVts (X.blk s H scope (compEnvC scope cl C X.env) fp) ifs t)
    (he : ∀ (s : Shared) (H : Hp) (C : Addr) (cl : List (Str × Addr)) (fp : List Addr), PV (X.blk s H scope (compEnvC scope cl C X.env) fp) elt e) (hs : ∀ x, foldedSetIterable iter X.env x = pure x := by intro _; rfl) :
    PF X (.ListComp elt [⟨tg, iter, ifs, 0⟩] scope pos) (eLc (own.map (·.2)) it g t e) := (pe_lc hc hN hi ok hg ht he hs).imp lc_imp
/-- name = [..] on one line -/
theorem s_setLcF (i : Nat) {y : Str} {py spos : Pos} (hc : X.calm = true) (hN : X.N.Nodup) (hP : i ∉ P) (hi : PIv X tg iter it) (ok : BlkOk X.N X.env.scope scope own)
    (hg : ∀ (s : Shared) (H : Hp) (C : Addr) (cl : List (Str × Addr)) (fp : List Addr), PGv [] (own.map (·.2)) (X.blk s H scope (compEnvC scope cl C X.env) fp) tg g) (ht : ∀ (s : Shared) (H : Hp) (C : Addr) (cl : List (Str × Addr)) (fp : List Addr), PVts (X.blk s H scope (compEnvC scope cl C X.env) fp) ifs t)
    (he : ∀ (s : Shared) (H : Hp) (C : Addr) (cl : List (Str × Addr)) (fp : List Addr), PV (X.blk s H scope (compEnvC scope cl C X.env) fp) elt e)
    (hsw : swapsWith (.ListComp elt [⟨tg, iter, ifs, 0⟩] scope pos) (some (.Name y py)) spos.line X.env = pure true) (hy : X.N[i]? = some y := by rfl) (hyl : X.env.scope.names.lookup y = some .local := by rfl) (hs : ∀ x, foldedSetIterable iter X.env x = pure x := by intro _; rfl) :
    PM P X (.Assign [.Name y py] (.ListComp elt [⟨tg, iter, ifs, 0⟩] scope pos) spos) (sSetF i (eLc (own.map (·.2)) it g t e)) := by
  refine (ps_setLc (g := tG [] (own.map (·.2)) (bs X) g) (tt := tT (bs X) t) (te := tV (bs X) e) hc hN hy hyl hsw hi ok hg ht he hs).imp ?_
  rintro Dn σ H ⟨F, S, r, o, S', ee, k⟩
  obtain ⟨d, S1, e1, ee⟩ := bd_inv ee
  cases ee
  exact lc_imp σ H _ ⟨F, S, r, d, _, e1, fun a F1 H1 p1 n nH h => k _ F1 H1 (Po.newO r p1 hP n nH h)⟩
theorem s_setLc (i : Nat) {y : Str} {py spos : Pos} (hc : X.calm = true) (hN : X.N.Nodup) (hP : i ∉ P) (hi : PIv X tg iter it) (ok : BlkOk X.N X.env.scope scope own)
    (hg : ∀ (s : Shared) (H : Hp) (C : Addr) (cl : List (Str × Addr)) (fp : List Addr), PGv [] (own.map (·.2)) (X.blk s H scope (compEnvC scope cl C X.env) fp) tg g) (ht : ∀ (s : Shared) (H : Hp) (C : Addr) (cl : List (Str × Addr)) (fp : List Addr), PVts (X.blk s H scope (compEnvC scope cl C X.env) fp) ifs t)
    (he : ∀ (s : Shared) (H : Hp) (C : Addr) (cl : List (Str × Addr)) (fp : List Addr), PV (X.blk s H scope (compEnvC scope cl C X.env) fp) elt e)
    (hsw : swapsWith (.ListComp elt [⟨tg, iter, ifs, 0⟩] scope pos) (some (.Name y py)) spos.line X.env = pure true) (hy : X.N[i]? = some y := by rfl) (hyl : X.env.scope.names.lookup y = some .local := by rfl) (hs : ∀ x, foldedSetIterable iter X.env x = pure x := by intro _; rfl) :
    PM P X (.Assign [.Name y py] (.ListComp elt [⟨tg, iter, ifs, 0⟩] scope pos) spos) (sSet i (eLc (own.map (·.2)) it g t e)) := by
  refine (ps_setLc (g := tG [] (own.map (·.2)) (bs X) g) (tt := tT (bs X) t) (te := tV (bs X) e) hc hN hy hyl hsw hi ok hg ht he hs).imp ?_
  rintro Dn σ H ⟨F, S, r, o, S', ee, k⟩
  obtain ⟨d, S1, e1, ee⟩ := bd_inv ee
  cases ee
  refine lc_imp σ H _ (tV_tF σ H _ ⟨F, S, r, d, _, e1, fun v F1 H1 p1 r1 => k _ F1 H1 ⟨p1.tr, p1.rel.setV r1, fun a z => .inl (p1.oa a z.setV), fun j hj => ?_⟩⟩)
  exact List.getElem?_set_ne (fun (z : i = j) => hP (z.symm ▸ hj))
end
end Sw
/-! the value layer: reading cells without losing them, writing them -/
namespace Sw
open PySem PySem.Spec PyProof.Rows L2
mutual
/-- data without lists -/
def lfree : D → Bool
  | .non => true
  | .bl _ => true
  | .int _ => true
  | .str _ => true
  | .fr _ => true
  | .tup ds => lfreeA ds
  | .lst _ => false
  | .dct _ => false
  | .obj _ _ => false
  | .scr _ => false
def lfreeA : List D → Bool
  | [] => true
  | d :: ds => lfree d && lfreeA ds
end
def lfreeK : List (List Int × D) → Bool
  | [] => true
  | (_, d) :: ds => lfree d && lfreeK ds
/-- a cell whose items are without lists -/
def lfreeC : D → Bool
  | .lst ds => lfreeA ds
  | .dct kvs => lfreeK kvs
  | _ => false
/-- F with the tuples of G -/
def addT (F G : Hp) : Hp := fun a => match F a with
  | some o => some o
  | none => match G a with
    | some o => if keepT o = true then some o else none
    | none => none
theorem addT_same {F G : Hp} : Same F (addT F G) := fun a o h => by unfold addT; rw [h]
theorem addT_of {F G : Hp} {a : Addr} {o : HO} (s : Same F G) (h : G a = some o) (k : keepT o = true) : addT F G a = some o := by
  unfold addT
  cases e : F a with
  | some u => have := s _ _ e; rw [h] at this; cases this; rfl
  | none => rw [h]; exact if_pos k
theorem addT_sub {F G : Hp} (s : Same F G) : Same (addT F G) G := fun a o h => by
  unfold addT at h
  cases e : F a with
  | some u => rw [e] at h; cases h; exact s _ _ e
  | none =>
    rw [e] at h
    cases g : G a with
    | none => rw [g] at h; cases h
    | some u =>
      rw [g] at h
      dsimp only at h
      split at h
      · exact h
      · cases h
theorem addT_none {F G : Hp} {a : Addr} (n : F a = none) (h : ∀ o, G a = some o → keepT o = false) : addT F G a = none := by
  unfold addT
  rw [n]
  cases g : G a with
  | none => rfl
  | some u => dsimp only; rw [h u g]; rfl
section
variable {B : Bs} {F G : Hp}
theorem Rd.addT {a : Addr} {vs : List V} (s : Same F G) (h : Rd G a (.tup vs)) : Rd (addT F G) a (.tup vs) := by
  rcases h with h | ⟨o, h⟩
  · exact .inl (addT_of s h rfl)
  · exact .inr ⟨o, addT_of s h rfl⟩
mutual
theorem Rp.lf (s : Same F G) : ∀ (d : D) (v : V), lfree d = true → Rp B G d v → Rp B (addT F G) d v
  | .non, _, _, h => h
  | .bl _, _, _, h => h
  | .int _, _, _, h => h
  | .str _, _, _, h => h
  | .fr _, _, _, ⟨a, e, h⟩ => ⟨a, e, h.imp (Rd.addT s) id⟩
  | .tup ds, _, l, ⟨a, vs, e, h, r⟩ => ⟨a, vs, e, addT_of s h rfl, RpA.lf s ds vs l r⟩
  | .lst _, _, l, _ => by cases l
  | .dct _, _, l, _ => by cases l
  | .obj _ _, _, l, _ => by cases l
  | .scr _, _, l, _ => by cases l
theorem RpA.lf (s : Same F G) : ∀ (ds : List D) (vs : List V), lfreeA ds = true → RpA B G ds vs → RpA B (addT F G) ds vs
  | [], _, _, h => h
  | d :: ds, _, l, ⟨v, r, e, h, t⟩ => by
    have l' : (lfree d && lfreeA ds) = true := l
    rw [Bool.and_eq_true] at l'
    exact ⟨v, r, e, Rp.lf s d v l'.1 h, RpA.lf s ds r l'.2 t⟩
end
theorem RpK.lf (s : Same F G) : ∀ (ds : List (List Int × D)) (vs : List (List Key × V)), lfreeK ds = true → RpK B G ds vs → RpK B (addT F G) ds vs
  | [], _, _, h => h
  | (_, d) :: ds, _, l, ⟨v, r, e, h, t⟩ => by
    have l' : (lfree d && lfreeK ds) = true := l
    rw [Bool.and_eq_true] at l'
    exact ⟨v, r, e, Rp.lf s d v l'.1 h, RpK.lf s ds r l'.2 t⟩
theorem Cell.lf {H : Hp} {a : Addr} {c : D} (s : Same F G) (l : lfreeC c = true) (h : Cell B G H a c) : Cell B (addT F G) H a c := by
  cases c with
  | lst ds => obtain ⟨vs, e, r⟩ := h; exact ⟨vs, e, RpA.lf s ds vs l r⟩
  | dct ds => obtain ⟨vs, e, r⟩ := h; exact ⟨vs, e, RpK.lf s ds vs l r⟩
  | _ => exact h.elim
end
/-- all cells frozen -/
def frzS : Sl → Sl
  | .ow c => .va c
  | s => s
def frzAll (S : Ss) : Ss := S.map frzS
open Classical in
noncomputable def allF (S : Ss) (σ : L2.St) (F H : Hp) : Hp := fun a => if OA S σ a then H a else F a
section
variable {B : Bs} {F H F2 H2 : Hp} {S S2 : Ss} {σ : L2.St}
theorem frzAll_at {i : Nat} {s : Sl} (h : (frzAll S)[i]? = some s) : ∃ t, S[i]? = some t ∧ s = frzS t := by
  unfold frzAll at h
  rw [List.getElem?_map] at h
  obtain ⟨t, h1, h2⟩ := Option.map_eq_some_iff.mp h
  exact ⟨t, h1, h2.symm⟩
theorem frzAll_no {i : Nat} {c : D} (h : (frzAll S)[i]? = some (.ow c)) : False := by
  obtain ⟨t, _, h⟩ := frzAll_at h
  cases t <;> cases h
theorem allF_same (r : Rel B F S σ H) : Same F (allF S σ F H) := fun a o h => by
  unfold allF
  rw [if_neg (fun z => by have := (r.own z).1; rw [h] at this; cases this)]
  exact h
theorem allF_sub (r : Rel B F S σ H) : Same (allF S σ F H) H := fun a o h => by
  unfold allF at h
  split at h
  · exact h
  · exact r.sub _ _ h
theorem Rel.freezeAll (r : Rel B F S σ H) : Rel B (allF S σ F H) (frzAll S) σ H := by
  refine ⟨allF_sub r, by unfold frzAll; rw [List.length_map]; exact r.len, fun i s e => ?_, fun i j c c' v e => (frzAll_no e).elim⟩
  obtain ⟨t, h1, h2⟩ := frzAll_at e
  subst h2
  have z := r.ok i t h1
  cases t with
  | un => trivial
  | va d => obtain ⟨v, e', h⟩ := z; exact ⟨v, e', h.up (allF_same r)⟩
  | ow c =>
    obtain ⟨a, e', n, k⟩ := z
    refine ⟨.ref a, e', (k.up (allF_same r) rfl).rp ?_⟩
    unfold allF
    exact if_pos ⟨i, c, h1, e'⟩
/-- back from a reading with all cells frozen -/
theorem Rel.thaw (r : Rel B F S σ H) (p : Po B (allF S σ F H) (frzAll S) σ H F2 S2 H2) : Po B F S σ H (addT F F2) S H2 ∧ Same F F2 := by
  have sF : Same F F2 := (allF_same r).trans p.tr.fs
  have no : ∀ a, ¬ OA (frzAll S) σ a := fun a ⟨i, c, e, _⟩ => frzAll_no e
  have hs : Same H H2 := fun a o h => p.tr.hs a o h (no a)
  have sub2 : Same (addT F F2) H2 := (addT_sub sF).trans p.rel.sub
  refine ⟨⟨⟨addT_same, fun a o h _ => hs a o h, fun a n1 n2 => ?_, p.tr.dm⟩, ⟨sub2, r.len, fun i s e => ?_, r.dis⟩, fun _ h => h⟩, sF⟩
  · by_cases q : OA S σ a
    · exact .inr q
    · have nA : allF S σ F H a = none := by unfold allF; rw [if_neg q]; exact n1
      have n3 : F2 a ≠ none := fun z => n2 (addT_none n1 fun o ho => by rw [z] at ho; cases ho)
      rcases p.tr.nf a nA n3 with w | w
      · exact .inl w
      · exact absurd w (no a)
  · have z := r.ok i s e
    cases s with
    | un => trivial
    | va d => obtain ⟨v, e', h⟩ := z; exact ⟨v, e', h.up addT_same⟩
    | ow c =>
      obtain ⟨a, e', n, k⟩ := z
      obtain ⟨o, ho⟩ := k.there
      refine ⟨a, e', addT_none n fun u hu => ?_, k.up addT_same ((hs _ _ ho).trans ho.symm)⟩
      have h2 := p.rel.sub _ _ hu
      rw [hs _ _ ho] at h2
      cases h2
      exact k.noT o ho
end
def eBor (f : EF) : EF := fun S => match f (frzAll S) with
  | some (d, _) => if lfree d = true then some (d, S) else none
  | none => none
def eBorF (f : EF) : EF := fun S => match f (frzAll S) with
  | some (c, _) => if lfreeC c = true then some (c, S) else none
  | none => none
def tBor (f : TF) : TF := fun S => match f (frzAll S) with
  | some (b, _) => some (b, S)
  | none => none
section
variable {P : List Nat} {X : Cx} {e : Expr} {f : EF} {t : TF} {pos : Pos}
theorem v_bor (h : PV X e f) : PV X e (eBor f) := by
  refine h.imp ?_
  rintro σ H Q ⟨F, S, r, d, S', ee, k⟩
  unfold eBor at ee
  split at ee
  · rename_i d' S2 e1
    split at ee
    · rename_i hl
      cases ee
      refine ⟨_, _, r.freezeAll, d, S2, e1, fun v F2 H2 p rv => ?_⟩
      obtain ⟨p', sF⟩ := r.thaw p
      exact k v _ H2 p' (Rp.lf sF d v hl rv)
    · cases ee
  · cases ee
theorem f_bor (h : PF X e f) : PF X e (eBorF f) := by
  refine h.imp ?_
  rintro σ H Q ⟨F, S, r, d, S', ee, k⟩
  unfold eBorF at ee
  split at ee
  · rename_i d' S2 e1
    split at ee
    · rename_i hl
      cases ee
      refine ⟨_, _, r.freezeAll, d, S2, e1, fun a F2 H2 p n nH c => ?_⟩
      obtain ⟨p', sF⟩ := r.thaw p
      refine k a _ H2 p' (addT_none (r.sub.free nH) fun o ho => by rw [n] at ho; cases ho) nH (c.lf sF hl)
    · cases ee
  · cases ee
theorem t_bor (h : PVt X e t) : PVt X e (tBor t) := by
  refine h.imp ?_
  rintro σ H Q ⟨F, S, r, d, S', ee, k⟩
  unfold tBor at ee
  split at ee
  · rename_i d' S2 e1
    cases ee
    refine ⟨_, _, r.freezeAll, d, S2, e1, fun F2 H2 p => ?_⟩
    exact k _ H2 (r.thaw p).1
  · cases ee
end

/-! ### writing a cell -/
theorem Rel.write {B : Bs} {F H : Hp} {S : Ss} {σ : L2.St} {i : Nat} {c c' : D} {a : Addr} {o : HO} (r : Rel B F S σ H) (e : S[i]? = some (.ow c)) (ea : σ[i]? = some (some (.ref a))) (k : Cell B F (upd H a o) a c') :
    Po B F S σ H F (S.set i (.ow c')) (upd H a o) := by
  have hi := lt_at e
  obtain ⟨n, o0, h0⟩ := r.own ⟨i, c, e, ea⟩
  have ow : ∀ {j : Nat} {d : D}, (S.set i (.ow c'))[j]? = some (Sl.ow d) → ∃ d', S[j]? = some (Sl.ow d') := fun {j d} h => by
    by_cases q : i = j
    · subst q; exact ⟨c, e⟩
    · rw [List.getElem?_set_ne q] at h; exact ⟨d, h⟩
  refine ⟨⟨Same.refl _, fun b u h nb => ?_, fun b n1 n2 => absurd n1 n2, fun b h => ?_⟩, ⟨fun b u h => ?_, by simpa using r.len, fun j s ej => ?_, fun j j' d d' v ej ej' q q' => ?_⟩, fun b ⟨j, d, ej, ej'⟩ => ?_⟩
  · have ne : b ≠ a := fun z => nb (by rw [z]; exact ⟨i, c, e, ea⟩)
    rw [upd_ne ne]; exact h
  · by_cases z : b = a
    · rw [z, upd_same] at h; cases h
    · rw [upd_ne z] at h; exact h
  · rw [upd_ne (fun z => by rw [z, n] at h; cases h)]; exact r.sub _ _ h
  · by_cases q : i = j
    · subst q
      rw [List.getElem?_set_self hi] at ej
      cases ej
      exact ⟨a, ea, n, k⟩
    · rw [List.getElem?_set_ne q] at ej
      have z := r.ok j s ej
      cases s with
      | un => trivial
      | va d => exact z
      | ow d =>
        obtain ⟨b, eb, nb, kb⟩ := z
        exact ⟨b, eb, nb, kb.up (Same.refl _) (upd_ne fun w => q (r.dis i j c d _ e ej ea (w ▸ eb)))⟩
  · obtain ⟨d1, h1⟩ := ow ej
    obtain ⟨d2, h2⟩ := ow ej'
    exact r.dis j j' d1 d2 v h1 h2 q q'
  · obtain ⟨d1, h1⟩ := ow ej
    exact ⟨j, d1, h1, ej'⟩
/-- x.append(e) -/
def sApp (i : Nat) (f : EF) : SF := fun S => match S[i]? with
  | some (.ow (.lst _)) => bd (f S) fun d S1 => match S1[i]? with
    | some (.ow (.lst ds)) => if ds.length < 16777216 then some (.nx, S1.set i (.ow (.lst (ds ++ [d])))) else none
    | _ => none
  | _ => none
section
variable {P : List Nat} {X : Cx} {e : Expr} {f : EF} {pos : Pos}
theorem s_append (i : Nat) {x : Str} {p ap cp : Pos} (he : PV X e f) (hx : PE X (.Name x p) (tVar i)) (hm : PE X (.Call (.Attribute (.Name x p) "append" ap) [e] [] cp) (tBM X.K "list" rAppend (tVar i) (tCons (tV (bs X) f) tNil))) (hs : swapsWith (.Call (.Attribute (.Name x p) "append" ap) [e] [] cp) none pos.line X.env = pure false := by rfl) :
    PM P X (.Expr (.Call (.Attribute (.Name x p) "append" ap) [e] [] cp) pos) (sApp i f) := by
  refine (ps_expr hm hs).imp ?_
  rintro Dn σ H ⟨F, S, r, o, S', ee, k⟩
  unfold sApp at ee
  split at ee
  · rename_i ds0 h0
    obtain ⟨d, S1, e1, ee⟩ := bd_inv ee
    obtain ⟨a, ea, n, vs, hv, rv⟩ := r.ok i _ h0
    split at ee
    · rename_i ds h1
      split at ee
      · rename_i hl
        cases ee
        refine ⟨.ref a, ea, .inl ⟨rfl, vs, .of hv⟩, F, S, r, d, S1, e1, fun v F1 H1 p1 r1 => ?_⟩
        obtain ⟨a', ea', n', vs', hv', rv'⟩ := p1.rel.ok i _ h1
        rw [ea] at ea'
        cases ea'
        refine ⟨a, vs', v, rfl, rfl, hv', line_lt (by rw [rv'.len]; exact hl), ?_⟩
        exact k σ F1 _ (Ps.of (p1.trans (p1.rel.write h1 ea ⟨_, upd_same, rv'.app (RpA.one r1)⟩)))
      · cases ee
    · cases ee
  · cases ee
/-- x[k] = e, x a list -/
def sIx (i : Nat) (f fk : EF) : SF := fun S => bd (f S) fun d S1 => if isOw S1[i]? = true then bd (fk S1) fun z S2 => match S2[i]?, z with
  | some (.ow (.lst ds)), .int z => match ixN ds.length z with
    | some j => some (.nx, S2.set i (.ow (.lst (ds.set j d))))
    | none => none
  | _, _ => none
  else none
theorem s_setIx (i : Nat) {x : Str} {ik : Expr} {p sp : Pos} {fk : EF} (he : PV X e f) (hx : PE X (.Name x p) (tVar i)) (hk : PV X ik fk)
    (ha : ∀ v, assign (.Subscript (.Name x p) ik sp) X.env v = (do
      let ov ← holding [v] (eval (.Name x p) X.env)
      let iv ← holding [v, ov] (eval ik X.env)
      standAt sp
      holding [v, ov, iv] (setItem ov iv v)
      release [v, ov, iv] []) := by intro _; rfl) (hs : swapsWithSole [.Subscript (.Name x p) ik sp] e pos.line X.env = pure false := by rfl) (hw : swappedStores [.Subscript (.Name x p) ik sp] e X.env = pure none := by rfl)
    (h1 : (assignEach [.Subscript (.Name x p) ik sp] X.env).map (·.2) = [assign (.Subscript (.Name x p) ik sp) X.env] := by rfl) :
    PM P X (.Assign [.Subscript (.Name x p) ik sp] e pos) (sIx i f fk) := by
  refine (ps_asg he (pg_sub hx hk set_list ha) hs hw h1).imp ?_
  rintro Dn σ H ⟨F, S, r, o, S', ee, k⟩
  obtain ⟨d, S1, e1, ee⟩ := bd_inv ee
  split at ee
  · rename_i ho
    obtain ⟨c1, hc1⟩ := isOw_of ho
    obtain ⟨z, S2, e2, ee⟩ := bd_inv ee
    split at ee
    · rename_i ds z' h2
      split at ee
      · rename_i j hj
        cases ee
        refine ⟨F, S, r, d, S1, e1, fun v F1 H1 p1 r1 => ?_⟩
        obtain ⟨a, ea, _, _⟩ := p1.rel.ok i _ hc1
        refine ⟨_, ea, F1, S1, p1.rel, _, S2, e2, fun w F2 H2 p2 r2 => ?_⟩
        have r2' : w = .int z' := r2
        obtain ⟨a', ea', n', vs, hv, rv⟩ := p2.rel.ok i _ h2
        rw [ea] at ea'
        cases ea'
        refine ⟨a, vs, z', j, rfl, r2', hv, by rw [rv.len]; exact hj, ?_⟩
        exact k σ F2 _ (Ps.of (p1.trans (p2.trans (p2.rel.write h2 ea ⟨_, upd_same, RpA.set j rv (r1.up p2.tr.fs)⟩))))
      · cases ee
    · cases ee
  · cases ee

end
/-! ### dicts whose keys are tuples of whole numbers -/
def keyOf : List D → Option (List Int)
  | [] => some []
  | .int i :: ds => (keyOf ds).map (i :: ·)
  | _ => none
theorem keyOf_eq : ∀ {ds : List D} {ks : List Int}, keyOf ds = some ks → ds = ks.map .int
  | [], ks, h => by cases h; rfl
  | .int i :: ds, ks, h => by
    obtain ⟨k, h1, h2⟩ := Option.map_eq_some_iff.mp h
    subst h2
    rw [keyOf_eq h1]; rfl
  | .non :: ds, ks, h => by cases h
  | .bl _ :: ds, ks, h => by cases h
  | .str _ :: ds, ks, h => by cases h
  | .fr _ :: ds, ks, h => by cases h
  | .tup _ :: ds, ks, h => by cases h
  | .lst _ :: ds, ks, h => by cases h
  | .dct _ :: ds, ks, h => by cases h
  | .obj _ _ :: ds, ks, h => by cases h
@[simp] theorem keyOf_map (ks : List Int) : keyOf (ks.map .int) = some ks := by
  induction ks with
  | nil => rfl
  | cons k ks ih => simp [keyOf, ih]
abbrev Kv := List (List Int × D)
def kget (kvs : Kv) (k : List Int) : Option D := (kvs.find? fun p => decide (p.1 = k)).map (·.2)
def kput (kvs : Kv) (k : List Int) (d : D) : Kv := if (kvs.any fun p => decide (p.1 = k)) = true then kvs.map fun p => if p.1 = k then (p.1, d) else p else kvs ++ [(k, d)]
def kdrop (kvs : Kv) (k : List Int) : Kv := kvs.filter fun p => decide (p.1 ≠ k)
theorem kI_inj {a b : List Int} : kI a = kI b ↔ a = b := by
  constructor
  · intro h
    unfold kI at h
    exact (List.map_inj_right (fun x y (q : (Sum.inl x : Key) = Sum.inl y) => by cases q; rfl)).mp h
  · intro h; rw [h]
theorem kI_V (ks : List Int) : (kI ks).map kV = ks.map V.int := by simp [kI, kV]
section
variable {B : Bs} {F : Hp}
theorem RpK.len : ∀ {ds : Kv} {vs : List (List Key × V)}, RpK B F ds vs → vs.length = ds.length
  | [], _, h => by cases h; rfl
  | (_, _) :: ds, _, ⟨v, r, e, h, t⟩ => by subst e; simp [RpK.len t]
theorem RpK.get : ∀ {ds : Kv} {vs : List (List Key × V)} (k : List Int), RpK B F ds vs → match kget ds k with
    | some d => ∃ v, valV vs (kI k) = some v ∧ Rp B F d v
    | none => valV vs (kI k) = none
  | [], _, k, h => by cases h; rfl
  | (k', d) :: ds, _, k, ⟨v, r, e, h, t⟩ => by
    subst e
    by_cases q : k' = k
    · subst q
      have e1 : kget ((k', d) :: ds) k' = some d := by simp [kget]
      rw [e1]
      exact ⟨v, by simp [valV], h⟩
    · have e1 : kget ((k', d) :: ds) k = kget ds k := by simp [kget, List.find?_cons, q]
      have e2 : valV ((kI k', v) :: r) (kI k) = valV r (kI k) := by simp [valV, List.find?_cons, kI_inj, q]
      rw [e1, e2]
      exact RpK.get k t
theorem RpK.any : ∀ {ds : Kv} {vs : List (List Key × V)} (k : List Int), RpK B F ds vs → (vs.any fun p => decide (p.1 = kI k)) = ds.any fun p => decide (p.1 = k)
  | [], _, k, h => by cases h; rfl
  | (k', d) :: ds, _, k, ⟨v, r, e, h, t⟩ => by
    subst e
    rw [List.any_cons, List.any_cons, RpK.any k t]
    simp [kI_inj]
theorem RpK.repl {d : D} {v : V} (hd : Rp B F d v) : ∀ {ds : Kv} {vs : List (List Key × V)} (k : List Int), RpK B F ds vs → RpK B F (ds.map fun p => if p.1 = k then (p.1, d) else p) (vs.map fun p => if p.1 = kI k then (p.1, v) else p)
  | [], _, k, h => by cases h; rfl
  | (k', d') :: ds, _, k, ⟨v', r, e, h, t⟩ => by
    subst e
    rw [List.map_cons, List.map_cons]
    by_cases q : k' = k
    · subst q
      simp only [if_true]
      exact ⟨v, _, rfl, hd, RpK.repl hd k' t⟩
    · have q' : ¬ kI k' = kI k := fun z => q (kI_inj.mp z)
      rw [if_neg q, if_neg q']
      exact ⟨v', _, rfl, h, RpK.repl hd k t⟩
theorem RpK.snoc {d : D} {v : V} {k : List Int} (hd : Rp B F d v) : ∀ {ds : Kv} {vs : List (List Key × V)}, RpK B F ds vs → RpK B F (ds ++ [(k, d)]) (vs ++ [(kI k, v)])
  | [], _, h => by cases h; exact ⟨v, [], rfl, hd, rfl⟩
  | (k', d') :: ds, _, ⟨v', r, e, h, t⟩ => by subst e; exact ⟨v', _, rfl, h, RpK.snoc hd t⟩
theorem RpK.put {d : D} {v : V} {ds : Kv} {vs : List (List Key × V)} (k : List Int) (r : RpK B F ds vs) (hd : Rp B F d v) : RpK B F (kput ds k d) (putK vs (kI k) v) := by
  unfold kput putK
  rw [r.any k]
  split
  · exact RpK.repl hd k r
  · exact RpK.snoc hd r
theorem RpK.drop : ∀ {ds : Kv} {vs : List (List Key × V)} (k : List Int), RpK B F ds vs → RpK B F (kdrop ds k) (dropK vs (kI k))
  | [], _, k, h => by cases h; rfl
  | (k', d') :: ds, _, k, ⟨v', r, e, h, t⟩ => by
    subst e
    unfold kdrop dropK
    by_cases q : k' = k
    · subst q
      rw [List.filter_cons, List.filter_cons]
      simp only [ne_eq, not_true_eq_false, decide_false, Bool.false_eq_true, if_false]
      exact RpK.drop k' t
    · have q' : ¬ kI k' = kI k := fun z => q (kI_inj.mp z)
      rw [List.filter_cons, List.filter_cons]
      simp only [ne_eq, q, q', not_false_eq_true, decide_true, if_true]
      exact ⟨v', _, rfl, h, RpK.drop k t⟩
end
/-- the place of a dict: a name's cell, or a value -/
def gDget : D → D → Option D
  | .dct kvs, .tup ks => (keyOf ks).bind (kget kvs)
  | _, _ => none
def gDin : D → D → Option D
  | .tup ks, .dct kvs => (keyOf ks).map fun k => .bl (kget kvs k).isSome
  | _, _ => none
def gDnin : D → D → Option D
  | .tup ks, .dct kvs => (keyOf ks).map fun k => .bl (!(kget kvs k).isSome)
  | _, _ => none
def eDget2 (fd fk fx : EF) : EF := fun S => bd (fd S) fun d S1 => bd (fk S1) fun k S2 => bd (fx S2) fun x S3 => match d, k with
  | .dct kvs, .tup ks => match keyOf ks with
    | some k => some ((kget kvs k).getD x, S3)
    | none => none
  | _, _ => none
section
variable {P : List Nat} {X : Cx} {o ik e x : Expr} {fo fk f fx : EF} {pos cpos apos : Pos}
theorem key_rp {B : Bs} {F : Hp} {ds : List D} {ks : List Int} {v : V} (h : keyOf ds = some ks) (r : Rp B F (.tup ds) v) : ∃ b, v = .ref b ∧ F b = some (.tup ((kI ks).map kV)) := by
  obtain ⟨a, vs, e, h1, h2⟩ := r
  rw [keyOf_eq h] at h2
  exact ⟨a, e, by rw [h1, h2.ints, kI_V]⟩
theorem v_dget (hu : X.A.units + 1 < cLine) (ho : PV X o fo) (hi : PV X ik fk) (hs : NoSl ik := by intro _ _; rfl) : PV X (.Subscript o ik pos) (eBin gDget fo fk) := by
  refine (pe_dget hu ho hi hs).imp ?_
  rintro σ H Q ⟨F, S, r, d, S', ee, k⟩
  obtain ⟨d1, S1, e1, ee⟩ := bd_inv ee
  obtain ⟨d2, S2, e2, ee⟩ := bd_inv ee
  obtain ⟨d3, e3, ee⟩ := Option.map_eq_some_iff.mp ee
  cases ee
  refine ⟨F, S, r, d1, S1, e1, fun v F1 H1 p1 r1 => ⟨F1, S1, p1.rel, d2, _, e2, fun w F2 H2 p2 r2 => ?_⟩⟩
  unfold gDget at e3
  split at e3
  · rename_i kvs ks
    obtain ⟨k', hk, e3⟩ := Option.bind_eq_some_iff.mp e3
    obtain ⟨a, ws, ea, ha, ra⟩ := r1.up p2.tr.fs
    obtain ⟨b, eb, hb⟩ := key_rp hk r2
    have z := ra.get k'
    rw [e3] at z
    obtain ⟨y, hy, ry⟩ := z
    refine ⟨a, y, ea, ?_, k y F2 H2 (p1.trans p2) ry⟩
    rw [eb, ← hy]
    exact DGet.t (p2.rel.sub _ _ ha) (p2.rel.sub _ _ hb)
  · cases e3
theorem t_din (hu : X.A.units + 1 < cLine) (hi : PV X ik fk) (ho : PV X o fo) (h1 : behindInMarks .In o = false := by rfl) : PVt X (.Compare ik [.In] [o] pos) (tVal (eBin gDin fk fo)) := by
  refine (pt_cmp (pc_din hu hi ho) h1).imp ?_
  rintro σ H Q ⟨F, S, r, d, S', ee, k⟩
  obtain ⟨d0, S0, e0, ee⟩ := bd_inv ee
  obtain ⟨d1, S1, e1, e0⟩ := bd_inv e0
  obtain ⟨d2, S2, e2, e0⟩ := bd_inv e0
  obtain ⟨d3, e3, e0⟩ := Option.map_eq_some_iff.mp e0
  cases e0
  refine ⟨F, S, r, d1, S1, e1, fun v F1 H1 p1 r1 => ⟨F1, S1, p1.rel, d2, _, e2, fun w F2 H2 p2 r2 => ?_⟩⟩
  unfold gDin at e3
  split at e3
  · rename_i ks kvs _
    obtain ⟨k', hk, e3⟩ := Option.map_eq_some_iff.mp e3
    subst e3
    cases ee
    obtain ⟨a, ws, ea, ha, ra⟩ := r2
    obtain ⟨b, eb, hb⟩ := key_rp hk (r1.up p2.tr.fs)
    have z := ra.get k'
    refine ⟨a, _, ea, by rw [eb]; exact DGet.t (p2.rel.sub _ _ ha) (p2.rel.sub _ _ hb), (kget kvs k').isSome, ?_, k F2 H2 (p1.trans p2)⟩
    split at z
    · rename_i e4; obtain ⟨y, hy, _⟩ := z; rw [hy, e4]; rfl
    · rename_i e4; rw [z, e4]; rfl
  · cases e3
theorem t_dnin (hu : X.A.units + 1 < cLine) (hi : PV X ik fk) (ho : PV X o fo) (h1 : behindInMarks .NotIn o = false := by rfl) : PVt X (.Compare ik [.NotIn] [o] pos) (tVal (eBin gDnin fk fo)) := by
  refine (pt_cmp (pc_dnotin hu hi ho) h1).imp ?_
  rintro σ H Q ⟨F, S, r, d, S', ee, k⟩
  obtain ⟨d0, S0, e0, ee⟩ := bd_inv ee
  obtain ⟨d1, S1, e1, e0⟩ := bd_inv e0
  obtain ⟨d2, S2, e2, e0⟩ := bd_inv e0
  obtain ⟨d3, e3, e0⟩ := Option.map_eq_some_iff.mp e0
  cases e0
  refine ⟨F, S, r, d1, S1, e1, fun v F1 H1 p1 r1 => ⟨F1, S1, p1.rel, d2, _, e2, fun w F2 H2 p2 r2 => ?_⟩⟩
  unfold gDnin at e3
  split at e3
  · rename_i ks kvs _
    obtain ⟨k', hk, e3⟩ := Option.map_eq_some_iff.mp e3
    subst e3
    cases ee
    obtain ⟨a, ws, ea, ha, ra⟩ := r2
    obtain ⟨b, eb, hb⟩ := key_rp hk (r1.up p2.tr.fs)
    have z := ra.get k'
    refine ⟨a, _, ea, by rw [eb]; exact DGet.t (p2.rel.sub _ _ ha) (p2.rel.sub _ _ hb), !(kget kvs k').isSome, ?_, k F2 H2 (p1.trans p2)⟩
    split at z
    · rename_i e4; obtain ⟨y, hy, _⟩ := z; rw [hy, e4]; rfl
    · rename_i e4; rw [z, e4]; rfl
  · cases e3
theorem v_dget2 (hu : X.A.units + 1 < cLine) (ho : PV X o fo) (hi : PV X ik fk) (hx : PV X x fx) (m : M2 X o "get" apos ik x cpos) : PV X (.Call (.Attribute o "get" apos) [ik, x] [] cpos) (eDget2 fo fk fx) := by
  refine (pe_dget2 hu ho hi hx m).imp ?_
  rintro σ H Q ⟨F, S, r, d, S', ee, k⟩
  obtain ⟨d1, S1, e1, ee⟩ := bd_inv ee
  obtain ⟨d2, S2, e2, ee⟩ := bd_inv ee
  obtain ⟨d3, S3, e3, ee⟩ := bd_inv ee
  split at ee
  · rename_i kvs ks
    split at ee
    · rename_i k' hk
      cases ee
      refine ⟨F, S, r, _, S1, e1, fun v F1 H1 p1 ⟨a, ws, ea, ha, ra⟩ => ⟨a, ea, .inr ⟨ws, .inl (p1.rel.sub _ _ ha)⟩, F1, S1, p1.rel, _, S2, e2, fun w F2 H2 p2 r2 => ⟨F2, S2, p2.rel, d3, _, e3, fun y F3 H3 p3 r3 => ?_⟩⟩⟩
      obtain ⟨b, eb, hb⟩ := key_rp hk (r2.up p3.tr.fs)
      have ha3 : F3 a = some (.dT ws) := p3.tr.fs _ _ (p2.tr.fs _ _ ha)
      have z := (ra.up (p2.tr.fs.trans p3.tr.fs)).get k'
      refine ⟨_, by rw [eb]; exact DGet.t (p3.rel.sub _ _ ha3) (p3.rel.sub _ _ hb), k _ F3 H3 (p1.trans (p2.trans p3)) ?_⟩
      split at z
      · rename_i d4 e4; obtain ⟨y', hy, ry⟩ := z; rw [hy, e4]; exact ry
      · rename_i e4; rw [z, e4]; exact r3
    · cases ee
  · cases ee
/-- {} -/
theorem f_dnew : PF X (.Dict [] [] pos) (eC (.dct [])) := pe_dnewT.imp (by
  rintro σ H Q ⟨F, S, r, d, S', ee, k⟩ p hp
  cases ee
  have t := Tr0.newH (o := .dT []) r.sub hp
  exact k p _ _ (Po.tr0 r t) (r.sub.free hp) hp ⟨[], upd_same, rfl⟩)
/-- x[k] = e, x a dict -/
def sDp (i : Nat) (f fk : EF) : SF := fun S => bd (f S) fun d S1 => if isOw S1[i]? = true then bd (fk S1) fun z S2 => match S2[i]?, z with
  | some (.ow (.dct kvs)), .tup ks => match keyOf ks with
    | some k => if kvs.length < 16777216 then some (.nx, S2.set i (.ow (.dct (kput kvs k d)))) else none
    | none => none
  | _, _ => none
  else none
theorem s_dput (i : Nat) {y : Str} {p sp : Pos} (hu : X.A.units + 1 < cLine) (he : PV X e f) (hx : PE X (.Name y p) (tVar i)) (hk : PV X ik fk) (hs : swapsWith e (some (.Subscript (.Name y p) ik sp)) pos.line X.env = pure false := by rfl) :
    PM P X (.Assign [.Subscript (.Name y p) ik sp] e pos) (sDp i f fk) := by
  refine (ps_dput hu hx hk he hs).imp ?_
  rintro Dn σ H ⟨F, S, r, o, S', ee, k⟩
  obtain ⟨d, S1, e1, ee⟩ := bd_inv ee
  split at ee
  · rename_i ho
    obtain ⟨c1, hc1⟩ := isOw_of ho
    obtain ⟨z, S2, e2, ee⟩ := bd_inv ee
    split at ee
    · rename_i kvs ks h2
      split at ee
      · rename_i k' hk'
        split at ee
        · rename_i hl
          cases ee
          refine ⟨F, S, r, d, S1, e1, fun v F1 H1 p1 r1 => ?_⟩
          obtain ⟨a, ea, _, _⟩ := p1.rel.ok i _ hc1
          refine ⟨_, ea, F1, S1, p1.rel, _, S2, e2, fun w F2 H2 p2 r2 => ?_⟩
          obtain ⟨a', ea', n', ws, hv, rv⟩ := p2.rel.ok i _ h2
          rw [ea] at ea'
          cases ea'
          obtain ⟨b, eb, hb⟩ := key_rp hk' r2
          refine ⟨a, _, rfl, by rw [eb]; exact DPut.t hv (p2.rel.sub _ _ hb) (line_lt (by rw [rv.len]; exact hl)), ?_⟩
          exact k σ F2 _ (Ps.of (p1.trans (p2.trans (p2.rel.write h2 ea ⟨_, upd_same, rv.put k' (r1.up p2.tr.fs)⟩))))
        · cases ee
      · cases ee
    · cases ee
  · cases ee
end
end Sw
/-! the value layer: operators, subscripts, built-ins -/
namespace Sw
open PySem PySem.Spec PyProof.Rows L2
section
variable {X : Cx}
theorem Rd.lstObj {pins : List (Addr × Obj)} {σ : L2.St} {H : Hp} {s : Shared} {a : Addr} {xs : List V} (I : Inv X pins σ H s) (h : Rd H a (.lst xs)) :
    xs.length ≤ sizeLine ∧ ∃ (its : List Value) (n : Nat), Vals xs its ∧ s.heap.get? a = some { cls := .type "list", data := .seq its.toArray n } := h.ok I.hok

/-! ### + - * // % ** - -/
def gAdd : D → D → Option D
  | .int a, .int b => some (.int (a + b))
  | .str a, .str b => if a.length + b.length ≤ 16777216 then some (.str (a ++ b)) else none
  | .lst xs, .lst ys => if xs.length + ys.length ≤ 16777216 then some (.lst (xs ++ ys)) else none
  | .tup xs, .tup ys => if xs.length + ys.length ≤ 16777216 then some (.tup (xs ++ ys)) else none
  | _, _ => none
theorem op_addV : OpR X (binaryOp .Add) (rV (bs X) gAdd) := by
  intro pins s σ H x y v u Q I rx ry h
  obtain ⟨F, d1, d2, d, sub, r1, r2, e, k⟩ := h
  unfold gAdd at e
  split at e
  · cases e
    exact op_add pins s σ H x y v u Q I rx ry ⟨_, _, r1, r2, k _ F H (Tr0.refl sub) rfl⟩
  · split at e
    · rename_i hl
      cases e
      exact op_add_str pins s σ H x y v u Q I rx ry ⟨_, _, r1, r2, line_le hl, k _ F H (Tr0.refl sub) rfl⟩
    · cases e
  · split at e
    · rename_i xs ys hl
      cases e
      obtain ⟨a, vs, ea, ha, ra⟩ := r1
      obtain ⟨b, ws, eb, hb, rb⟩ := r2
      subst ea eb
      obtain rfl : v = Value.ref a := rx
      obtain rfl : u = Value.ref b := ry
      obtain ⟨z, its, n, rr, ee⟩ := Rd.lstObj I (Rd.same sub ha)
      obtain ⟨z2, its2, n2, rr2, ee2⟩ := Rd.lstObj I (Rd.same sub hb)
      have l1 := rr.length
      have l2 := rr2.length
      have hl' : vs.length + ws.length ≤ sizeLine := line_le (by rw [ra.len, rb.len]; exact hl)
      refine PySem.P.add_list ee ee2 ?_ (by rw [List.size_toArray, List.size_toArray]; omega)
      have ea : its.toArray ++ its2.toArray = (its ++ its2).toArray := by simp
      rw [ea]
      have t := Tr0.new (o := .lst (vs ++ ws)) sub I.fresh
      refine ⟨.ref _, _, I.lnew (t' := s.toks) (rr.append rr2) (by rw [List.length_append]; omega), rfl, k _ _ _ t ⟨_, _, rfl, .inl upd_same, (ra.app rb).up t.tr.fs⟩⟩
    · cases e
  · split at e
    · rename_i xs ys hl
      cases e
      obtain ⟨a, vs, ea, ha, ra⟩ := r1
      obtain ⟨b, ws, eb, hb, rb⟩ := r2
      refine op_catA pins s σ H x y v u Q I rx ry ⟨a, b, vs, ws, ea, eb, .of (sub _ _ ha), .of (sub _ _ hb), line_le (by rw [ra.len, rb.len]; exact hl), fun e0 => ?_, fun _ e0 => ?_, fun _ _ p hp => ?_⟩
      · subst e0
        have : xs = [] := by have := ra.len; simpa using this.symm
        subst this
        exact k _ F H (Tr0.refl sub) ⟨b, ws, rfl, hb, rb⟩
      · subst e0
        have : ys = [] := by have := rb.len; simpa using this.symm
        subst this
        exact k _ F H (Tr0.refl sub) ⟨a, vs, rfl, ha, by rw [List.append_nil]; exact ra⟩
      · have t := Tr0.new (o := .tup (vs ++ ws)) sub hp
        exact k _ _ _ t ⟨p, _, rfl, upd_same, (ra.app rb).up t.tr.fs⟩
    · cases e
  · cases e
/-- a rule for ints, by data -/
theorem opI_V {f : Value → Value → Sem Value} {C : Int → Int → Prop} {g : Int → Int → V} {gd : D → D → Option D} (h : OpR X f (rI C g))
    (hg : ∀ d1 d2 d, gd d1 d2 = some d → ∃ i j, d1 = .int i ∧ d2 = .int j ∧ C i j ∧ ∀ F, Rp (bs X) F d (g i j)) : OpR X f (rV (bs X) gd) := by
  intro pins s σ H x y v u Q I rx ry q
  obtain ⟨F, d1, d2, d, sub, r1, r2, e, k⟩ := q
  obtain ⟨i, j, rfl, rfl, hc, hr⟩ := hg _ _ _ e
  exact h pins s σ H x y v u Q I rx ry ⟨i, j, r1, r2, hc, k _ F H (Tr0.refl sub) (hr F)⟩
theorem opI0_V {f : Value → Value → Sem Value} {g : Int → Int → V} {gd : D → D → Option D} (h : OpR X f (rI0 g))
    (hg : ∀ d1 d2 d, gd d1 d2 = some d → ∃ i j, d1 = .int i ∧ d2 = .int j ∧ ∀ F, Rp (bs X) F d (g i j)) : OpR X f (rV (bs X) gd) := by
  intro pins s σ H x y v u Q I rx ry q
  obtain ⟨F, d1, d2, d, sub, r1, r2, e, k⟩ := q
  obtain ⟨i, j, rfl, rfl, hr⟩ := hg _ _ _ e
  exact h pins s σ H x y v u Q I rx ry ⟨i, j, r1, r2, k _ F H (Tr0.refl sub) (hr F)⟩
def gInt (g : Int → Int → D) : D → D → Option D
  | .int i, .int j => some (g i j)
  | _, _ => none
theorem gInt_inv {g : Int → Int → D} {d1 d2 d : D} (h : gInt g d1 d2 = some d) : ∃ i j, d1 = .int i ∧ d2 = .int j ∧ d = g i j := by
  unfold gInt at h
  split at h
  · cases h; exact ⟨_, _, rfl, rfl, rfl⟩
  · cases h
def gSub : D → D → Option D := gInt fun i j => .int (i - j)
theorem op_subV : OpR X (binaryOp .Sub) (rV (bs X) gSub) := opI0_V op_sub fun d1 d2 d h => by
  obtain ⟨i, j, h1, h2, rfl⟩ := gInt_inv h
  exact ⟨i, j, h1, h2, fun F => rfl⟩
def gMul : D → D → Option D
  | .int i, .int j => if i.natAbs.log2 + j.natAbs.log2 < 1000000 then some (.int (i * j)) else none
  | _, _ => none
theorem op_mulV : OpR X (binaryOp .Mult) (rV (bs X) gMul) := opI_V op_mulW fun d1 d2 d h => by
  unfold gMul at h
  split at h
  · split at h
    · rename_i hc; cases h; exact ⟨_, _, rfl, rfl, hc, fun F => rfl⟩
    · cases h
  · cases h
def gDiv : D → D → Option D
  | .int i, .int j => if 0 < j ∧ j.natAbs.log2 < 9000 then some (.int (i / j)) else none
  | _, _ => none
theorem op_divV : OpR X (binaryOp .FloorDiv) (rV (bs X) gDiv) := opI_V op_fdivW fun d1 d2 d h => by
  unfold gDiv at h
  split at h
  · split at h
    · rename_i hc; cases h; exact ⟨_, _, rfl, rfl, hc, fun F => rfl⟩
    · cases h
  · cases h
def gMod : D → D → Option D
  | .int i, .int j => if 0 < j then some (.int (i % j)) else none
  | _, _ => none
theorem op_modV : OpR X (binaryOp .Mod) (rV (bs X) gMod) := opI_V op_mod fun d1 d2 d h => by
  unfold gMod at h
  split at h
  · split at h
    · rename_i hc; cases h; exact ⟨_, _, rfl, rfl, hc, fun F => rfl⟩
    · cases h
  · cases h
def gPow : D → D → Option D
  | .int i, .int j => if 0 ≤ j ∧ j ≤ 1000000 ∧ i.natAbs < 2 ^ 64 then some (.int (i ^ j.toNat)) else none
  | _, _ => none
theorem op_powV : OpR X (binaryOp .Pow) (rV (bs X) gPow) := opI_V op_pow fun d1 d2 d h => by
  unfold gPow at h
  split at h
  · split at h
    · rename_i hc; cases h; exact ⟨_, _, rfl, rfl, hc, fun F => rfl⟩
    · cases h
  · cases h
def gNeg : D → Option D
  | .int i => some (.int (-i))
  | _ => none
theorem un_negV : UnR X (unaryOp .USub) (rV1 (bs X) gNeg) := by
  intro pins s σ H x v Q I rx ⟨F, d1, d, sub, r1, e, k⟩
  unfold gNeg at e
  split at e
  · cases e
    exact un_neg pins s σ H x v Q I rx ⟨_, r1, k _ F H (Tr0.refl sub) rfl⟩
  · cases e

/-! ### comparisons -/
def gLt : D → D → Option D := gInt fun i j => .bl (decide (i < j))
def gLe : D → D → Option D := gInt fun i j => .bl (decide (i ≤ j))
def gGt : D → D → Option D := gInt fun i j => .bl (decide (j < i))
def gGe : D → D → Option D := gInt fun i j => .bl (decide (j ≤ i))
theorem op_ltV : OpR X (compareOp .Lt) (rV (bs X) gLt) := opI0_V op_lt fun d1 d2 d h => by
  obtain ⟨i, j, h1, h2, rfl⟩ := gInt_inv h; exact ⟨i, j, h1, h2, fun F => rfl⟩
theorem op_leV : OpR X (compareOp .LtE) (rV (bs X) gLe) := opI0_V op_le fun d1 d2 d h => by
  obtain ⟨i, j, h1, h2, rfl⟩ := gInt_inv h; exact ⟨i, j, h1, h2, fun F => rfl⟩
theorem op_gtV : OpR X (compareOp .Gt) (rV (bs X) gGt) := opI0_V op_gt fun d1 d2 d h => by
  obtain ⟨i, j, h1, h2, rfl⟩ := gInt_inv h; exact ⟨i, j, h1, h2, fun F => rfl⟩
theorem op_geV : OpR X (compareOp .GtE) (rV (bs X) gGe) := opI0_V op_ge fun d1 d2 d h => by
  obtain ⟨i, j, h1, h2, rfl⟩ := gInt_inv h; exact ⟨i, j, h1, h2, fun F => rfl⟩
mutual
/-- as the library's data -/
def toP : D → PyData
  | .non => .none
  | .bl b => .bool b
  | .int i => .int i
  | .str s => .str s
  | .fr q => .tuple [.int q.num, .int q.den]
  | .tup ds => .tuple (toPA ds)
  | .lst ds => .list (toPA ds)
  | .dct _ => .dict []
  | .obj _ _ => .dict []
  | .scr _ => .dict []
def toPA : List D → List PyData
  | [] => []
  | d :: ds => toP d :: toPA ds
end
mutual
/-- at most n deep, no dicts, no objects, texts of real signs -/
def okD : Nat → D → Bool
  | _, .non => true
  | _, .bl _ => true
  | _, .int _ => true
  | _, .str s => PyData.strOk s
  | 0, _ => false
  | _ + 1, .fr _ => true
  | n + 1, .tup ds => okA n ds
  | n + 1, .lst ds => okA n ds
  | _, .dct _ => false
  | _, .obj _ _ => false
  | _, .scr _ => false
def okA : Nat → List D → Bool
  | _, [] => true
  | n, d :: ds => okD n d && okA n ds
end
section
variable {B : Bs} {F H : Hp}
mutual
theorem dp_of (sub : Same F H) : ∀ (n : Nat) (d : D) (v : V), okD n d = true → Rp B F d v → Dp B.K H v (toP d)
  | _, .non, _, _, r => by cases r; exact .non
  | _, .bl b, _, _, r => by cases r; exact .bl b
  | _, .int i, _, _, r => by cases r; exact .int i
  | _, .str x, _, _, r => by cases r; exact .str x
  | 0, .fr _, _, h, _ => by simp [okD] at h
  | 0, .tup _, _, h, _ => by simp [okD] at h
  | 0, .lst _, _, h, _ => by simp [okD] at h
  | n + 1, .fr q, _, _, ⟨a, e, r⟩ => by subst e; exact .tup (SqT.same sub r) (.cons (.int _) (.cons (.int _) .nil))
  | n + 1, .tup ds, _, h, ⟨a, vs, e, h1, r⟩ => by subst e; exact .tup (.of (sub _ _ h1)) (dpA_of sub n ds vs (by simpa [okD] using h) r)
  | n + 1, .lst ds, _, h, ⟨a, vs, e, h1, r⟩ => by subst e; exact .lst (.inl (Rd.same sub h1)) (dpA_of sub n ds vs (by simpa [okD] using h) r)
  | 0, .dct _, _, h, _ => by simp [okD] at h
  | 0, .obj _ _, _, h, _ => by simp [okD] at h
  | _ + 1, .dct _, _, h, _ => by simp [okD] at h
  | _ + 1, .obj _ _, _, h, _ => by simp [okD] at h
  | 0, .scr _, _, h, _ => by simp [okD] at h
  | _ + 1, .scr _, _, h, _ => by simp [okD] at h
theorem dpA_of (sub : Same F H) : ∀ (n : Nat) (ds : List D) (vs : List V), okA n ds = true → RpA B F ds vs → DpAll B.K H vs (toPA ds)
  | _, [], _, _, r => by cases r; exact .nil
  | n, d :: ds, _, h, ⟨v, r, e, h1, t⟩ => by
    subst e
    have h' : okD n d = true ∧ okA n ds = true := by simpa [okA] using h
    exact .cons (dp_of sub n d v h'.1 h1) (dpA_of sub n ds r h'.2 t)
end
end
mutual
theorem shp_of : ∀ (n : Nat) (d : D), okD n d = true → (toP d).canLay0 = true ∧ (toP d).depth ≤ n
  | n, .non, _ => by simp [toP, PyData.canLay0, PyData.depth]
  | n, .bl b, _ => by simp [toP, PyData.canLay0, PyData.depth]
  | n, .int i, _ => by simp [toP, PyData.canLay0, PyData.depth]
  | n, .str x, h => by
    have h' : PyData.strOk x = true := by cases n <;> simpa [okD] using h
    simp [toP, PyData.canLay0, PyData.depth, h']
  | 0, .fr _, h => by simp [okD] at h
  | 0, .tup _, h => by simp [okD] at h
  | 0, .lst _, h => by simp [okD] at h
  | n + 1, .fr q, _ => by simp [toP, PyData.canLay0, PyData.canLayAll0, PyData.depth, PyData.depthAll]
  | n + 1, .tup ds, h => by
    have q := shpA_of n ds (by simpa [okD] using h)
    simp only [toP, PyData.canLay0, PyData.depth]
    exact ⟨q.1, Nat.succ_le_succ q.2⟩
  | n + 1, .lst ds, h => by
    have q := shpA_of n ds (by simpa [okD] using h)
    simp only [toP, PyData.canLay0, PyData.depth]
    exact ⟨q.1, Nat.succ_le_succ q.2⟩
  | 0, .dct _, h => by simp [okD] at h
  | 0, .scr _, h => by simp [okD] at h
  | _ + 1, .scr _, h => by simp [okD] at h
  | 0, .obj _ _, h => by simp [okD] at h
  | _ + 1, .dct _, h => by simp [okD] at h
  | _ + 1, .obj _ _, h => by simp [okD] at h
theorem shpA_of : ∀ (n : Nat) (ds : List D), okA n ds = true → PyData.canLayAll0 (toPA ds) = true ∧ PyData.depthAll (toPA ds) ≤ n
  | n, [], _ => by simp [toPA, PyData.canLayAll0, PyData.depthAll]
  | n, d :: ds, h => by
    have h' : okD n d = true ∧ okA n ds = true := by simpa [okA] using h
    have q := shp_of n d h'.1
    have q' := shpA_of n ds h'.2
    simp only [toPA, PyData.canLayAll0, PyData.depthAll, Bool.and_eq_true]
    exact ⟨⟨q.1, q'.1⟩, Nat.max_le.mpr ⟨q.2, q'.2⟩⟩
end
theorem shaped_of {d : D} (h : okD 40 d = true) : SeqAt.shaped (toP d) = true := by
  have q := shp_of 40 d h
  unfold SeqAt.shaped
  rw [Bool.and_eq_true]
  exact ⟨q.1, decide_eq_true (by omega)⟩
def eqD (d e : D) : Bool := PyData.eqv (toP d) (toP e)
def gEq (d e : D) : Option D := if (okD 40 d && okD 40 e) = true then some (.bl (eqD d e)) else none
def gNe (d e : D) : Option D := if (okD 40 d && okD 40 e) = true then some (.bl (!eqD d e)) else none
theorem op_eqV (hu : X.A.units + 64 < cLine) : OpR X (compareOp .Eq) (rV (bs X) gEq) := by
  intro pins s σ H x y v u Q I rx ry ⟨F, d1, d2, d, sub, r1, r2, e, k⟩
  unfold gEq at e
  split at e
  · rename_i h
    cases e
    rw [Bool.and_eq_true] at h
    exact op_eqD hu pins s σ H x y v u Q I rx ry ⟨_, _, dp_of (B := bs X) sub 40 d1 x h.1 r1, dp_of (B := bs X) sub 40 d2 y h.2 r2, shaped_of h.1, shaped_of h.2, k _ F H (Tr0.refl sub) rfl⟩
  · cases e
theorem op_neV (hu : X.A.units + 64 < cLine) : OpR X (compareOp .NotEq) (rV (bs X) gNe) := by
  intro pins s σ H x y v u Q I rx ry ⟨F, d1, d2, d, sub, r1, r2, e, k⟩
  unfold gNe at e
  split at e
  · rename_i h
    cases e
    rw [Bool.and_eq_true] at h
    exact op_neD hu pins s σ H x y v u Q I rx ry ⟨_, _, dp_of (B := bs X) sub 40 d1 x h.1 r1, dp_of (B := bs X) sub 40 d2 y h.2 r2, shaped_of h.1, shaped_of h.2, k _ F H (Tr0.refl sub) rfl⟩
  · cases e
def isNon : D → Bool
  | .non => true
  | _ => false
theorem isNon_v {B : Bs} {F : Hp} {d : D} {v : V} (r : Rp B F d v) : decide (v = .non) = isNon d := by
  cases d with
  | non => cases r; rfl
  | bl b => cases r; rfl
  | int b => cases r; rfl
  | str b => cases r; rfl
  | fr q => obtain ⟨a, e, _⟩ := r; subst e; rfl
  | tup q => obtain ⟨a, _, e, _⟩ := r; subst e; rfl
  | lst q => obtain ⟨a, _, e, _⟩ := r; subst e; rfl
  | dct q => obtain ⟨a, _, e, _⟩ := r; subst e; rfl
  | obj c q => obtain ⟨a, _, _, _, e, _⟩ := r; subst e; rfl
  | scr q => obtain ⟨a, e, _⟩ := r; subst e; rfl
def gIs : D → D → Option D
  | d, .non => some (.bl (isNon d))
  | _, _ => none
def gIsnt : D → D → Option D
  | d, .non => some (.bl (!isNon d))
  | _, _ => none
theorem op_isV : OpR X (compareOp .Is) (rV (bs X) gIs) := by
  intro pins s σ H x y v u Q I rx ry ⟨F, d1, d2, d, sub, r1, r2, e, k⟩
  unfold gIs at e
  split at e
  · cases e
    exact op_isN pins s σ H x y v u Q I rx ry ⟨r2, k _ F H (Tr0.refl sub) (congrArg V.bl (isNon_v r1))⟩
  · cases e
theorem op_isntV : OpR X (compareOp .IsNot) (rV (bs X) gIsnt) := by
  intro pins s σ H x y v u Q I rx ry ⟨F, d1, d2, d, sub, r1, r2, e, k⟩
  unfold gIsnt at e
  split at e
  · cases e
    exact op_notN pins s σ H x y v u Q I rx ry ⟨r2, k _ F H (Tr0.refl sub) (congrArg V.bl (congrArg not (isNon_v r1)))⟩
  · cases e

/-! ### subscripts, slices -/
def gIx : D → D → Option D
  | .lst ds, .int z => atI ds z
  | .tup ds, .int z => atI ds z
  | .fr q, .int z => atI [D.int q.num, D.int q.den] z
  | .str s, .int z => if s.length ≤ 16777216 then (atI s.cps.toList z).map fun c => .str ⟨#[c]⟩ else none
  | .scr ns, .int z => (atI ns z).map D.int
  | _, _ => none
theorem RpA.atI {B : Bs} {F : Hp} {ds : List D} {vs : List V} {z : Int} {d : D} (r : RpA B F ds vs) (h : L2.atI ds z = some d) : ∃ v, L2.atI vs z = some v ∧ Rp B F d v := by
  unfold L2.atI at h ⊢
  rw [r.len]
  obtain ⟨j, h1, h2⟩ := Option.bind_eq_some_iff.mp h
  obtain ⟨v, h3, h4⟩ := r.get h2
  exact ⟨v, by rw [h1]; exact h3, h4⟩
theorem atI_map {ns : List Int} {z : Int} {i : Int} (h : atI ns z = some i) : atI (ns.map V.int) z = some (V.int i) := by
  unfold atI at h ⊢
  obtain ⟨j, h1, h2⟩ := Option.bind_eq_some_iff.mp h
  rw [List.length_map, h1]
  show (ns.map V.int)[j]? = _
  rw [List.getElem?_map, h2]
  rfl
theorem ix_V : IxR X (rV (bs X) gIx) := by
  intro value slice pins s σ H x y v u Q I rx ry ⟨F, d1, d2, d, sub, r1, r2, e, k⟩ hs
  unfold gIx at e
  split at e
  · obtain ⟨a, vs, ea, ha, ra⟩ := r1
    obtain ⟨w, h1, h2⟩ := RpA.atI ra e
    exact ix_list value slice pins s σ H x y v u Q I rx ry ⟨a, vs, _, w, ea, r2, .inl (Rd.same sub ha), h1, k _ F H (Tr0.refl sub) h2⟩ hs
  · obtain ⟨a, vs, ea, ha, ra⟩ := r1
    obtain ⟨w, h1, h2⟩ := RpA.atI ra e
    exact ix_tup value slice pins s σ H x y v u Q I rx ry ⟨a, vs, _, w, ea, r2, .of (sub _ _ ha), h1, k _ F H (Tr0.refl sub) h2⟩ hs
  · rename_i q z
    obtain ⟨a, ea, ha⟩ := r1
    have ra : RpA (bs X) F [D.int q.num, D.int q.den] [.int q.num, .int q.den] := ⟨_, _, rfl, rfl, _, _, rfl, rfl, rfl⟩
    obtain ⟨w, h1, h2⟩ := RpA.atI ra e
    exact ix_tup value slice pins s σ H x y v u Q I rx ry ⟨a, _, _, w, ea, r2, SqT.same sub ha, h1, k _ F H (Tr0.refl sub) h2⟩ hs
  · split at e
    · rename_i hl
      obtain ⟨c, h1, h2⟩ := Option.map_eq_some_iff.mp e
      subst h2
      exact ix_str value slice pins s σ H x y v u Q I rx ry ⟨_, _, c, r1, r2, line_le hl, h1, k _ F H (Tr0.refl sub) rfl⟩ hs
    · cases e
  · obtain ⟨a, ea, ha⟩ := r1
    obtain ⟨i, h1, h2⟩ := Option.map_eq_some_iff.mp e
    subst h2
    have h3 : atI (_root_.List.map V.int _) _ = some (V.int i) := atI_map h1
    exact ix_list value slice pins s σ H x y v u Q I rx ry ⟨a, _, _, _, ea, r2, SqL.same sub ha, h3, k _ F H (Tr0.refl sub) rfl⟩ hs
  · cases e
end
section
variable {X : Cx} {e a b c : Expr} {es : List Expr} {fa fb fc : EF} {fs : AF} {pos p2 : Pos}
theorem v_ix (ha : PV X a fa) (hb : PV X b fb) (hs : PlainIx b := by intro _ _; rfl) : PV X (.Subscript a b pos) (eBin gIx fa fb) := by
  refine (pe_ix ix_V ha hb hs).imp ?_
  rintro σ H Q ⟨F, S, r, d, S', e, k⟩
  obtain ⟨d1, S1, e1, e⟩ := bd_inv e
  obtain ⟨d2, S2, e2, e⟩ := bd_inv e
  obtain ⟨d3, e3, e⟩ := Option.map_eq_some_iff.mp e
  cases e
  refine ⟨F, S, r, d1, S1, e1, fun x F1 H1 p1 r1 => ⟨F1, S1, p1.rel, d2, _, e2, fun y F2 H2 p2 r2 => ⟨F2, d1, d2, d, p2.rel.sub, r1.up p2.tr.fs, r2, e3, fun v F3 H3 t r3 => ?_⟩⟩⟩
  exact k v F3 H3 (p1.trans (p2.trans (Po.tr0 p2.rel t))) r3
/-- a slice's end: left out, or a whole number -/
abbrev OF := Ss → Option (Option Int × Ss)
def oNo : OF := fun S => some (none, S)
def oPt (f : EF) : OF := fun S => bd (f S) fun d S1 => match d with
  | .int i => some (some i, S1)
  | _ => none
def tO (B : Bs) (f : OF) : TO := fun σ H Q => ∃ F S, Rel B F S σ H ∧ ∃ d S', f S = some (d, S') ∧ ∀ F' H', Po B F S σ H F' S' H' → Q d H'
abbrev PVp (X : Cx) (e : Option Expr) (f : OF) : Prop := PO X e (tO (bs X) f)
theorem PO.imp {X : Cx} {e : Option Expr} {t t' : TO} (h : PO X e t) (w : ∀ σ H Q, t' σ H Q → t σ H Q) : PO X e t' := ⟨fun pins s σ H Q I q => h.run pins s σ H Q I (w σ H Q q)⟩
theorem p_none : PVp X none oNo := PO.imp po_none (by
  rintro σ H Q ⟨F, S, r, d, S', e, k⟩; cases e; exact k F H (Po.refl r))
theorem p_some (h : PV X e fa) : PVp X (some e) (oPt fa) := PO.imp (po_some h) (by
  rintro σ H Q ⟨F, S, r, d, S', e, k⟩
  obtain ⟨d1, S1, e1, e⟩ := bd_inv e
  split at e
  · cases e
    exact ⟨F, S, r, _, _, e1, fun v F1 H1 p1 r1 => ⟨_, r1, k F1 H1 p1⟩⟩
  · cases e)
def cutD {α : Type} (xs : List α) (lo hi : Option Int) : List α := (xs.drop (HT.sIx xs.length 0 lo)).take (HT.sIx xs.length xs.length hi - HT.sIx xs.length 0 lo)
def gSl (d : D) (lo hi : Option Int) : Option D := match d with
  | .lst ds => some (.lst (cutD ds lo hi))
  | .tup ds => some (.tup (cutD ds lo hi))
  | _ => none
def rSlV (B : Bs) : V → Option Int → Option Int → Hp → VK → Prop := fun x lo hi H Q => ∃ F d1 d, Same F H ∧ Rp B F d1 x ∧ gSl d1 lo hi = some d ∧ ∀ v F' H', Tr0 F H F' H' → Rp B F' d v → Q v H'
theorem cut_rp {B : Bs} {F : Hp} {ds : List D} {vs : List V} (r : RpA B F ds vs) (lo hi : Option Int) : RpA B F (cutD ds lo hi) (cutV vs lo hi) := by
  unfold cutD cutV
  rw [r.len]
  exact (r.drop _).take _
theorem cut_whole {α : Type} {xs : List α} {lo hi : Option Int} (h : HT.sIx xs.length 0 lo = 0 ∧ HT.sIx xs.length xs.length hi = xs.length) : cutD xs lo hi = xs := by
  unfold cutD
  rw [h.1, h.2]
  simp
theorem slr_or : SlR X (rSlV (bs X)) := by
  intro pins s σ H x v vl vu lo hi sl Q I rx hs pl pu ⟨F, d1, d, sub, r1, e, k⟩
  unfold gSl at e
  split at e
  · cases e
    obtain ⟨a, vs, ea, ha, ra⟩ := r1
    refine sl_list pins s σ H x v vl vu lo hi sl Q I rx hs pl pu ⟨a, vs, ea, .inl (Rd.same sub ha), fun p hp => ?_⟩
    have t := Tr0.new (o := .lst (cutV vs lo hi)) sub hp
    exact k _ _ _ t ⟨p, _, rfl, .inl upd_same, (cut_rp ra lo hi).up t.tr.fs⟩
  · cases e
    obtain ⟨a, vs, ea, ha, ra⟩ := r1
    refine sl_tupA pins s σ H x v vl vu lo hi sl Q I rx hs pl pu ⟨a, vs, ea, .of (sub _ _ ha), fun hw => ?_, fun hw p hp => ?_⟩
    · rw [ra.len] at hw
      exact k _ F H (Tr0.refl sub) ⟨a, vs, rfl, ha, by rw [cut_whole hw]; exact ra⟩
    · have t := Tr0.new (o := .tup (cutV vs lo hi)) sub hp
      exact k _ _ _ t ⟨p, _, rfl, upd_same, (cut_rp ra lo hi).up t.tr.fs⟩
  · cases e
def eSl (fa : EF) (fl fh : OF) : EF := fun S => bd (fa S) fun d S1 => bd (fl S1) fun lo S2 => bd (fh S2) fun hi S3 => (gSl d lo hi).map fun x => (x, S3)
theorem v_slice {lo hi : Option Expr} {fl fh : OF} (he : PV X e fa) (hl : PVp X lo fl) (hu : PVp X hi fh) : PV X (.Subscript e (.Slice lo hi none p2) pos) (eSl fa fl fh) := by
  refine (pe_slice slr_or he hl hu).imp ?_
  rintro σ H Q ⟨F, S, r, d, S', e, k⟩
  obtain ⟨d1, S1, e1, e⟩ := bd_inv e
  obtain ⟨l, S2, e2, e⟩ := bd_inv e
  obtain ⟨h, S3, e3, e⟩ := bd_inv e
  obtain ⟨d3, e4, e⟩ := Option.map_eq_some_iff.mp e
  cases e
  refine ⟨F, S, r, d1, S1, e1, fun x F1 H1 p1 r1 => ⟨F1, S1, p1.rel, l, S2, e2, fun F2 H2 p2 => ⟨F2, S2, p2.rel, h, _, e3, fun F3 H3 p3 => ⟨F3, d1, d, p3.rel.sub, r1.up (p2.tr.fs.trans p3.tr.fs), e4, fun v F4 H4 t r4 => ?_⟩⟩⟩⟩
  exact k v F4 H4 (p1.trans (p2.trans (p3.trans (Po.tr0 p3.rel t)))) r4
end

/-! ### built-ins -/
section
variable {X : Cx}
def gLen : List D → Option D
  | [.lst ds] => some (.int ds.length)
  | [.tup ds] => some (.int ds.length)
  | [.fr _] => some (.int 2)
  | [.str s] => if s.length ≤ 16777216 then some (.int s.length) else none
  | [.scr ns] => some (.int ns.length)
  | _ => none
theorem c_len : CallR X (.builtin "len") (rVA (bs X) gLen) := by
  intro pins s σ H xs us Q I r ⟨F, ds, d, sub, ra, e, k⟩
  unfold gLen at e
  split at e
  · cases e
    obtain ⟨v, vr, ev, ⟨a, vs, ea, ha, rr⟩, e0⟩ := ra
    have e0' : vr = [] := e0
    subst e0' ev ea
    refine call_len pins s σ H _ us Q I r ⟨_, _, rfl, .inl ⟨vs, .inl (Rd.same sub ha), rfl⟩, ?_⟩
    exact k _ F H (Tr0.refl sub) (by rw [rr.len]; rfl)
  · cases e
    obtain ⟨v, vr, ev, ⟨a, vs, ea, ha, rr⟩, e0⟩ := ra
    have e0' : vr = [] := e0
    subst e0' ev ea
    refine call_len pins s σ H _ us Q I r ⟨_, _, rfl, .inr ⟨vs, .of (sub _ _ ha), rfl⟩, ?_⟩
    exact k _ F H (Tr0.refl sub) (by rw [rr.len]; rfl)
  · cases e
    obtain ⟨v, vr, ev, ⟨a, ea, ha⟩, e0⟩ := ra
    have e0' : vr = [] := e0
    subst e0' ev ea
    exact call_len pins s σ H _ us Q I r ⟨_, _, rfl, .inr ⟨_, SqT.same sub ha, rfl⟩, k _ F H (Tr0.refl sub) rfl⟩
  · split at e
    · rename_i hl
      cases e
      obtain ⟨v, vr, ev, ea, e0⟩ := ra
      have e0' : vr = [] := e0
      have ea' : v = .str _ := ea
      subst e0' ea' ev
      exact call_len pins s σ H _ us Q I r ⟨_, _, rfl, ⟨line_le hl, rfl⟩, k _ F H (Tr0.refl sub) rfl⟩
    · cases e
  · cases e
    obtain ⟨v, vr, ev, ⟨a, ea, ha⟩, e0⟩ := ra
    have e0' : vr = [] := e0
    subst e0' ev ea
    refine call_len pins s σ H _ us Q I r ⟨_, _, rfl, .inl ⟨_, SqL.same sub ha, rfl⟩, ?_⟩
    exact k _ F H (Tr0.refl sub) (by rw [List.length_map]; rfl)
  · cases e
def gAbs : List D → Option D
  | [.int i] => some (.int (if i < 0 then -i else i))
  | _ => none
theorem c_abs : CallR X (.builtin "abs") (rVA (bs X) gAbs) := by
  intro pins s σ H xs us Q I r ⟨F, ds, d, sub, ra, e, k⟩
  unfold gAbs at e
  split at e
  · rename_i i
    cases e
    exact call_abs pins s σ H _ us Q I r ⟨i, ra.ints (ns := [i]), k _ F H (Tr0.refl sub) rfl⟩
  · cases e
def gInt1 : List D → Option D
  | [.int i] => some (.int i)
  | [.bl b] => some (.int (if b then 1 else 0))
  | _ => none
theorem c_int1 : CallR X (.type "int") (rVA (bs X) gInt1) := by
  intro pins s σ H xs us Q I r ⟨F, ds, d, sub, ra, e, k⟩
  unfold gInt1 at e
  split at e
  · rename_i i
    cases e
    exact call_int1 pins s σ H _ us Q I r (.inl ⟨i, ra.ints (ns := [i]), k _ F H (Tr0.refl sub) rfl⟩)
  · rename_i b
    cases e
    obtain ⟨v, vr, ev, ea, e0⟩ := ra
    have e0' : vr = [] := e0
    have ea' : v = .bl b := ea
    subst e0' ea' ev
    exact call_int1 pins s σ H _ us Q I r (.inr ⟨b, rfl, k _ F H (Tr0.refl sub) rfl⟩)
  · cases e
/-- list(x) -/
def gList : List D → Option D
  | [.lst ds] => some (.lst ds)
  | [.tup ds] => some (.lst ds)
  | _ => none
theorem c_list : CallR X (.type "list") (rVF (bs X) gList) := by
  intro pins s σ H xs us Q I r ⟨F, ds, d, sub, ra, e, k⟩
  unfold gList at e
  split at e
  · cases e
    obtain ⟨v, vr, ev, ⟨a, vs, ea, ha, rr⟩, e0⟩ := ra
    have e0' : vr = [] := e0
    subst e0' ev ea
    refine call_list_of pins s σ H _ us Q I r ⟨a, vs, rfl, .inl (.inl (Rd.same sub ha)), fun l hl => ?_⟩
    exact k l F _ (Tr0.newH sub hl) (sub.free hl) hl ⟨vs, upd_same, rr⟩
  · cases e
    obtain ⟨v, vr, ev, ⟨a, vs, ea, ha, rr⟩, e0⟩ := ra
    have e0' : vr = [] := e0
    subst e0' ev ea
    refine call_list_of pins s σ H _ us Q I r ⟨a, vs, rfl, .inr (.of (sub _ _ ha)), fun l hl => ?_⟩
    exact k l F _ (Tr0.newH sub hl) (sub.free hl) hl ⟨vs, upd_same, rr⟩
  · cases e
/-- tuple(x) -/
def gTuple : List D → Option D
  | [.lst ds] => some (.tup ds)
  | [.tup ds] => some (.tup ds)
  | _ => none
theorem c_tuple : CallR X (.type "tuple") (rVA (bs X) gTuple) := by
  intro pins s σ H xs us Q I r ⟨F, ds, d, sub, ra, e, k⟩
  unfold gTuple at e
  split at e
  · cases e
    obtain ⟨v, vr, ev, ⟨a, vs, ea, ha, rr⟩, e0⟩ := ra
    have e0' : vr = [] := e0
    subst e0' ev ea
    refine call_tuple_of pins s σ H _ us Q I r ⟨a, vs, rfl, .inl ⟨.inl (Rd.same sub ha), fun l hl => ?_⟩⟩
    have t := Tr0.new (o := .tup vs) sub hl
    exact k _ _ _ t ⟨l, vs, rfl, upd_same, rr.up t.tr.fs⟩
  · cases e
    obtain ⟨v, vr, ev, ⟨a, vs, ea, ha, rr⟩, e0⟩ := ra
    have e0' : vr = [] := e0
    subst e0' ev ea
    exact call_tuple_of pins s σ H _ us Q I r ⟨a, vs, rfl, .inr ⟨.of (sub _ _ ha), k _ F H (Tr0.refl sub) ⟨a, vs, rfl, ha, rr⟩⟩⟩
  · cases e
/-- isinstance(x, T) for a built-in class T -/
def tyN : D → Option String
  | .non => some "NoneType"
  | .bl _ => some "bool"
  | .int _ => some "int"
  | .str _ => some "str"
  | .tup _ => some "tuple"
  | .fr _ => some "tuple"
  | .lst _ => some "list"
  | _ => none
theorem tyX_of {B : Bs} {F H : Hp} {d : D} {v : V} {t : String} (sub : Same F H) (r : Rp B F d v) (h : tyN d = some t) : TyX B.K H v (.type t) := by
  cases d with
  | non => cases h; cases r; exact .base .non
  | bl b => cases h; cases r; exact .base (.bl b)
  | int b => cases h; cases r; exact .base (.int b)
  | str b => cases h; cases r; exact .base (.str b)
  | fr q =>
    cases h
    obtain ⟨a, e, hq⟩ := r
    subst e
    rcases SqT.same sub hq with (hq | ⟨o, hq⟩) | ⟨o, its, n, h1, h2, _⟩
    · exact .base (.tup hq)
    · exact .fTuple hq
    · exact .kTuple h1 h2
  | tup q => cases h; obtain ⟨a, vs, e, hq, _⟩ := r; subst e; exact .base (.tup (sub _ _ hq))
  | lst q =>
    cases h
    obtain ⟨a, vs, e, hq, _⟩ := r
    subst e
    rcases Rd.same sub hq with hq | ⟨o, hq⟩
    · exact .base (.lst hq)
    · exact .base (.frz hq)
  | dct q => cases h
  | obj c q => cases h
  | scr q => cases h
/-- the answer for built-in classes -/
def isiT (t T : String) : Option Bool := if (["NoneType", "bool", "int", "str", "tuple", "list"].contains t && ["bool", "int", "str", "tuple", "list"].contains T) = true then some (t == T || (t == "bool" && T == "int")) else none
theorem isiT_all : (["NoneType", "bool", "int", "str", "tuple", "list"].all fun t => ["bool", "int", "str", "tuple", "list"].all fun T => kitB t T == some (t == T || (t == "bool" && T == "int"))) = true := by decide +kernel
theorem isiT_ok {K : PySem.W.Frag} {t T : String} {b : Bool} (h : isiT t T = some b) : PySem.W.kitOne K (.type t) (.type T) = some b := by
  unfold isiT at h
  split at h
  · rename_i hc
    rw [Bool.and_eq_true] at hc
    cases h
    have z := List.all_eq_true.mp isiT_all t (List.contains_iff_mem.mp hc.1)
    have z' := List.all_eq_true.mp z T (List.contains_iff_mem.mp hc.2)
    exact kit_ty (beq_iff_eq.mp z')
  · cases h
def isiD (T : String) (d : D) : Option D := (tyN d).bind fun t => (isiT t T).map D.bl
end
section
variable {X : Cx} {e : Expr} {es : List Expr} {fa : EF} {pos p p2 : Pos}
theorem v_isi {x : Str} (T : String) (hm : X.mg "isinstance" = none) (hm2 : X.mg x = none) (hv2 : bootBuiltins x = some (.type T)) (ha : PV X e fa) (hg : Gl X "isinstance" := by rfl) (hg2 : Gl X x := by rfl) (hn : x ≠ "__name__" := by decide) (hdb : (x == ("__debug__" : Str)) = false := by decide)
    (he : starEach [e, .Name x p2] X.env = (false, eval e X.env) :: starEach [.Name x p2] X.env := by rfl) (he2 : starEach [.Name x p2] X.env = (false, eval (.Name x p2) X.env) :: starEach [] X.env := by rfl) (hpl : (backTo pos (starEach [.Name x p2] X.env)).any (·.1) = false := by rfl) :
    PV X (.Call (.Name "isinstance" p) [e, .Name x p2] [] pos) (eUn (isiD T) fa) := by
  refine (pe_callB call_isi hg hm (PyProof.Rows.boot_isinstance) (pa_cons ha (pa_cons (pe_bltn (v := .ty T) hg2 hm2 hv2 rfl hn hdb) pa_nil he2) he) (by decide) (by decide) he hpl).imp ?_
  rintro σ H Q ⟨F, S, r, d, S', e, k⟩
  obtain ⟨d1, S1, e1, e⟩ := bd_inv e
  obtain ⟨d3, e3, e⟩ := Option.map_eq_some_iff.mp e
  cases e
  unfold isiD at e3
  obtain ⟨t, h1, h2⟩ := Option.bind_eq_some_iff.mp e3
  obtain ⟨b, h3, h4⟩ := Option.map_eq_some_iff.mp h2
  subst h4
  refine ⟨F, S, r, d1, _, e1, fun x F1 H1 p1 r1 => ?_⟩
  exact ⟨x, .ty T, _, _, b, rfl, .ty T, tyX_of (B := bs X) p1.rel.sub r1 h1, isiT_ok h3, k _ F1 H1 p1 rfl⟩
/-- a display of two whole numbers that is a fraction in lowest parts -/
def nfD : D → D
  | .tup [.int n, .int m] => if h : 0 < m ∧ Nat.gcd n.natAbs m.toNat = 1 then .fr ⟨n, m.toNat, by omega, h.2⟩ else .tup [.int n, .int m]
  | d => d
theorem nfD_rp {B : Bs} {F : Hp} {d : D} {v : V} (r : Rp B F d v) : Rp B F (nfD d) v := by
  unfold nfD
  split
  · split
    · rename_i n m h
      obtain ⟨a, vs, ea, ha, ra⟩ := r
      have e := ra.ints (ns := [n, m])
      subst e
      refine ⟨a, ea, .of ?_⟩
      rw [ha]
      have : ((m.toNat : Nat) : Int) = m := by omega
      simp [this]
    · exact r
  · exact r
theorem nfD_fr (q : Rat) : nfD (.tup [.int q.num, .int q.den]) = .fr q := by
  have h : 0 < (q.den : Int) ∧ Nat.gcd q.num.natAbs ((q.den : Int)).toNat = 1 := by
    have := q.den_pos
    refine ⟨by omega, ?_⟩
    simp only [Int.toNat_natCast]
    exact q.reduced
  show (if h : 0 < (q.den : Int) ∧ Nat.gcd q.num.natAbs ((q.den : Int)).toNat = 1 then D.fr ⟨q.num, ((q.den : Int)).toNat, by omega, h.2⟩ else _) = _
  rw [dif_pos h]
  congr 1
def eNf (f : EF) : EF := fun S => bd (f S) fun d S1 => some (nfD d, S1)
theorem v_nf (h : PV X e fa) : PV X e (eNf fa) := by
  refine h.imp ?_
  rintro σ H Q ⟨F, S, r, d, S', ee, k⟩
  obtain ⟨d1, S1, e1, ee⟩ := bd_inv ee
  cases ee
  exact ⟨F, S, r, d1, _, e1, fun v F1 H1 p1 r1 => k v F1 H1 p1 (nfD_rp r1)⟩
end
end Sw
namespace Sw
open PySem PySem.Spec PyProof.Rows L2
/-- a def of the text, as it stands behind the top -/
structure Fn (K : PySem.W.Frag) (mg : Str → Option Value) (x qual : Str) (st : Stmt) (ps : List Str) where
  a : Addr
  fd : FuncData
  g : mg x = some (.ref a)
  k : PySem.W.keepIn K (.ref a) = true
  F : Fun K x qual st a fd
  b : Binds K fd ps []
theorem v_globE {X : Cx} {x : Str} {d : D} {pos : Pos} (h : ∃ v u, X.mg x = some u ∧ RelV v u ∧ ∀ F, Rp (bs X) F d v) (hg : Gl X x := by rfl) (hb : (x == ("__debug__" : Str)) = false := by decide) : PV X (.Name x pos) (eC d) := by
  obtain ⟨v, u, h1, h2, h3⟩ := h
  exact v_glob h1 h2 h3 hg hb
end Sw
/-! the value layer: dict(pairs), d.pop(k), sorted by a rank -/
namespace Sw
open PySem PySem.Spec PyProof.Rows L2
section
variable {P : Program} {w : World}
theorem dt_new {H' : Hp} {h' : Heap} {a : Addr} {kvs : List (List Key × V)} {xs : List (List Key × Addr × Value)} (z : kvs.length ≤ sizeLine) (hd : (a == sysModules) = false) (rel : KT H' kvs xs) (dd : h'.DictOfH (tupleKind (mixKind P w)) a xs) :
    ObjOk P w H' h' a (.dT kvs) := by
  obtain ⟨o, es, ep, hq, h2, h3, h4, _, h5⟩ := dd
  exact ⟨z, hd, xs, rel, o, es, ep, hq, h2, h3, h4, h5⟩
end
/-! ### dict(pairs) -/
def gPairs : List D → Option Kv
  | [] => some []
  | .tup [.tup ks, d] :: ds => (keyOf ks).bind fun k => (gPairs ds).map fun r => (k, d) :: r
  | _ => none
def gDict : List D → Option D
  | [.lst ds] => (gPairs ds).map fun ps => .dct (ps.foldl (fun acc p => kput acc p.1 p.2) [])
  | _ => none
/-- a pair read off the heap: its address, its key's, the value -/
structure Zz where
  k : List Key
  t : Addr
  b : Addr
  v : V
  u : Value
def ZsOk (B : Bs) (F : Hp) (h : Heap) : Kv → List Zz → Prop
  | [], zs => zs = []
  | (k, d) :: ps, zs => ∃ z zr, zs = z :: zr ∧ z.k = kI k ∧ F z.b = some (.tup (z.k.map kV)) ∧ Rp B F d z.v ∧ RelV z.v z.u ∧ h.IsTuple z.t #[.ref z.b, z.u] ∧ ZsOk B F h ps zr
theorem zs_of {X : Cx} {pins : List (Addr × Obj)} {σ : L2.St} {H F : Hp} {s : Shared} (I : Inv X pins σ H s) (sub : Same F H) : ∀ {ds : List D} {ps : Kv} {vs : List V} {its : List Value}, gPairs ds = some ps → RpA (bs X) F ds vs → Vals vs its →
    ∃ zs : List Zz, ZsOk (bs X) F s.heap ps zs ∧ its = zs.map fun z => Value.ref z.t
  | [], ps, vs, _, h, r, rv => by cases h; cases r; cases rv; exact ⟨[], rfl, rfl⟩
  | .tup [.tup ks, d] :: ds, ps, _, _, h, ⟨v, vr, e, ⟨t, ts, et, ht, rt⟩, rr⟩, rv => by
    obtain ⟨k, hk, h⟩ := Option.bind_eq_some_iff.mp h
    obtain ⟨r, hr, h⟩ := Option.map_eq_some_iff.mp h
    subst h
    obtain ⟨v1, r1, e1, hv1, v2, r2, e2, hv2, e3⟩ := rt
    have e3' : r2 = [] := e3
    subst e3' e2 e1
    obtain ⟨b, eb, hb⟩ := key_rp hk hv1
    subst eb et e
    cases rv with
    | cons q rv =>
      cases q
      obtain ⟨zr, hz, hz2⟩ := zs_of I sub hr rr rv
      obtain ⟨_, its, rv', p⟩ := (show ObjOk X.prog X.w H s.heap t (.tup [.ref b, v2]) from I.hok t _ (sub _ _ ht))
      obtain ⟨u1, u2, ei, q1, q2⟩ := vals2 rv'
      subst ei
      cases q1
      exact ⟨⟨kI k, t, b, v2, u2⟩ :: zr, ⟨_, zr, rfl, rfl, hb, hv2, q2, p, hz⟩, by rw [hz2]; rfl⟩
theorem ZsOk.len {B : Bs} {F : Hp} {h : Heap} : ∀ {ps : Kv} {zs : List Zz}, ZsOk B F h ps zs → zs.length = ps.length
  | [], _, e => by cases e; rfl
  | (k, d) :: ps, _, ⟨z, zr, e, _, _, _, _, _, t⟩ => by subst e; simp [ZsOk.len t]
theorem ZsOk.get {B : Bs} {F : Hp} {h : Heap} : ∀ {ps : Kv} {zs : List Zz} {j : Nat} {z : Zz}, ZsOk B F h ps zs → zs[j]? = some z → h.IsTuple z.t #[.ref z.b, z.u] ∧ F z.b = some (.tup (z.k.map kV))
  | [], _, j, z, e, q => by cases e; simp at q
  | (k, d) :: ps, _, 0, z, ⟨z', zr, e, _, h1, _, _, h2, t⟩, q => by subst e; cases q; exact ⟨h2, h1⟩
  | (k, d) :: ps, _, j + 1, z, ⟨z', zr, e, _, h1, _, _, h2, t⟩, q => by subst e; exact ZsOk.get t (by simpa using q)
def zH (z : Zz) : List Key × Addr × Value := (z.k, z.b, z.u)
theorem ZsOk.fold {B : Bs} {F H' : Hp} {h : Heap} (sub : Same F H') : ∀ {ps : Kv} {zs : List Zz} {acc : Kv} {ws : List (List Key × V)} {xs : List (List Key × Addr × Value)}, ZsOk B F h ps zs → RpK B F acc ws → KT H' ws xs →
    ∃ ws', RpK B F (ps.foldl (fun acc p => kput acc p.1 p.2) acc) ws' ∧ KT H' ws' (storedAllH xs (zs.map zH)) ∧ ws'.length ≤ ws.length + ps.length
  | [], _, acc, ws, xs, e, ra, kt => by cases e; exact ⟨ws, ra, kt, by simp⟩
  | (k, d) :: ps, _, acc, ws, xs, ⟨z, zr, e, e1, h1, h2, h3, h4, t⟩, ra, kt => by
    subst e
    have ra' := ra.put k h2
    rw [← e1] at ra'
    obtain ⟨ws', q1, q2, q3⟩ := ZsOk.fold sub t ra' (kt.put z.k (sub _ _ h1) h3)
    refine ⟨ws', q1, q2, ?_⟩
    have := length_putK ws z.k z.v
    simp only [List.length_cons]
    omega
section
variable {X : Cx}
theorem c_dict (hc : X.calm = true) (hu : X.A.units + 64 < cLine) : CallR X (.type "dict") (rVF (bs X) gDict) := by
  intro pins s σ H xs us Q I r ⟨F, ds, d, sub, ra, e, k⟩
  unfold gDict at e
  split at e
  · obtain ⟨ps, hps, e⟩ := Option.map_eq_some_iff.mp e
    subst e
    obtain ⟨v, vr, ev, ⟨a, vs, ea, ha, rr⟩, e0⟩ := ra
    have e0' : vr = [] := e0
    subst e0' ev ea
    obtain ⟨u, eu, ru⟩ := vals1 r
    subst eu
    obtain rfl : u = Value.ref a := ru
    obtain ⟨its, rv, ⟨ol, nl, ho, hcl, hdl, hdat⟩, hlen⟩ := I.list (.inl (Rd.same sub ha))
    obtain ⟨zs, hz, hit⟩ := zs_of I sub hps rr rv
    have lz := hz.len
    have lv : vs.length = zs.length := by rw [rv.length, hit, List.length_map]
    have P := PairArg.list (prog := X.prog) (w := X.w) a its.toArray (fun j => (zs.getD j ⟨[], 0, 0, .non, .none⟩).t) (zs.map fun z => (Value.ref z.b, z.u))
    have at_ : ∀ (j : Nat) z, zs[j]? = some z → (zs.getD j ⟨[], 0, 0, .non, .none⟩) = z := fun j z h => by simp [List.getD, h]
    refine call_dict_pairsH (knd := tupleKind (mixKind X.prog X.w)) (ps := zs.map zH) P (I.ok.hd hc) (tupleKind_room_in1 (A := X.A.in1) (by show X.A.units + 1 + 1 < cLine; omega)) ⟨⟨ol, nl, ho, hcl, hdl, hdat⟩, by simp [hit], fun j kk vv h => ?_⟩ ⟨by simp, fun i key v hrel => ?_⟩ (fun h' hk x hx => ?_) (by rw [List.length_map, ← lv]; exact hlen) fun h' tk dd hk => ?_
    · rw [List.getElem?_map] at h
      obtain ⟨z, h1, h2⟩ := Option.map_eq_some_iff.mp h
      cases h2
      dsimp only
      rw [at_ j z h1]
      refine ⟨by rw [List.getElem?_toArray, hit, List.getElem?_map, h1]; rfl, .inl (hz.get h1).1⟩
    · have hrel' : (zs.map fun z => (Value.ref z.b, z.u))[i]? = some (key, v) := hrel
      rw [List.getElem?_map] at hrel'
      obtain ⟨z, h1, h2⟩ := Option.map_eq_some_iff.mp hrel'
      cases h2
      exact ⟨z.k, z.b, by rw [List.getElem?_map, h1]; rfl, rfl⟩
    · obtain ⟨z, h1, h2⟩ := List.mem_map.mp hx
      subst h2
      obtain ⟨j, h3⟩ := List.mem_iff_getElem?.mp h1
      obtain ⟨o, items, n, q1, q2, q3, q4⟩ := key_of I.hok (sub _ _ (hz.get h3).2)
      exact ⟨o, items, n, hk _ _ (Nat.ne_of_lt (Heap.lt_size q1)) (by simp) q1, q2, q3, q4⟩
    · have hp : H s.heap.objs.size = none := I.fresh
      have t := Tr0.newH (o := .lst []) sub hp
      obtain ⟨ws, q1, q2, q3⟩ := hz.fold (H' := upd H s.heap.objs.size (.dT [])) (acc := []) (ws := []) (xs := []) (fun b o q => by rw [upd_ne (fun z => by rw [z] at q; have := sub _ _ q; rw [hp] at this; cases this)]; exact sub _ _ q) rfl .nil
      have q2' : KT (upd H s.heap.objs.size (.dT ws)) ws (storedAllH [] (zs.map zH)) := q2.keeps fun b ys hb => by
        by_cases z : b = s.heap.objs.size
        · rw [z, upd_same] at hb; cases hb
        · rw [upd_ne z] at hb ⊢; exact hb
      have hm : (s.heap.objs.size == sysModules) = false := beq_eq_false_iff_ne.mpr (Nat.ne_of_gt I.big)
      have hl : ws.length ≤ sizeLine := by simp at q3; rw [lz] at lv; omega
      refine ⟨.ref s.heap.objs.size, _, I.laid (t' := tk) (o := .dT ws) (fun b o e => hk b o (by simp) e) (Nat.le_refl _) (dt_new hl hm q2' dd), rfl, ?_⟩
      exact k _ F _ (Tr0.newH sub hp) (sub.free hp) hp ⟨ws, upd_same, q1⟩
  · cases e
/-- d.pop(k), the key there -/
def rPopK : V → List V → Hp → VK → Prop := fun x xs H Q => ∃ (a : Addr) (kvs : List (List Key × V)) (k : List Key) (b : Addr) (v : V), x = .ref a ∧ xs = [.ref b] ∧ H a = some (.dT kvs) ∧ H b = some (.tup (k.map kV)) ∧ valV kvs k = some v ∧ Q v (upd H a (.dT (dropK kvs k)))
theorem mt_popK (hu : X.A.units + 1 < cLine) : MtR X "dict.pop" rPopK := by
  intro pins s σ H x xs v us Q I rx rxs h
  obtain ⟨a, kvs, k, b, v0, rfl, rfl, ha, hb, hv, q1⟩ := h
  obtain rfl : v = Value.ref a := rx
  obtain ⟨u1, eu, r1⟩ := vals1 rxs
  subst eu
  obtain rfl : u1 = Value.ref b := r1
  obtain ⟨z, hd, xs', rel, dd⟩ := dt_of I.hok ha
  have hz : xs'.length ≤ sizeLine := by rw [← Paired.length rel]; exact z
  obtain ⟨w', hw, rw'⟩ := RelO.some_of (v := v0) (o := (atKey xs' k).map (·.2)) (by rw [← hv]; exact rel.val k)
  obtain ⟨p, hp, hp2⟩ := Option.map_eq_some_iff.mp hw
  refine call_pop_heap (hsz := hz) (.inl rfl) (PySem.F.args_dict_pop_2 _ _) (tupleKind_room_in1 hu) (key_of I.hok hb) hd dd hp fun h' dd' hs => ?_
  obtain ⟨o, es, ep, hq, h2, h3, h4, h6, h5⟩ := dd'
  have I2 : L2.Inv X pins σ (upd H a (.dT (dropK kvs k))) { s with heap := h', toks := s.toks + (tupleKind (mixKind X.prog X.w)).draws k } :=
    d_write I (by rw [ha]; exact True.intro) hs ⟨o, hq⟩ ⟨Nat.le_trans (dropK_le kvs k) z, hd, _, (L2.DX.KT_drop k rel).keeps (fun c ys ec => (by rw [upd_ne (ne_of ec ha (fun z => nomatch z))]; exact ec)), o, es, ep, hq, h2, h3, h4, h5⟩
  exact ⟨v0, _, I2, by rw [hp2]; exact rw', q1⟩
end
def sDpop (i : Nat) (fk : EF) : SF := fun S => match S[i]? with
  | some (.ow (.dct _)) => bd (fk S) fun z S2 => match S2[i]?, z with
    | some (.ow (.dct kvs)), .tup ks => match keyOf ks with
      | some k => if (kget kvs k).isSome = true then some (.nx, S2.set i (.ow (.dct (kdrop kvs k)))) else none
      | none => none
    | _, _ => none
  | _ => none
section
variable {P : List Nat} {X : Cx} {ik : Expr} {fk : EF} {pos : Pos}
theorem s_dpop (i : Nat) {y : Str} {p ap cp : Pos} (hx : PE X (.Name y p) (tVar i)) (hm : PE X (.Call (.Attribute (.Name y p) "pop" ap) [ik] [] cp) (tBM X.K "dict" rPopK (tVar i) (tCons (tV (bs X) fk) tNil)))
    (hs : swapsWith (.Call (.Attribute (.Name y p) "pop" ap) [ik] [] cp) none pos.line X.env = pure false := by rfl) :
    PM P X (.Expr (.Call (.Attribute (.Name y p) "pop" ap) [ik] [] cp) pos) (sDpop i fk) := by
  refine (ps_expr hm hs).imp ?_
  rintro Dn σ H ⟨F, S, r, o, S', ee, k⟩
  unfold sDpop at ee
  split at ee
  · rename_i c1 hc1
    obtain ⟨a, ea, n, ws0, h0, _⟩ := r.ok i _ hc1
    obtain ⟨z, S2, e2, ee⟩ := bd_inv ee
    split at ee
    · rename_i kvs ks h2
      split at ee
      · rename_i k' hk'
        split at ee
        · rename_i hs'
          cases ee
          refine ⟨.ref a, ea, .inr (.inr (.inl ⟨rfl, .inr ⟨ws0, h0⟩⟩)), F, S, r, _, S2, e2, fun w F2 H2 p2 r2 => ?_⟩
          obtain ⟨a', ea', n', ws, hv, rv⟩ := p2.rel.ok i _ h2
          rw [ea] at ea'
          cases ea'
          obtain ⟨b, eb, hb⟩ := key_rp hk' r2
          have z := rv.get k'
          cases hg : kget kvs k' with
          | none => rw [hg] at hs'; cases hs'
          | some d =>
            rw [hg] at z
            obtain ⟨v, hv2, _⟩ := z
            subst eb
            refine ⟨a, ws, kI k', b, v, rfl, rfl, hv, p2.rel.sub _ _ hb, hv2, ?_⟩
            exact k σ F2 _ (Ps.of (p2.trans (p2.rel.write h2 ea ⟨_, upd_same, rv.drop k'⟩)))
        · cases ee
      · cases ee
    · cases ee
  · cases ee
end
end Sw
/-! the value layer: sorted by a rank (the count of letters, then the word) -/
namespace Sw
open PySem PySem.Spec PyProof.Rows L2
def rkD (ks : List Int) : PyData := .tuple [.int ks.length, .tuple (ks.map .int)]
/-- a def that tells a word's count of letters and the word; it keeps the heap -/
def KFn (P : Program) (w : World) (K : PySem.W.Frag) (mg : Str → Option Value) (base : Heap) (f : Addr) : Prop :=
  ∀ (A : Around) (outer : List Env) (s : Shared) (t : Addr) (ks : List Int) (vs : List Value), Room 0 A → Env0 P w K mg base A outer s (fun _ => none) → s.heap.IsTuple t vs.toArray → IntsAre vs ks → ks.length ≤ sizeLine →
    wpAny (model P w) A (call (.ref f) [.ref t]) (PySem.W.KeyPure (rkD ks) s) (fun _ _ => False) s
theorem ints_reads {h : Heap} : ∀ {vs : List Value} {ks : List Int}, IntsAre vs ks → ReadsAll h vs (ks.map .int) []
  | _, _, .nil => .nil
  | _, _, .cons k t h => ReadsAll.cons (as := []) (bs := []) (.int k t) (ints_reads h)
theorem rank_pure {P : Program} {w : World} {K : PySem.W.Frag} {mg : Str → Option Value} {base : Heap} {x qual y : Str} {st : Stmt} {f : Addr} {fd : FuncData} {p1 p2 p3 p4 p5 p6 : Pos} {x1}
    (F : Fun K x qual st f fd) (S : FnScope [y] [y] (defScope st)) (hb : Binds K fd [y] []) (hlen : mg "len" = none)
    (hbody : defBody st = [.Return (some (.Tuple [.Call (.Name "len" p1) [.Name y p2] [] p3, .Name y p4] x1 p5)) p6])
    (hg : ∀ cdv A outer s H E, Gl (cxOf CX0 P w K mg base [y] qual (defScope st) f cdv A outer s H E) "len")
    (hvis : Vis (defScope st) y) (hdb : (y == ("__debug__" : Str)) = false) (hcd : (y == ("__classdict__" : Str)) = false) :
    KFn P w K mg base f := by
  intro A outer s t ks vs hr e0 ht hi hks
  obtain ⟨oc, od, kV, doc, pm, an, cdv, ct, osl, rfl, lk, hcd'⟩ := F.ex
  have KX : K.In s.heap := e0.mod.kin.keeps fun b o e => (e0.bs b o e).1
  have lim : s.heap.NoLimit := e0.mod.nolimit.keeps fun b o e => (e0.bs b o e).1
  have b0 := hb s [.ref t] KX rfl
  refine wpAny_call ?_
  have hkind : ∀ z ∈ [y].zip [Value.ref t], (defScope st).names.lookup z.1 = some .local ∨ ((defScope st).names.lookup z.1 = some .cell ∧ ((cellsFrom (s.heap.objs.size + 1) (defScope st).names []).lookup z.1).isSome = true) := fun ⟨n, v⟩ hy => by
    rcases S.par n (List.of_mem_zip hy).1 with q | q
    · exact .inl q
    · exact .inr ⟨q, PySem.W.cellsFrom_some _ _ _ (.inl q)⟩
  refine codeAny_call_function hr.depth (KX _ _ lk) rfl S.co S.gen rfl (PySem.W.codeRec_of KX hcd') (b0 _ _ _ _ ?_)
  refine wpAny_newFunctionEnv_cells S.kind hkind fun env he s1 xx => ?_
  subst he
  refine ⟨lim.keeps xx.toInCall.keep, codeAny_func ?_⟩
  have I := inv_start (CX := CX0) (E := fun _ _ _ => False) S hr.hd e0 (vs := [V.ref t]) rfl (.cons rfl .nil) xx
  have kp := xx.toInCall.keep
  obtain ⟨h1, tk, rfl, hk⟩ := xx.done
  show wpAny (model P w) _ (execs (defBody st) _) _ _ _
  rw [hbody]
  have ld : ∀ {E Q} {p : Pos} (s' : Shared), s'.heap = h1 → Q (.ref t) s' → wpAny (model P w) (A.deeper (envOfC qual (defScope st) s.heap.objs.size f cdv)) (eval (.Name y p) (envOfC qual (defScope st) s.heap.objs.size f cdv)) Q E s' := by
    intro E Q p s' hs' hq
    obtain ⟨m, hn, hl⟩ := I.loc
    obtain ⟨u, r, l⟩ := hl 0 y (.ref t) rfl rfl hvis
    obtain rfl : u = Value.ref t := r
    have hn' : s'.heap.Ns (envOfC qual (defScope st) s.heap.objs.size f cdv).locals m := by rw [hs']; exact hn
    rcases l with ⟨hk, hm⟩ | ⟨hk, c, hc, hcell⟩
    · exact wpAny_Name (wpAny_loadName_local I.ok.kind hk hn' hm hq) hdb
    · have hcell' : s'.heap.IsCell c (some (.ref t)) := by rw [hs']; exact hcell
      rcases hk with hk | hk
      · exact wpAny_Name (wpAny_loadName_cell I.ok.kind hk hc hcell' hq) hdb
      · exact wpAny_Name (wpAny_loadName_free I.ok.kind hk hc hcell' hq hcd) hdb
  have ht1 : IsTup h1 t vs.toArray := by
    obtain ⟨o, q1, q2⟩ := ht
    exact ⟨o, hk _ _ q1, q2⟩
  have hl : vs.length = ks.length := hi.length
  refine wpAny_execs_cons (wpAny_Return_some (wpAny_Tuple_spliced (Calls.spliced_cons ?_)))
  refine wpAny_Call_Name_kw (ld_blt I (hg _ _ _ _ _ _) hlen PySem.boot_len ?_)
  refine PyProof.Rows.callWith_builtin1 (Calls.spliced_cons (ld _ rfl (Calls.spliced_nil ?_)))
  refine PyProof.Rows.len_tuple ht1 ?_ ?_
  · rw [List.size_toArray, hl]
    have : sizeLine < 2 ^ 63 := by decide
    omega
  refine Calls.spliced_cons (ld _ rfl (Calls.spliced_nil ⟨by show 2 ≤ sizeLine; decide, ?_⟩))
  refine ⟨_, _, rfl, fun b o e => Heap.get?_push_of_some _ (hk b o e), ?_⟩
  refine Reads.tuple (Heap.get?_push_size _ rfl) rfl rfl ?_
  have e1 : ((vs.toArray.size : Nat) : Int) = (ks.length : Int) := by rw [List.size_toArray, hl]
  obtain ⟨o, q1, q2, n, q3⟩ := ht1
  rw [e1]
  refine ReadsAll.cons (as := []) (bs := []) (.int _ _) (ReadsAll.cons (as := []) (bs := []) (.tuple (Heap.get?_push_of_some _ q1) q2 q3 ?_) .nil)
  exact ints_reads hi

theorem ints_of_vals : ∀ {ks : List Int} {us : List Value}, Vals (ks.map V.int) us → IntsAre us ks
  | [], _, r => by cases r; exact .nil
  | k :: ks, _, r => by
    cases r with
    | cons h t => obtain ⟨tk, rfl⟩ := h; exact .cons k tk (ints_of_vals t)
def rkLe (a b : List Int) : Bool := PySem.W.dataLe false rkD a b
theorem rkD_sort (ws : List (List Int)) : PySem.W.AllAlike (ws.map rkD) ∧ PySem.W.Sortable (ws.map rkD) :=
  ⟨PySem.W.AllAlike.of fun a b => by
    have := PySem.W.alike_ints a b
    simp [rkD, PySem.W.alike, PySem.W.alikeAll, this], PySem.W.Sortable.tuples fun _ => ⟨_, _, rfl⟩⟩
theorem rkD_depth (ks : List Int) : (rkD ks).depth ≤ 2 := by
  simp [rkD, PyData.depth, PyData.depthAll, PySem.W.depth_ints]
def KRef (H : Hp) (v : Value) (ks : List Int) : Prop := ∃ t, v = .ref t ∧ H t = some (.tup (ks.map V.int))
theorem Env0.bare {P : Program} {w : World} {K : PySem.W.Frag} {mg : Str → Option Value} {base : Heap} {A A' : Around} {outer : List Env} {s : Shared} {H : Hp} (e : Env0 P w K mg base A outer s H) (hA : A'.frames = A.frames) {h : Heap} {tk : Nat}
    (hk : ∀ b o, s.heap.get? b = some o → h.get? b = some o) (hz : base.objs.size ≤ h.objs.size) : Env0 P w K mg base A' outer { s with heap := h, toks := tk } (fun _ => none) where
  frames := by rw [hA]; exact e.frames
  mod := e.mod
  bs := fun b o q => ⟨hk _ _ (e.bs b o q).1, rfl⟩
  bsz := hz
  funs := e.funs.of_keeps fun b o q _ => ⟨o, hk _ _ q, rfl⟩
  frf := fun _ _ => rfl
  hok := fun _ _ q => by cases q
  bare := e.bare
section
variable {X : Cx}
theorem sorted_core {pins : List (Addr × Obj)} {s : Shared} {σ : L2.St} {H : Hp} {f d : Addr} {bs : List (List Int)} {vs : List Value} {Q : Value → Shared → Prop} {E : Value → Shared → Prop}
    (kf : KFn X.prog X.w X.K X.mg X.base f) (hr : Room 1 X.A) (I : Inv X pins σ H s) (e : PySem.W.EachIs (KRef H) vs bs) (hL : bs.length ≤ sizeLine)
    (hcol : ∀ (Q' : List Value → Shared → Prop) (E' : Value → Shared → Prop), (∀ h' tk, (∀ b o, s.heap.get? b = some o → h'.get? b = some o) → Q' vs { s with heap := h', toks := tk }) → wpAny (model X.prog X.w) X.A.in1 (collect (.ref d)) Q' E' s)
    (h : ∀ (h1 : Heap) out c (h' : Heap) tk, (∀ b o, s.heap.get? b = some o → h1.get? b = some o) → (∀ b o, h1.get? b = some o → h'.get? b = some o) → h'.get? h1.objs.size = some (seqObj "list" (List.toArray out) c) → out.length = bs.length → PySem.W.EachIs (KRef H) out (bs.mergeSort rkLe) →
      Q (.ref h1.objs.size) { s with heap := h', toks := tk }) :
    wpAny (model X.prog X.w) X.A (call (.builtin "sorted") [.ref d] [(Str.ofString "key", .ref f)]) Q E s := by
  refine call_function_entry_kw kind_sorted plain_sorted entry_sorted (ksk_s1 _ _) ?_
  unfold Builtin.«sorted»
  refine wpAny_bind (m := checkCount "sorted" 1 1 _) (wpAny_pure ?_)
  refine wpAny_bind (hcol _ _ fun h1 tk1 k1 => ?_)
  refine wpAny_bind (wpAny_newList ?_ (by rw [e.length]; exact hL))
  have hoL : (h1.push (seqObj "list" vs.toArray 0)).get? h1.objs.size = some (seqObj "list" vs.toArray 0) := Heap.get?_push_size _ rfl
  have k2 : ∀ b o, s.heap.get? b = some o → b ≠ h1.objs.size ∧ (h1.push (seqObj "list" vs.toArray 0)).get? b = some o := fun b o q => ⟨Nat.ne_of_lt (Heap.lt_size (k1 _ _ q)), Heap.get?_push_of_some _ (k1 _ _ q)⟩
  refine wpAny_bind (wpAny_holding (wpAny_call_entry_kw slot_list_sort ⟨_, hoL, rfl⟩ entry_list_sort ?body (ksk_l1 _ _)))
  case body =>
    rw [ksk_t1]
    obtain ⟨al, so⟩ := rkD_sort bs
    refine PySem.W.keyH_tree (kz := bs.map rkD) hoL (by rw [List.length_map]; exact e.length.symm) (by rw [e.length]; exact hL) al so (fun dd hdd => ?_) (PySem.W.keyH_turns e fun v x hR hx g tk kp => ?_) fun h' tk out c kp hD ko => ⟨_, rfl, wpAny_pure ⟨_, rfl, ?_⟩⟩
    · obtain ⟨ks, _, rfl⟩ := List.mem_map.mp hdd
      have := rkD_depth ks
      have := hr.un
      show X.A.units + 1 + 1 + _ < _
      omega
    · obtain ⟨t, rfl, ht⟩ := hR
      obtain ⟨z, its, rv, o, q1, q2, n, q3⟩ := (show ObjOk X.prog X.w H s.heap t (.tup (x.map V.int)) from I.hok t _ ht)
      have kp' : ∀ b o, s.heap.get? b = some o → g.get? b = some o := fun b o q => kp _ _ (k2 _ _ q).1 (k2 _ _ q).2
      refine kf X.A.in1.in1 X.stack { s with heap := g, toks := tk } t x its ⟨hr.hd, ?_, ?_⟩ (Env0.bare (A' := X.A.in1.in1) I.env0 rfl kp' (by
        obtain ⟨m, hn, _⟩ := I.loc
        exact Nat.le_trans I.ok.bsz (Nat.le_trans I.ok.above (Nat.le_of_lt (hn.keeps kp').lt)))) ⟨o, kp' _ _ q1, q2, n, q3⟩ (ints_of_vals rv) (by rw [List.length_map] at z; exact z)
      · have := hr.dp; show X.A.depth + 3 * 0 + 5 < _; omega
      · have := hr.un; show X.A.units + 1 + 1 + 16 * 0 + 200 < _; omega
    · exact h h1 out c h' tk k1 (fun b o q => kp _ _ (Nat.ne_of_lt (Heap.lt_size q)) (Heap.get?_push_of_some _ q)) hD ((ko.length (by rw [List.length_map]; exact e.length.symm)).trans e.length) (PySem.W.keyedOut_each rkD ko e)
def gWords : List D → Option (List (List Int))
  | [] => some []
  | .tup ks :: ds => (keyOf ks).bind fun k => (gWords ds).map (k :: ·)
  | _ => none
def wD (ks : List Int) : D := .tup (ks.map .int)
def gSortR : List D → Option D
  | [.dct kvs] => some (.lst (((kvs.map (·.1)).mergeSort rkLe).map wD))
  | [.lst ds] => (gWords ds).map fun ws => .lst ((ws.mergeSort rkLe).map wD)
  | _ => none
theorem kref_out {F H : Hp} (sub : Same F H) {B : Bs} : ∀ {out : List Value} {ws : List (List Int)} , PySem.W.EachIs (KRef F) out ws → ∃ vs, Vals vs out ∧ RpA B F (ws.map wD) vs
  | _, _, .nil => ⟨[], .nil, rfl⟩
  | _, w :: ws, .cons h t => by
    obtain ⟨a, rfl, ha⟩ := h
    obtain ⟨vs, r1, r2⟩ := kref_out sub (B := B) t
    exact ⟨.ref a :: vs, .cons rfl r1, _, _, rfl, ⟨a, _, rfl, ha, RpA.of_ints w⟩, r2⟩

end

section
variable {X : Cx}
def rVFk (B : Bs) (f : Addr) (g : List D → Option D) : List V → List V → Hp → VK → Prop := fun xs zs H Q => zs = [.ref f] ∧ rVF B g xs H Q
theorem each_words {F : Hp} {B : Bs} : ∀ {ds : List D} {ws : List (List Int)} {vs : List V} {us : List Value}, gWords ds = some ws → RpA B F ds vs → Vals vs us → PySem.W.EachIs (KRef F) us ws
  | [], ws, vs, us, h, r, rv => by cases h; cases r; cases rv; exact .nil
  | .tup ks :: ds, ws, _, _, h, ⟨v, vr, e, h1, rr⟩, rv => by
    obtain ⟨k, hk, h⟩ := Option.bind_eq_some_iff.mp h
    obtain ⟨r, hr, h⟩ := Option.map_eq_some_iff.mp h
    subst h e
    obtain ⟨b, rfl, hb⟩ := key_rp hk h1
    cases rv with
    | cons q rv =>
      cases q
      rw [kI_V] at hb
      exact .cons ⟨b, rfl, hb⟩ (each_words hr rr rv)
theorem each_keys {F H : Hp} : ∀ {kvs : Kv} {ws : List (List Key × V)} {xs : List (List Key × Addr × Value)} {B : Bs}, RpK B F kvs ws → KT H ws xs → PySem.W.EachIs (KRef H) (xs.map fun x => Value.ref x.2.1) (kvs.map (·.1))
  | [], ws, xs, B, r, t => by cases r; cases t; exact .nil
  | (k, d) :: kvs, _, xs, B, ⟨v, r, e, h1, h2⟩, t => by
    subst e
    cases t with
    | cons q t =>
      obtain ⟨q1, q2, q3⟩ := q
      refine .cons ⟨_, rfl, ?_⟩ (each_keys h2 t)
      rw [q2]
      show some (HO.tup ((kI k).map kV)) = _
      rw [kI_V]
theorem Tr0.tups {F H : Hp} (s : Same F H) : Tr0 F H (addT F H) H := by
  refine ⟨⟨addT_same, fun a o h _ => h, fun a n1 n2 => .inl fun o ho => ?_, fun a h => h⟩, addT_sub s⟩
  cases q : keepT o with
  | true => rfl
  | false => exact absurd (addT_none n1 fun u hu => by rw [ho] at hu; cases hu; exact q) n2
theorem KRef.addT {F H : Hp} (s : Same F H) {v : Value} {ks : List Int} (h : KRef H v ks) : KRef (addT F H) v ks := by
  obtain ⟨t, e, h⟩ := h
  exact ⟨t, e, addT_of s h rfl⟩
theorem each_same {F H : Hp} (s : Same F H) {us : List Value} {ws : List (List Int)} (h : PySem.W.EachIs (KRef F) us ws) : PySem.W.EachIs (KRef H) us ws := h.mono fun _ _ ⟨t, e, q⟩ => ⟨t, e, s _ _ q⟩
theorem c_sortRank {f : Addr} (kf : KFn X.prog X.w X.K X.mg X.base f) (hc : X.calm = true) (hr : Room 1 X.A) : CallRK X (.builtin "sorted") [Str.ofString "key"] (rVFk (bs X) f gSortR) := by
  intro pins s σ H xs zs us ws Q I r rz ⟨ez, F, ds, d, sub, ra, e, k⟩
  subst ez
  obtain ⟨z1, ez1, rz1⟩ := vals1 rz
  subst ez1
  obtain rfl : z1 = Value.ref f := rz1
  have fin : ∀ (words : List (List Int)) (h1 : Heap) (out : List Value) c (h' : Heap) tk, d = .lst ((words.mergeSort rkLe).map wD) → out.length ≤ sizeLine → (∀ b o, s.heap.get? b = some o → h1.get? b = some o) → (∀ b o, h1.get? b = some o → h'.get? b = some o) → h'.get? h1.objs.size = some (seqObj "list" (List.toArray out) c) →
      PySem.W.EachIs (KRef H) out (words.mergeSort rkLe) → EP X pins σ Q (.ref h1.objs.size) { s with heap := h', toks := tk } := by
    intro words h1 out c h' tk ed hz k1 k2 hD eo
    have I1 : Inv X pins σ H { s with heap := h1, toks := tk } := I.kept k1
    have hp : H h1.objs.size = none := I1.fresh
    have t1 := Tr0.tups sub
    have ⟨vs, rv, rp⟩ := kref_out (F := addT F H) (H := H) t1.sub (B := bs X) (eo.mono fun _ _ q => q.addT sub)
    refine ⟨.ref h1.objs.size, upd H h1.objs.size (.lst vs), I1.laid k2 (Nat.le_refl _) ⟨by rw [rv.length]; exact hz, out, c, rv, hD⟩, rfl, ?_⟩
    have t2 := Tr0.newH (o := .lst vs) t1.sub hp
    rw [ed] at k
    exact k _ _ _ (t1.trans t2) (t1.sub.free hp) hp ⟨vs, upd_same, rp⟩
  unfold gSortR at e
  split at e
  · cases e
    rename_i kvs
    obtain ⟨v, vr, ev, ⟨a, ws, ea, ha, rr⟩, e0⟩ := ra
    have e0' : vr = [] := e0
    subst e0' ev ea
    obtain ⟨u, eu, ru⟩ := vals1 r
    subst eu
    obtain rfl : u = Value.ref a := ru
    obtain ⟨z, hs, ks, pr, o, es, ep, ho, hx, hdt, he, hn⟩ := (show ObjOk X.prog X.w H s.heap a (.dT ws) from I.hok a _ (sub _ _ ha))
    have l1 : es.size = ks.length := size_of_entries he
    have l2 : ws.length = ks.length := Paired.length pr
    have e := each_keys rr pr
    have hL : (kvs.map (·.1)).length ≤ sizeLine := by rw [← e.length, List.length_map]; omega
    refine sorted_core kf hr I e hL (fun Q' E' hq => ?_) fun h1 out c h' tk k1 k2 hD hl eo => ?_
    · refine PySem.W.kdu_collect (kdl_raw hs hx hdt) (I.ok.hd hc) ho (by omega) fun h' tk acc' kp it => ?_
      have ea : acc'.toList = ks.map fun x => Value.ref x.2.1 := by
        have hl : acc'.toList.length = ks.length := by rw [Array.length_toList, it.1]; exact l1
        apply List.ext_getElem?
        intro j
        rw [List.getElem?_map]
        cases hj : acc'.toList[j]? with
        | none =>
          have h1 := List.getElem?_eq_none_iff.mp hj
          rw [List.getElem?_eq_none (by omega)]
          all_goals rfl
        | some v =>
          obtain ⟨en, hen, hv⟩ := it.2 j v (by rw [← Array.getElem?_toList]; exact hj)
          have qe := entry_at he j
          rw [hen] at qe
          cases hb : ks[j]? with
          | none =>
            rw [hb] at qe
            exact nomatch (show some en = none from qe)
          | some b =>
            rw [hb] at qe
            have e2 : en = entryOfKey (tupleKind (mixKind X.prog X.w)) b := Option.some.inj qe
            rw [hv, e2]
            all_goals rfl
      rw [ea]
      exact hq h' tk kp
    · exact fin _ h1 out c h' tk rfl (by rw [hl]; exact hL) k1 k2 hD eo
  · rename_i ds
    obtain ⟨words, hw, e⟩ := Option.map_eq_some_iff.mp e
    subst e
    obtain ⟨v, vr, ev, ⟨a, vs, ea, ha, rr⟩, e0⟩ := ra
    have e0' : vr = [] := e0
    subst e0' ev ea
    obtain ⟨u, eu, ru⟩ := vals1 r
    subst eu
    obtain rfl : u = Value.ref a := ru
    obtain ⟨its, rv, hl0, hlen⟩ := I.list (.inl (Rd.same sub ha))
    have e := each_same sub (each_words hw rr rv)
    have hL : words.length ≤ sizeLine := by rw [← e.length, ← rv.length]; exact hlen
    refine sorted_core kf hr I e hL (fun Q' E' hq => ?_) fun h1 out c h' tk k1 k2 hD hl eo => ?_
    · obtain ⟨ol, nl, g1, g2, g3, g4⟩ := hl0
      refine collect_list ⟨ol, g1, g2, nl, g4⟩ (hq _ _ fun b o q => ?_) (by rw [← rv.length]; exact hlen)
      exact (Heap.get?_update_ne _ _ _ _ (Nat.ne_of_lt (Heap.lt_size q))).trans (Heap.get?_push_of_some _ q)
    · exact fin _ h1 out c h' tk rfl (by rw [hl]; exact hL) k1 k2 hD eo
  · cases e
/-- sorted(x, key=rank) -/
theorem f_sortR {f : Addr} {y : Str} {e : Expr} {fe : EF} {p p2 p3 : Pos} {pos : Pos} (kf : KFn X.prog X.w X.K X.mg X.base f) (hc : X.calm = true) (hr : Room 1 X.A) (hy : X.mg y = some (.ref f)) (hs : X.mg "sorted" = none) (hv : bootBuiltins "sorted" = some (.builtin "sorted")) (h : PV X e fe)
    (hg : Gl X "sorted" := by rfl) (hgy : Gl X y := by rfl) (hdb : (y == ("__debug__" : Str)) = false := by decide)
    (hst : starEach [e] X.env = (false, eval e X.env) :: starEach [] X.env := by rfl)
    (he : backTo pos (starEach [e] X.env) = (false, eval e X.env) :: backTo pos (starEach [] X.env) := by rfl) (hpl : (backTo pos (starEach [e] X.env)).any (·.1) = false := by rfl) :
    PF X (.Call (.Name "sorted" p) [e] [⟨some "key", .Name y p2, p3⟩] pos) (eA gSortR (aCons fe aNil)) := by
  refine (pe_callBK (c_sortRank kf hc hr) hg hs hv (a_cons h a_nil hst) (pk_cons (pe_glob (v := .ref f) hgy hy rfl hdb) pk_nil) (by decide) (by decide) he hpl).imp ?_
  rintro σ H Q ⟨F, S, r, d, S', e, k⟩
  obtain ⟨ds, S1, e1, e⟩ := bd_inv e
  obtain ⟨d3, e3, e⟩ := Option.map_eq_some_iff.mp e
  cases e
  exact ⟨F, S, r, ds, _, e1, fun xs F1 H1 p1 r1 => ⟨rfl, F1, ds, d, p1.rel.sub, r1, e3, fun v F2 H2 t n nH r2 => k v F2 H2 (p1.trans (Po.tr0 p1.rel t)) n (p1.tr.dm _ nH) r2⟩⟩
end
end Sw
/-! the value layer: two ranks compared -/
namespace Sw
open PySem PySem.Spec PyProof.Rows L2
def geI (ns ms : List Int) : Bool := Ob.lexAt (fun j => decide (ns.getD j 0 = ms.getD j 0)) (fun j => decide (ms.getD j 0 ≤ ns.getD j 0)) (decide (ns.length ≥ ms.length)) 0 (min ns.length ms.length)
theorem rc_geI {A : Around} {s : Shared} {a b : Addr} {its its2 : List Value} {ns ms : List Int} (p1 : s.heap.IsTuple a its.toArray) (p2 : s.heap.IsTuple b its2.toArray) (i1 : IntsAre its ns) (i2 : IntsAre its2 ms) (hu : A.units < cLine) :
    Ob.RcOp .GtE A s (.ref a) (.ref b) (geI ns ms) := by
  have e1 : its.toArray.size = ns.length := by rw [List.size_toArray]; exact i1.length
  have e2 : its2.toArray.size = ms.length := by rw [List.size_toArray]; exact i2.length
  have at1 : ∀ j (h1 : j < its.toArray.size), ∃ t, its.toArray[j] = .int (ns.getD j 0) t := fun j h1 => PyProof.Rows.IntsAre.int_at i1 _ _ (by simp at h1; simp [h1])
  have at2 : ∀ j (h1 : j < its2.toArray.size), ∃ t, its2.toArray[j] = .int (ms.getD j 0) t := fun j h1 => PyProof.Rows.IntsAre.int_at i2 _ _ (by simp at h1; simp [h1])
  have R := Ob.RcOp.tuples_ge (A := A) (s := s) (e := fun j => decide (ns.getD j 0 = ms.getD j 0)) (r := fun j => decide (ms.getD j 0 ≤ ns.getD j 0)) p1 p2 hu (fun j h1 h2 => by
    obtain ⟨t, et⟩ := at1 j h1
    obtain ⟨t', et'⟩ := at2 j h2
    rw [et, et']
    have z : (ns.getD j 0 == ms.getD j 0) = decide (ns.getD j 0 = ms.getD j 0) := by
      by_cases q : ns.getD j 0 = ms.getD j 0
      · rw [decide_eq_true q]; exact beq_iff_eq.mpr q
      · rw [decide_eq_false q]; exact beq_eq_false_iff_ne.mpr q
    rw [← z]
    exact SeqAt.EqAt.int_int _ _ _ _) (fun j h1 h2 _ => by
    obtain ⟨t, et⟩ := at1 j h1
    obtain ⟨t', et'⟩ := at2 j h2
    rw [et, et']
    exact Ob.RcOp.ge_int _ _ _ _)
  rw [e1, e2] at R
  exact R
theorem eqv_ints : ∀ (ns ms : List Int), PyData.eqvAll (ns.map .int) (ms.map .int) = decide (ns = ms)
  | [], [] => by simp [PyData.eqvAll]
  | [], _ :: _ => by simp [PyData.eqvAll]
  | _ :: _, [] => by simp [PyData.eqvAll]
  | n :: ns, m :: ms => by
    have := eqv_ints ns ms
    simp only [List.map_cons, PyData.eqvAll, PyData.eqv, this]
    by_cases h : n = m <;> by_cases h' : ns = ms <;> simp [h, h']
theorem eq_tupI {A : Around} {s : Shared} {a b : Addr} {its its2 : List Value} {ns ms : List Int} (p1 : s.heap.IsTuple a its.toArray) (p2 : s.heap.IsTuple b its2.toArray) (i1 : IntsAre its ns) (i2 : IntsAre its2 ms) (hu : A.units + 1 < cLine) :
    PySem.SeqAt.EqAt A s (.ref a) (.ref b) (decide (ns = ms)) := by
  obtain ⟨o, q1, q2, n, q3⟩ := p1
  obtain ⟨o', r1, r2, n', r3⟩ := p2
  have z := PySem.W.eqAt_alike (.tuple (ns.map .int)) (.tuple (ms.map .int)) A s (.ref a) (.ref b) [] [] (.tuple q1 q2 q3 (ints_reads i1)) (.tuple r1 r2 r3 (ints_reads i2)) (by simp [PySem.W.alike, PySem.W.alike_ints]) (by
    simp [PyData.depth, PySem.W.depth_ints]; omega)
  have e : PyData.eqv (.tuple (ns.map .int)) (.tuple (ms.map .int)) = decide (ns = ms) := by rw [← eqv_ints]; simp [PyData.eqv]
  rw [e] at z
  exact z
def rankD : D → Option (Int × List Int)
  | .tup [.int n, .tup ks] => (keyOf ks).map fun k => (n, k)
  | _ => none
def rkGe (m : Int) (ks : List Int) (n : Int) (ls : List Int) : Bool := if m = n then (if ks = ls then true else geI ks ls) else decide (n ≤ m)
def gGeR (d e : D) : Option D := (rankD d).bind fun p => (rankD e).map fun q => .bl (rkGe p.1 p.2 q.1 q.2)
section
variable {X : Cx}
theorem rank_at {F H : Hp} {pins : List (Addr × Obj)} {s : Shared} {σ : L2.St} {d : D} {v : V} {p : Int × List Int} (I : Inv X pins σ H s) (sub : Same F H) (h : rankD d = some p) (r : Rp (bs X) F d v) :
    ∃ a u t b its, v = .ref a ∧ s.heap.IsTuple a #[.int p.1 t, .ref b] ∧ u = () ∧ s.heap.IsTuple b (List.toArray its) ∧ IntsAre its p.2 := by
  unfold rankD at h
  split at h
  · obtain ⟨k, hk, h⟩ := Option.map_eq_some_iff.mp h
    subst h
    obtain ⟨a, vs, ea, ha, rr⟩ := r
    obtain ⟨v1, r1, e1, hv1, v2, r2, e2, hv2, e3⟩ := rr
    have e3' : r2 = [] := e3
    subst e3' e2 e1 ea
    obtain rfl := hv1
    obtain ⟨b, eb, hb⟩ := key_rp hk hv2
    subst eb
    obtain ⟨_, its, rv, pa⟩ := (show ObjOk X.prog X.w H s.heap a (.tup [V.int _, .ref b]) from I.hok a _ (sub _ _ ha))
    obtain ⟨u1, u2, ei, q1, q2⟩ := vals2 rv
    subst ei
    obtain ⟨t, rfl⟩ := q1
    cases q2
    rw [kI_V] at hb
    obtain ⟨_, its2, rv2, pb⟩ := (show ObjOk X.prog X.w H s.heap b (.tup (k.map V.int)) from I.hok b _ (sub _ _ hb))
    exact ⟨a, (), t, b, its2, rfl, pa, rfl, pb, ints_of_vals rv2⟩
  · cases h
theorem op_geR (hu : X.A.units + 64 < cLine) : OpR X (compareOp .GtE) (rV (bs X) gGeR) := by
  intro pins s σ H x y v u Q I rx ry ⟨F, d1, d2, d, sub, r1, r2, e, k⟩
  obtain ⟨p, hp, e⟩ := Option.bind_eq_some_iff.mp e
  obtain ⟨q, hq, e⟩ := Option.map_eq_some_iff.mp e
  subst e
  obtain ⟨a, _, t, b, its, rfl, pa, _, pb, ib⟩ := rank_at I sub hp r1
  obtain ⟨a', _, t', b', its', rfl, pa', _, pb', ib'⟩ := rank_at I sub hq r2
  cases rx
  cases ry
  have z : (p.1 == q.1) = decide (p.1 = q.1) := by
    by_cases q : p.1 = q.1
    · rw [decide_eq_true q]; exact beq_iff_eq.mpr q
    · rw [decide_eq_false q]; exact beq_eq_false_iff_ne.mpr q
  have R := Ob.RcOp.tuples_ge (A := X.A) (s := s) (e := fun j => if j = 0 then decide (p.1 = q.1) else decide (p.2 = q.2)) (r := fun j => if j = 0 then decide (q.1 ≤ p.1) else geI p.2 q.2) pa pa' (by omega) (fun j h1 h2 => by
    match j, h1 with
    | 0, _ => simp only [if_pos]; rw [← z]; exact SeqAt.EqAt.int_int _ _ _ _
    | 1, _ => exact eq_tupI pb pb' ib ib' (by show X.A.units + 1 + 1 < _; omega)
    | j + 2, h => exact absurd h (by simp)) (fun j h1 h2 _ => by
    match j, h1 with
    | 0, _ => exact Ob.RcOp.ge_int _ _ _ _
    | 1, _ => exact rc_geI pb pb' ib ib' (by show X.A.units + 1 < _; omega)
    | j + 2, h => exact absurd h (by simp))
  have z : wpAny (model X.prog X.w) X.A (compareOp .GtE (.ref a) (.ref a')) (EP X pins σ Q) X.xe s := by
    refine R X.prog X.w X.xe (EP X pins σ Q) ⟨.bl _, H, I, rfl, ?_⟩
    have e : Ob.lexAt (fun j => if j = 0 then decide (p.1 = q.1) else decide (p.2 = q.2)) (fun j => if j = 0 then decide (q.1 ≤ p.1) else geI p.2 q.2) (decide ((#[Value.int p.1 t, Value.ref b] : Array Value).size ≥ (#[Value.int q.1 t', Value.ref b'] : Array Value).size)) 0 (min (#[Value.int p.1 t, Value.ref b] : Array Value).size (#[Value.int q.1 t', Value.ref b'] : Array Value).size) = rkGe p.1 p.2 q.1 q.2 := by
      show Ob.lexAt _ _ (decide (2 ≥ 2)) 0 2 = _
      unfold rkGe
      simp only [Ob.lexAt]
      by_cases h1 : p.1 = q.1 <;> by_cases h2 : p.2 = q.2 <;> simp [h1, h2]
    rw [e]
    exact k _ F H (Tr0.refl sub) rfl
  exact z
end
end Sw
/-! the value layer: the law's own def, called from the top (nothing is under way there: A.guards), str of data -/
namespace Sw
open PySem PySem.Spec PyProof.Rows L2
/-- the promise of a def at one place of call -/
def FnAt (A : Around) (P : Program) (w : World) (K : PySem.W.Frag) (mg : Str → Option Value) (base : Heap) (f : Addr) (fd : FuncData) (ps : List Str) (sp : Sp) : Prop :=
  ∀ (outer : List Env) (s : Shared) (H : Hp) (args : Args) (us : List Value) (vs : List V) (Q : VK) (E : XK), Env0 P w K mg base A outer s H → BindsTo s fd args (ps.zip us) → Vals vs us → sp vs H Q E →
    codeAny (model P w) A (.call (.ref f) args) (CR CX0 outer P w H s Q E) s
theorem fnAt {A : Around} {P : Program} {w : World} {K : PySem.W.Frag} {mg : Str → Option Value} {base : Heap} {k : Nat} {x qual : Str} {st : Stmt} {f : Addr} {fd : FuncData} {N ps : List Str} {sp : Sp} (F : Fun K x qual st f fd) (S : FnScope N ps (defScope st)) (hr : Room (k + 1) A)
    (len : ∀ vs H Q E, sp vs H Q E → vs.length = ps.length)
    (hbody : ∀ (cdv : Value) (outer : List Env) (s : Shared) (H : Hp) (vs : List V) (Q : VK) (E : XK), Room k (A.deeper (envOfC qual (defScope st) s.heap.objs.size f cdv)) → sp vs H Q E →
      ∃ t, PSs (cxOf CX0 P w K mg base N qual (defScope st) f cdv A outer s H E).nox (defBody st) t ∧ t { nx := fun _ H' => Q .non H', rt := Q } (start N vs) H) :
    FnAt A P w K mg base f fd ps sp := by
  intro outer s H args us vs Q E e0 hb r hsp
  obtain ⟨oc, od, kV, doc, pm, an, cdv, ct, osl, rfl, lk, hcd⟩ := F.ex
  have hl := len _ _ _ _ hsp
  have KX : K.In s.heap := e0.mod.kin.keeps fun b o e => (e0.bs b o e).1
  have lim : s.heap.NoLimit := e0.mod.nolimit.keeps fun b o e => (e0.bs b o e).1
  have hkind : ∀ y ∈ ps.zip us, (defScope st).names.lookup y.1 = some .local ∨ ((defScope st).names.lookup y.1 = some .cell ∧ ((cellsFrom (s.heap.objs.size + 1) (defScope st).names []).lookup y.1).isSome = true) := fun ⟨n, v⟩ hy => by
    rcases S.par n (List.of_mem_zip hy).1 with q | q
    · exact .inl q
    · exact .inr ⟨q, PySem.W.cellsFrom_some _ _ _ (.inl q)⟩
  refine codeAny_call_function hr.depth (KX _ _ lk) rfl S.co S.gen rfl (PySem.W.codeRec_of KX hcd) (hb _ _ _ _ ?_)
  refine wpAny_newFunctionEnv_cells S.kind hkind fun env he s1 xx => ?_
  subst he
  refine ⟨lim.keeps xx.toInCall.keep, codeAny_func ?_⟩
  obtain ⟨t, ht, hq⟩ := hbody cdv outer s H vs Q E (hr.deeper _) hsp
  have I : Inv (cxOf CX0 P w K mg base N qual (defScope st) f cdv A outer s H E) [] (start N vs) H s1 := inv_start S hr.hd e0 hl r xx
  refine wpAny_mono (ht.nox.run [] s1 (start N vs) H _ I hq) (fun fl s' hs => ?_) fun e s' hs => hs
  cases fl with
  | ret u => obtain ⟨v, σ', H', J, rv, q⟩ := hs; exact ⟨v, H', J.os, J.bare, J.base, J.hok, rv, q⟩
  | next => obtain ⟨σ', H', J, q⟩ := hs; exact ⟨V.non, H', J.os, J.bare, J.base, J.hok, rfl, q⟩
  | brk => obtain ⟨_, _, _, q⟩ := hs; exact False.elim q
  | cont => obtain ⟨_, _, _, q⟩ := hs; exact False.elim q
theorem fn_at {A : Around} {P : Program} {w : World} {K : PySem.W.Frag} {mg : Str → Option Value} {base : Heap} {k : Nat} {x qual : Str} {st : Stmt} {f : Addr} {fd : FuncData} {N ps : List Str} (F : Fun K x qual st f fd) (S : FnScope N ps (defScope st)) (hr : Room (k + 1) A) (Pn : List Nat) (body : SF)
    (hbody : ∀ (cdv : Value) (outer : List Env) (s : Shared) (H : Hp) (E : XK), Room k (A.deeper (envOfC qual (defScope st) s.heap.objs.size f cdv)) →
      PSs (cxOf CX0 P w K mg base N qual (defScope st) f cdv A outer s H E).nox (defBody st) (tM Pn ⟨K, mg⟩ body)) : FnAt A P w K mg base f fd ps (spM ⟨K, mg⟩ ps.length (fnM N.length Pn body)) :=
  fnAt F S hr (fun vs H Q E h => h.1) fun cdv outer s H vs Q E hr h => ⟨_, hbody cdv outer s H E hr, spM_start h⟩
/-- the end of a law: its promise, called at the top -/
theorem law_at {P : Program} {w : World} {K : PySem.W.Frag} {mg mb : Str → Option Value} {fa a : Addr} {fd : FuncData} {x : Str} {sp : Sp} {s₁ : Shared} {vs : List Value} {ns : List Int}
    (KX : K.In s₁.heap) (hns : s₁.heap.Ns mainGlobals mg) (hb : s₁.heap.Ns builtinsNs mb) (hbb : ∀ x : Str, x ≠ "__name__" → mb x = bootBuiltins x) (hlim : s₁.heap.NoLimit) (hg : s₁.gens = #[])
    (ha : s₁.heap.get? a = some { cls := .type "list", data := .seq vs.toArray }) (hi : IntsAre vs ns) (hl : ns.length ≤ sizeLine)
    (F : ∀ base : Heap, K.In base → base.Ns mainGlobals mg → FnAt callerA P w K mg base fa fd [x] sp) (hbind : ∀ (s : Shared) (u : Value), BindsTo s fd ⟨[u], []⟩ [(x, u)])
    (hsp : ∀ H : Hp, Only H → SqL K H a (ns.map V.int) → sp [.ref a] H (fun v _ => v = .bl true) fun _ _ _ => False) :
    codeAny (model P w) callerA (.call (.ref fa) ⟨[.ref a], []⟩) (fun r s' => r = .ok (.ret (.bool true)) ∧ OldK s₁.heap s'.heap ∧ s'.os = s₁.os ∧ AllBare s'.gens) s₁ := by
  have rv : Vals (ns.map V.int) vs := vals_ints hi
  -- what may be tracked: nothing, or the script alone
  have main : ∀ H : Hp, Only H → SqL K H a (ns.map V.int) → HOk P w H s₁.heap → (∀ b u, H b = some u → b = a ∧ K.lookup a = none) →
      codeAny (model P w) callerA (.call (.ref fa) ⟨[.ref a], []⟩) (fun r s' => r = .ok (.ret (.bool true)) ∧ OldK s₁.heap s'.heap ∧ s'.os = s₁.os ∧ AllBare s'.gens) s₁ := by
    intro H hO hS hok hA
    have get : ∀ {b : Addr} {o : Obj}, s₁.heap.get? b = some o → H b = none → (hidT s₁.heap H).get? b = some o := fun e n => hidT_get e n
    have notl : ∀ {b : Addr} {o : Obj} {es : Array DictEntry} {ep : Nat}, s₁.heap.get? b = some o → o.data = .dict es ep → H b = none := by
      intro b o es ep e d
      cases q : H b with
      | none => rfl
      | some u =>
        obtain ⟨eb, _⟩ := hA b u q
        rw [eb, ha] at e
        cases e
        cases d
    have kn : K.In (hidT s₁.heap H) := by
      intro b o e
      refine get (KX b o e) ?_
      cases q : H b with
      | none => rfl
      | some u =>
        obtain ⟨eb, en⟩ := hA b u q
        rw [eb, en] at e
        cases e
    have nk : ∀ {b : Addr} {m : Str → Option Value}, s₁.heap.Ns b m → (hidT s₁.heap H).Ns b m := by
      rintro b m ⟨o, es, ep, e, d, r⟩
      exact ⟨o, es, ep, get e (notl e d), d, r⟩
    obtain ⟨mc, l1, l2⟩ := hlim
    have md : Mod K mg (hidT s₁.heap H) := ⟨kn, nk hns, ⟨mb, nk hb, hbb⟩, ⟨mc, nk l1, l2⟩⟩
    have e0 : Env0 P w K mg (hidT s₁.heap H) callerA [] s₁ H := by
      refine ⟨rfl, md, fun b o e => of_hidT e, Nat.le_of_eq (hidT_size _ _), trivial, fun b hb => ?_, hok, .of_eq hg⟩
      cases hb
    refine codeAny_mono (F _ kn (nk hns) [] s₁ H ⟨[.ref a], []⟩ [.ref a] [.ref a] _ _ e0 (hbind s₁ (.ref a)) (.cons rfl .nil) (hsp H hO hS)) fun r s' h => ?_
    cases r with
    | error e => exact h.elim
    | ok fl =>
      cases fl with
      | next => exact h.elim
      | brk => exact h.elim
      | cont => exact h.elim
      | ret u =>
        obtain ⟨v, H', os, bare, un, hok', r', rfl⟩ := h
        obtain rfl : u = Value.bool true := r'
        refine ⟨rfl, OldK.of_keep fun b o e => ?_, os, bare⟩
        cases q : H b with
        | none => exact un.keep b o e q (fun z => by cases z) (fun z => by cases z)
        | some u =>
          rcases hO b with z | ⟨ob, xs, z⟩
          · rw [q] at z; cases z
          · obtain ⟨e1, _⟩ := hok b _ z
            obtain ⟨e2, _⟩ := hok' b _ (un.frzs b ob _ z)
            rw [e] at e1
            cases e1
            exact e2
  cases hk : K.lookup a with
  | some o =>
    have e := KX a o hk
    rw [ha] at e
    cases e
    exact main (fun _ => none) (fun _ => .inl rfl) (.inr ⟨_, vs.toArray, _, hk, rfl, rfl, rfl, by rw [List.size_toArray, hi.length]; exact hl, by simpa using rv⟩) (fun b u z => by cases z) fun b u z => by cases z
  | none =>
    have at_ : ∀ b u, (if b = a then some (HO.frz { cls := .type "list", data := .seq vs.toArray } (.lst (ns.map V.int))) else none) = some u → b = a ∧ u = HO.frz { cls := .type "list", data := .seq vs.toArray } (.lst (ns.map V.int)) := by
      intro b u z
      by_cases hb : b = a
      · rw [if_pos hb] at z; cases z; exact ⟨hb, rfl⟩
      · rw [if_neg hb] at z; cases z
    refine main (fun b => if b = a then some (.frz { cls := .type "list", data := .seq vs.toArray } (.lst (ns.map V.int))) else none) (fun b => ?_) (.inl (.inr ⟨_, if_pos rfl⟩)) (fun b u z => ?_) fun b u z => ⟨(at_ b u z).1, hk⟩
    · by_cases hb : b = a
      · exact .inr ⟨_, _, if_pos hb⟩
      · exact .inl (if_neg hb)
    · obtain ⟨e1, e2⟩ := at_ b u z
      subst e1 e2
      exact ⟨ha, by rw [List.length_map]; exact hl, vs, _, rv, ha⟩
theorem walk_at {l : PySem.W.OpenLaw} {n : Nat} {q : Program} {loose : List Str} {XP : (Str → Option Value) → Heap → Prop} {YP : World → Heap → Prop} {d : DefRec} {x : Str}
    (hn : l.most = some n) (hn2 : n ≤ sizeLine) (hdf : d.params.defaults = [])
    (F : ∀ (w : World) (mg : Str → Option Value) (fa : Addr) (h : Heap), YP w h → h.Ns mainGlobals mg → mg d.name = some (.ref fa) →
      ∃ (K : PySem.W.Frag) (fd : FuncData) (sp : Sp), K.In h ∧ (∀ (s : Shared) (u : Value), BindsTo s fd ⟨[u], []⟩ [(x, u)]) ∧
        (∀ (H : Hp) (a : Addr) (ns : List Int), ns.length ≤ n → Only H → SqL K H a (ns.map V.int) → sp [.ref a] H (fun v _ => v = .bl true) fun _ _ _ => False) ∧
        ∀ base : Heap, K.In base → base.Ns mainGlobals mg → FnAt callerA l.prog w K mg base fa fd [x] sp) :
    PySem.W.WalkO q loose XP YP l.row.toRowW d [] (fun f vs => PySem.call f vs) := by
  refine Att.attach_call hn hdf fun w s₀ s₁ mg mb fa o pm cd doc a vs ns G Y ho hd hcd hmg hobj hints hlen hg => ?_
  obtain ⟨K, fd, sp, KX, hb, hsp, hF⟩ := F w mg fa _ Y G.T.g hmg
  exact law_at KX G.T.g G.T.b G.T.builtins G.T.nolimit hg hobj hints (Nat.le_trans hlen hn2) hF hb fun H hO hS => hsp H a ns hlen hO hS
/-! ### str(list) -/
def strFit (d : PyData) : Bool := d.showable && !d.hasDict && decide (d.shown.length ≤ sizeLine)
def gStr : List D → Option D
  | [.lst ds] => if (okD 40 (.lst ds) && strFit (toP (.lst ds))) = true then some (.str (toP (.lst ds)).shown) else none
  | _ => none
theorem c_str {X : Cx} (hg : X.A.guards = some []) (hu : X.A.units + 64 < cLine) : CallR X (.type "str") (rVA (bs X) gStr) := by
  intro pins s σ H xs us Q I r ⟨F, ds, d, sub, ra, e, k⟩
  unfold gStr at e
  split at e
  · rename_i ds'
    split at e
    · rename_i h
      rw [Bool.and_eq_true] at h
      obtain ⟨ho, hf⟩ := h
      unfold strFit at hf
      rw [Bool.and_eq_true, Bool.and_eq_true] at hf
      obtain ⟨⟨f1, f2⟩, f3⟩ := hf
      obtain ⟨v, vr, ev, hv, e0⟩ := ra
      have e0' : vr = [] := e0
      subst e0' ev
      obtain ⟨u, eu, ru⟩ := vals1 r
      subst eu
      obtain ⟨as, rd⟩ := Dp.reads I (toP (.lst ds')) v u (dp_of (B := bs X) sub 40 _ v ho hv) ru
      obtain ⟨a, vs, ea, _⟩ := hv
      subst ea
      cases ru
      have hd := (shp_of 40 _ ho).2
      cases e
      refine str_of_reads rd f1 (fun z => by rw [z] at f2; cases f2) hg (by omega) (fun _ _ e => e) (fun h' u tk hk => ?_) (of_decide_eq_true f3)
      exact ⟨.str _, H, I.kept hk, ⟨_, rfl⟩, k _ F H (Tr0.refl sub) rfl⟩
    · cases e
  · cases e
/-! ### two texts -/
def gNeS : D → D → Option D
  | .str a, .str b => some (.bl (!decide (a = b)))
  | _, _ => none
theorem op_neS {X : Cx} : OpR X (compareOp .NotEq) (rV (bs X) gNeS) := by
  intro pins s σ H x y v u Q I rx ry ⟨F, d1, d2, d, sub, r1, r2, e, k⟩
  unfold gNeS at e
  split at e
  · rename_i a b
    cases e
    have r1' : x = .str a := r1
    have r2' : y = .str b := r2
    subst r1' r2'
    have e : decide (V.str a = V.str b) = decide (a = b) := by
      by_cases h : a = b
      · subst h; simp
      · have : ¬ V.str a = V.str b := fun z => by cases z; exact h rfl
        rw [decide_eq_false h, decide_eq_false this]
    refine op_ne pins s σ H (.str a) (.str b) v u Q I rx ry ⟨rfl, ?_⟩
    rw [e]
    exact k _ F H (Tr0.refl sub) rfl
  · cases e
/-! ### what the top has written -/
section
variable {K : PySem.W.Frag} {h : Heap} {mg : Str → Option Value}
def mkFn {x qual : Str} {st : Stmt} {ps : List Str} {f : Addr} {oc kV dc pm cd ct : Value} {od an : Option Addr} {sl : Array (Option Value)} (X : K.In h) (G : h.Ns mainGlobals mg)
    (hb : ∀ (kV doc pm : Value) (an : Option Addr) (cdv ct : Value) (us : List Value), us.length = ps.length → bindArgs (PySem.W.fnOf x qual (defArgs st) (defBody st) (defScope st) .none kV doc pm an cdv ct) ⟨us, []⟩ = pure (ps.zip us))
    (a : PySem.W.nsIn K mainGlobals x = some (some (.ref f))) (l : K.lookup f = some ⟨oc, od, .func (PySem.W.fnOf x qual (defArgs st) (defBody st) (defScope st) .none kV dc pm an cd ct), sl⟩) (c : PySem.W.codeIn K cd qual = true) (k : PySem.W.keepIn K (.ref f) = true) :
    Fn K mg x qual st ps where
  a := f
  fd := PySem.W.fnOf x qual (defArgs st) (defBody st) (defScope st) .none kV dc pm an cd ct
  g := PySem.W.mg_of X G a
  k := k
  F := fun_mk l c k
  b := (fun_mk l c k).binds hb
theorem mk_cint {x : Str} {i : Int} {t : Tok} (X : K.In h) (G : h.Ns mainGlobals mg) (a : PySem.W.nsIn K mainGlobals x = some (some (.int i t))) : ∃ v u, mg x = some u ∧ RelV v u ∧ ∀ F, Rp ⟨K, mg⟩ F (.int i) v :=
  ⟨.int i, _, PySem.W.mg_of X G a, ⟨t, rfl⟩, fun F => rfl⟩
theorem mk_cfr {x : Str} {q : Rat} {f : Addr} {t t' : Tok} {n : Nat} {sl : Array (Option Value)} {d : Option Addr} (X : K.In h) (G : h.Ns mainGlobals mg) (a : PySem.W.nsIn K mainGlobals x = some (some (.ref f)))
    (l : K.lookup f = some ⟨.type "tuple", d, .seq #[.int q.num t, .int q.den t'] n, sl⟩) : ∃ v u, mg x = some u ∧ RelV v u ∧ ∀ F, Rp ⟨K, mg⟩ F (.fr q) v :=
  ⟨.ref f, _, PySem.W.mg_of X G a, rfl, fun F => ⟨f, rfl, .inr ⟨_, _, n, l, rfl, rfl, by show 2 ≤ sizeLine; decide, .cons ⟨t, rfl⟩ (.cons ⟨t', rfl⟩ .nil)⟩⟩⟩
end
theorem law_sp {K : PySem.W.Frag} {mg : Str → Option Value} {m : SF} {ns : List Int} {H : Hp} {a : Addr} (hm : ∃ S', m [.va (.scr ns)] = some (.ret (.bl true), S')) (hS : SqL K H a (ns.map V.int)) :
    spM ⟨K, mg⟩ 1 m [.ref a] H (fun v _ => v = .bl true) fun _ _ _ => False := by
  obtain ⟨S', e⟩ := hm
  refine ⟨rfl, H, [.va (.scr ns)], ⟨fun _ _ e => e, rfl, fun i s ei => ?_, fun i j c c' v ei => ?_⟩, _, S', e, fun F' H' _ _ _ v rv => rv⟩
  · match i, ei with
    | 0, ei => cases ei; exact ⟨.ref a, rfl, a, rfl, hS⟩
    | i + 1, ei => simp at ei
  · match i, ei with
    | 0, ei => cases ei
    | i + 1, ei => simp at ei
theorem walk_law {l : PySem.W.OpenLaw} {n : Nat} {q : Program} {loose : List Str} {XP : (Str → Option Value) → Heap → Prop} {YP : World → Heap → Prop} {d : DefRec} {x : Str}
    (hn : l.most = some n) (hn2 : n ≤ sizeLine) (hdf : d.params.defaults = []) {m : SF} (hm : ∀ ns : List Int, ns.length ≤ n → ∃ S', m [.va (.scr ns)] = some (.ret (.bl true), S'))
    (F : ∀ (w : World) (mg : Str → Option Value) (fa : Addr) (h : Heap), YP w h → h.Ns mainGlobals mg → mg d.name = some (.ref fa) →
      ∃ (K : PySem.W.Frag) (fd : FuncData), K.In h ∧ (∀ (s : Shared) (u : Value), BindsTo s fd ⟨[u], []⟩ [(x, u)]) ∧ ∀ base : Heap, K.In base → base.Ns mainGlobals mg → FnAt callerA l.prog w K mg base fa fd [x] (spM ⟨K, mg⟩ 1 m)) :
    PySem.W.WalkO q loose XP YP l.row.toRowW d [] (fun f vs => PySem.call f vs) :=
  walk_at hn hn2 hdf fun w mg fa h Y G hmg => by
    obtain ⟨K, fd, KX, hb, hF⟩ := F w mg fa h Y G hmg
    exact ⟨K, fd, _, KX, hb, fun H a ns hl _ hS => law_sp (hm ns hl) hS, hF⟩
end Sw
/-! the value layer: told lists emptied (a turn behind which what was told is forgotten) -/
namespace Sw
open PySem PySem.Spec PyProof.Rows L2
def noOwn : Ss → Bool
  | [] => true
  | .ow _ :: _ => false
  | _ :: r => noOwn r
theorem noOwn_at : ∀ {S : Ss} {i : Nat} {c : D}, noOwn S = true → S[i]? ≠ some (.ow c)
  | [], i, c, _, e => by simp at e
  | .ow _ :: r, i, c, h, e => by cases h
  | .un :: r, 0, c, h, e => by simp at e
  | .va _ :: r, 0, c, h, e => by simp at e
  | .un :: r, i + 1, c, h, e => noOwn_at (S := r) h (by simpa using e)
  | .va _ :: r, i + 1, c, h, e => noOwn_at (S := r) h (by simpa using e)
theorem noOwn_oa {S : Ss} {σ : L2.St} {a : Addr} (h : noOwn S = true) : ¬ OA S σ a := fun ⟨_, _, e, _⟩ => noOwn_at h e
section
variable {B : Bs} {F H F1 H1 : Hp} {S S1 : Ss} {σ : L2.St} {a : Addr} {d : D}
theorem Po.frz (r : Rel B F S σ H) (p : Po B F S σ H F1 S1 H1) (n : F1 a = none) (nH : H a = none) (c : Cell B F1 H1 a d) : ∃ F2, Po B F S σ H F2 S1 H1 ∧ Same F1 F2 ∧ Rp B F2 d (.ref a) ∧ F2 a = H1 a := by
  obtain ⟨o, ho⟩ := c.there
  have na : ∀ {b}, OA S1 σ b → b ≠ a := fun {b} z e => by
    obtain ⟨_, o', ho'⟩ := r.own (p.oa _ z)
    rw [e, nH] at ho'; cases ho'
  have fs : Same F1 (upd F1 a o) := fun b u h => by rw [upd_ne (ne_of_none h n)]; exact h
  have sub : Same (upd F1 a o) H1 := fun b u h => by
    by_cases q : b = a
    · rw [q, upd_same] at h; cases h; rw [q]; exact ho
    · rw [upd_ne q] at h; exact p.rel.sub _ _ h
  have kk : Cell B (upd F1 a o) H1 a d := c.up fs rfl
  refine ⟨upd F1 a o, ⟨⟨p.tr.fs.trans fs, p.tr.hs, fun b n1 n2 => ?_, p.tr.dm⟩, ⟨sub, p.rel.len, fun i s ei => ?_, p.rel.dis⟩, p.oa⟩, fs, kk.rp (upd_same.trans ho.symm), upd_same.trans ho.symm⟩
  · by_cases q : b = a
    · rw [q]; exact .inl (.of nH)
    · rw [upd_ne q] at n2; exact p.tr.nf b n1 n2
  · have z := p.rel.ok i s ei
    cases s with
    | un => trivial
    | va d => obtain ⟨v, e', h⟩ := z; exact ⟨v, e', h.up fs⟩
    | ow c' =>
      obtain ⟨a', e', n', k'⟩ := z
      refine ⟨a', e', ?_, k'.up fs rfl⟩
      rw [upd_ne (na ⟨i, c', ei, e'⟩)]; exact n'
end
/-- a list of two new lists -/
def tPair (B : Bs) (f1 f2 : EF) : TE := fun σ H Q => ∃ F S, Rel B F S σ H ∧ ∃ d1 S1 d2 S2, f1 S = some (.lst d1, S1) ∧ f2 S1 = some (.lst d2, S2) ∧
  ∀ a b1 b2 F' H', Po B F S σ H F' S2 H' → F' a = some (.lst [.ref b1, .ref b2]) → Rp B F' (.lst [.lst d1, .lst d2]) (.ref a) → H b1 = none → H b2 = none → (∃ xs, F' b1 = some (.lst xs)) → (∃ xs, F' b2 = some (.lst xs)) → Q (.ref a) H'
section
variable {X : Cx} {e1 e2 : Expr} {f1 f2 : EF} {pos : Pos}
theorem e_pair (h1 : PF X e1 f1) (h2 : PF X e2 f2) (hs : starEach [e1, e2] X.env = (false, eval e1 X.env) :: starEach [e2] X.env := by rfl) (hs2 : starEach [e2] X.env = (false, eval e2 X.env) :: starEach [] X.env := by rfl) : PE X (.List [e1, e2] pos) (tPair (bs X) f1 f2) := by
  refine (pe_lst (pa_cons h1 (pa_cons h2 pa_nil hs2) hs)).imp ?_
  rintro σ H Q ⟨F, S, r, d1, S1, d2, S2, g1, g2, k⟩
  refine ⟨F, S, r, _, S1, g1, fun b1 F1 H1 p1 n1 nH1 c1 => ?_⟩
  obtain ⟨G1, q1, s1, rp1, e1⟩ := p1.frz r n1 nH1 c1
  refine ⟨G1, S1, q1.rel, _, S2, g2, fun b2 F2 H2 p2 n2 nH2 c2 => ?_⟩
  obtain ⟨G2, q2, s2, rp2, e2⟩ := p2.frz q1.rel n2 nH2 c2
  refine ⟨by show 2 ≤ sizeLine; decide, fun p hp => ?_⟩
  have q := q1.trans q2
  have t := Tr0.new (o := .lst [V.ref b1, .ref b2]) q.rel.sub hp
  have pp := q.trans (Po.tr0 q.rel t)
  have sG : Same G2 (upd G2 p (.lst [V.ref b1, .ref b2])) := t.tr.fs
  have l1 : ∃ xs, G1 b1 = some (.lst xs) := by
    obtain ⟨xs, h, _⟩ := c1
    exact ⟨xs, e1.trans h⟩
  have l2 : ∃ xs, G2 b2 = some (.lst xs) := by
    obtain ⟨xs, h, _⟩ := c2
    exact ⟨xs, e2.trans h⟩
  refine k p b1 b2 _ _ pp upd_same ⟨p, _, rfl, .inl upd_same, _, _, rfl, (rp1.up q2.tr.fs).up sG, _, _, rfl, rp2.up sG, rfl⟩ nH1 (q1.tr.dm _ nH2) ?_ ?_
  · obtain ⟨xs, h⟩ := l1
    exact ⟨xs, sG _ _ (q2.tr.fs _ _ h)⟩
  · obtain ⟨xs, h⟩ := l2
    exact ⟨xs, sG _ _ h⟩
/-- for z in x + y: z.clear() -/
def tClr (i j z : Nat) : TS := fun Dn σ H => ∃ (a a' : Addr) (vs ws : List V), σ[i]? = some (some (.ref a)) ∧ σ[j]? = some (some (.ref a')) ∧ H a = some (.lst vs) ∧ H a' = some (.lst ws) ∧ vs.length + ws.length ≤ 16 ∧ z < σ.length ∧
  (∀ v ∈ vs ++ ws, ∃ b xs, v = .ref b ∧ H b = some (.lst xs)) ∧
  ∀ σ' H', (∀ k, k ≠ z → σ'[k]? = σ[k]?) → σ'.length = σ.length → (∀ c o, H c = some o → (∀ v ∈ vs ++ ws, v ≠ .ref c) → H' c = some o) → (∀ c, H' c = none → H c = none) → Dn.nx σ' H'
theorem s_clr {i j z : Nat} {x y n : Str} {p1 p2 p3 p4 p5 p6 p7 pf : Pos} (hN : X.N.Nodup) (hc : X.calm = true) (hp : PassesOwn (model X.prog X.w) X.A X.env X.xe)
    (hx : PE X (.Name x p1) (tVar i)) (hy : PE X (.Name y p2) (tVar j)) (hz : PE X (.Name n p4) (tVar z)) (hi : X.N[z]? = some n) (hl : Loc X.env.scope n) (hf : X.fn n = true ∨ X.env.scope.names.lookup n = some .local)
    (hbase : attributeBase (.Name n p4) "clear" X.env (eval (.Name n p4) X.env) = eval (.Name n p4) X.env := by rfl) (hline : (p5.endLine == p6.line) = true := by rfl)
    (hsw : swapsWith (.Call (.Attribute (.Name n p4) "clear" p5) [] [] p6) none p7.line X.env = pure false := by rfl) (hs : ∀ v, foldedSetIterable (.BinOp (.Name x p1) .Add (.Name y p2) p3) X.env v = pure v := by intro _; rfl) {pn : Pos} :
    PS X (.For (.Name n pn) (.BinOp (.Name x p1) .Add (.Name y p2) p3) [.Expr (.Call (.Attribute (.Name n p4) "clear" p5) [] [] p6) p7] [] pf) (tClr i j z) := by
  refine (ps_for hp hc (pi_list (pe_op op_cat hx hy)) (pg_name hN hi hl hf) (pss_one (ps_expr (pe_bm0 PySem.F.plainAttrs_list PySem.F.slot_list_clear PySem.F.type_list_clear mt_clear hz hbase hline) hsw)) hs).imp ?_
  rintro Dn σ H ⟨a, a', vs, ws, ea, eb, ha, hb, hlen, hz', hall, k⟩
  refine ⟨_, ea, _, eb, a, a', vs, ws, rfl, rfl, ha, hb, Nat.le_trans hlen (by decide), fun p hpn => ?_⟩
  refine ⟨p, rfl, ⟨_, .inl (.inl upd_same)⟩, ?_⟩
  have hfr : ∀ c o, H c = some o → c ≠ p := fun c o h e => by rw [e, hpn] at h; cases h
  refine ⟨fun m lft σi Hi => lft = (vs ++ ws).length - m ∧ m ≤ (vs ++ ws).length ∧ Hi p = some (.lst (vs ++ ws)) ∧ σi.length = σ.length ∧ (∀ q, q ≠ z → σi[q]? = σ[q]?) ∧ (∀ v ∈ vs ++ ws, ∃ b xs, v = .ref b ∧ Hi b = some (.lst xs)) ∧
    (∀ c o, H c = some o → (∀ v ∈ vs ++ ws, v ≠ .ref c) → Hi c = some o) ∧ ∀ c, Hi c = none → H c = none, ⟨(vs ++ ws).length, by simp, Nat.zero_le _, upd_same, rfl, fun _ _ => rfl, fun v hv => ?_, fun c o h _ => ?_, fun c h => ?_⟩, ?_⟩
  · obtain ⟨b, xs, e, h⟩ := hall v hv
    exact ⟨b, xs, e, by rw [upd_ne (hfr _ _ h)]; exact h⟩
  · rw [upd_ne (hfr _ _ h)]; exact h
  · by_cases q : c = p
    · rw [q, upd_same] at h; cases h
    · rw [upd_ne q] at h; exact h
  · rintro m lft σi Hi ⟨rfl, hm, hpi, hli, hσ, hal, hk, hd⟩
    by_cases hlt : m < (vs ++ ws).length
    · refine .inr ⟨⟨_, _, .inl (.inl hpi), List.getElem?_eq_getElem hlt⟩, fun σ' H' => (vs ++ ws).length - (m + 1) = (vs ++ ws).length - (m + 1) ∧ m + 1 ≤ (vs ++ ws).length ∧ H' p = some (.lst (vs ++ ws)) ∧ σ'.length = σ.length ∧ (∀ q, q ≠ z → σ'[q]? = σ[q]?) ∧ (∀ v ∈ vs ++ ws, ∃ b xs, v = .ref b ∧ H' b = some (.lst xs)) ∧
        (∀ c o, H c = some o → (∀ v ∈ vs ++ ws, v ≠ .ref c) → H' c = some o) ∧ ∀ c, H' c = none → H c = none, fun σ' H' h => ⟨_, by omega, h⟩, fun x H2 y => ?_⟩
      obtain ⟨eH, hx⟩ := y
      subst eH
      have hx' := hx _ (.inl (.inl hpi))
      obtain ⟨b, xs, e, hbx⟩ := hal x (List.mem_of_getElem? hx')
      subst e
      have hbp : b ≠ p := fun e => by
        obtain ⟨b2, ys, e2, h2⟩ := hall (.ref b) (List.mem_of_getElem? hx')
        cases e2
        exact hfr _ _ h2 e
      refine ⟨.ref b, List.getElem?_set_self (by omega), .inl ⟨rfl, xs, .inl (.inl hbx)⟩, b, xs, rfl, rfl, hbx, rfl, by omega, ?_, by simpa using hli, fun q hq => ?_, fun v hv => ?_, fun c o h nv => ?_, fun c h => ?_⟩
      · rw [upd_ne (Ne.symm hbp)]; exact hpi
      · rw [List.getElem?_set_ne (Ne.symm hq)]; exact hσ q hq
      · obtain ⟨b2, ys, e2, h2⟩ := hal v hv
        by_cases q : b2 = b
        · exact ⟨b2, [], e2, by rw [q, upd_same]⟩
        · exact ⟨b2, ys, e2, by rw [upd_ne q]; exact h2⟩
      · have : c ≠ b := fun e => nv (.ref b) (List.mem_of_getElem? hx') (by rw [e])
        rw [upd_ne this]; exact hk c o h nv
      · by_cases q : c = b
        · rw [q, upd_same] at h; cases h
        · rw [upd_ne q] at h; exact hd c h
    · have e0 : m = (vs ++ ws).length := by omega
      refine .inl ⟨⟨_, .inl (.inl hpi), by omega⟩, k σi Hi hσ hli hk hd⟩
end

def wipe3 (S : Ss) (i j z : Nat) : Ss := ((S.set i .un).set j .un).set z .un
def lstOf : Option (D × Ss) → Option (List D × Ss)
  | some (.lst ds, S) => some (ds, S)
  | _ => none
theorem lstOf_eq {o : Option (D × Ss)} {ds : List D} {S : Ss} (h : lstOf o = some (ds, S)) : o = some (.lst ds, S) := by
  unfold lstOf at h
  split at h
  · cases h; rfl
  · cases h
def nxOf (n : Nat) : Option (Out × Ss) → Option Ss
  | some (.nx, S) => if S.length = n then some S else none
  | _ => none
theorem nxOf_eq {n : Nat} {o : Option (Out × Ss)} {S : Ss} (h : nxOf n o = some S) : o = some (.nx, S) ∧ S.length = n := by
  unfold nxOf at h
  split at h
  · split at h
    · rename_i q; cases h; exact ⟨rfl, q⟩
    · cases h
  · cases h
/-- told lists, looked at, told of again, looked at, emptied and forgotten -/
def sTurn (m i j z : Nat) (f1 f2 : EF) (g2 : SF) (f3 f4 : EF) (g4 : SF) : SF := fun S =>
  if (noOwn S && decide (S.length = m) && decide (i ≠ j) && decide (i < S.length) && decide (j < S.length) && decide (z < S.length)) = true then
    bd (lstOf (f1 S)) fun d1 S1 => bd (lstOf (f2 S1)) fun d2 S2 => (nxOf S.length (g2 (S2.set i (.va (.lst [.lst d1, .lst d2]))))).bind fun S3 =>
      bd (lstOf (f3 S3)) fun d3 S4 => bd (lstOf (f4 S4)) fun d4 S5 => (nxOf S.length (g4 (S5.set j (.va (.lst [.lst d3, .lst d4]))))).bind fun _ => some (.nx, wipe3 S i j z)
  else none
theorem wipe3_at {S : Ss} {i j z k : Nat} {s : Sl} (h : (wipe3 S i j z)[k]? = some s) : s = .un ∨ (k ≠ i ∧ k ≠ j ∧ k ≠ z ∧ S[k]? = some s) := by
  unfold wipe3 at h
  by_cases q1 : k = z
  · rw [q1, List.getElem?_set] at h
    simp only [if_pos] at h
    split at h
    · cases h; exact .inl rfl
    · cases h
  · rw [List.getElem?_set_ne (Ne.symm q1)] at h
    by_cases q2 : k = j
    · rw [q2, List.getElem?_set] at h
      simp only [if_pos] at h
      split at h
      · cases h; exact .inl rfl
      · cases h
    · rw [List.getElem?_set_ne (Ne.symm q2)] at h
      by_cases q3 : k = i
      · rw [q3, List.getElem?_set] at h
        simp only [if_pos] at h
        split at h
        · cases h; exact .inl rfl
        · cases h
      · rw [List.getElem?_set_ne (Ne.symm q3)] at h
        exact .inr ⟨q3, q2, q1, h⟩
section
variable {P : List Nat} {X : Cx} {e1 e2 e3 e4 : Expr} {f1 f2 f3 f4 : EF} {g2 g4 : SF} {st2 st4 st5 : Stmt} {pos pos1 pos3 pos' pos3' : Pos}
theorem s_turn {i j z m : Nat} {x y : Str} (hN : X.N.Nodup) (hm : X.N.length = m) (hP : i ∉ P ∧ j ∉ P ∧ z ∉ P)
    (hi : X.N[i]? = some x := by rfl) (hx : Loc X.env.scope x := by first | exact Or.inl rfl | exact Or.inr rfl) (hfx : X.fn x = true ∨ X.env.scope.names.lookup x = some .local := by first | exact .inl rfl | exact .inr rfl)
    (hj : X.N[j]? = some y := by rfl) (hy : Loc X.env.scope y := by first | exact Or.inl rfl | exact Or.inr rfl) (hfy : X.fn y = true ∨ X.env.scope.names.lookup y = some .local := by first | exact .inl rfl | exact .inr rfl)
    (h1 : PE X (.List [e1, e2] pos1) (tPair (bs X) f1 f2)) (h2 : PM (List.range m) X st2 g2) (h3 : PE X (.List [e3, e4] pos3) (tPair (bs X) f3 f4)) (h4 : PM (List.range m) X st4 g4) (h5 : PS X st5 (tClr i j z))
    (hs1 : swapsWith (.List [e1, e2] pos1) (some (.Name x pos')) pos.line X.env = pure false := by rfl) (hs3 : swapsWith (.List [e3, e4] pos3) (some (.Name y pos3')) pos.line X.env = pure false := by rfl) {posb : Pos} (hs3b : swapsWith (.List [e3, e4] pos3) (some (.Name y pos3')) posb.line X.env = pure false := by rfl) :
    PMs P X [.Assign [.Name x pos'] (.List [e1, e2] pos1) pos, st2, .Assign [.Name y pos3'] (.List [e3, e4] pos3) posb, st4, st5] (sTurn m i j z f1 f2 g2 f3 f4 g4) := by
  refine (pss_cons (ps_set hN hi hx h1 hs1 hfx) (pss_cons h2 (pss_cons (ps_set hN hj hy h3 hs3b hfy) (pss_cons h4 (pss_one h5))))).imp ?_
  rintro Dn σ H ⟨F, S, r, o, S', e, k⟩
  unfold sTurn at e
  split at e
  · rename_i hcond
    simp only [Bool.and_eq_true, decide_eq_true_eq] at hcond
    obtain ⟨⟨⟨⟨⟨hno, hSm⟩, hij⟩, hiS⟩, hjS⟩, hzS⟩ := hcond
    obtain ⟨d1, S1, g1, e⟩ := bd_inv e
    obtain ⟨d2, S2, gg2, e⟩ := bd_inv e
    obtain ⟨S3, g3, e⟩ := Option.bind_eq_some_iff.mp e
    obtain ⟨d3, S4, g4', e⟩ := bd_inv e
    obtain ⟨d4, S5, g5, e⟩ := bd_inv e
    obtain ⟨S6, g6, e⟩ := Option.bind_eq_some_iff.mp e
    cases e
    obtain ⟨g3, l3⟩ := nxOf_eq g3
    obtain ⟨g6, l6⟩ := nxOf_eq g6
    have mS : S.length ≤ m ∨ True := .inr trivial
    refine ⟨F, S, r, d1, S1, d2, S2, lstOf_eq g1, lstOf_eq gg2, fun a b1 b2 F1 H1 p1 ea rp nb1 nb2 lb1 lb2 => ?_⟩
    have q1 : Ps [] (bs X) F S σ H F1 (S2.set i (.va (.lst [.lst d1, .lst d2]))) (σ.set i (some (.ref a))) H1 := ⟨p1.tr, p1.rel.setV rp, fun a z => .inl (p1.oa a z.setV), fun j hj => by cases hj⟩
    refine ⟨F1, _, q1.rel, .nx, S3, g3, fun σ3 F3 H3 p3 => ?_⟩
    have p3' : Ps [] (bs X) F1 _ _ H1 F3 S3 σ3 H3 := ⟨p3.tr, p3.rel, p3.oa, fun j hj => by cases hj⟩
    have q3 := q1.trans p3'
    refine ⟨F3, S3, p3.rel, d3, S4, d4, S5, lstOf_eq g4', lstOf_eq g5, fun a' b3 b4 F5 H5 p5 ea' rp' nb3 nb4 lb3 lb4 => ?_⟩
    have q5 : Ps [] (bs X) F3 S3 σ3 H3 F5 (S5.set j (.va (.lst [.lst d3, .lst d4]))) (σ3.set j (some (.ref a'))) H5 := ⟨p5.tr, p5.rel.setV rp', fun a z => .inl (p5.oa a z.setV), fun j hj => by cases hj⟩
    have q5' := q3.trans q5
    refine ⟨F5, _, q5.rel, .nx, S6, g6, fun σ6 F6 H6 p6 => ?_⟩
    have p6' : Ps [] (bs X) F5 _ _ H5 F6 S6 σ6 H6 := ⟨p6.tr, p6.rel, p6.oa, fun j hj => by cases hj⟩
    have q6 := q5'.trans p6'
    -- the slots
    have L0 : S.length = σ.length := r.len
    have L3 : S3.length = σ3.length := p3.rel.len
    have L6 : S6.length = σ6.length := p6.rel.len
    have at3 : ∀ k, k < m → σ3[k]? = (σ.set i (some (.ref a)))[k]? := fun k hk => p3.pin k (List.mem_range.mpr hk)
    have at6 : ∀ k, k < m → σ6[k]? = (σ3.set j (some (.ref a')))[k]? := fun k hk => p6.pin k (List.mem_range.mpr hk)
    have ei : σ6[i]? = some (some (.ref a)) := by
      rw [at6 i (by omega), List.getElem?_set_ne (Ne.symm hij), at3 i (by omega), List.getElem?_set_self (by omega)]
    have ej : σ6[j]? = some (some (.ref a')) := by
      rw [at6 j (by omega), List.getElem?_set_self (by omega)]
    have fa : F6 a = some (.lst [.ref b1, .ref b2]) := p6.tr.fs _ _ (p5.tr.fs _ _ (p3.tr.fs _ _ ea))
    have fa' : F6 a' = some (.lst [.ref b3, .ref b4]) := p6.tr.fs _ _ ea'
    have sub6 := p6.rel.sub
    have nb3' : H b3 = none := q1.tr.dm _ (p3.tr.dm _ nb3)
    have nb4' : H b4 = none := q1.tr.dm _ (p3.tr.dm _ nb4)
    have keep : ∀ c o, H c = some o → H6 c = some o := fun c o h => q6.tr.hs c o h (noOwn_oa hno)
    have els : ∀ v ∈ [V.ref b1, .ref b2] ++ [V.ref b3, .ref b4], ∃ b, v = .ref b ∧ H b = none ∧ ∃ xs, H6 b = some (.lst xs) := by
      intro v hv
      simp only [List.cons_append, List.nil_append, List.mem_cons, List.not_mem_nil, or_false] at hv
      have up1 : ∀ {b : Addr}, (∃ xs, F1 b = some (.lst xs)) → ∃ xs, H6 b = some (.lst xs) := fun ⟨xs, h⟩ => ⟨xs, sub6 _ _ (p6.tr.fs _ _ (p5.tr.fs _ _ (p3.tr.fs _ _ h)))⟩
      have up2 : ∀ {b : Addr}, (∃ xs, F5 b = some (.lst xs)) → ∃ xs, H6 b = some (.lst xs) := fun ⟨xs, h⟩ => ⟨xs, sub6 _ _ (p6.tr.fs _ _ h)⟩
      rcases hv with rfl | rfl | rfl | rfl
      · exact ⟨_, rfl, nb1, up1 lb1⟩
      · exact ⟨_, rfl, nb2, up1 lb2⟩
      · exact ⟨_, rfl, nb3', up2 lb3⟩
      · exact ⟨_, rfl, nb4', up2 lb4⟩
    refine ⟨a, a', _, _, ei, ej, sub6 _ _ fa, sub6 _ _ fa', by show 2 + 2 ≤ 16; decide, by omega, fun v hv => ?_, fun σ' H' hσ hl hk hd => ?_⟩
    · obtain ⟨b, e, _, xs, h⟩ := els v hv
      exact ⟨b, xs, e, h⟩
    · have keep' : ∀ c o, H c = some o → H' c = some o := fun c o h => hk c o (keep c o h) fun v hv e => by
        obtain ⟨b, e', nb, _⟩ := els v hv
        rw [e] at e'
        cases e'
        rw [h] at nb; cases nb
      refine k σ' F H' ⟨⟨Same.refl _, fun c o h _ => keep' c o h, fun c n1 n2 => absurd n1 n2, fun c h => q6.tr.dm c (hd c h)⟩, ⟨fun c o h => keep' c o (r.sub _ _ h), ?_, fun q s es => ?_, fun q q' c c' v es es' _ _ => ?_⟩, fun c ⟨q, cc, es, _⟩ => ?_, fun q hq => ?_⟩
      · show (wipe3 S i j z).length = _
        simp only [wipe3, List.length_set]; omega
      · rcases wipe3_at es with w | ⟨w1, w2, w3, w4⟩
        · subst w; trivial
        · cases s with
          | un => trivial
          | ow c => exact absurd w4 (noOwn_at hno)
          | va d =>
            obtain ⟨v, ev, rv⟩ := r.ok q _ w4
            have hq : q < S.length := lt_at w4
            refine ⟨v, ?_, rv⟩
            rw [hσ q w3, at6 q (by omega), List.getElem?_set_ne (Ne.symm w2), at3 q (by omega), List.getElem?_set_ne (Ne.symm w1)]
            exact ev
      · rcases wipe3_at es with w | ⟨_, _, _, w⟩
        · cases w
        · exact absurd w (noOwn_at hno)
      · rcases wipe3_at es with w | ⟨_, _, _, w⟩
        · cases w
        · exact absurd w (noOwn_at hno)
      · have n1 : q ≠ i := fun z => hP.1 (z ▸ hq)
        have n2 : q ≠ j := fun z => hP.2.1 (z ▸ hq)
        have n3 : q ≠ z := fun z => hP.2.2 (z ▸ hq)
        by_cases hqm : q < m
        · rw [hσ q n3, at6 q hqm, List.getElem?_set_ne (Ne.symm n2), at3 q hqm, List.getElem?_set_ne (Ne.symm n1)]
        · rw [List.getElem?_eq_none (by omega), List.getElem?_eq_none (by omega)]
  · cases e
end
/-- all cells frozen ahead of a block -/
def sFrz (f : SF) : SF := fun S => f (frzAll S)
theorem Po.frzAll {B : Bs} {F H : Hp} {S : Ss} {σ : L2.St} (r : Rel B F S σ H) : Po B F S σ H (allF S σ F H) (frzAll S) H := by
  refine ⟨⟨allF_same r, fun a o h _ => h, fun a n1 n2 => ?_, fun a h => h⟩, r.freezeAll, fun a ⟨i, c, e, _⟩ => (frzAll_no e).elim⟩
  by_cases q : OA S σ a
  · exact .inr q
  · unfold allF at n2; rw [if_neg q] at n2; exact absurd n1 n2
theorem s_frz {P : List Nat} {X : Cx} {ss : List Stmt} {f : SF} (h : PMs P X ss f) : PMs P X ss (sFrz f) := by
  refine h.imp ?_
  rintro Dn σ H ⟨F, S, r, o, S', e, k⟩
  have p := Ps.of (P := P) (Po.frzAll r)
  exact ⟨_, _, p.rel, o, S', e, fun σ2 F2 H2 p2 => (k σ2 F2 H2 (p.trans p2)).pre p⟩
end Sw

namespace Sp
open PySem PySem.Spec PyProof.Rows L2 Sw
noncomputable def b_is_whole : SF := (sRet (eAndF (eUn (isiD "int") (eVar 0)) (eNotF (eUn (isiD "bool") (eVar 0)))))
noncomputable def m_is_whole : SF := fnM 1 [] b_is_whole
noncomputable def b_divisor : SF := (sSeq (sSet 0 (eA gAbs (aCons (eVar 0) aNil)))
  (sSeq (sSet 1 (eA gAbs (aCons (eVar 1) aNil)))
  (sSeq (sWh (tVal (eBin gNe (eVar 1) (eC (.int 0))))
  (sPar 0 1 (aCons (eVar 1) (aCons (eBin gMod (eVar 0) (eVar 1)) aNil))))
  (sRet (eVar 0)))))
noncomputable def m_divisor : SF := fnM 2 [] b_divisor
noncomputable def b_lowest : SF := (sSeq (sIf (tVal (eBin gLt (eVar 1) (eC (.int 0))))
  (sSeq (sSet 0 (eUn gNeg (eVar 0)))
  (sSet 1 (eUn gNeg (eVar 1))))
  sNx)
  (sSeq (sSet 2 (eCall m_divisor (aCons (eVar 0) (aCons (eVar 1) aNil))))
  (sRet (eNf (eA gTup (aCons (eBin gDiv (eVar 0) (eVar 2)) (aCons (eBin gDiv (eVar 1) (eVar 2)) aNil)))))))
noncomputable def m_lowest : SF := fnM 3 [] b_lowest
noncomputable def b_is_number : SF := (sSeq (sIf (tOrF (tNotF (tVal (eUn (isiD "tuple") (eVar 0)))) (tVal (eBin gNe (eA gLen (aCons (eVar 0) aNil)) (eC (.int 2)))))
  (sRet (eC (.bl false)))
  sNx)
  (sSeq (sIf (tOrF (tNotF (tVal (eCall m_is_whole (aCons (eBin gIx (eVar 0) (eC (.int 0))) aNil)))) (tNotF (tVal (eCall m_is_whole (aCons (eBin gIx (eVar 0) (eC (.int 1))) aNil)))))
  (sRet (eC (.bl false)))
  sNx)
  (sRet (eAndF (eBin gGe (eBin gIx (eVar 0) (eC (.int 1))) (eC (.int 1))) (eBin gEq (eCall m_divisor (aCons (eBin gIx (eVar 0) (eC (.int 0))) (aCons (eBin gIx (eVar 0) (eC (.int 1))) aNil))) (eC (.int 1)))))))
noncomputable def m_is_number : SF := fnM 1 [] b_is_number
noncomputable def b_fraction : SF := (sSeq (sIf (tVal (eBin gEq (eVar 1) (eC (.int 0))))
  sNo
  sNx)
  (sRet (eCall m_lowest (aCons (eVar 0) (aCons (eVar 1) aNil)))))
noncomputable def m_fraction : SF := fnM 2 [] b_fraction
noncomputable def b_plus : SF := (sSeq (sIf (tAndF (tVal (eBin gEq (eBin gIx (eVar 0) (eC (.int 1))) (eC (.int 1)))) (tVal (eBin gEq (eBin gIx (eVar 1) (eC (.int 1))) (eC (.int 1)))))
  (sRet (eNf (eA gTup (aCons (eBin gAdd (eBin gIx (eVar 0) (eC (.int 0))) (eBin gIx (eVar 1) (eC (.int 0)))) (aCons (eC (.int 1)) aNil)))))
  sNx)
  (sRet (eCall m_lowest (aCons (eBin gAdd (eBin gMul (eBin gIx (eVar 0) (eC (.int 0))) (eBin gIx (eVar 1) (eC (.int 1)))) (eBin gMul (eBin gIx (eVar 1) (eC (.int 0))) (eBin gIx (eVar 0) (eC (.int 1))))) (aCons (eBin gMul (eBin gIx (eVar 0) (eC (.int 1))) (eBin gIx (eVar 1) (eC (.int 1)))) aNil)))))
noncomputable def m_plus : SF := fnM 2 [] b_plus
noncomputable def b_times : SF := (sSeq (sIf (tAndF (tVal (eBin gEq (eBin gIx (eVar 0) (eC (.int 1))) (eC (.int 1)))) (tVal (eBin gEq (eBin gIx (eVar 1) (eC (.int 1))) (eC (.int 1)))))
  (sRet (eNf (eA gTup (aCons (eBin gMul (eBin gIx (eVar 0) (eC (.int 0))) (eBin gIx (eVar 1) (eC (.int 0)))) (aCons (eC (.int 1)) aNil)))))
  sNx)
  (sRet (eCall m_lowest (aCons (eBin gMul (eBin gIx (eVar 0) (eC (.int 0))) (eBin gIx (eVar 1) (eC (.int 0)))) (aCons (eBin gMul (eBin gIx (eVar 0) (eC (.int 1))) (eBin gIx (eVar 1) (eC (.int 1)))) aNil)))))
noncomputable def m_times : SF := fnM 2 [] b_times
noncomputable def b_is_word : SF := (sSeq (sIf (tOrF (tNotF (tVal (eUn (isiD "tuple") (eVar 0)))) (tVal (eBin gGt (eA gLen (aCons (eVar 0) aNil)) (eC (.int 5)))))
  (sRet (eC (.bl false)))
  sNx)
  (sSeq (sFor (iT (eVar 0)) (gNm 2)
  (sIf (tOrF (tNotF (tVal (eCall m_is_whole (aCons (eVar 2) aNil)))) (tOrF (tVal (eBin gLt (eVar 2) (eC (.int 0)))) (tVal (eBin gGe (eVar 2) (eVar 1)))))
  (sRet (eC (.bl false)))
  sNx))
  (sRet (eC (.bl true)))))
noncomputable def m_is_word : SF := fnM 3 [] b_is_word
noncomputable def b_is_term : SF := (sSeq (sIf (tOrF (tNotF (tVal (eUn (isiD "tuple") (eVar 0)))) (tVal (eBin gNe (eA gLen (aCons (eVar 0) aNil)) (eC (.int 2)))))
  (sRet (eC (.bl false)))
  sNx)
  (sRet (eAndF (eCall m_is_word (aCons (eBin gIx (eVar 0) (eC (.int 0))) (aCons (eVar 1) aNil))) (eAndF (eCall m_is_number (aCons (eBin gIx (eVar 0) (eC (.int 1))) aNil)) (eBin gNe (eBin gIx (eBin gIx (eVar 0) (eC (.int 1))) (eC (.int 0))) (eC (.int 0)))))))
noncomputable def m_is_term : SF := fnM 2 [] b_is_term
noncomputable def b_rank : SF := (sRet (eA gTup (aCons (eA gLen (aCons (eVar 0) aNil)) (aCons (eVar 0) aNil))))
noncomputable def m_rank : SF := fnM 1 [] b_rank
noncomputable def b_check_sum : SF := (sFor (iEn (aCons (eVar 1) aNil)) (gTp 2 (gsCons (gNm 2) (gsCons (gNm 3) gsNil)))
  (sSeq (sIf (tNotF (tVal (eCall m_is_term (aCons (eVar 3) (aCons (eVar 0) aNil)))))
  sNo
  sNx)
  (sIf (tAndF (tVal (eBin gGt (eVar 2) (eC (.int 0)))) (tVal (eBin gGeR (eCall m_rank (aCons (eBin gIx (eBin gIx (eVar 1) (eBin gSub (eVar 2) (eC (.int 1)))) (eC (.int 0))) aNil)) (eCall m_rank (aCons (eBin gIx (eVar 3) (eC (.int 0))) aNil)))))
  sNo
  sNx)))
noncomputable def m_check_sum : SF := fnM 4 [] b_check_sum
noncomputable def b_gathered : SF := (sRetF (eA gDict (aCons (eVar 0) aNil)))
noncomputable def m_gathered : SF := fnM 1 [] b_gathered
noncomputable def b_told_sum : SF := (sRetF (eLc [1] (iL (eA gSortR (aCons (eVar 0) aNil))) (gNm 1) tTrue (eA gTup (aCons (eVar 1) (aCons (eBin gDget (eVar 0) (eVar 1)) aNil)))))
noncomputable def m_told_sum : SF := fnM 2 [] b_told_sum
noncomputable def b_put_to : SF := (sSeq (sSet 3 (eCall m_plus (aCons (eBor (eDget2 (eVar 0) (eVar 1) (eC (.fr 0)))) (aCons (eVar 2) aNil))))
  (sIf (tVal (eBin gNe (eBin gIx (eVar 3) (eC (.int 0))) (eC (.int 0))))
  (sDp 0 (eVar 3) (eVar 1))
  (sIf (tBor (tVal (eBin gDin (eVar 1) (eVar 0))))
  (sDpop 0 (eVar 1))
  sNx)))
noncomputable def m_put_to : SF := fnM 4 [0] b_put_to
noncomputable def b_check_count : SF := (sIf (tOrF (tNotF (tVal (eCall m_is_whole (aCons (eVar 0) aNil)))) (tOrF (tVal (eBin gLt (eVar 0) (eC (.int 1)))) (tVal (eBin gGt (eVar 0) (eC (.int 4))))))
  sNo
  sNx)
noncomputable def m_check_count : SF := fnM 1 [] b_check_count
noncomputable def b_joined_short : SF := (sSeq (sSetF 3 (eC (.dct [])))
  (sSeq (sFor (iL (eVar 0)) (gTp 2 (gsCons (gNm 4) (gsCons (gNm 5) gsNil)))
  (sFor (iL (eVar 1)) (gTp 2 (gsCons (gNm 6) (gsCons (gNm 7) gsNil)))
  (sIf (tVal (eBin gLe (eBin gAdd (eA gLen (aCons (eVar 4) aNil)) (eA gLen (aCons (eVar 6) aNil))) (eVar 2)))
  (sDrop (eCallO [some 3, none, none] m_put_to (aOwn 3 (aCons (eBin gAdd (eVar 4) (eVar 6)) (aCons (eCall m_times (aCons (eVar 5) (aCons (eVar 7) aNil))) aNil)))))
  sNx)))
  (sRetF (eCallF m_told_sum (aCons (eVar 3) aNil)))))
noncomputable def m_joined_short : SF := fnM 8 [] b_joined_short
noncomputable def b_added_up : SF := (sSeq (sSetF 3 (eC (.dct [])))
  (sSeq (sSet 4 (eA gLst (aCons (eA gTup (aCons (eA gTup aNil) (aCons (eC (.fr 1)) aNil))) aNil)))
  (sSeq (sFor (iL (eVar 1)) (gNm 5)
  (sSeq (sSet 4 (eCall m_joined_short (aCons (eVar 4) (aCons (eVar 0) (aCons (eVar 2) aNil)))))
  (sFor (iL (eVar 4)) (gTp 2 (gsCons (gNm 6) (gsCons (gNm 7) gsNil)))
  (sDrop (eCallO [some 3, none, none] m_put_to (aOwn 3 (aCons (eVar 6) (aCons (eCall m_times (aCons (eVar 7) (aCons (eVar 5) aNil))) aNil))))))))
  (sRetO [] 3))))
noncomputable def m_added_up : SF := fnM 8 [] b_added_up
noncomputable def b_grown_short : SF := (sSeq (sSetF 2 (eCallF m_added_up (aCons (eVar 0) (aCons (eLc [3] (iT (eA gTup (aCons (eC (.int 1)) (aCons (eC (.int 2)) (aCons (eC (.int 6)) (aCons (eC (.int 24)) (aCons (eC (.int 120)) aNil))))))) (gNm 3) tTrue (eCall m_fraction (aCons (eC (.int 1)) (aCons (eVar 3) aNil)))) (aCons (eVar 1) aNil)))))
  (sSeq (sDrop (eCallO [some 2, none, none] m_put_to (aOwn 2 (aCons (eA gTup aNil) (aCons (eC (.fr 1)) aNil)))))
  (sRetF (eCallF m_told_sum (aCons (eVar 2) aNil)))))
noncomputable def m_grown_short : SF := fnM 4 [] b_grown_short
noncomputable def b_logged_short : SF := (sSeq (sSet 2 (eLc [3, 4] (iL (eVar 0)) (gTp 2 (gsCons (gNm 3) (gsCons (gNm 4) gsNil))) (tVal (eBin gNe (eVar 3) (eA gTup aNil))) (eNf (eA gTup (aCons (eVar 3) (aCons (eVar 4) aNil))))))
  (sRetF (eCallF m_told_sum (aCons (eCall m_added_up (aCons (eVar 2) (aCons (eA gLst (aCons (eNf (eA gTup (aCons (eC (.int 1)) (aCons (eC (.int 1)) aNil)))) (aCons (eNf (eA gTup (aCons (eUn gNeg (eC (.int 1))) (aCons (eC (.int 2)) aNil)))) (aCons (eNf (eA gTup (aCons (eC (.int 1)) (aCons (eC (.int 3)) aNil)))) (aCons (eNf (eA gTup (aCons (eUn gNeg (eC (.int 1))) (aCons (eC (.int 4)) aNil)))) (aCons (eNf (eA gTup (aCons (eC (.int 1)) (aCons (eC (.int 5)) aNil)))) aNil)))))) (aCons (eVar 1) aNil)))) aNil))))
noncomputable def m_logged_short : SF := fnM 5 [] b_logged_short
noncomputable def b_grown : SF := (sSeq (sDrop (eCall m_check_count (aCons (eVar 0) aNil)))
  (sSeq (sDrop (eCall m_check_sum (aCons (eVar 0) (aCons (eVar 1) aNil))))
  (sSeq (sIf (tVal (eBin gDin (eA gTup aNil) (eCall m_gathered (aCons (eVar 1) aNil))))
  sNo
  sNx)
  (sRetF (eCallF m_grown_short (aCons (eVar 1) (aCons (eC (.int 5)) aNil)))))))
noncomputable def m_grown : SF := fnM 2 [] b_grown
noncomputable def b_logged : SF := (sSeq (sDrop (eCall m_check_count (aCons (eVar 0) aNil)))
  (sSeq (sDrop (eCall m_check_sum (aCons (eVar 0) (aCons (eVar 1) aNil))))
  (sSeq (sIf (tVal (eBin gNe (eDget2 (eCall m_gathered (aCons (eVar 1) aNil)) (eA gTup aNil) (eC (.fr 0))) (eC (.fr 1))))
  sNo
  sNx)
  (sRetF (eCallF m_logged_short (aCons (eVar 1) (aCons (eC (.int 5)) aNil)))))))
noncomputable def m_logged : SF := fnM 2 [] b_logged
noncomputable def b__law_mixed : SF := (sSeq (sSet 2 (eBin gAdd (eBin gAdd (eBin gMul (eBin gAdd (eBin gMod (eVar 0) (eBin gAdd (eBin gPow (eC (.int 10)) (eC (.int 18))) (eC (.int 9)))) (eBin gMul (eC (.int 7)) (eVar 1))) (eC (.int 739108512309184756019283746561))) (eBin gMul (eC (.int 7919)) (eVar 1))) (eC (.int 1))))
  (sSeq (sSet 2 (eBin gMod (eBin gMul (eVar 2) (eVar 2)) (eBin gAdd (eBin gPow (eC (.int 10)) (eC (.int 60))) (eC (.int 7)))))
  (sRet (eBin gMod (eBin gMul (eBin gAdd (eVar 2) (eC (.int 40503))) (eBin gAdd (eVar 2) (eC (.int 57)))) (eBin gAdd (eBin gPow (eC (.int 10)) (eC (.int 60))) (eC (.int 7)))))))
noncomputable def m__law_mixed : SF := fnM 3 [] b__law_mixed
noncomputable def b__law_purse : SF := (sSeq (sIf (tVal (eBin gGe (eVar 0) (eBin gPow (eC (.int 10)) (eC (.int 18)))))
  (sRetF (eA gLst (aCons (eBin gSub (eVar 0) (eBin gPow (eC (.int 10)) (eC (.int 18)))) (aCons (eC (.int 0)) (aCons (eVar 1) aNil)))))
  sNx)
  (sRetF (eA gLst (aCons (eCall m__law_mixed (aCons (eVar 0) (aCons (eVar 1) aNil))) (aCons (eC (.int 0)) (aCons (eBin gAdd (eBin gMod (eVar 0) (eBin gAdd (eBin gPow (eC (.int 10)) (eC (.int 18))) (eC (.int 9)))) (eVar 1)) aNil))))))
noncomputable def m__law_purse : SF := fnM 2 [] b__law_purse
noncomputable def b__law_take : SF := (sSeq (sIf (tVal (eBin gLt (eBor (eBin gIx (eVar 0) (eC (.int 0)))) (eVar 1)))
  (sSeq (sIx 0 (eBin gAdd (eBor (eBin gIx (eVar 0) (eC (.int 1)))) (eC (.int 1))) (eC (.int 1)))
  (sIx 0 (eBin gAdd (eBor (eBin gIx (eVar 0) (eC (.int 0)))) (eBin gMul (eVar 1) (eCall m__law_mixed (aCons (eBor (eBin gIx (eVar 0) (eC (.int 2)))) (aCons (eBin gAdd (eBin gMul (eC (.int 11)) (eBor (eBin gIx (eVar 0) (eC (.int 1))))) (eC (.int 5))) aNil))))) (eC (.int 0))))
  sNx)
  (sSeq (sSet 2 (eBin gMod (eBor (eBin gIx (eVar 0) (eC (.int 0)))) (eVar 1)))
  (sSeq (sIx 0 (eBin gDiv (eBor (eBin gIx (eVar 0) (eC (.int 0)))) (eVar 1)) (eC (.int 0)))
  (sRet (eVar 2)))))
noncomputable def m__law_take : SF := fnM 3 [0] b__law_take
noncomputable def b__law_at : SF := (sSeq (sIf (tVal (eBin gLt (eVar 1) (eA gLen (aCons (eVar 0) aNil))))
  (sRet (eBin gIx (eVar 0) (eVar 1)))
  sNx)
  (sRet (eBin gAdd (eBin gMul (eC (.int 3)) (eVar 1)) (eC (.int 1)))))
noncomputable def m__law_at : SF := fnM 2 [] b__law_at
noncomputable def b__law_low : SF := (sSeq (sSet 2 (eA gAbs (aCons (eVar 0) aNil)))
  (sSeq (sSet 3 (eVar 1))
  (sSeq (sWh (tVal (eBin gNe (eVar 3) (eC (.int 0))))
  (sPar 2 3 (aCons (eVar 3) (aCons (eBin gMod (eVar 2) (eVar 3)) aNil))))
  (sRet (eNf (eA gTup (aCons (eBin gDiv (eVar 0) (eVar 2)) (aCons (eBin gDiv (eVar 1) (eVar 2)) aNil))))))))
noncomputable def m__law_low : SF := fnM 4 [] b__law_low
noncomputable def b__law_plus : SF := (sRet (eCall m__law_low (aCons (eBin gAdd (eBin gMul (eBin gIx (eVar 0) (eC (.int 0))) (eBin gIx (eVar 1) (eC (.int 1)))) (eBin gMul (eBin gIx (eVar 1) (eC (.int 0))) (eBin gIx (eVar 0) (eC (.int 1))))) (aCons (eBin gMul (eBin gIx (eVar 0) (eC (.int 1))) (eBin gIx (eVar 1) (eC (.int 1)))) aNil))))
noncomputable def m__law_plus : SF := fnM 2 [] b__law_plus
noncomputable def b__law_by : SF := (sRet (eCall m__law_low (aCons (eBin gMul (eBin gIx (eVar 0) (eC (.int 0))) (eBin gIx (eVar 1) (eC (.int 0)))) (aCons (eBin gMul (eBin gIx (eVar 0) (eC (.int 1))) (eBin gIx (eVar 1) (eC (.int 1)))) aNil))))
noncomputable def m__law_by : SF := fnM 2 [] b__law_by
noncomputable def b__law_number : SF := (sSeq (sSet 1 (eCallO [some 0, none] m__law_take (aOwn 0 (aCons (eC (.int 5)) aNil))))
  (sSeq (sIf (tVal (eBin gLt (eVar 1) (eC (.int 3))))
  (sRet (eBin gIx (eA gLst (aCons (eNf (eA gTup (aCons (eC (.int 0)) (aCons (eC (.int 1)) aNil)))) (aCons (eNf (eA gTup (aCons (eC (.int 1)) (aCons (eC (.int 1)) aNil)))) (aCons (eNf (eA gTup (aCons (eUn gNeg (eC (.int 1))) (aCons (eC (.int 1)) aNil)))) aNil)))) (eVar 1)))
  sNx)
  (sSeq (sIf (tVal (eBin gEq (eVar 1) (eC (.int 3))))
  (sRet (eNf (eA gTup (aCons (eBin gSub (eCallO [some 0, none] m__law_take (aOwn 0 (aCons (eC (.int 13)) aNil))) (eC (.int 6))) (aCons (eC (.int 1)) aNil)))))
  sNx)
  (sRet (eCall m__law_low (aCons (eBin gSub (eCallO [some 0, none] m__law_take (aOwn 0 (aCons (eBin gAdd (eBin gMul (eC (.int 2)) (eBin gPow (eC (.int 10)) (eC (.int 3)))) (eC (.int 1))) aNil))) (eBin gPow (eC (.int 10)) (eC (.int 3)))) (aCons (eBin gAdd (eC (.int 1)) (eCallO [some 0, none] m__law_take (aOwn 0 (aCons (eC (.int 9)) aNil)))) aNil)))))))
noncomputable def m__law_number : SF := fnM 2 [0] b__law_number
noncomputable def b__law_rank : SF := (sRet (eA gTup (aCons (eA gLen (aCons (eVar 0) aNil)) (aCons (eVar 0) aNil))))
noncomputable def m__law_rank : SF := fnM 1 [] b__law_rank
noncomputable def b__law_told : SF := (sRetF (eLc [1] (iL (eA gSortR (aCons (eVar 0) aNil))) (gNm 1) tTrue (eA gTup (aCons (eVar 1) (aCons (eBin gDget (eVar 0) (eVar 1)) aNil)))))
noncomputable def m__law_told : SF := fnM 2 [] b__law_told
noncomputable def b__law_put : SF := (sSeq (sDp 0 (eCall m__law_plus (aCons (eBor (eDget2 (eVar 0) (eVar 1) (eNf (eA gTup (aCons (eC (.int 0)) (aCons (eC (.int 1)) aNil)))))) (aCons (eVar 2) aNil))) (eVar 1))
  (sIf (tVal (eBin gEq (eBin gIx (eBor (eBin gDget (eVar 0) (eVar 1))) (eC (.int 0))) (eC (.int 0))))
  (sDpop 0 (eVar 1))
  sNx))
noncomputable def m__law_put : SF := fnM 3 [0] b__law_put
noncomputable def b__law_joined : SF := (sSeq (sSetF 2 (eC (.dct [])))
  (sSeq (sFor (iL (eVar 0)) (gTp 2 (gsCons (gNm 3) (gsCons (gNm 4) gsNil)))
  (sFor (iL (eVar 1)) (gTp 2 (gsCons (gNm 5) (gsCons (gNm 6) gsNil)))
  (sIf (tVal (eBin gLt (eBin gAdd (eA gLen (aCons (eVar 3) aNil)) (eA gLen (aCons (eVar 5) aNil))) (eC (.int 6))))
  (sDrop (eCallO [some 2, none, none] m__law_put (aOwn 2 (aCons (eBin gAdd (eVar 3) (eVar 5)) (aCons (eCall m__law_by (aCons (eVar 4) (aCons (eVar 6) aNil))) aNil)))))
  sNx)))
  (sRet (eCall m__law_told (aCons (eVar 2) aNil)))))
noncomputable def m__law_joined : SF := fnM 7 [] b__law_joined
noncomputable def b__law_powers : SF := (sSeq (sSetF 2 (eC (.dct [])))
  (sSeq (sSet 3 (eA gLst (aCons (eA gTup (aCons (eA gTup aNil) (aCons (eNf (eA gTup (aCons (eC (.int 1)) (aCons (eC (.int 1)) aNil)))) aNil))) aNil)))
  (sSeq (sFor (iL (eVar 1)) (gNm 4)
  (sSeq (sSet 3 (eCall m__law_joined (aCons (eVar 3) (aCons (eVar 0) aNil))))
  (sFor (iL (eVar 3)) (gTp 2 (gsCons (gNm 5) (gsCons (gNm 6) gsNil)))
  (sDrop (eCallO [some 2, none, none] m__law_put (aOwn 2 (aCons (eVar 5) (aCons (eCall m__law_by (aCons (eVar 6) (aCons (eVar 4) aNil))) aNil))))))))
  (sRetO [] 2))))
noncomputable def m__law_powers : SF := fnM 7 [] b__law_powers
noncomputable def b__law_grown : SF := (sSeq (sSetF 1 (eCallF m__law_powers (aCons (eVar 0) (aCons (eA gLst (aCons (eNf (eA gTup (aCons (eC (.int 1)) (aCons (eC (.int 1)) aNil)))) (aCons (eNf (eA gTup (aCons (eC (.int 1)) (aCons (eC (.int 2)) aNil)))) (aCons (eNf (eA gTup (aCons (eC (.int 1)) (aCons (eC (.int 6)) aNil)))) (aCons (eNf (eA gTup (aCons (eC (.int 1)) (aCons (eC (.int 24)) aNil)))) (aCons (eNf (eA gTup (aCons (eC (.int 1)) (aCons (eC (.int 120)) aNil)))) aNil)))))) aNil))))
  (sSeq (sDrop (eCallO [some 1, none, none] m__law_put (aOwn 1 (aCons (eA gTup aNil) (aCons (eNf (eA gTup (aCons (eC (.int 1)) (aCons (eC (.int 1)) aNil)))) aNil)))))
  (sRet (eCall m__law_told (aCons (eVar 1) aNil)))))
noncomputable def m__law_grown : SF := fnM 2 [] b__law_grown
noncomputable def b__law_logged : SF := (sSeq (sSet 1 (eLc [2, 3] (iL (eVar 0)) (gTp 2 (gsCons (gNm 2) (gsCons (gNm 3) gsNil))) (tVal (eBin gNe (eVar 2) (eA gTup aNil))) (eNf (eA gTup (aCons (eVar 2) (aCons (eVar 3) aNil))))))
  (sRet (eCall m__law_told (aCons (eCall m__law_powers (aCons (eVar 1) (aCons (eA gLst (aCons (eNf (eA gTup (aCons (eC (.int 1)) (aCons (eC (.int 1)) aNil)))) (aCons (eNf (eA gTup (aCons (eUn gNeg (eC (.int 1))) (aCons (eC (.int 2)) aNil)))) (aCons (eNf (eA gTup (aCons (eC (.int 1)) (aCons (eC (.int 3)) aNil)))) (aCons (eNf (eA gTup (aCons (eUn gNeg (eC (.int 1))) (aCons (eC (.int 4)) aNil)))) (aCons (eNf (eA gTup (aCons (eC (.int 1)) (aCons (eC (.int 5)) aNil)))) aNil)))))) aNil))) aNil))))
noncomputable def m__law_logged : SF := fnM 4 [] b__law_logged
noncomputable def b__law_drawn : SF := (sSeq (sSetF 2 (eC (.dct [])))
  (sSeq (sSet 3 (eBin gAdd (eC (.int 1)) (eCallO [some 0, none] m__law_take (aOwn 0 (aCons (eC (.int 3)) aNil)))))
  (sSeq (sFor (iR1 (aCons (eCallO [some 0, none] m__law_take (aOwn 0 (aCons (eC (.int 3)) aNil))) aNil)) (gNm 4)
  (sSeq (sSet 5 (eA gTuple (aCons (eLc [7] (iR1 (aCons (eBin gAdd (eC (.int 1)) (eCallO [some 0, none] m__law_take (aOwn 0 (aCons (eVar 3) aNil)))) aNil)) (gNm 7) tTrue (eCallO [some 0, none] m__law_take (aOwn 0 (aCons (eVar 1) aNil)))) aNil)))
  (sSeq (sSet 6 (eCallO [some 0] m__law_number (aOwn 0 aNil)))
  (sIf (tVal (eBin gNe (eBin gIx (eVar 6) (eC (.int 0))) (eC (.int 0))))
  (sDp 2 (eVar 6) (eVar 5))
  sNx))))
  (sRet (eCall m__law_told (aCons (eVar 2) aNil))))))
noncomputable def m__law_drawn : SF := fnM 8 [0] b__law_drawn
noncomputable def b_law : SF := (sSeq (sFor (iR1 (aCons (eBin gAdd (eC (.int 1)) (eA gInt1 (aCons (eBin gGt (eA gLen (aCons (eVar 0) aNil)) (eC (.int 1))) aNil))) aNil)) (gNm 1)
  (sSeq (sSetF 2 (eCallF m__law_purse (aCons (eCall m__law_at (aCons (eVar 0) (aCons (eVar 1) aNil))) (aCons (eVar 1) aNil))))
  (sSeq (sSet 3 (eBin gAdd (eC (.int 1)) (eCallO [some 2, none] m__law_take (aOwn 2 (aCons (eC (.int 4)) aNil)))))
  (sSeq (sSet 4 (eCallO [some 2, none] m__law_drawn (aOwn 2 (aCons (eVar 3) aNil))))
  (sSeq (sSet 5 (eBin gAdd (eA gLst (aCons (eA gTup (aCons (eA gTup aNil) (aCons (eNf (eA gTup (aCons (eC (.int 1)) (aCons (eC (.int 1)) aNil)))) aNil))) aNil)) (eVar 4)))
  (sSeq (sSet 6 (eA gLst (aCons (eCall m__law_grown (aCons (eVar 4) aNil)) (aCons (eCall m__law_logged (aCons (eVar 5) aNil)) aNil))))
  (sSeq (sSet 7 (eA gLst (aCons (eA gList (aCons (eVar 4) aNil)) (aCons (eA gList (aCons (eVar 5) aNil)) aNil))))
  (sFor (iR1 (aCons (eC (.int 2)) aNil)) (gNm 8)
  (sFrz (sTurn 12 9 10 11 (eCallF m_grown (aCons (eVar 3) (aCons (eBin gIx (eVar 7) (eC (.int 0))) aNil))) (eCallF m_logged (aCons (eVar 3) (aCons (eBin gIx (eVar 7) (eC (.int 1))) aNil))) (sIf (tOrF (tVal (eBin gNeS (eA gStr (aCons (eVar 9) aNil)) (eA gStr (aCons (eVar 6) aNil)))) (tVal (eBin gNe (eVar 7) (eA gLst (aCons (eVar 4) (aCons (eVar 5) aNil))))))
  (sRet (eC (.bl false)))
  sNx) (eCallF m_logged (aCons (eVar 3) (aCons (eBin gIx (eVar 9) (eC (.int 0))) aNil))) (eCallF m_grown (aCons (eVar 3) (aCons (eBin gIx (eVar 9) (eC (.int 1))) aNil))) (sIf (tOrF (tVal (eBin gNe (eVar 10) (eA gLst (aCons (eVar 4) (aCons (eVar 5) aNil))))) (tVal (eBin gNe (eVar 9) (eVar 6))))
  (sRet (eC (.bl false)))
  sNx)))))))))))
  (sRet (eC (.bl true))))
noncomputable def m_law : SF := fnM 12 [] b_law
end Sp
namespace Sp
open PySem PySem.Spec PyProof.Rows L2 Sw
def topS (i : Nat) : Stmt := PySem.Challenge.pw_swaprest_k58_grown_and_logged_sums.main.body.getD i (.Pass ⟨0, 0, 0, 0⟩)
abbrev s_is_whole : Stmt := topS 10
abbrev s_divisor : Stmt := topS 11
abbrev s_lowest : Stmt := topS 12
abbrev s_is_number : Stmt := topS 13
abbrev s_fraction : Stmt := topS 14
abbrev s_plus : Stmt := topS 15
abbrev s_times : Stmt := topS 16
abbrev s_is_word : Stmt := topS 19
abbrev s_is_term : Stmt := topS 20
abbrev s_rank : Stmt := topS 21
abbrev s_check_sum : Stmt := topS 22
abbrev s_gathered : Stmt := topS 23
abbrev s_told_sum : Stmt := topS 24
abbrev s_put_to : Stmt := topS 25
abbrev s_check_count : Stmt := topS 28
abbrev s_joined_short : Stmt := topS 30
abbrev s_added_up : Stmt := topS 31
abbrev s_grown_short : Stmt := topS 32
abbrev s_logged_short : Stmt := topS 33
abbrev s_grown : Stmt := topS 34
abbrev s_logged : Stmt := topS 35
abbrev s__law_mixed : Stmt := topS 37
abbrev s__law_purse : Stmt := topS 38
abbrev s__law_take : Stmt := topS 39
abbrev s__law_at : Stmt := topS 40
abbrev s__law_low : Stmt := topS 41
abbrev s__law_plus : Stmt := topS 42
abbrev s__law_by : Stmt := topS 43
abbrev s__law_number : Stmt := topS 44
abbrev s__law_rank : Stmt := topS 45
abbrev s__law_told : Stmt := topS 46
abbrev s__law_put : Stmt := topS 47
abbrev s__law_joined : Stmt := topS 48
abbrev s__law_powers : Stmt := topS 49
abbrev s__law_grown : Stmt := topS 50
abbrev s__law_logged : Stmt := topS 51
abbrev s__law_drawn : Stmt := topS 52
abbrev s_law : Stmt := topS 53
structure Tx (K : PySem.W.Frag) (mg : Str → Option Value) where
  is_whole : Fn K mg "is_whole" "is_whole" s_is_whole ["one"]
  divisor : Fn K mg "divisor" "divisor" s_divisor ["one", "other"]
  lowest : Fn K mg "lowest" "lowest" s_lowest ["top", "bottom"]
  is_number : Fn K mg "is_number" "is_number" s_is_number ["one"]
  fraction : Fn K mg "fraction" "fraction" s_fraction ["top", "bottom"]
  plus : Fn K mg "plus" "plus" s_plus ["one", "other"]
  times : Fn K mg "times" "times" s_times ["one", "other"]
  is_word : Fn K mg "is_word" "is_word" s_is_word ["word", "count"]
  is_term : Fn K mg "is_term" "is_term" s_is_term ["told", "count"]
  rank : Fn K mg "rank" "rank" s_rank ["word"]
  check_sum : Fn K mg "check_sum" "check_sum" s_check_sum ["count", "total"]
  gathered : Fn K mg "gathered" "gathered" s_gathered ["total"]
  told_sum : Fn K mg "told_sum" "told_sum" s_told_sum ["numbers"]
  put_to : Fn K mg "put_to" "put_to" s_put_to ["numbers", "word", "number"]
  check_count : Fn K mg "check_count" "check_count" s_check_count ["count"]
  joined_short : Fn K mg "joined_short" "joined_short" s_joined_short ["one", "other", "most"]
  added_up : Fn K mg "added_up" "added_up" s_added_up ["total", "shares", "most"]
  grown_short : Fn K mg "grown_short" "grown_short" s_grown_short ["total", "most"]
  logged_short : Fn K mg "logged_short" "logged_short" s_logged_short ["total", "most"]
  grown : Fn K mg "grown" "grown" s_grown ["count", "total"]
  logged : Fn K mg "logged" "logged" s_logged ["count", "total"]
  _law_mixed : Fn K mg "_law_mixed" "_law_mixed" s__law_mixed ["_law_cell", "_law_k"]
  _law_purse : Fn K mg "_law_purse" "_law_purse" s__law_purse ["_law_cell", "_law_k"]
  _law_take : Fn K mg "_law_take" "_law_take" s__law_take ["_law_purse_here", "_law_many"]
  _law_at : Fn K mg "_law_at" "_law_at" s__law_at ["_law_script", "_law_k"]
  _law_low : Fn K mg "_law_low" "_law_low" s__law_low ["_law_top", "_law_bottom"]
  _law_plus : Fn K mg "_law_plus" "_law_plus" s__law_plus ["_law_one", "_law_other"]
  _law_by : Fn K mg "_law_by" "_law_by" s__law_by ["_law_one", "_law_other"]
  _law_number : Fn K mg "_law_number" "_law_number" s__law_number ["_law_purse_here"]
  _law_rank : Fn K mg "_law_rank" "_law_rank" s__law_rank ["_law_word"]
  _law_told : Fn K mg "_law_told" "_law_told" s__law_told ["_law_found"]
  _law_put : Fn K mg "_law_put" "_law_put" s__law_put ["_law_found", "_law_word", "_law_number_here"]
  _law_joined : Fn K mg "_law_joined" "_law_joined" s__law_joined ["_law_one", "_law_other"]
  _law_powers : Fn K mg "_law_powers" "_law_powers" s__law_powers ["_law_total", "_law_shares"]
  _law_grown : Fn K mg "_law_grown" "_law_grown" s__law_grown ["_law_total"]
  _law_logged : Fn K mg "_law_logged" "_law_logged" s__law_logged ["_law_total"]
  _law_drawn : Fn K mg "_law_drawn" "_law_drawn" s__law_drawn ["_law_purse_here", "_law_count"]
  law : Fn K mg "law" "law" s_law ["_law_script"]
  b_abs : mg "abs" = none
  b_bool : mg "bool" = none
  b_dict : mg "dict" = none
  b_enumerate : mg "enumerate" = none
  b_int : mg "int" = none
  b_isinstance : mg "isinstance" = none
  b_len : mg "len" = none
  b_list : mg "list" = none
  b_range : mg "range" = none
  b_sorted : mg "sorted" = none
  b_str : mg "str" = none
  b_tuple : mg "tuple" = none
  c_MOST : ∃ v u, mg "MOST" = some u ∧ RelV v u ∧ ∀ F, Rp ⟨K, mg⟩ F (.int 5) v
  c_MOST_LETTERS : ∃ v u, mg "MOST_LETTERS" = some u ∧ RelV v u ∧ ∀ F, Rp ⟨K, mg⟩ F (.int 4) v
  c_NOUGHT : ∃ v u, mg "NOUGHT" = some u ∧ RelV v u ∧ ∀ F, Rp ⟨K, mg⟩ F (.fr 0) v
  c_ONE : ∃ v u, mg "ONE" = some u ∧ RelV v u ∧ ∀ F, Rp ⟨K, mg⟩ F (.fr 1) v
section
variable {Pg : Program} {w : World} {K : PySem.W.Frag} {mg : Str → Option Value} {base : Heap}
theorem sc_is_whole : FnScope ["one"] ["one"] (defScope s_is_whole) := ⟨rfl, rfl, rfl, by decide +kernel, rfl, by decide +kernel, by decide +kernel⟩
theorem ok_is_whole (T : Tx K mg) : FnOk Pg w K mg base CX0 1 T.is_whole.a T.is_whole.fd ["one"] (spM ⟨K, mg⟩ 1 m_is_whole) :=
  fn_ok T.is_whole.F sc_is_whole [] b_is_whole fun cdv A outer s H E hr =>
  (s_one (s_ret (v_and (v_isi "int" T.b_isinstance T.b_int (by decide +kernel) (v_var 0)) (v_and1 (v_not (v_isi "bool" T.b_isinstance T.b_bool (by decide +kernel) (v_var 0)))))))
theorem sc_divisor : FnScope ["one", "other"] ["one", "other"] (defScope s_divisor) := ⟨rfl, rfl, rfl, by decide +kernel, rfl, by decide +kernel, by decide +kernel⟩
theorem ok_divisor (T : Tx K mg) : FnOk Pg w K mg base CX0 1 T.divisor.a T.divisor.fd ["one", "other"] (spM ⟨K, mg⟩ 2 m_divisor) :=
  fn_ok T.divisor.F sc_divisor [] b_divisor fun cdv A outer s H E hr =>
  (s_cons (s_set 0 sc_divisor.nd (by decide) (v_callB c_abs T.b_abs PyProof.Rows.boot_abs (a_cons (v_var 0) a_nil)))
  (s_cons (s_set 1 sc_divisor.nd (by decide) (v_callB c_abs T.b_abs PyProof.Rows.boot_abs (a_cons (v_var 1) a_nil)))
  (s_cons (s_while PassesOwn.never (t_cmp (op_neV hr.units) (v_var 1) v_int)
  (s_one (s_par 0 1 rfl sc_divisor.nd (a_cons (v_var 1) (a_cons (v_bin op_modV (v_var 0) (v_var 1)) a_nil)))))
  (s_one (s_ret (v_var 0))))))
theorem sc_lowest : FnScope ["top", "bottom", "shared"] ["top", "bottom"] (defScope s_lowest) := ⟨rfl, rfl, rfl, by decide +kernel, rfl, by decide +kernel, by decide +kernel⟩
theorem ok_lowest (T : Tx K mg) : FnOk Pg w K mg base CX0 2 T.lowest.a T.lowest.fd ["top", "bottom"] (spM ⟨K, mg⟩ 2 m_lowest) :=
  fn_ok T.lowest.F sc_lowest [] b_lowest fun cdv A outer s H E hr =>
  (s_cons (s_if (t_cmp op_ltV (v_var 1) v_int)
  (s_cons (s_set 0 sc_lowest.nd (by decide) (v_un un_negV (v_var 0)))
  (s_one (s_set 1 sc_lowest.nd (by decide) (v_un un_negV (v_var 1)))))
  s_nil)
  (s_cons (s_set 2 sc_lowest.nd (by decide) (v_call (ok_divisor T) (hr.mono (by decide)) T.divisor.g T.divisor.k T.divisor.b rfl (a_cons (v_var 0) (a_cons (v_var 1) a_nil)) (aCons_len (aCons_len aNil_len))))
  (s_one (s_ret (v_nf (v_tup (a_cons (v_bin op_divV (v_var 0) (v_var 2)) (a_cons (v_bin op_divV (v_var 1) (v_var 2)) a_nil))))))))
theorem sc_is_number : FnScope ["one"] ["one"] (defScope s_is_number) := ⟨rfl, rfl, rfl, by decide +kernel, rfl, by decide +kernel, by decide +kernel⟩
theorem ok_is_number (T : Tx K mg) : FnOk Pg w K mg base CX0 2 T.is_number.a T.is_number.fd ["one"] (spM ⟨K, mg⟩ 1 m_is_number) :=
  fn_ok T.is_number.F sc_is_number [] b_is_number fun cdv A outer s H E hr =>
  (s_cons (s_if (t_w (w_or (t_not (t_val (v_isi "tuple" T.b_isinstance T.b_tuple (by decide +kernel) (v_var 0)))) (w_or1 (t_cmp (op_neV hr.units) (v_callB c_len T.b_len PySem.boot_len (a_cons (v_var 0) a_nil)) v_int))))
  (s_one (s_ret v_bl))
  s_nil)
  (s_cons (s_if (t_w (w_or (t_not (t_val (v_call (ok_is_whole T) (hr.mono (by decide)) T.is_whole.g T.is_whole.k T.is_whole.b rfl (a_cons (v_ix (v_var 0) v_int) a_nil) (aCons_len aNil_len)))) (w_or1 (t_not (t_val (v_call (ok_is_whole T) (hr.mono (by decide)) T.is_whole.g T.is_whole.k T.is_whole.b rfl (a_cons (v_ix (v_var 0) v_int) a_nil) (aCons_len aNil_len)))))))
  (s_one (s_ret v_bl))
  s_nil)
  (s_one (s_ret (v_and (v_cmp op_geV (v_ix (v_var 0) v_int) v_int) (v_and1 (v_cmp (op_eqV hr.units) (v_call (ok_divisor T) (hr.mono (by decide)) T.divisor.g T.divisor.k T.divisor.b rfl (a_cons (v_ix (v_var 0) v_int) (a_cons (v_ix (v_var 0) v_int) a_nil)) (aCons_len (aCons_len aNil_len))) v_int)))))))
theorem sc_fraction : FnScope ["top", "bottom"] ["top", "bottom"] (defScope s_fraction) := ⟨rfl, rfl, rfl, by decide +kernel, rfl, by decide +kernel, by decide +kernel⟩
theorem ok_fraction (T : Tx K mg) : FnOk Pg w K mg base CX0 3 T.fraction.a T.fraction.fd ["top", "bottom"] (spM ⟨K, mg⟩ 2 m_fraction) :=
  fn_ok T.fraction.F sc_fraction [] b_fraction fun cdv A outer s H E hr =>
  (s_cons (s_if (t_cmp (op_eqV hr.units) (v_var 1) v_int)
  (s_one s_never)
  s_nil)
  (s_one (s_ret (v_call (ok_lowest T) (hr.mono (by decide)) T.lowest.g T.lowest.k T.lowest.b rfl (a_cons (v_var 0) (a_cons (v_var 1) a_nil)) (aCons_len (aCons_len aNil_len))))))
theorem sc_plus : FnScope ["one", "other"] ["one", "other"] (defScope s_plus) := ⟨rfl, rfl, rfl, by decide +kernel, rfl, by decide +kernel, by decide +kernel⟩
theorem ok_plus (T : Tx K mg) : FnOk Pg w K mg base CX0 3 T.plus.a T.plus.fd ["one", "other"] (spM ⟨K, mg⟩ 2 m_plus) :=
  fn_ok T.plus.F sc_plus [] b_plus fun cdv A outer s H E hr =>
  (s_cons (s_if (t_w (w_and (t_cmp (op_eqV hr.units) (v_ix (v_var 0) v_int) v_int) (w_and1 (t_cmp (op_eqV hr.units) (v_ix (v_var 1) v_int) v_int))))
  (s_one (s_ret (v_nf (v_tup (a_cons (v_bin op_addV (v_ix (v_var 0) v_int) (v_ix (v_var 1) v_int)) (a_cons v_int a_nil))))))
  s_nil)
  (s_one (s_ret (v_call (ok_lowest T) (hr.mono (by decide)) T.lowest.g T.lowest.k T.lowest.b rfl (a_cons (v_bin op_addV (v_bin op_mulV (v_ix (v_var 0) v_int) (v_ix (v_var 1) v_int)) (v_bin op_mulV (v_ix (v_var 1) v_int) (v_ix (v_var 0) v_int))) (a_cons (v_bin op_mulV (v_ix (v_var 0) v_int) (v_ix (v_var 1) v_int)) a_nil)) (aCons_len (aCons_len aNil_len))))))
theorem sc_times : FnScope ["one", "other"] ["one", "other"] (defScope s_times) := ⟨rfl, rfl, rfl, by decide +kernel, rfl, by decide +kernel, by decide +kernel⟩
theorem ok_times (T : Tx K mg) : FnOk Pg w K mg base CX0 3 T.times.a T.times.fd ["one", "other"] (spM ⟨K, mg⟩ 2 m_times) :=
  fn_ok T.times.F sc_times [] b_times fun cdv A outer s H E hr =>
  (s_cons (s_if (t_w (w_and (t_cmp (op_eqV hr.units) (v_ix (v_var 0) v_int) v_int) (w_and1 (t_cmp (op_eqV hr.units) (v_ix (v_var 1) v_int) v_int))))
  (s_one (s_ret (v_nf (v_tup (a_cons (v_bin op_mulV (v_ix (v_var 0) v_int) (v_ix (v_var 1) v_int)) (a_cons v_int a_nil))))))
  s_nil)
  (s_one (s_ret (v_call (ok_lowest T) (hr.mono (by decide)) T.lowest.g T.lowest.k T.lowest.b rfl (a_cons (v_bin op_mulV (v_ix (v_var 0) v_int) (v_ix (v_var 1) v_int)) (a_cons (v_bin op_mulV (v_ix (v_var 0) v_int) (v_ix (v_var 1) v_int)) a_nil)) (aCons_len (aCons_len aNil_len))))))
theorem sc_is_word : FnScope ["word", "count", "way"] ["word", "count"] (defScope s_is_word) := ⟨rfl, rfl, rfl, by decide +kernel, rfl, by decide +kernel, by decide +kernel⟩
theorem ok_is_word (T : Tx K mg) : FnOk Pg w K mg base CX0 2 T.is_word.a T.is_word.fd ["word", "count"] (spM ⟨K, mg⟩ 2 m_is_word) :=
  fn_ok T.is_word.F sc_is_word [] b_is_word fun cdv A outer s H E hr =>
  (s_cons (s_if (t_w (w_or (t_not (t_val (v_isi "tuple" T.b_isinstance T.b_tuple (by decide +kernel) (v_var 0)))) (w_or1 (t_cmp op_gtV (v_callB c_len T.b_len PySem.boot_len (a_cons (v_var 0) a_nil)) (v_globE T.c_MOST)))))
  (s_one (s_ret v_bl))
  s_nil)
  (s_cons (s_for (T := [2]) PassesOwn.never rfl (i_tup (v_var 0)) (g_name 2 sc_is_word.nd)
  (s_one (s_if (t_w (w_or (t_not (t_val (v_call (ok_is_whole T) (hr.mono (by decide)) T.is_whole.g T.is_whole.k T.is_whole.b rfl (a_cons (v_var 2) a_nil) (aCons_len aNil_len)))) (w_or (t_cmp op_ltV (v_var 2) v_int) (w_or1 (t_cmp op_geV (v_var 2) (v_var 1))))))
  (s_one (s_ret v_bl))
  s_nil)))
  (s_one (s_ret v_bl))))
theorem sc_is_term : FnScope ["told", "count"] ["told", "count"] (defScope s_is_term) := ⟨rfl, rfl, rfl, by decide +kernel, rfl, by decide +kernel, by decide +kernel⟩
theorem ok_is_term (T : Tx K mg) : FnOk Pg w K mg base CX0 3 T.is_term.a T.is_term.fd ["told", "count"] (spM ⟨K, mg⟩ 2 m_is_term) :=
  fn_ok T.is_term.F sc_is_term [] b_is_term fun cdv A outer s H E hr =>
  (s_cons (s_if (t_w (w_or (t_not (t_val (v_isi "tuple" T.b_isinstance T.b_tuple (by decide +kernel) (v_var 0)))) (w_or1 (t_cmp (op_neV hr.units) (v_callB c_len T.b_len PySem.boot_len (a_cons (v_var 0) a_nil)) v_int))))
  (s_one (s_ret v_bl))
  s_nil)
  (s_one (s_ret (v_and (v_call (ok_is_word T) (hr.mono (by decide)) T.is_word.g T.is_word.k T.is_word.b rfl (a_cons (v_ix (v_var 0) v_int) (a_cons (v_var 1) a_nil)) (aCons_len (aCons_len aNil_len))) (v_and (v_call (ok_is_number T) (hr.mono (by decide)) T.is_number.g T.is_number.k T.is_number.b rfl (a_cons (v_ix (v_var 0) v_int) a_nil) (aCons_len aNil_len)) (v_and1 (v_cmp (op_neV hr.units) (v_ix (v_ix (v_var 0) v_int) v_int) v_int)))))))
theorem sc_rank : FnScope ["word"] ["word"] (defScope s_rank) := ⟨rfl, rfl, rfl, by decide +kernel, rfl, by decide +kernel, by decide +kernel⟩
theorem ok_rank (T : Tx K mg) : FnOk Pg w K mg base CX0 1 T.rank.a T.rank.fd ["word"] (spM ⟨K, mg⟩ 1 m_rank) :=
  fn_ok T.rank.F sc_rank [] b_rank fun cdv A outer s H E hr =>
  (s_one (s_ret (v_tup (a_cons (v_callB c_len T.b_len PySem.boot_len (a_cons (v_var 0) a_nil)) (a_cons (v_var 0) a_nil)))))
theorem sc_check_sum : FnScope ["count", "total", "place", "told"] ["count", "total"] (defScope s_check_sum) := ⟨rfl, rfl, rfl, by decide +kernel, rfl, by decide +kernel, by decide +kernel⟩
theorem ok_check_sum (T : Tx K mg) : FnOk Pg w K mg base CX0 4 T.check_sum.a T.check_sum.fd ["count", "total"] (spM ⟨K, mg⟩ 2 m_check_sum) :=
  fn_ok T.check_sum.F sc_check_sum [] b_check_sum fun cdv A outer s H E hr =>
  (s_one (s_for (T := [2, 3]) PassesOwn.never rfl (i_enum T.b_enumerate (a_cons (v_var 1) a_nil)) (g_tup rfl (gs_cons (g_name 2 sc_check_sum.nd) (gs_cons (g_name 3 sc_check_sum.nd) gs_nil)))
  (s_cons (s_if (t_not (t_val (v_call (ok_is_term T) (hr.mono (by decide)) T.is_term.g T.is_term.k T.is_term.b rfl (a_cons (v_var 3) (a_cons (v_var 0) a_nil)) (aCons_len (aCons_len aNil_len)))))
  (s_one s_never)
  s_nil)
  (s_one (s_if (t_w (w_and (t_cmp op_gtV (v_var 2) v_int) (w_and1 (t_cmp (op_geR hr.units) (v_call (ok_rank T) (hr.mono (by decide)) T.rank.g T.rank.k T.rank.b rfl (a_cons (v_ix (v_ix (v_var 1) (v_bin op_subV (v_var 2) v_int)) v_int) a_nil) (aCons_len aNil_len)) (v_call (ok_rank T) (hr.mono (by decide)) T.rank.g T.rank.k T.rank.b rfl (a_cons (v_ix (v_var 3) v_int) a_nil) (aCons_len aNil_len))))))
  (s_one s_never)
  s_nil)))))
theorem sc_gathered : FnScope ["total"] ["total"] (defScope s_gathered) := ⟨rfl, rfl, rfl, by decide +kernel, rfl, by decide +kernel, by decide +kernel⟩
theorem ok_gathered (T : Tx K mg) : FnOk Pg w K mg base CX0 1 T.gathered.a T.gathered.fd ["total"] (spM ⟨K, mg⟩ 1 m_gathered) :=
  fn_ok T.gathered.F sc_gathered [] b_gathered fun cdv A outer s H E hr =>
  (s_one (s_retF (f_callT (c_dict rfl hr.units) T.b_dict (by decide +kernel) (a_cons (v_var 0) a_nil))))
theorem sc_told_sum : FnScope ["numbers", "word"] ["numbers"] (defScope s_told_sum) := ⟨rfl, rfl, rfl, by decide +kernel, rfl, by decide +kernel, by decide +kernel⟩
theorem ok_told_sum (T : Tx K mg) : FnOk Pg w K mg base CX0 2 T.told_sum.a T.told_sum.fd ["numbers"] (spM ⟨K, mg⟩ 1 m_told_sum) :=
  fn_ok T.told_sum.F sc_told_sum [] b_told_sum fun cdv A outer s H E hr =>
  (s_one (s_retF (f_lc (own := [("word", 1)]) rfl sc_told_sum.nd (i_list (v_new (f_sortR (rank_pure T.rank.F sc_rank T.rank.b T.b_len rfl (fun _ _ _ _ _ _ => rfl) (Or.inl rfl) (by decide) (by decide)) rfl (hr.mono (by decide)) T.rank.g T.b_sorted (by decide +kernel) (v_var 0)))) (blkOk_by (N := ["numbers", "word"]) (sc := defScope s_told_sum) (by decide +kernel)) (fun _ _ _ _ _ => (g_name 1 sc_told_sum.nd)) (fun _ _ _ _ _ => ts_nil) (fun _ _ _ _ _ => (v_tup (a_cons (v_var 1) (a_cons (v_dget (hu_of hr) (v_var 0) (v_var 1)) a_nil)))))))
theorem sc_put_to : FnScope ["numbers", "word", "number", "new"] ["numbers", "word", "number"] (defScope s_put_to) := ⟨rfl, rfl, rfl, by decide +kernel, rfl, by decide +kernel, by decide +kernel⟩
theorem ok_put_to (T : Tx K mg) : FnOk Pg w K mg base CX0 4 T.put_to.a T.put_to.fd ["numbers", "word", "number"] (spM ⟨K, mg⟩ 3 m_put_to) :=
  fn_ok T.put_to.F sc_put_to [0] b_put_to fun cdv A outer s H E hr =>
  (s_cons (s_set 3 sc_put_to.nd (by decide) (v_call (ok_plus T) (hr.mono (by decide)) T.plus.g T.plus.k T.plus.b rfl (a_cons (v_bor (v_dget2 (hu_of hr) (v_var 0) (v_var 1) (v_globE T.c_NOUGHT) ⟨rfl, rfl, rfl, rfl⟩)) (a_cons (v_var 2) a_nil)) (aCons_len (aCons_len aNil_len))))
  (s_one (s_if (t_cmp (op_neV hr.units) (v_ix (v_var 3) v_int) v_int)
  (s_one (s_dput 0 (hu_of hr) (v_var 3) (pv 0) (v_var 1)))
  (s_one (s_if (t_bor (t_din (hu_of hr) (v_var 1) (v_var 0)))
  (s_one (s_dpop 0 (pv 0) (pe_bm PySem.F.plainAttrs_dict PySem.F.slot_dict_pop PySem.F.type_dict_pop (mt_popK (hu_of hr)) (pv 0) (pa_cons (v_var 1) pa_nil))))
  s_nil)))))
theorem sc_check_count : FnScope ["count"] ["count"] (defScope s_check_count) := ⟨rfl, rfl, rfl, by decide +kernel, rfl, by decide +kernel, by decide +kernel⟩
theorem ok_check_count (T : Tx K mg) : FnOk Pg w K mg base CX0 2 T.check_count.a T.check_count.fd ["count"] (spM ⟨K, mg⟩ 1 m_check_count) :=
  fn_ok T.check_count.F sc_check_count [] b_check_count fun cdv A outer s H E hr =>
  (s_one (s_if (t_w (w_or (t_not (t_val (v_call (ok_is_whole T) (hr.mono (by decide)) T.is_whole.g T.is_whole.k T.is_whole.b rfl (a_cons (v_var 0) a_nil) (aCons_len aNil_len)))) (w_or (t_cmp op_ltV (v_var 0) v_int) (w_or1 (t_cmp op_gtV (v_var 0) (v_globE T.c_MOST_LETTERS))))))
  (s_one s_never)
  s_nil))
theorem sc_joined_short : FnScope ["one", "other", "most", "numbers", "word", "number", "behind", "much"] ["one", "other", "most"] (defScope s_joined_short) := ⟨rfl, rfl, rfl, by decide +kernel, rfl, by decide +kernel, by decide +kernel⟩
theorem ok_joined_short (T : Tx K mg) : FnOk Pg w K mg base CX0 5 T.joined_short.a T.joined_short.fd ["one", "other", "most"] (spM ⟨K, mg⟩ 3 m_joined_short) :=
  fn_ok T.joined_short.F sc_joined_short [] b_joined_short fun cdv A outer s H E hr =>
  (s_cons (s_setF 3 sc_joined_short.nd (by decide) f_dnew)
  (s_cons (s_for (T := [4, 5]) PassesOwn.never rfl (i_list (v_var 0)) (g_tup rfl (gs_cons (g_name 4 sc_joined_short.nd) (gs_cons (g_name 5 sc_joined_short.nd) gs_nil)))
  (s_one (s_for (T := [6, 7]) PassesOwn.never rfl (i_list (v_var 1)) (g_tup rfl (gs_cons (g_name 6 sc_joined_short.nd) (gs_cons (g_name 7 sc_joined_short.nd) gs_nil)))
  (s_one (s_if (t_cmp op_leV (v_bin op_addV (v_callB c_len T.b_len PySem.boot_len (a_cons (v_var 4) a_nil)) (v_callB c_len T.b_len PySem.boot_len (a_cons (v_var 6) a_nil))) (v_var 2))
  (s_one (s_expr (v_callO (ix := [some 3, none, none]) (ok_put_to T) (hr.mono (by decide)) T.put_to.g T.put_to.k T.put_to.b rfl (o_own 3 (o_cons (v_bin op_addV (v_var 4) (v_var 6)) (o_cons (v_call (ok_times T) (hr.mono (by decide)) T.times.g T.times.k T.times.b rfl (a_cons (v_var 5) (a_cons (v_var 7) a_nil)) (aCons_len (aCons_len aNil_len))) o_nil))))))
  s_nil)))))
  (s_one (s_retF (f_call (ok_told_sum T) (hr.mono (by decide)) T.told_sum.g T.told_sum.k T.told_sum.b rfl (a_cons (v_var 3) a_nil) (aCons_len aNil_len))))))
theorem sc_added_up : FnScope ["total", "shares", "most", "numbers", "power", "share", "word", "number"] ["total", "shares", "most"] (defScope s_added_up) := ⟨rfl, rfl, rfl, by decide +kernel, rfl, by decide +kernel, by decide +kernel⟩
theorem ok_added_up (T : Tx K mg) : FnOk Pg w K mg base CX0 6 T.added_up.a T.added_up.fd ["total", "shares", "most"] (spM ⟨K, mg⟩ 3 m_added_up) :=
  fn_ok T.added_up.F sc_added_up [] b_added_up fun cdv A outer s H E hr =>
  (s_cons (s_setF 3 sc_added_up.nd (by decide) f_dnew)
  (s_cons (s_set 4 sc_added_up.nd (by decide) (v_new (f_lst (a_cons (v_tup (a_cons (v_tup a_nil) (a_cons (v_globE T.c_ONE) a_nil))) a_nil))))
  (s_cons (s_for (T := [5]) PassesOwn.never rfl (i_list (v_var 1)) (g_name 5 sc_added_up.nd)
  (s_cons (s_set 4 sc_added_up.nd (by decide) (v_call (ok_joined_short T) (hr.mono (by decide)) T.joined_short.g T.joined_short.k T.joined_short.b rfl (a_cons (v_var 4) (a_cons (v_var 0) (a_cons (v_var 2) a_nil))) (aCons_len (aCons_len (aCons_len aNil_len)))))
  (s_one (s_for (T := [6, 7]) PassesOwn.never rfl (i_list (v_var 4)) (g_tup rfl (gs_cons (g_name 6 sc_added_up.nd) (gs_cons (g_name 7 sc_added_up.nd) gs_nil)))
  (s_one (s_expr (v_callO (ix := [some 3, none, none]) (ok_put_to T) (hr.mono (by decide)) T.put_to.g T.put_to.k T.put_to.b rfl (o_own 3 (o_cons (v_var 6) (o_cons (v_call (ok_times T) (hr.mono (by decide)) T.times.g T.times.k T.times.b rfl (a_cons (v_var 7) (a_cons (v_var 5) a_nil)) (aCons_len (aCons_len aNil_len))) o_nil))))))))))
  (s_one (s_retO 3 (by decide))))))
theorem sc_grown_short : FnScope ["total", "most", "numbers", "whole"] ["total", "most"] (defScope s_grown_short) := ⟨rfl, rfl, rfl, by decide +kernel, rfl, by decide +kernel, by decide +kernel⟩
theorem ok_grown_short (T : Tx K mg) : FnOk Pg w K mg base CX0 7 T.grown_short.a T.grown_short.fd ["total", "most"] (spM ⟨K, mg⟩ 2 m_grown_short) :=
  fn_ok T.grown_short.F sc_grown_short [] b_grown_short fun cdv A outer s H E hr =>
  (s_cons (s_setF 2 sc_grown_short.nd (by decide) (f_call (ok_added_up T) (hr.mono (by decide)) T.added_up.g T.added_up.k T.added_up.b rfl (a_cons (v_var 0) (a_cons (v_new (f_lc (own := [("whole", 3)]) rfl sc_grown_short.nd (i_tup (v_tup (a_cons v_int (a_cons v_int (a_cons v_int (a_cons v_int (a_cons v_int a_nil))))))) (blkOk_by (N := ["total", "most", "numbers", "whole"]) (sc := defScope s_grown_short) (by decide +kernel)) (fun _ _ _ _ _ => (g_name 3 sc_grown_short.nd)) (fun _ _ _ _ _ => ts_nil) (fun _ _ _ _ _ => (v_call (ok_fraction T) (hr.mono (by decide)) T.fraction.g T.fraction.k T.fraction.b rfl (a_cons v_int (a_cons (v_var 3) a_nil)) (aCons_len (aCons_len aNil_len)))))) (a_cons (v_var 1) a_nil))) (aCons_len (aCons_len (aCons_len aNil_len)))))
  (s_cons (s_expr (v_callO (ix := [some 2, none, none]) (ok_put_to T) (hr.mono (by decide)) T.put_to.g T.put_to.k T.put_to.b rfl (o_own 2 (o_cons (v_tup a_nil) (o_cons (v_globE T.c_ONE) o_nil)))))
  (s_one (s_retF (f_call (ok_told_sum T) (hr.mono (by decide)) T.told_sum.g T.told_sum.k T.told_sum.b rfl (a_cons (v_var 2) a_nil) (aCons_len aNil_len))))))
theorem sc_logged_short : FnScope ["total", "most", "rest", "word", "number"] ["total", "most"] (defScope s_logged_short) := ⟨rfl, rfl, rfl, by decide +kernel, rfl, by decide +kernel, by decide +kernel⟩
theorem ok_logged_short (T : Tx K mg) : FnOk Pg w K mg base CX0 7 T.logged_short.a T.logged_short.fd ["total", "most"] (spM ⟨K, mg⟩ 2 m_logged_short) :=
  fn_ok T.logged_short.F sc_logged_short [] b_logged_short fun cdv A outer s H E hr =>
  (s_cons (s_setLc (own := [("word", 3), ("number", 4)]) 2 rfl sc_logged_short.nd (by decide) (i_list (v_var 0)) (blkOk_by (N := ["total", "most", "rest", "word", "number"]) (sc := defScope s_logged_short) (by decide +kernel)) (fun _ _ _ _ _ => (g_tup rfl (gs_cons (g_name 3 sc_logged_short.nd) (gs_cons (g_name 4 sc_logged_short.nd) gs_nil)))) (fun _ _ _ _ _ => (ts_one (t_cmp (op_neV hr.units) (v_var 3) (v_tup a_nil)))) (fun _ _ _ _ _ => (v_nf (v_tup (a_cons (v_var 3) (a_cons (v_var 4) a_nil))))) (sw_true rfl rfl rfl (by decide +kernel)))
  (s_one (s_retF (f_call (ok_told_sum T) (hr.mono (by decide)) T.told_sum.g T.told_sum.k T.told_sum.b rfl (a_cons (v_call (ok_added_up T) (hr.mono (by decide)) T.added_up.g T.added_up.k T.added_up.b rfl (a_cons (v_var 2) (a_cons (v_new (f_lst (a_cons (v_nf (v_tup (a_cons v_int (a_cons v_int a_nil)))) (a_cons (v_nf (v_tup (a_cons (v_un un_negV v_int) (a_cons v_int a_nil)))) (a_cons (v_nf (v_tup (a_cons v_int (a_cons v_int a_nil)))) (a_cons (v_nf (v_tup (a_cons (v_un un_negV v_int) (a_cons v_int a_nil)))) (a_cons (v_nf (v_tup (a_cons v_int (a_cons v_int a_nil)))) a_nil))))))) (a_cons (v_var 1) a_nil))) (aCons_len (aCons_len (aCons_len aNil_len)))) a_nil) (aCons_len aNil_len)))))
theorem sc_grown : FnScope ["count", "total"] ["count", "total"] (defScope s_grown) := ⟨rfl, rfl, rfl, by decide +kernel, rfl, by decide +kernel, by decide +kernel⟩
theorem ok_grown (T : Tx K mg) : FnOk Pg w K mg base CX0 8 T.grown.a T.grown.fd ["count", "total"] (spM ⟨K, mg⟩ 2 m_grown) :=
  fn_ok T.grown.F sc_grown [] b_grown fun cdv A outer s H E hr =>
  (s_cons (s_expr (v_call (ok_check_count T) (hr.mono (by decide)) T.check_count.g T.check_count.k T.check_count.b rfl (a_cons (v_var 0) a_nil) (aCons_len aNil_len)))
  (s_cons (s_expr (v_call (ok_check_sum T) (hr.mono (by decide)) T.check_sum.g T.check_sum.k T.check_sum.b rfl (a_cons (v_var 0) (a_cons (v_var 1) a_nil)) (aCons_len (aCons_len aNil_len))))
  (s_cons (s_if (t_din (hu_of hr) (v_tup a_nil) (v_call (ok_gathered T) (hr.mono (by decide)) T.gathered.g T.gathered.k T.gathered.b rfl (a_cons (v_var 1) a_nil) (aCons_len aNil_len)))
  (s_one s_never)
  s_nil)
  (s_one (s_retF (f_call (ok_grown_short T) (hr.mono (by decide)) T.grown_short.g T.grown_short.k T.grown_short.b rfl (a_cons (v_var 1) (a_cons (v_globE T.c_MOST) a_nil)) (aCons_len (aCons_len aNil_len))))))))
theorem sc_logged : FnScope ["count", "total"] ["count", "total"] (defScope s_logged) := ⟨rfl, rfl, rfl, by decide +kernel, rfl, by decide +kernel, by decide +kernel⟩
theorem ok_logged (T : Tx K mg) : FnOk Pg w K mg base CX0 8 T.logged.a T.logged.fd ["count", "total"] (spM ⟨K, mg⟩ 2 m_logged) :=
  fn_ok T.logged.F sc_logged [] b_logged fun cdv A outer s H E hr =>
  (s_cons (s_expr (v_call (ok_check_count T) (hr.mono (by decide)) T.check_count.g T.check_count.k T.check_count.b rfl (a_cons (v_var 0) a_nil) (aCons_len aNil_len)))
  (s_cons (s_expr (v_call (ok_check_sum T) (hr.mono (by decide)) T.check_sum.g T.check_sum.k T.check_sum.b rfl (a_cons (v_var 0) (a_cons (v_var 1) a_nil)) (aCons_len (aCons_len aNil_len))))
  (s_cons (s_if (t_cmp (op_neV hr.units) (v_dget2 (hu_of hr) (v_call (ok_gathered T) (hr.mono (by decide)) T.gathered.g T.gathered.k T.gathered.b rfl (a_cons (v_var 1) a_nil) (aCons_len aNil_len)) (v_tup a_nil) (v_globE T.c_NOUGHT) ⟨rfl, rfl, rfl, rfl⟩) (v_globE T.c_ONE))
  (s_one s_never)
  s_nil)
  (s_one (s_retF (f_call (ok_logged_short T) (hr.mono (by decide)) T.logged_short.g T.logged_short.k T.logged_short.b rfl (a_cons (v_var 1) (a_cons (v_globE T.c_MOST) a_nil)) (aCons_len (aCons_len aNil_len))))))))
theorem sc__law_mixed : FnScope ["_law_cell", "_law_k", "_law_number_here"] ["_law_cell", "_law_k"] (defScope s__law_mixed) := ⟨rfl, rfl, rfl, by decide +kernel, rfl, by decide +kernel, by decide +kernel⟩
theorem ok__law_mixed (T : Tx K mg) : FnOk Pg w K mg base CX0 1 T._law_mixed.a T._law_mixed.fd ["_law_cell", "_law_k"] (spM ⟨K, mg⟩ 2 m__law_mixed) :=
  fn_ok T._law_mixed.F sc__law_mixed [] b__law_mixed fun cdv A outer s H E hr =>
  (s_cons (s_set 2 sc__law_mixed.nd (by decide) (v_bin op_addV (v_bin op_addV (v_bin op_mulV (v_bin op_addV (v_bin op_modV (v_var 0) (v_bin op_addV (v_bin op_powV v_int v_int) v_int)) (v_bin op_mulV v_int (v_var 1))) v_int) (v_bin op_mulV v_int (v_var 1))) v_int))
  (s_cons (s_set 2 sc__law_mixed.nd (by decide) (v_bin op_modV (v_bin op_mulV (v_var 2) (v_var 2)) (v_bin op_addV (v_bin op_powV v_int v_int) v_int)))
  (s_one (s_ret (v_bin op_modV (v_bin op_mulV (v_bin op_addV (v_var 2) v_int) (v_bin op_addV (v_var 2) v_int)) (v_bin op_addV (v_bin op_powV v_int v_int) v_int))))))
theorem sc__law_purse : FnScope ["_law_cell", "_law_k"] ["_law_cell", "_law_k"] (defScope s__law_purse) := ⟨rfl, rfl, rfl, by decide +kernel, rfl, by decide +kernel, by decide +kernel⟩
theorem ok__law_purse (T : Tx K mg) : FnOk Pg w K mg base CX0 2 T._law_purse.a T._law_purse.fd ["_law_cell", "_law_k"] (spM ⟨K, mg⟩ 2 m__law_purse) :=
  fn_ok T._law_purse.F sc__law_purse [] b__law_purse fun cdv A outer s H E hr =>
  (s_cons (s_if (t_cmp op_geV (v_var 0) (v_bin op_powV v_int v_int))
  (s_one (s_retF (f_lst (a_cons (v_bin op_subV (v_var 0) (v_bin op_powV v_int v_int)) (a_cons v_int (a_cons (v_var 1) a_nil))))))
  s_nil)
  (s_one (s_retF (f_lst (a_cons (v_call (ok__law_mixed T) (hr.mono (by decide)) T._law_mixed.g T._law_mixed.k T._law_mixed.b rfl (a_cons (v_var 0) (a_cons (v_var 1) a_nil)) (aCons_len (aCons_len aNil_len))) (a_cons v_int (a_cons (v_bin op_addV (v_bin op_modV (v_var 0) (v_bin op_addV (v_bin op_powV v_int v_int) v_int)) (v_var 1)) a_nil)))))))
theorem sc__law_take : FnScope ["_law_purse_here", "_law_many", "_law_got"] ["_law_purse_here", "_law_many"] (defScope s__law_take) := ⟨rfl, rfl, rfl, by decide +kernel, rfl, by decide +kernel, by decide +kernel⟩
theorem ok__law_take (T : Tx K mg) : FnOk Pg w K mg base CX0 2 T._law_take.a T._law_take.fd ["_law_purse_here", "_law_many"] (spM ⟨K, mg⟩ 2 m__law_take) :=
  fn_ok T._law_take.F sc__law_take [0] b__law_take fun cdv A outer s H E hr =>
  (s_cons (s_if (t_cmp op_ltV (v_bor (v_ix (v_var 0) v_int)) (v_var 1))
  (s_cons (s_setIx 0 (v_bin op_addV (v_bor (v_ix (v_var 0) v_int)) v_int) (pv 0) v_int)
  (s_one (s_setIx 0 (v_bin op_addV (v_bor (v_ix (v_var 0) v_int)) (v_bin op_mulV (v_var 1) (v_call (ok__law_mixed T) (hr.mono (by decide)) T._law_mixed.g T._law_mixed.k T._law_mixed.b rfl (a_cons (v_bor (v_ix (v_var 0) v_int)) (a_cons (v_bin op_addV (v_bin op_mulV v_int (v_bor (v_ix (v_var 0) v_int))) v_int) a_nil)) (aCons_len (aCons_len aNil_len))))) (pv 0) v_int)))
  s_nil)
  (s_cons (s_set 2 sc__law_take.nd (by decide) (v_bin op_modV (v_bor (v_ix (v_var 0) v_int)) (v_var 1)))
  (s_cons (s_setIx 0 (v_bin op_divV (v_bor (v_ix (v_var 0) v_int)) (v_var 1)) (pv 0) v_int)
  (s_one (s_ret (v_var 2))))))
theorem sc__law_at : FnScope ["_law_script", "_law_k"] ["_law_script", "_law_k"] (defScope s__law_at) := ⟨rfl, rfl, rfl, by decide +kernel, rfl, by decide +kernel, by decide +kernel⟩
theorem ok__law_at (T : Tx K mg) : FnOk Pg w K mg base CX0 1 T._law_at.a T._law_at.fd ["_law_script", "_law_k"] (spM ⟨K, mg⟩ 2 m__law_at) :=
  fn_ok T._law_at.F sc__law_at [] b__law_at fun cdv A outer s H E hr =>
  (s_cons (s_if (t_cmp op_ltV (v_var 1) (v_callB c_len T.b_len PySem.boot_len (a_cons (v_var 0) a_nil)))
  (s_one (s_ret (v_ix (v_var 0) (v_var 1))))
  s_nil)
  (s_one (s_ret (v_bin op_addV (v_bin op_mulV v_int (v_var 1)) v_int))))
theorem sc__law_low : FnScope ["_law_top", "_law_bottom", "_law_one", "_law_other"] ["_law_top", "_law_bottom"] (defScope s__law_low) := ⟨rfl, rfl, rfl, by decide +kernel, rfl, by decide +kernel, by decide +kernel⟩
theorem ok__law_low (T : Tx K mg) : FnOk Pg w K mg base CX0 1 T._law_low.a T._law_low.fd ["_law_top", "_law_bottom"] (spM ⟨K, mg⟩ 2 m__law_low) :=
  fn_ok T._law_low.F sc__law_low [] b__law_low fun cdv A outer s H E hr =>
  (s_cons (s_set 2 sc__law_low.nd (by decide) (v_callB c_abs T.b_abs PyProof.Rows.boot_abs (a_cons (v_var 0) a_nil)))
  (s_cons (s_set 3 sc__law_low.nd (by decide) (v_var 1))
  (s_cons (s_while PassesOwn.never (t_cmp (op_neV hr.units) (v_var 3) v_int)
  (s_one (s_par 2 3 rfl sc__law_low.nd (a_cons (v_var 3) (a_cons (v_bin op_modV (v_var 2) (v_var 3)) a_nil)))))
  (s_one (s_ret (v_nf (v_tup (a_cons (v_bin op_divV (v_var 0) (v_var 2)) (a_cons (v_bin op_divV (v_var 1) (v_var 2)) a_nil)))))))))
theorem sc__law_plus : FnScope ["_law_one", "_law_other"] ["_law_one", "_law_other"] (defScope s__law_plus) := ⟨rfl, rfl, rfl, by decide +kernel, rfl, by decide +kernel, by decide +kernel⟩
theorem ok__law_plus (T : Tx K mg) : FnOk Pg w K mg base CX0 2 T._law_plus.a T._law_plus.fd ["_law_one", "_law_other"] (spM ⟨K, mg⟩ 2 m__law_plus) :=
  fn_ok T._law_plus.F sc__law_plus [] b__law_plus fun cdv A outer s H E hr =>
  (s_one (s_ret (v_call (ok__law_low T) (hr.mono (by decide)) T._law_low.g T._law_low.k T._law_low.b rfl (a_cons (v_bin op_addV (v_bin op_mulV (v_ix (v_var 0) v_int) (v_ix (v_var 1) v_int)) (v_bin op_mulV (v_ix (v_var 1) v_int) (v_ix (v_var 0) v_int))) (a_cons (v_bin op_mulV (v_ix (v_var 0) v_int) (v_ix (v_var 1) v_int)) a_nil)) (aCons_len (aCons_len aNil_len)))))
theorem sc__law_by : FnScope ["_law_one", "_law_other"] ["_law_one", "_law_other"] (defScope s__law_by) := ⟨rfl, rfl, rfl, by decide +kernel, rfl, by decide +kernel, by decide +kernel⟩
theorem ok__law_by (T : Tx K mg) : FnOk Pg w K mg base CX0 2 T._law_by.a T._law_by.fd ["_law_one", "_law_other"] (spM ⟨K, mg⟩ 2 m__law_by) :=
  fn_ok T._law_by.F sc__law_by [] b__law_by fun cdv A outer s H E hr =>
  (s_one (s_ret (v_call (ok__law_low T) (hr.mono (by decide)) T._law_low.g T._law_low.k T._law_low.b rfl (a_cons (v_bin op_mulV (v_ix (v_var 0) v_int) (v_ix (v_var 1) v_int)) (a_cons (v_bin op_mulV (v_ix (v_var 0) v_int) (v_ix (v_var 1) v_int)) a_nil)) (aCons_len (aCons_len aNil_len)))))
theorem sc__law_number : FnScope ["_law_purse_here", "_law_way"] ["_law_purse_here"] (defScope s__law_number) := ⟨rfl, rfl, rfl, by decide +kernel, rfl, by decide +kernel, by decide +kernel⟩
theorem ok__law_number (T : Tx K mg) : FnOk Pg w K mg base CX0 3 T._law_number.a T._law_number.fd ["_law_purse_here"] (spM ⟨K, mg⟩ 1 m__law_number) :=
  fn_ok T._law_number.F sc__law_number [0] b__law_number fun cdv A outer s H E hr =>
  (s_cons (s_set 1 sc__law_number.nd (by decide) (v_callO (ix := [some 0, none]) (ok__law_take T) (hr.mono (by decide)) T._law_take.g T._law_take.k T._law_take.b rfl (o_own 0 (o_cons v_int o_nil))))
  (s_cons (s_if (t_cmp op_ltV (v_var 1) v_int)
  (s_one (s_ret (v_ix (v_new (f_lst (a_cons (v_nf (v_tup (a_cons v_int (a_cons v_int a_nil)))) (a_cons (v_nf (v_tup (a_cons v_int (a_cons v_int a_nil)))) (a_cons (v_nf (v_tup (a_cons (v_un un_negV v_int) (a_cons v_int a_nil)))) a_nil))))) (v_var 1))))
  s_nil)
  (s_cons (s_if (t_cmp (op_eqV hr.units) (v_var 1) v_int)
  (s_one (s_ret (v_nf (v_tup (a_cons (v_bin op_subV (v_callO (ix := [some 0, none]) (ok__law_take T) (hr.mono (by decide)) T._law_take.g T._law_take.k T._law_take.b rfl (o_own 0 (o_cons v_int o_nil))) v_int) (a_cons v_int a_nil))))))
  s_nil)
  (s_one (s_ret (v_call (ok__law_low T) (hr.mono (by decide)) T._law_low.g T._law_low.k T._law_low.b rfl (a_cons (v_bin op_subV (v_callO (ix := [some 0, none]) (ok__law_take T) (hr.mono (by decide)) T._law_take.g T._law_take.k T._law_take.b rfl (o_own 0 (o_cons (v_bin op_addV (v_bin op_mulV v_int (v_bin op_powV v_int v_int)) v_int) o_nil))) (v_bin op_powV v_int v_int)) (a_cons (v_bin op_addV v_int (v_callO (ix := [some 0, none]) (ok__law_take T) (hr.mono (by decide)) T._law_take.g T._law_take.k T._law_take.b rfl (o_own 0 (o_cons v_int o_nil)))) a_nil)) (aCons_len (aCons_len aNil_len))))))))
theorem sc__law_rank : FnScope ["_law_word"] ["_law_word"] (defScope s__law_rank) := ⟨rfl, rfl, rfl, by decide +kernel, rfl, by decide +kernel, by decide +kernel⟩
theorem ok__law_rank (T : Tx K mg) : FnOk Pg w K mg base CX0 1 T._law_rank.a T._law_rank.fd ["_law_word"] (spM ⟨K, mg⟩ 1 m__law_rank) :=
  fn_ok T._law_rank.F sc__law_rank [] b__law_rank fun cdv A outer s H E hr =>
  (s_one (s_ret (v_tup (a_cons (v_callB c_len T.b_len PySem.boot_len (a_cons (v_var 0) a_nil)) (a_cons (v_var 0) a_nil)))))
theorem sc__law_told : FnScope ["_law_found", "_law_word"] ["_law_found"] (defScope s__law_told) := ⟨rfl, rfl, rfl, by decide +kernel, rfl, by decide +kernel, by decide +kernel⟩
theorem ok__law_told (T : Tx K mg) : FnOk Pg w K mg base CX0 2 T._law_told.a T._law_told.fd ["_law_found"] (spM ⟨K, mg⟩ 1 m__law_told) :=
  fn_ok T._law_told.F sc__law_told [] b__law_told fun cdv A outer s H E hr =>
  (s_one (s_retF (f_lc (own := [("_law_word", 1)]) rfl sc__law_told.nd (i_list (v_new (f_sortR (rank_pure T._law_rank.F sc__law_rank T._law_rank.b T.b_len rfl (fun _ _ _ _ _ _ => rfl) (Or.inl rfl) (by decide) (by decide)) rfl (hr.mono (by decide)) T._law_rank.g T.b_sorted (by decide +kernel) (v_var 0)))) (blkOk_by (N := ["_law_found", "_law_word"]) (sc := defScope s__law_told) (by decide +kernel)) (fun _ _ _ _ _ => (g_name 1 sc__law_told.nd)) (fun _ _ _ _ _ => ts_nil) (fun _ _ _ _ _ => (v_tup (a_cons (v_var 1) (a_cons (v_dget (hu_of hr) (v_var 0) (v_var 1)) a_nil)))))))
theorem sc__law_put : FnScope ["_law_found", "_law_word", "_law_number_here"] ["_law_found", "_law_word", "_law_number_here"] (defScope s__law_put) := ⟨rfl, rfl, rfl, by decide +kernel, rfl, by decide +kernel, by decide +kernel⟩
theorem ok__law_put (T : Tx K mg) : FnOk Pg w K mg base CX0 3 T._law_put.a T._law_put.fd ["_law_found", "_law_word", "_law_number_here"] (spM ⟨K, mg⟩ 3 m__law_put) :=
  fn_ok T._law_put.F sc__law_put [0] b__law_put fun cdv A outer s H E hr =>
  (s_cons (s_dput 0 (hu_of hr) (v_call (ok__law_plus T) (hr.mono (by decide)) T._law_plus.g T._law_plus.k T._law_plus.b rfl (a_cons (v_bor (v_dget2 (hu_of hr) (v_var 0) (v_var 1) (v_nf (v_tup (a_cons v_int (a_cons v_int a_nil)))) ⟨rfl, rfl, rfl, rfl⟩)) (a_cons (v_var 2) a_nil)) (aCons_len (aCons_len aNil_len))) (pv 0) (v_var 1))
  (s_one (s_if (t_cmp (op_eqV hr.units) (v_ix (v_bor (v_dget (hu_of hr) (v_var 0) (v_var 1))) v_int) v_int)
  (s_one (s_dpop 0 (pv 0) (pe_bm PySem.F.plainAttrs_dict PySem.F.slot_dict_pop PySem.F.type_dict_pop (mt_popK (hu_of hr)) (pv 0) (pa_cons (v_var 1) pa_nil))))
  s_nil)))
theorem sc__law_joined : FnScope ["_law_one", "_law_other", "_law_found", "_law_word", "_law_number_here", "_law_more", "_law_much"] ["_law_one", "_law_other"] (defScope s__law_joined) := ⟨rfl, rfl, rfl, by decide +kernel, rfl, by decide +kernel, by decide +kernel⟩
theorem ok__law_joined (T : Tx K mg) : FnOk Pg w K mg base CX0 4 T._law_joined.a T._law_joined.fd ["_law_one", "_law_other"] (spM ⟨K, mg⟩ 2 m__law_joined) :=
  fn_ok T._law_joined.F sc__law_joined [] b__law_joined fun cdv A outer s H E hr =>
  (s_cons (s_setF 2 sc__law_joined.nd (by decide) f_dnew)
  (s_cons (s_for (T := [3, 4]) PassesOwn.never rfl (i_list (v_var 0)) (g_tup rfl (gs_cons (g_name 3 sc__law_joined.nd) (gs_cons (g_name 4 sc__law_joined.nd) gs_nil)))
  (s_one (s_for (T := [5, 6]) PassesOwn.never rfl (i_list (v_var 1)) (g_tup rfl (gs_cons (g_name 5 sc__law_joined.nd) (gs_cons (g_name 6 sc__law_joined.nd) gs_nil)))
  (s_one (s_if (t_cmp op_ltV (v_bin op_addV (v_callB c_len T.b_len PySem.boot_len (a_cons (v_var 3) a_nil)) (v_callB c_len T.b_len PySem.boot_len (a_cons (v_var 5) a_nil))) v_int)
  (s_one (s_expr (v_callO (ix := [some 2, none, none]) (ok__law_put T) (hr.mono (by decide)) T._law_put.g T._law_put.k T._law_put.b rfl (o_own 2 (o_cons (v_bin op_addV (v_var 3) (v_var 5)) (o_cons (v_call (ok__law_by T) (hr.mono (by decide)) T._law_by.g T._law_by.k T._law_by.b rfl (a_cons (v_var 4) (a_cons (v_var 6) a_nil)) (aCons_len (aCons_len aNil_len))) o_nil))))))
  s_nil)))))
  (s_one (s_ret (v_call (ok__law_told T) (hr.mono (by decide)) T._law_told.g T._law_told.k T._law_told.b rfl (a_cons (v_var 2) a_nil) (aCons_len aNil_len))))))
theorem sc__law_powers : FnScope ["_law_total", "_law_shares", "_law_found", "_law_power", "_law_share", "_law_word", "_law_number_here"] ["_law_total", "_law_shares"] (defScope s__law_powers) := ⟨rfl, rfl, rfl, by decide +kernel, rfl, by decide +kernel, by decide +kernel⟩
theorem ok__law_powers (T : Tx K mg) : FnOk Pg w K mg base CX0 5 T._law_powers.a T._law_powers.fd ["_law_total", "_law_shares"] (spM ⟨K, mg⟩ 2 m__law_powers) :=
  fn_ok T._law_powers.F sc__law_powers [] b__law_powers fun cdv A outer s H E hr =>
  (s_cons (s_setF 2 sc__law_powers.nd (by decide) f_dnew)
  (s_cons (s_set 3 sc__law_powers.nd (by decide) (v_new (f_lst (a_cons (v_tup (a_cons (v_tup a_nil) (a_cons (v_nf (v_tup (a_cons v_int (a_cons v_int a_nil)))) a_nil))) a_nil))))
  (s_cons (s_for (T := [4]) PassesOwn.never rfl (i_list (v_var 1)) (g_name 4 sc__law_powers.nd)
  (s_cons (s_set 3 sc__law_powers.nd (by decide) (v_call (ok__law_joined T) (hr.mono (by decide)) T._law_joined.g T._law_joined.k T._law_joined.b rfl (a_cons (v_var 3) (a_cons (v_var 0) a_nil)) (aCons_len (aCons_len aNil_len))))
  (s_one (s_for (T := [5, 6]) PassesOwn.never rfl (i_list (v_var 3)) (g_tup rfl (gs_cons (g_name 5 sc__law_powers.nd) (gs_cons (g_name 6 sc__law_powers.nd) gs_nil)))
  (s_one (s_expr (v_callO (ix := [some 2, none, none]) (ok__law_put T) (hr.mono (by decide)) T._law_put.g T._law_put.k T._law_put.b rfl (o_own 2 (o_cons (v_var 5) (o_cons (v_call (ok__law_by T) (hr.mono (by decide)) T._law_by.g T._law_by.k T._law_by.b rfl (a_cons (v_var 6) (a_cons (v_var 4) a_nil)) (aCons_len (aCons_len aNil_len))) o_nil))))))))))
  (s_one (s_retO 2 (by decide))))))
theorem sc__law_grown : FnScope ["_law_total", "_law_found"] ["_law_total"] (defScope s__law_grown) := ⟨rfl, rfl, rfl, by decide +kernel, rfl, by decide +kernel, by decide +kernel⟩
theorem ok__law_grown (T : Tx K mg) : FnOk Pg w K mg base CX0 6 T._law_grown.a T._law_grown.fd ["_law_total"] (spM ⟨K, mg⟩ 1 m__law_grown) :=
  fn_ok T._law_grown.F sc__law_grown [] b__law_grown fun cdv A outer s H E hr =>
  (s_cons (s_setF 1 sc__law_grown.nd (by decide) (f_call (ok__law_powers T) (hr.mono (by decide)) T._law_powers.g T._law_powers.k T._law_powers.b rfl (a_cons (v_var 0) (a_cons (v_new (f_lst (a_cons (v_nf (v_tup (a_cons v_int (a_cons v_int a_nil)))) (a_cons (v_nf (v_tup (a_cons v_int (a_cons v_int a_nil)))) (a_cons (v_nf (v_tup (a_cons v_int (a_cons v_int a_nil)))) (a_cons (v_nf (v_tup (a_cons v_int (a_cons v_int a_nil)))) (a_cons (v_nf (v_tup (a_cons v_int (a_cons v_int a_nil)))) a_nil))))))) a_nil)) (aCons_len (aCons_len aNil_len))))
  (s_cons (s_expr (v_callO (ix := [some 1, none, none]) (ok__law_put T) (hr.mono (by decide)) T._law_put.g T._law_put.k T._law_put.b rfl (o_own 1 (o_cons (v_tup a_nil) (o_cons (v_nf (v_tup (a_cons v_int (a_cons v_int a_nil)))) o_nil)))))
  (s_one (s_ret (v_call (ok__law_told T) (hr.mono (by decide)) T._law_told.g T._law_told.k T._law_told.b rfl (a_cons (v_var 1) a_nil) (aCons_len aNil_len))))))
theorem sc__law_logged : FnScope ["_law_total", "_law_some", "_law_word", "_law_number_here"] ["_law_total"] (defScope s__law_logged) := ⟨rfl, rfl, rfl, by decide +kernel, rfl, by decide +kernel, by decide +kernel⟩
theorem ok__law_logged (T : Tx K mg) : FnOk Pg w K mg base CX0 6 T._law_logged.a T._law_logged.fd ["_law_total"] (spM ⟨K, mg⟩ 1 m__law_logged) :=
  fn_ok T._law_logged.F sc__law_logged [] b__law_logged fun cdv A outer s H E hr =>
  (s_cons (s_setLc (own := [("_law_word", 2), ("_law_number_here", 3)]) 1 rfl sc__law_logged.nd (by decide) (i_list (v_var 0)) (blkOk_by (N := ["_law_total", "_law_some", "_law_word", "_law_number_here"]) (sc := defScope s__law_logged) (by decide +kernel)) (fun _ _ _ _ _ => (g_tup rfl (gs_cons (g_name 2 sc__law_logged.nd) (gs_cons (g_name 3 sc__law_logged.nd) gs_nil)))) (fun _ _ _ _ _ => (ts_one (t_cmp (op_neV hr.units) (v_var 2) (v_tup a_nil)))) (fun _ _ _ _ _ => (v_nf (v_tup (a_cons (v_var 2) (a_cons (v_var 3) a_nil))))) (sw_true rfl rfl rfl (by decide +kernel)))
  (s_one (s_ret (v_call (ok__law_told T) (hr.mono (by decide)) T._law_told.g T._law_told.k T._law_told.b rfl (a_cons (v_call (ok__law_powers T) (hr.mono (by decide)) T._law_powers.g T._law_powers.k T._law_powers.b rfl (a_cons (v_var 1) (a_cons (v_new (f_lst (a_cons (v_nf (v_tup (a_cons v_int (a_cons v_int a_nil)))) (a_cons (v_nf (v_tup (a_cons (v_un un_negV v_int) (a_cons v_int a_nil)))) (a_cons (v_nf (v_tup (a_cons v_int (a_cons v_int a_nil)))) (a_cons (v_nf (v_tup (a_cons (v_un un_negV v_int) (a_cons v_int a_nil)))) (a_cons (v_nf (v_tup (a_cons v_int (a_cons v_int a_nil)))) a_nil))))))) a_nil)) (aCons_len (aCons_len aNil_len))) a_nil) (aCons_len aNil_len)))))
theorem sc__law_drawn : FnScope ["_law_purse_here", "_law_count", "_law_found", "_law_most", "_law_term", "_law_word", "_law_number_here", "_law_place"] ["_law_purse_here", "_law_count"] (defScope s__law_drawn) := ⟨rfl, rfl, rfl, by decide +kernel, rfl, by decide +kernel, by decide +kernel⟩
theorem ok__law_drawn (T : Tx K mg) : FnOk Pg w K mg base CX0 4 T._law_drawn.a T._law_drawn.fd ["_law_purse_here", "_law_count"] (spM ⟨K, mg⟩ 2 m__law_drawn) :=
  fn_ok T._law_drawn.F sc__law_drawn [0] b__law_drawn fun cdv A outer s H E hr =>
  (s_cons (s_setF 2 sc__law_drawn.nd (by decide) f_dnew)
  (s_cons (s_set 3 sc__law_drawn.nd (by decide) (v_bin op_addV v_int (v_callO (ix := [some 0, none]) (ok__law_take T) (hr.mono (by decide)) T._law_take.g T._law_take.k T._law_take.b rfl (o_own 0 (o_cons v_int o_nil)))))
  (s_cons (s_for (T := [4]) PassesOwn.never rfl (i_range1 T.b_range (a_cons (v_callO (ix := [some 0, none]) (ok__law_take T) (hr.mono (by decide)) T._law_take.g T._law_take.k T._law_take.b rfl (o_own 0 (o_cons v_int o_nil))) a_nil)) (g_name 4 sc__law_drawn.nd)
  (s_cons (s_set 5 sc__law_drawn.nd (by decide) (v_callT c_tuple T.b_tuple (by decide +kernel) (a_cons (v_new (f_lc (own := [("_law_place", 7)]) rfl sc__law_drawn.nd (i_range1 T.b_range (a_cons (v_bin op_addV v_int (v_callO (ix := [some 0, none]) (ok__law_take T) (hr.mono (by decide)) T._law_take.g T._law_take.k T._law_take.b rfl (o_own 0 (o_cons (v_var 3) o_nil)))) a_nil)) (blkOk_by (N := ["_law_purse_here", "_law_count", "_law_found", "_law_most", "_law_term", "_law_word", "_law_number_here", "_law_place"]) (sc := defScope s__law_drawn) (by decide +kernel)) (fun _ _ _ _ _ => (g_name 7 sc__law_drawn.nd)) (fun _ _ _ _ _ => ts_nil) (fun _ _ _ _ _ => (v_callO (ix := [some 0, none]) (ok__law_take T) (hr.mono (by decide)) T._law_take.g T._law_take.k T._law_take.b rfl (o_own 0 (o_cons (v_var 1) o_nil)))))) a_nil)))
  (s_cons (s_set 6 sc__law_drawn.nd (by decide) (v_callO (ix := [some 0]) (ok__law_number T) (hr.mono (by decide)) T._law_number.g T._law_number.k T._law_number.b rfl (o_own 0 o_nil)))
  (s_one (s_if (t_cmp (op_neV hr.units) (v_ix (v_var 6) v_int) v_int)
  (s_one (s_dput 2 (hu_of hr) (v_var 6) (pv 2) (v_var 5)))
  s_nil)))))
  (s_one (s_ret (v_call (ok__law_told T) (hr.mono (by decide)) T._law_told.g T._law_told.k T._law_told.b rfl (a_cons (v_var 2) a_nil) (aCons_len aNil_len)))))))
theorem sc_law : FnScope ["_law_script", "_law_k", "_law_purse_here", "_law_count", "_law_one", "_law_whole", "_law_dues", "_law_handed", "_law_turn", "_law_told_here", "_law_back", "_law_found"] ["_law_script"] (defScope s_law) := ⟨rfl, rfl, rfl, by decide +kernel, rfl, by decide +kernel, by decide +kernel⟩
theorem ok_law (T : Tx K mg) : FnAt callerA Pg w K mg base T.law.a T.law.fd ["_law_script"] (spM ⟨K, mg⟩ 1 m_law) :=
  fn_at T.law.F sc_law (k := 8) ⟨rfl, by decide, by decide⟩ [] b_law fun cdv outer s H E hr =>
  (s_cons (s_for (T := [1]) PassesOwn.never rfl (i_range1 T.b_range (a_cons (v_bin op_addV v_int (v_callT c_int1 T.b_int (by decide +kernel) (a_cons (v_cmp op_gtV (v_callB c_len T.b_len PySem.boot_len (a_cons (v_var 0) a_nil)) v_int) a_nil))) a_nil)) (g_name 1 sc_law.nd)
  (s_cons (s_setF 2 sc_law.nd (by decide) (f_call (ok__law_purse T) (hr.mono (by decide)) T._law_purse.g T._law_purse.k T._law_purse.b rfl (a_cons (v_call (ok__law_at T) (hr.mono (by decide)) T._law_at.g T._law_at.k T._law_at.b rfl (a_cons (v_var 0) (a_cons (v_var 1) a_nil)) (aCons_len (aCons_len aNil_len))) (a_cons (v_var 1) a_nil)) (aCons_len (aCons_len aNil_len))))
  (s_cons (s_set 3 sc_law.nd (by decide) (v_bin op_addV v_int (v_callO (ix := [some 2, none]) (ok__law_take T) (hr.mono (by decide)) T._law_take.g T._law_take.k T._law_take.b rfl (o_own 2 (o_cons v_int o_nil)))))
  (s_cons (s_set 4 sc_law.nd (by decide) (v_callO (ix := [some 2, none]) (ok__law_drawn T) (hr.mono (by decide)) T._law_drawn.g T._law_drawn.k T._law_drawn.b rfl (o_own 2 (o_cons (v_var 3) o_nil))))
  (s_cons (s_set 5 sc_law.nd (by decide) (v_bin op_addV (v_new (f_lst (a_cons (v_tup (a_cons (v_tup a_nil) (a_cons (v_nf (v_tup (a_cons v_int (a_cons v_int a_nil)))) a_nil))) a_nil))) (v_var 4)))
  (s_cons (s_set 6 sc_law.nd (by decide) (v_new (f_lst (a_cons (v_call (ok__law_grown T) (hr.mono (by decide)) T._law_grown.g T._law_grown.k T._law_grown.b rfl (a_cons (v_var 4) a_nil) (aCons_len aNil_len)) (a_cons (v_call (ok__law_logged T) (hr.mono (by decide)) T._law_logged.g T._law_logged.k T._law_logged.b rfl (a_cons (v_var 5) a_nil) (aCons_len aNil_len)) a_nil)))))
  (s_cons (s_set 7 sc_law.nd (by decide) (v_new (f_lst (a_cons (v_new (f_callT c_list T.b_list (by decide +kernel) (a_cons (v_var 4) a_nil))) (a_cons (v_new (f_callT c_list T.b_list (by decide +kernel) (a_cons (v_var 5) a_nil))) a_nil)))))
  (s_one (s_for (T := [8]) PassesOwn.never rfl (i_range1 T.b_range (a_cons v_int a_nil)) (g_name 8 sc_law.nd)
  (s_frz (s_turn (i := 9) (j := 10) (z := 11) (m := 12) sc_law.nd rfl (by decide) (h1 := e_pair (f_call (ok_grown T) (hr.mono (by decide)) T.grown.g T.grown.k T.grown.b rfl (a_cons (v_var 3) (a_cons (v_ix (v_var 7) v_int) a_nil)) (aCons_len (aCons_len aNil_len))) (f_call (ok_logged T) (hr.mono (by decide)) T.logged.g T.logged.k T.logged.b rfl (a_cons (v_var 3) (a_cons (v_ix (v_var 7) v_int) a_nil)) (aCons_len (aCons_len aNil_len)))) (h2 := (s_if (t_w (w_or (t_cmp op_neS (v_callT (c_str rfl hr.units) T.b_str (by decide +kernel) (a_cons (v_var 9) a_nil)) (v_callT (c_str rfl hr.units) T.b_str (by decide +kernel) (a_cons (v_var 6) a_nil))) (w_or1 (t_cmp (op_neV hr.units) (v_var 7) (v_new (f_lst (a_cons (v_var 4) (a_cons (v_var 5) a_nil))))))))
  (s_one (s_ret v_bl))
  s_nil)) (h3 := e_pair (f_call (ok_logged T) (hr.mono (by decide)) T.logged.g T.logged.k T.logged.b rfl (a_cons (v_var 3) (a_cons (v_ix (v_var 9) v_int) a_nil)) (aCons_len (aCons_len aNil_len))) (f_call (ok_grown T) (hr.mono (by decide)) T.grown.g T.grown.k T.grown.b rfl (a_cons (v_var 3) (a_cons (v_ix (v_var 9) v_int) a_nil)) (aCons_len (aCons_len aNil_len)))) (h4 := (s_if (t_w (w_or (t_cmp (op_neV hr.units) (v_var 10) (v_new (f_lst (a_cons (v_var 4) (a_cons (v_var 5) a_nil))))) (w_or1 (t_cmp (op_neV hr.units) (v_var 9) (v_var 6)))))
  (s_one (s_ret v_bl))
  s_nil)) (h5 := s_clr sc_law.nd rfl PassesOwn.never (pv 9) (pv 10) (pv 11) rfl (Or.inl rfl) (Or.inl rfl)))))))))))))
  (s_one (s_ret v_bl)))
end
end Sp
/-! sums of words: put behind one another, grown, logged (plain Lean) -/
namespace Sw.Wd
abbrev W := List Int
abbrev Cf := W → Rat
def conv (f g : Cf) : Cf
  | [] => f [] * g []
  | a :: w => f [] * g (a :: w) + conv (fun u => f (a :: u)) g w
def one : Cf := fun w => if w = [] then 1 else 0
def add (f g : Cf) : Cf := fun w => f w + g w
def smul (c : Rat) (f : Cf) : Cf := fun w => c * f w
theorem conv_add_left (f f' g : Cf) : ∀ w, conv (fun u => f u + f' u) g w = conv f g w + conv f' g w := by
  intro w
  induction w generalizing f f' with
  | nil => simp only [conv]; grind
  | cons a w ih => simp only [conv]; rw [ih]; grind
theorem conv_add_right (f g g' : Cf) : ∀ w, conv f (fun u => g u + g' u) w = conv f g w + conv f g' w := by
  intro w
  induction w generalizing f with
  | nil => simp only [conv]; grind
  | cons a w ih => simp only [conv]; rw [ih]; grind
theorem conv_smul_left (c : Rat) (f g : Cf) : ∀ w, conv (fun u => c * f u) g w = c * conv f g w := by
  intro w
  induction w generalizing f with
  | nil => simp only [conv]; grind
  | cons a w ih => simp only [conv]; rw [ih]; grind
theorem conv_smul_right (c : Rat) (f g : Cf) : ∀ w, conv f (fun u => c * g u) w = c * conv f g w := by
  intro w
  induction w generalizing f with
  | nil => simp only [conv]; grind
  | cons a w ih => simp only [conv]; rw [ih]; grind
theorem conv_zero_left (g : Cf) : ∀ w, conv (fun _ => 0) g w = 0 := by
  intro w
  induction w with
  | nil => simp only [conv]; grind
  | cons a w ih => simp only [conv]; rw [ih]; grind
theorem conv_zero_right (f : Cf) : ∀ w, conv f (fun _ => 0) w = 0 := by
  intro w
  induction w generalizing f with
  | nil => simp only [conv]; grind
  | cons a w ih => simp only [conv]; rw [ih]; grind
theorem conv_assoc (f g h : Cf) : ∀ w, conv (conv f g) h w = conv f (conv g h) w := by
  intro w
  induction w generalizing f g with
  | nil => simp only [conv]; grind
  | cons a w ih =>
    have e : (fun u => conv f g (a :: u)) = fun u => (f [] * g (a :: u)) + conv (fun v => f (a :: v)) g u := by
      funext u; rfl
    show conv f g [] * h (a :: w) + conv (fun u => conv f g (a :: u)) h w = f [] * conv g h (a :: w) + conv (fun u => f (a :: u)) (conv g h) w
    rw [e, conv_add_left, conv_smul_left, ih]
    simp only [conv]
    grind
theorem one_conv (f : Cf) : ∀ w, conv one f w = f w := by
  intro w
  cases w with
  | nil => simp [conv, one]
  | cons a w =>
    have e : (fun u => one (a :: u)) = fun _ => 0 := by funext u; simp [one]
    simp only [conv]
    rw [e, conv_zero_left]
    simp [one]; grind
theorem conv_one (f : Cf) : ∀ w, conv f one w = f w := by
  intro w
  induction w generalizing f with
  | nil => simp [conv, one]
  | cons a w ih => simp only [conv]; rw [ih]; simp [one]; grind
def pw (x : Cf) : Nat → Cf
  | 0 => one
  | n + 1 => conv (pw x n) x
theorem pw_add (x : Cf) (m n : Nat) : ∀ w, conv (pw x m) (pw x n) w = pw x (m + n) w := by
  induction n with
  | zero => intro w; exact conv_one _ w
  | succ n ih =>
    intro w
    show conv (pw x m) (conv (pw x n) x) w = conv (pw x (m + n)) x w
    rw [← conv_assoc]
    have e : conv (pw x m) (pw x n) = pw x (m + n) := funext ih
    rw [e]
/-- a sum without the word of none: its powers begin later and later -/
theorem conv_low {f g : Cf} {m : Nat} (hg : g [] = 0) : ∀ w, (∀ u, u.length < m → f u = 0) → w.length < m + 1 → conv f g w = 0 := by
  intro w
  induction w generalizing f m with
  | nil => intro hf hw; simp only [conv]; rw [hg]; grind
  | cons a w ih =>
    intro hf hw
    simp only [conv]
    cases m with
    | zero => simp at hw
    | succ m =>
      rw [hf [] (by simp), ih (m := m) (fun u hu => hf (a :: u) (by simpa using hu)) (by simpa using hw)]
      grind
theorem pw_low {x : Cf} (hx : x [] = 0) : ∀ (n : Nat) (w : W), w.length < n → pw x n w = 0
  | 0, w, h => by simp at h
  | n + 1, w, h => conv_low hx w (fun u hu => pw_low hx n u hu) h
/-! ### polynomials in one sum -/
def pe (x : Cf) : List Rat → Nat → Cf
  | [], _ => fun _ => 0
  | c :: cs, k => fun w => c * pw x k w + pe x cs (k + 1) w
def padd : List Rat → List Rat → List Rat
  | [], d => d
  | c, [] => c
  | c :: cs, d :: ds => (c + d) :: padd cs ds
def pmul : List Rat → List Rat → List Rat
  | [], _ => []
  | c :: cs, d => padd (d.map (c * ·)) (0 :: pmul cs d)
theorem pe_add (x : Cf) : ∀ (c d : List Rat) (k : Nat) (w : W), pe x (padd c d) k w = pe x c k w + pe x d k w
  | [], d, k, w => by simp only [padd, pe]; grind
  | c :: cs, [], k, w => by simp only [padd, pe]; grind
  | c :: cs, d :: ds, k, w => by simp only [padd, pe]; rw [pe_add x cs ds]; grind
theorem pe_map (x : Cf) (c : Rat) : ∀ (d : List Rat) (k : Nat) (w : W), pe x (d.map (c * ·)) k w = c * pe x d k w
  | [], k, w => by simp only [List.map_nil, pe]; grind
  | d :: ds, k, w => by simp only [List.map_cons, pe]; rw [pe_map x c ds]; grind
theorem pw_pe (x : Cf) (m : Nat) : ∀ (d : List Rat) (k : Nat) (w : W), conv (pw x m) (pe x d k) w = pe x d (m + k) w
  | [], k, w => by simp only [pe]; exact conv_zero_right _ w
  | d :: ds, k, w => by
    have e : pe x (d :: ds) k = fun u => (d * pw x k u) + pe x ds (k + 1) u := rfl
    rw [e, conv_add_right, conv_smul_right, pw_add, pw_pe x m ds (k + 1)]
    simp only [pe]
    rw [Nat.add_assoc]
theorem pe_zero (x : Cf) (d : List Rat) (k : Nat) (w : W) : pe x (0 :: d) k w = pe x d (k + 1) w := by
  simp only [pe]; grind
theorem pe_mul (x : Cf) : ∀ (c d : List Rat) (i j : Nat) (w : W), conv (pe x c i) (pe x d j) w = pe x (pmul c d) (i + j) w
  | [], d, i, j, w => by simp only [pe, pmul]; exact conv_zero_left _ w
  | c :: cs, d, i, j, w => by
    have e : pe x (c :: cs) i = fun u => (c * pw x i u) + pe x cs (i + 1) u := rfl
    rw [e, conv_add_left, conv_smul_left, pw_pe, pe_mul x cs d (i + 1) j]
    simp only [pmul]
    rw [pe_add, pe_map, pe_zero, show i + j + 1 = i + 1 + j by omega]
/-- what stands beyond the sixth place says nothing of words of five letters -/
theorem pe_high {x : Cf} (hx : x [] = 0) : ∀ (c : List Rat) (k : Nat) (w : W), w.length < k → pe x c k w = 0
  | [], k, w, h => rfl
  | c :: cs, k, w, h => by
    simp only [pe]
    rw [pw_low hx k w h, pe_high hx cs (k + 1) w (by omega)]
    grind
theorem pe_take {x : Cf} (hx : x [] = 0) : ∀ (n : Nat) (c : List Rat) (k : Nat) (w : W), w.length < k + n → pe x c k w = pe x (c.take n) k w
  | 0, c, k, w, h => by rw [pe_high hx c k w (by simpa using h), List.take_zero]; rfl
  | n + 1, [], k, w, h => rfl
  | n + 1, c :: cs, k, w, h => by
    simp only [List.take_succ_cons, pe]
    rw [pe_take hx n cs (k + 1) w (by omega)]
/-! ### grown, logged: to words of five letters -/
def Eq5 (f g : Cf) : Prop := ∀ w, w.length ≤ 5 → f w = g w
theorem conv_eq5 {n : Nat} : ∀ (w : W) {f f' g g' : Cf}, w.length ≤ n → (∀ u, u.length ≤ n → f u = f' u) → (∀ u, u.length ≤ n → g u = g' u) → conv f g w = conv f' g' w
  | [], f, f', g, g', h, hf, hg => by simp only [conv]; rw [hf [] (by simp), hg [] (by simp)]
  | a :: w, f, f', g, g', h, hf, hg => by
    simp only [conv]
    rw [hf [] (by simp), hg _ h]
    have hw : w.length + 1 ≤ n := by simpa using h
    have e : conv (fun u => f (a :: u)) g w = conv (fun u => f' (a :: u)) g' w := by
      refine conv_eq5 (n := n - 1) w (by omega) (fun u hu => hf _ (by simp; omega)) fun u hu => hg _ (by omega)
    rw [e]
theorem Eq5.conv {f f' g g' : Cf} (h : Eq5 f f') (h' : Eq5 g g') : Eq5 (conv f g) (conv f' g') := fun w hw => conv_eq5 w hw h h'
theorem Eq5.pw {f f' : Cf} (h : Eq5 f f') : ∀ n, Eq5 (pw f n) (pw f' n)
  | 0 => fun _ _ => rfl
  | n + 1 => (Eq5.pw h n).conv h
/-- the sum of shares times powers -/
def sums (x : Cf) : List Rat → Nat → Cf := pe x
theorem pe_eq5 {x y : Cf} (h : Eq5 x y) : ∀ (c : List Rat) (k : Nat), Eq5 (pe x c k) (pe y c k)
  | [], k => fun _ _ => rfl
  | c :: cs, k => fun w hw => by simp only [pe]; rw [h.pw k w hw, pe_eq5 h cs (k + 1) w hw]
def eS : List Rat := [1, 1/2, 1/6, 1/24, 1/120]
def lS : List Rat := [1, -1/2, 1/3, -1/4, 1/5]
def ppw (c : List Rat) : Nat → List Rat
  | 0 => [1]
  | n + 1 => (pmul (ppw c n) c).take 6
theorem pw_pe5 {x : Cf} (hx : x [] = 0) (c : List Rat) : ∀ n, Eq5 (pw (pe x c 0) n) (pe x (ppw c n) 0)
  | 0 => fun w _ => by simp only [pw, ppw, pe]; grind
  | n + 1 => fun w hw => by
    have e := (pw_pe5 hx c n).conv (fun u _ => rfl : Eq5 (pe x c 0) (pe x c 0)) w hw
    show conv (pw (pe x c 0) n) (pe x c 0) w = _
    rw [e, pe_mul]
    exact pe_take hx 6 _ 0 w (by omega)
def psum (c : List Rat) : List Rat → Nat → List Rat
  | [], _ => []
  | d :: ds, k => padd ((ppw c k).map (d * ·)) (psum c ds (k + 1))
theorem pe_pe5 {x : Cf} (hx : x [] = 0) (c : List Rat) : ∀ (d : List Rat) (k : Nat), Eq5 (pe (pe x c 0) d k) (pe x (psum c d k) 0)
  | [], k => fun w hw => rfl
  | d :: ds, k => fun w hw => by
    simp only [pe, psum]
    rw [pe_add, pe_map, pe_pe5 hx c ds (k + 1) w hw, pw_pe5 hx c k w hw]
theorem log_exp {x : Cf} (hx : x [] = 0) : Eq5 (pe (pe x eS 1) lS 1) x := fun w hw => by
  have e1 : Eq5 (pe x eS 1) (pe x (0 :: eS) 0) := fun u _ => (pe_zero x eS 0 u).symm
  rw [pe_eq5 e1 lS 1 w hw, pe_pe5 hx (0 :: eS) lS 1 w hw]
  have e2 : psum (0 :: eS) lS 1 = [0, 1, 0, 0, 0, 0] := by decide +kernel
  rw [e2]
  have e3 : ∀ u, pw x 1 u = x u := fun u => one_conv x u
  simp only [pe]
  rw [e3]
  grind
theorem exp_log {x : Cf} (hx : x [] = 0) : Eq5 (pe (pe x lS 1) eS 1) x := fun w hw => by
  have e1 : Eq5 (pe x lS 1) (pe x (0 :: lS) 0) := fun u _ => (pe_zero x lS 0 u).symm
  rw [pe_eq5 e1 eS 1 w hw, pe_pe5 hx (0 :: lS) eS 1 w hw]
  have e2 : psum (0 :: lS) eS 1 = [0, 1, 0, 0, 0, 0] := by decide +kernel
  rw [e2]
  have e3 : ∀ u, pw x 1 u = x u := fun u => one_conv x u
  simp only [pe]
  rw [e3]
  grind
theorem pe_nil {x : Cf} (hx : x [] = 0) (c : List Rat) (k : Nat) (hk : 0 < k) : pe x c k [] = 0 := pe_high hx c k [] (by simpa using hk)
end Sw.Wd
/-! sums of words as lists of words and numbers (plain Lean) -/
namespace Sw.Wd
abbrev Kq := List (W × Rat)
def kg (kv : Kq) (w : W) : Rat := ((kv.find? fun p => decide (p.1 = w)).map (·.2)).getD 0
def has (kv : Kq) (w : W) : Bool := (kv.find? fun p => decide (p.1 = w)).isSome
def kputQ (kv : Kq) (w : W) (q : Rat) : Kq := if (kv.any fun p => decide (p.1 = w)) = true then kv.map fun p => if p.1 = w then (p.1, q) else p else kv ++ [(w, q)]
def kdropQ (kv : Kq) (w : W) : Kq := kv.filter fun p => decide (p.1 ≠ w)
def putP (kv : Kq) (w : W) (q : Rat) : Kq := if kg kv w + q = 0 then kdropQ kv w else kputQ kv w (kg kv w + q)
structure Wf (kv : Kq) : Prop where
  nd : (kv.map (·.1)).Nodup
  nz : ∀ p ∈ kv, p.2 ≠ 0
theorem Wf.nil : Wf [] := ⟨by simp, by simp⟩
theorem kg_cons (p : W × Rat) (kv : Kq) (w : W) : kg (p :: kv) w = if p.1 = w then p.2 else kg kv w := by
  unfold kg
  rw [List.find?_cons]
  by_cases h : p.1 = w <;> simp [h]
theorem kg_not {kv : Kq} {w : W} (h : w ∉ kv.map (·.1)) : kg kv w = 0 := by
  induction kv with
  | nil => rfl
  | cons p kv ih =>
    simp only [List.map_cons, List.mem_cons, not_or] at h
    rw [kg_cons, if_neg (fun e => h.1 e.symm), ih h.2]
theorem kg_mem {kv : Kq} (h : (kv.map (·.1)).Nodup) {p : W × Rat} (hp : p ∈ kv) : kg kv p.1 = p.2 := by
  induction kv with
  | nil => cases hp
  | cons q kv ih =>
    rw [List.map_cons, List.nodup_cons] at h
    rw [kg_cons]
    rcases List.mem_cons.mp hp with e | e
    · rw [e, if_pos rfl]
    · have : q.1 ≠ p.1 := fun z => h.1 (by rw [z]; exact List.mem_map_of_mem e)
      rw [if_neg this, ih h.2 e]
theorem mem_keys {kv : Kq} (h : Wf kv) {w : W} : w ∈ kv.map (·.1) ↔ kg kv w ≠ 0 := by
  constructor
  · intro m
    obtain ⟨p, hp, e⟩ := List.mem_map.mp m
    rw [← e, kg_mem h.nd hp]
    exact h.nz p hp
  · intro m
    apply Classical.byContradiction
    intro z
    exact m (kg_not z)
theorem kg_drop (kv : Kq) (w v : W) : kg (kdropQ kv w) v = if v = w then 0 else kg kv v := by
  induction kv with
  | nil => simp [kdropQ, kg]
  | cons p kv ih =>
    unfold kdropQ at ih ⊢
    rw [List.filter_cons]
    by_cases h : p.1 = w
    · rw [if_neg (by simp [h]), ih, kg_cons]
      by_cases hv : v = w
      · rw [if_pos hv, if_pos hv]
      · rw [if_neg hv, if_neg hv, if_neg (by rw [h]; exact fun e => hv e.symm)]
    · rw [if_pos (by simp [h]), kg_cons, kg_cons, ih]
      by_cases hv : v = w
      · rw [if_pos hv, if_pos hv, if_neg (by rw [hv]; exact h)]
      · rw [if_neg hv, if_neg hv]
theorem any_mem {kv : Kq} {w : W} : (kv.any fun p => decide (p.1 = w)) = true ↔ w ∈ kv.map (·.1) := by
  rw [List.any_eq_true, List.mem_map]
  constructor
  · rintro ⟨p, h, e⟩; exact ⟨p, h, of_decide_eq_true e⟩
  · rintro ⟨p, h, e⟩; exact ⟨p, h, decide_eq_true e⟩
theorem put_keys (kv : Kq) (w : W) (q : Rat) : (kputQ kv w q).map (·.1) = if w ∈ kv.map (·.1) then kv.map (·.1) else kv.map (·.1) ++ [w] := by
  unfold kputQ
  by_cases h : w ∈ kv.map (·.1)
  · rw [if_pos (any_mem.mpr h), if_pos h, List.map_map]
    apply List.map_congr_left
    intro p _
    by_cases e : p.1 = w <;> simp [e]
  · rw [if_neg (fun e => h (any_mem.mp e)), if_neg h]
    simp
theorem kg_append (a b : Kq) (w : W) : kg (a ++ b) w = if w ∈ a.map (·.1) then kg a w else kg b w := by
  induction a with
  | nil => simp
  | cons p a ih =>
    rw [List.cons_append, kg_cons, kg_cons, ih]
    by_cases e : p.1 = w
    · rw [if_pos e, if_pos e, if_pos (by simp [e])]
    · rw [if_neg e, if_neg e]
      by_cases h : w ∈ a.map (·.1)
      · rw [if_pos h, if_pos (by rw [List.map_cons]; exact List.mem_cons_of_mem _ h)]
      · rw [if_neg h, if_neg (by rw [List.map_cons, List.mem_cons, not_or]; exact ⟨fun z => e z.symm, h⟩)]
theorem kg_mapq (kv : Kq) (w v : W) (q : Rat) : kg (kv.map fun p => if p.1 = w then (p.1, q) else p) v = if v = w then (if w ∈ kv.map (·.1) then q else 0) else kg kv v := by
  induction kv with
  | nil => simp [kg]
  | cons p kv ih =>
    rw [List.map_cons, kg_cons, ih, kg_cons]
    by_cases e : p.1 = w
    · rw [if_pos e]
      by_cases hv : v = w
      · subst hv; simp [e]
      · have : ¬ p.1 = v := fun z => hv (z.symm.trans e)
        simp [hv, this]
    · rw [if_neg e]
      by_cases hv : v = w
      · subst hv
        rw [if_neg e, if_pos rfl, if_pos rfl]
        by_cases hm : v ∈ kv.map (·.1)
        · rw [if_pos hm, if_pos (by rw [List.map_cons]; exact List.mem_cons_of_mem _ hm)]
        · rw [if_neg hm, if_neg (by rw [List.map_cons, List.mem_cons, not_or]; exact ⟨fun z => e z.symm, hm⟩)]
      · rw [if_neg hv, if_neg hv]
theorem kg_put (kv : Kq) (w v : W) (q : Rat) : kg (kputQ kv w q) v = if v = w then q else kg kv v := by
  unfold kputQ
  by_cases h : w ∈ kv.map (·.1)
  · rw [if_pos (any_mem.mpr h), kg_mapq, if_pos h]
  · rw [if_neg (fun e => h (any_mem.mp e)), kg_append]
    by_cases hv : v = w
    · rw [hv, if_neg h, if_pos rfl, kg_cons, if_pos rfl]
    · rw [if_neg hv]
      by_cases hm : v ∈ kv.map (·.1)
      · rw [if_pos hm]
      · rw [if_neg hm, kg_not hm, kg_cons, if_neg (fun e => hv e.symm)]; rfl
theorem kg_putP (kv : Kq) (w v : W) (q : Rat) : kg (putP kv w q) v = kg kv v + if v = w then q else 0 := by
  unfold putP
  by_cases h : kg kv w + q = 0
  · rw [if_pos h, kg_drop]
    by_cases hv : v = w
    · rw [if_pos hv, if_pos hv, hv, h]
    · rw [if_neg hv, if_neg hv]; grind
  · rw [if_neg h, kg_put]
    by_cases hv : v = w
    · rw [if_pos hv, if_pos hv, hv]
    · rw [if_neg hv, if_neg hv]; grind
theorem mem_kput {kv : Kq} {w : W} {q : Rat} {p : W × Rat} (h : p ∈ kputQ kv w q) : p ∈ kv ∨ p = (w, q) := by
  unfold kputQ at h
  split at h
  · obtain ⟨r, hr, e⟩ := List.mem_map.mp h
    by_cases z : r.1 = w
    · rw [if_pos z] at e; exact .inr (by rw [← e, z])
    · rw [if_neg z] at e; exact .inl (by rw [← e]; exact hr)
  · rcases List.mem_append.mp h with h | h
    · exact .inl h
    · exact .inr (List.mem_singleton.mp h)
theorem Wf.putP {kv : Kq} (h : Wf kv) (w : W) (q : Rat) : Wf (putP kv w q) := by
  unfold Wd.putP
  by_cases z : kg kv w + q = 0
  · rw [if_pos z]
    refine ⟨?_, fun p hp => h.nz p (List.mem_filter.mp hp).1⟩
    exact h.nd.sublist (List.Sublist.map _ (List.filter_sublist))
  · rw [if_neg z]
    refine ⟨?_, fun p hp => ?_⟩
    · rw [put_keys]
      split
      · exact h.nd
      · rename_i hm
        rw [List.nodup_append]
        refine ⟨h.nd, by simp, fun a ha b hb e => hm ?_⟩
        rw [List.mem_singleton] at hb
        rw [← hb, ← e]; exact ha
    · rcases mem_kput hp with h' | h'
      · exact h.nz p h'
      · rw [h']; exact z
def addAll (kv : Kq) (l : Kq) : Kq := l.foldl (fun kv p => putP kv p.1 p.2) kv
def sumAt : Kq → Cf
  | [], _ => 0
  | p :: l, w => (if w = p.1 then p.2 else 0) + sumAt l w
theorem Wf.addAll : ∀ {l : Kq} {kv : Kq}, Wf kv → Wf (addAll kv l)
  | [], _, h => h
  | p :: l, kv, h => Wf.addAll (l := l) (h.putP p.1 p.2)
theorem kg_addAll : ∀ (l : Kq) (kv : Kq) (v : W), kg (addAll kv l) v = kg kv v + sumAt l v
  | [], kv, v => by simp [addAll, sumAt]; grind
  | p :: l, kv, v => by
    show kg (addAll (putP kv p.1 p.2) l) v = _
    rw [kg_addAll l, kg_putP]
    simp only [sumAt]
    grind
theorem addAll_append (kv a b : Kq) : addAll kv (a ++ b) = addAll (addAll kv a) b := by unfold addAll; rw [List.foldl_append]
theorem sumAt_append : ∀ (a b : Kq) (v : W), sumAt (a ++ b) v = sumAt a v + sumAt b v
  | [], b, v => by simp [sumAt]; grind
  | p :: a, b, v => by simp only [List.cons_append, sumAt]; rw [sumAt_append a b v]; grind
theorem sumAt_kg : ∀ {kv : Kq}, (kv.map (·.1)).Nodup → ∀ v, sumAt kv v = kg kv v
  | [], _, v => rfl
  | p :: kv, h, v => by
    rw [List.map_cons, List.nodup_cons] at h
    simp only [sumAt]
    rw [sumAt_kg h.2, kg_cons]
    by_cases e : v = p.1
    · rw [if_pos e, if_pos e.symm, kg_not (by rw [e]; exact h.1)]; grind
    · rw [if_neg e, if_neg (fun z => e z.symm)]; grind
theorem sumAt_scale (c : Rat) : ∀ (l : Kq) (v : W), sumAt (l.map fun p => (p.1, p.2 * c)) v = c * sumAt l v
  | [], v => by simp [sumAt]
  | p :: l, v => by
    simp only [List.map_cons, sumAt]
    rw [sumAt_scale c l v]
    split <;> grind
/-! ### put behind one another -/
def pair1 (p : W × Rat) (l : Kq) : Kq := (l.filter fun r => decide (p.1.length + r.1.length ≤ 5)).map fun r => (p.1 ++ r.1, p.2 * r.2)
def pairs (a b : Kq) : Kq := a.flatMap fun p => pair1 p b
theorem conv_delta (g : Cf) : ∀ (w v : W), conv (fun u => if u = w then 1 else 0) g v = if w.length ≤ v.length ∧ v.take w.length = w then g (v.drop w.length) else 0
  | [], v => by
    have e : (fun u : W => if u = [] then (1 : Rat) else 0) = one := rfl
    rw [e, one_conv]; simp
  | a :: w, [] => by simp [conv]
  | a :: w, b :: v => by
    simp only [conv]
    have e : (fun u : W => if b :: u = a :: w then (1 : Rat) else 0) = if b = a then (fun u => if u = w then 1 else 0) else fun _ => 0 := by
      funext u
      by_cases h : b = a <;> simp [h]
    rw [e]
    by_cases h : b = a
    · rw [if_pos h, conv_delta g w v]
      simp [h]
      grind
    · rw [if_neg h, conv_zero_left]
      simp [h]
      grind
theorem sumAt_pair1 (p : W × Rat) : ∀ (l : Kq) (v : W), sumAt (pair1 p l) v = if v.length ≤ 5 then (if p.1.length ≤ v.length ∧ v.take p.1.length = p.1 then p.2 * sumAt l (v.drop p.1.length) else 0) else 0
  | [], v => by simp [pair1, sumAt]
  | r :: l, v => by
    have ih := sumAt_pair1 p l v
    unfold pair1 at ih ⊢
    rw [List.filter_cons]
    have key : v = p.1 ++ r.1 ↔ (p.1.length ≤ v.length ∧ v.take p.1.length = p.1) ∧ v.drop p.1.length = r.1 := by
      constructor
      · intro e; rw [e]; simp
      · rintro ⟨⟨_, h⟩, h'⟩
        rw [← h, ← h']
        simp
    by_cases h5 : p.1.length + r.1.length ≤ 5
    · rw [if_pos (by simpa using h5), List.map_cons]
      simp only [sumAt]
      rw [ih]
      by_cases hv : v.length ≤ 5
      · rw [if_pos hv, if_pos hv]
        by_cases hp : p.1.length ≤ v.length ∧ v.take p.1.length = p.1
        · rw [if_pos hp, if_pos hp]
          by_cases hr : v.drop p.1.length = r.1
          · rw [if_pos (key.mpr ⟨hp, hr⟩), if_pos hr]; grind
          · rw [if_neg (fun e => hr (key.mp e).2), if_neg hr]; grind
        · rw [if_neg hp, if_neg hp, if_neg (fun e => hp (key.mp e).1)]; grind
      · rw [if_neg hv, if_neg hv, if_neg (fun e => hv (by rw [e, List.length_append]; exact h5))]; grind
    · rw [if_neg (by simpa using h5), ih]
      by_cases hv : v.length ≤ 5
      · rw [if_pos hv, if_pos hv]
        by_cases hp : p.1.length ≤ v.length ∧ v.take p.1.length = p.1
        · rw [if_pos hp, if_pos hp]
          have hr : v.drop p.1.length ≠ r.1 := fun e => h5 (by
            have := congrArg List.length (key.mpr ⟨hp, e⟩)
            rw [List.length_append] at this
            omega)
          simp only [sumAt]
          rw [if_neg hr]; grind
        · rw [if_neg hp, if_neg hp]
      · rw [if_neg hv, if_neg hv]
theorem sumAt_pairs : ∀ (a b : Kq) (v : W), sumAt (pairs a b) v = if v.length ≤ 5 then conv (sumAt a) (sumAt b) v else 0
  | [], b, v => by
    have e : sumAt [] = fun _ => 0 := rfl
    simp only [pairs, List.flatMap_nil]
    rw [e, conv_zero_left]
    simp
  | p :: a, b, v => by
    have ih := sumAt_pairs a b v
    unfold pairs at ih ⊢
    rw [List.flatMap_cons, sumAt_append, ih, sumAt_pair1]
    have e : sumAt (p :: a) = fun u => (p.2 * (if u = p.1 then 1 else 0)) + sumAt a u := by
      funext u
      simp only [sumAt]
      split <;> grind
    by_cases hv : v.length ≤ 5
    · rw [if_pos hv, if_pos hv, if_pos hv, e, conv_add_left, conv_smul_left, conv_delta]
      split <;> grind
    · rw [if_neg hv, if_neg hv, if_neg hv]; grind
end Sw.Wd
/-! told sums: in order of their words; grown and logged of them undo one another -/
namespace Sw.Wd
open PySem.W in
theorem rkLe_eq (a b : W) : rkLe a b = decide (a.length < b.length ∨ (a.length = b.length ∧ a ≤ b)) := by
  unfold rkLe
  rw [dataLe_eq]
  have hx : alike (.int (b.length : Int)) (.int (a.length : Int)) = true := rfl
  have hy : alike (.tuple (b.map .int)) (.tuple (a.map .int)) = true := by simp [alike, alike_ints]
  simp only [cond_false]
  unfold rkD
  rw [dataLt_pair hx hy, dataLt_int, dataLt_tuple]
  have e2 : PyProof.Rows.lexLt PyProof.Rows.itemOrd (keyToksAll (b.map .int)) (keyToksAll (a.map .int)) = decide (b < a) := dataLt_ints b a
  rw [e2]
  have e3 : PySem.PyData.eqv (.tuple (b.map .int)) (.tuple (a.map .int)) = decide (b = a) := by rw [← eqv_ints]; simp [PySem.PyData.eqv]
  rw [e3]
  have e4 : PySem.PyData.eqv (.int (b.length : Int)) (.int (a.length : Int)) = decide (b.length = a.length) := by
    simp only [PySem.PyData.eqv]
    by_cases h : b.length = a.length
    · simp [h]
    · have : ¬ ((b.length : Int) = (a.length : Int)) := by omega
      simp only [h, decide_false]
      simp
      exact this
  rw [e4]
  by_cases h : b.length = a.length
  · by_cases h' : b = a
    · subst h'
      simp [List.le_refl]
    · have : ¬ (a.length < b.length) := by omega
      simp only [h, h', decide_true, decide_false, if_true, Bool.false_eq_true, if_false, this, false_or, true_and]
      by_cases hl : b < a
      · have : ¬ a ≤ b := fun z => (List.not_lt.mpr z) hl
        simp [hl, this]
      · have : a ≤ b := List.not_lt.mp hl
        simp [hl, this]
  · simp only [h, decide_false, Bool.false_eq_true, if_false]
    have : ¬ (a.length = b.length) := fun e => h e.symm
    simp only [this, false_and, or_false]
    by_cases hl : b.length < a.length
    · have h1 : ((b.length : Int) < (a.length : Int)) := by omega
      have h2 : ¬ a.length < b.length := by omega
      simp [h2]; omega
    · have h2 : a.length < b.length := by omega
      simp [h2]; omega
def Rk (a b : W) : Prop := a.length < b.length ∨ (a.length = b.length ∧ a ≤ b)
theorem rk_iff {a b : W} : rkLe a b = true ↔ Rk a b := by rw [rkLe_eq]; exact decide_eq_true_iff
theorem Rk.trans {a b c : W} (h : Rk a b) (h' : Rk b c) : Rk a c := by
  rcases h with h | ⟨h, l⟩ <;> rcases h' with h' | ⟨h', l'⟩
  · exact .inl (by omega)
  · exact .inl (by omega)
  · exact .inl (by omega)
  · exact .inr ⟨by omega, List.le_trans l l'⟩
theorem Rk.total (a b : W) : Rk a b ∨ Rk b a := by
  rcases Nat.lt_trichotomy a.length b.length with h | h | h
  · exact .inl (.inl h)
  · rcases List.le_total a b with l | l
    · exact .inl (.inr ⟨h, l⟩)
    · exact .inr (.inr ⟨h.symm, l⟩)
  · exact .inr (.inl h)
theorem Rk.anti {a b : W} (h : Rk a b) (h' : Rk b a) : a = b := by
  rcases h with h | ⟨h, l⟩ <;> rcases h' with h' | ⟨h', l'⟩
  · omega
  · omega
  · omega
  · exact List.le_antisymm l l'
def srt (ws : List W) : List W := ws.mergeSort rkLe
theorem srt_perm (ws : List W) : (srt ws).Perm ws := List.mergeSort_perm ws rkLe
theorem srt_pw (ws : List W) : (srt ws).Pairwise Rk := by
  have := List.pairwise_mergeSort (le := rkLe) (fun a b c h h' => rk_iff.mpr ((rk_iff.mp h).trans (rk_iff.mp h'))) (fun a b => by
    rw [Bool.or_eq_true, rk_iff, rk_iff]; exact Rk.total a b) ws
  exact this.imp fun h => rk_iff.mp h
theorem srt_eq {a b : List W} (h : a.Perm b) : srt a = srt b :=
  List.Perm.eq_of_pairwise (le := Rk) (fun _ _ _ _ h h' => h.anti h') (srt_pw a) (srt_pw b) ((srt_perm a).trans (h.trans (srt_perm b).symm))
/-- a sum as it is told -/
def told (kv : Kq) : Kq := (srt (kv.map (·.1))).map fun w => (w, kg kv w)
theorem told_keys (kv : Kq) : (told kv).map (·.1) = srt (kv.map (·.1)) := by
  unfold told; rw [List.map_map]; exact List.map_id'' (fun _ => rfl) _
theorem told_nd {kv : Kq} (h : Wf kv) : ((told kv).map (·.1)).Nodup := by rw [told_keys]; exact (srt_perm _).nodup_iff.mpr h.nd
theorem kg_map_list (g : W → Rat) : ∀ (ws : List W) (v : W), kg (ws.map fun w => (w, g w)) v = if v ∈ ws then g v else 0
  | [], v => by simp [kg]
  | w :: ws, v => by
    rw [List.map_cons, kg_cons, kg_map_list g ws]
    by_cases e : w = v
    · simp [e]
    · have : ¬ v = w := fun z => e z.symm
      simp [e, this]
theorem kg_told (kv : Kq) (v : W) : kg (told kv) v = kg kv v := by
  unfold told
  rw [kg_map_list]
  split
  · rfl
  · rename_i h
    rw [kg_not (fun m => h ((srt_perm _).mem_iff.mpr m))]
theorem Wf.told {kv : Kq} (h : Wf kv) : Wf (told kv) := by
  refine ⟨told_nd h, fun p hp => ?_⟩
  obtain ⟨w, hw, e⟩ := List.mem_map.mp hp
  rw [← e]
  exact (mem_keys h).mp ((srt_perm _).mem_iff.mp hw)
theorem sumAt_told {kv : Kq} (h : Wf kv) (v : W) : sumAt (told kv) v = kg kv v := by rw [sumAt_kg (told_nd h), kg_told]
theorem told_eq {a b : Kq} (ha : Wf a) (hb : Wf b) (h : ∀ w, kg a w = kg b w) : told a = told b := by
  have p : (a.map (·.1)).Perm (b.map (·.1)) := (List.perm_ext_iff_of_nodup ha.nd hb.nd).mpr fun w => by rw [mem_keys ha, mem_keys hb, h]
  unfold told
  rw [srt_eq p]
  exact List.map_congr_left fun w _ => by rw [h]
theorem told_told {a : Kq} (ha : Wf a) : told (told a) = told a := told_eq ha.told ha fun w => kg_told a w
/-! ### the functions -/
def joinP (a b : Kq) : Kq := told (addAll [] (pairs a b))
def addedP (total : Kq) : List Rat → Kq → Kq → Kq
  | [], _, kv => kv
  | s :: ss, pwr, kv => addedP total ss (joinP pwr total) (addAll kv ((joinP pwr total).map fun p => (p.1, p.2 * s)))
def grownP (total : Kq) : Kq := told (putP (addedP total eS [([], 1)] []) [] 1)
def restP (total : Kq) : Kq := total.filter fun p => decide (p.1 ≠ [])
def loggedP (total : Kq) : Kq := told (addedP (restP total) lS [([], 1)] [])
theorem joinP_wf (a b : Kq) : Wf (joinP a b) := (Wf.addAll Wf.nil).told
theorem sumAt_join (a b : Kq) (v : W) : sumAt (joinP a b) v = if v.length ≤ 5 then conv (sumAt a) (sumAt b) v else 0 := by
  unfold joinP
  rw [sumAt_told (Wf.addAll Wf.nil), kg_addAll, sumAt_pairs]
  have : kg [] v = 0 := rfl
  rw [this]; grind
theorem addedP_wf (total : Kq) : ∀ (ss : List Rat) (pwr kv : Kq), Wf kv → Wf (addedP total ss pwr kv)
  | [], _, _, h => h
  | s :: ss, pwr, kv, h => addedP_wf total ss _ _ (Wf.addAll h)
theorem kg_added (total : Kq) : ∀ (ss : List Rat) (pwr kv : Kq) (n : Nat) (v : W), (∀ u, u.length ≤ 5 → sumAt pwr u = pw (sumAt total) n u) →
    kg (addedP total ss pwr kv) v = kg kv v + if v.length ≤ 5 then pe (sumAt total) ss (n + 1) v else 0
  | [], pwr, kv, n, v, h => by simp only [addedP, pe]; split <;> grind
  | s :: ss, pwr, kv, n, v, h => by
    simp only [addedP]
    have hj : ∀ u, u.length ≤ 5 → sumAt (joinP pwr total) u = pw (sumAt total) (n + 1) u := fun u hu => by
      rw [sumAt_join, if_pos hu]
      exact conv_eq5 u hu h (fun _ _ => rfl)
    rw [kg_added total ss _ _ (n + 1) v hj, kg_addAll, sumAt_scale]
    by_cases hv : v.length ≤ 5
    · rw [if_pos hv, if_pos hv, hj v hv]
      simp only [pe]
      grind
    · rw [if_neg hv, if_neg hv, sumAt_join, if_neg hv]
      grind
theorem start_pw (x : Cf) (u : W) : sumAt [([], 1)] u = pw x 0 u := by
  simp only [sumAt, pw, one]; split <;> grind
/-- words of at most five letters -/
def Sh (l : Kq) : Prop := ∀ v, ¬ v.length ≤ 5 → sumAt l v = 0
theorem kg_added0 (total : Kq) (ss : List Rat) (v : W) : kg (addedP total ss [([], 1)] []) v = if v.length ≤ 5 then pe (sumAt total) ss 1 v else 0 := by
  rw [kg_added total ss _ _ 0 v fun u _ => start_pw _ u]
  have : kg [] v = 0 := rfl
  rw [this]; grind
theorem sumAt_grown (total : Kq) (v : W) : sumAt (grownP total) v = (if v.length ≤ 5 then pe (sumAt total) eS 1 v else 0) + if v = [] then 1 else 0 := by
  unfold grownP
  rw [sumAt_told ((addedP_wf _ _ _ _ Wf.nil).putP _ _), kg_putP, kg_added0]
theorem sumAt_rest (total : Kq) (v : W) : sumAt (restP total) v = if v = [] then 0 else sumAt total v := by
  induction total with
  | nil => simp [restP, sumAt]
  | cons p l ih =>
    unfold restP at ih ⊢
    rw [List.filter_cons]
    by_cases h : p.1 = []
    · rw [if_neg (by simp [h]), ih]
      simp only [sumAt]
      by_cases hv : v = []
      · simp [hv]
      · rw [if_neg hv, if_neg hv, if_neg (by rw [h]; exact hv)]; grind
    · rw [if_pos (by simp [h])]
      simp only [sumAt]
      rw [ih]
      by_cases hv : v = []
      · rw [if_pos hv, if_pos hv, if_neg (by rw [hv]; exact fun e => h e.symm)]; grind
      · rw [if_neg hv, if_neg hv]
theorem sumAt_logged (total : Kq) (v : W) : sumAt (loggedP total) v = if v.length ≤ 5 then pe (sumAt (restP total)) lS 1 v else 0 := by
  unfold loggedP
  rw [sumAt_told (addedP_wf _ _ _ _ Wf.nil), kg_added0]
/-- logged of the grown sum is the sum -/
theorem back1 {kv : Kq} (h : Wf kv) (h0 : kg kv [] = 0) (hs : ∀ v, ¬ v.length ≤ 5 → kg kv v = 0) : loggedP (grownP (told kv)) = told kv := by
  unfold loggedP
  refine told_eq (addedP_wf _ _ _ _ Wf.nil) h fun w => ?_
  rw [kg_added0]
  have z0 : sumAt (told kv) [] = 0 := by rw [sumAt_told h, h0]
  by_cases hw : w.length ≤ 5
  · rw [if_pos hw]
    have e : Eq5 (sumAt (restP (grownP (told kv)))) (pe (sumAt (told kv)) eS 1) := fun u hu => by
      rw [sumAt_rest, sumAt_grown]
      by_cases hu0 : u = []
      · rw [if_pos hu0, hu0, pe_nil z0 eS 1 (by decide)]
      · rw [if_neg hu0, if_neg hu0, if_pos hu]; grind
    rw [pe_eq5 e lS 1 w hw, log_exp z0 w hw, sumAt_told h]
  · rw [if_neg hw, hs w hw]
/-- grown of the logged sum is the sum with the word of none -/
theorem back2 {kv whole : Kq} (h : Wf kv) (h0 : kg kv [] = 0) (hs : ∀ v, ¬ v.length ≤ 5 → kg kv v = 0) (hw : ∀ v, sumAt whole v = (if v = [] then 1 else 0) + kg kv v) {kv' : Kq} (h' : Wf kv') (e' : whole = told kv') :
    grownP (loggedP whole) = whole := by
  have hk : ∀ v, kg kv' v = (if v = [] then 1 else 0) + kg kv v := fun v => by rw [← hw, e', sumAt_told h']
  rw [e']
  unfold grownP
  refine told_eq ((addedP_wf _ _ _ _ Wf.nil).putP _ _) h' fun w => ?_
  rw [kg_putP, kg_added0, hk]
  have er : ∀ u, sumAt (restP (told kv')) u = kg kv u := fun u => by
    rw [sumAt_rest, sumAt_told h', hk]
    by_cases hu : u = []
    · rw [if_pos hu, hu, h0]
    · rw [if_neg hu, if_neg hu]; grind
  have x0 : sumAt (restP (told kv')) [] = 0 := by rw [er, h0]
  have el : Eq5 (sumAt (loggedP (told kv'))) (pe (sumAt (restP (told kv'))) lS 1) := fun u hu => by rw [sumAt_logged, if_pos hu]
  by_cases hl : w.length ≤ 5
  · rw [if_pos hl, pe_eq5 el eS 1 w hl, exp_log x0 w hl, er]; grind
  · rw [if_neg hl, hs w hl]; grind
end Sw.Wd
/-! numbers with a common divisor: how great they are (plain Lean) -/
namespace Sw.Wd
def Bd (D M : Nat) (q : Rat) : Prop := ∃ z : Int, q * (D : Rat) = (z : Rat) ∧ z.natAbs ≤ M
theorem Bd.zero (D M : Nat) : Bd D M 0 := ⟨0, by simp, by simp⟩
theorem Bd.add {D M M' : Nat} {p q : Rat} (h : Bd D M p) (h' : Bd D M' q) : Bd D (M + M') (p + q) := by
  obtain ⟨z, e, l⟩ := h
  obtain ⟨z', e', l'⟩ := h'
  exact ⟨z + z', by rw [Rat.add_mul, e, e', Rat.intCast_add], Nat.le_trans (Int.natAbs_add_le _ _) (Nat.add_le_add l l')⟩
theorem Bd.mul {D D' M M' : Nat} {p q : Rat} (h : Bd D M p) (h' : Bd D' M' q) : Bd (D * D') (M * M') (p * q) := by
  obtain ⟨z, e, l⟩ := h
  obtain ⟨z', e', l'⟩ := h'
  refine ⟨z * z', ?_, by rw [Int.natAbs_mul]; exact Nat.mul_le_mul l l'⟩
  rw [Rat.intCast_mul, ← e, ← e', Rat.natCast_mul]
  grind
theorem Bd.mono {D M M' : Nat} {q : Rat} (h : Bd D M q) (l : M ≤ M') : Bd D M' q := by
  obtain ⟨z, e, l'⟩ := h
  exact ⟨z, e, Nat.le_trans l' l⟩
theorem Bd.wide {D M : Nat} {q : Rat} (k : Nat) (h : Bd D M q) : Bd (D * k) (M * k) q := by
  obtain ⟨z, e, l⟩ := h
  refine ⟨z * k, ?_, by rw [Int.natAbs_mul]; exact Nat.mul_le_mul l (Nat.le_of_eq (by simp))⟩
  rw [Rat.intCast_mul, ← e, Rat.natCast_mul]
  have : ((k : Int) : Rat) = (k : Rat) := rfl
  rw [this]
  grind
theorem Bd.fit {D M : Nat} {q : Rat} (h : Bd D M q) (hD : 0 < D) : q.num.natAbs ≤ M ∧ q.den ≤ D := by
  obtain ⟨z, e, l⟩ := h
  have e1 : q.num * D = z * q.den := by
    have h1 : Rat.divInt (q.num * D) q.den = Rat.divInt z 1 := by
      have h2 : Rat.divInt q.num q.den = q := Rat.num_divInt_den q
      have h4 : (1 : Rat)⁻¹ = 1 := by decide +kernel
      have h3 : Rat.divInt z 1 = (z : Rat) := by
        rw [Rat.divInt_eq_div]
        show (z : Rat) / 1 = z
        rw [Rat.div_def, h4]
        grind
      rw [h3, ← e]
      conv => rhs; rw [← h2]
      rw [Rat.divInt_eq_div, Rat.divInt_eq_div, Rat.intCast_mul]
      have : ((D : Int) : Rat) = (D : Rat) := rfl
      rw [this, Rat.div_def, Rat.div_def]
      grind
    have hd : (q.den : Int) ≠ 0 := by have := q.den_pos; omega
    have := (Rat.divInt_eq_divInt_iff hd (by decide : (1 : Int) ≠ 0)).mp h1
    simpa using this
  have d1 : q.den ∣ D := by
    have h1 : q.den ∣ q.num.natAbs * D := by
      have := congrArg Int.natAbs e1
      rw [Int.natAbs_mul, Int.natAbs_mul] at this
      simp only [Int.natAbs_natCast] at this
      exact ⟨z.natAbs, by rw [this, Nat.mul_comm]⟩
    exact Nat.Coprime.dvd_of_dvd_mul_left q.reduced.symm h1
  obtain ⟨k, hk⟩ := d1
  refine ⟨?_, Nat.le_of_dvd hD ⟨k, hk⟩⟩
  have hk0 : 0 < k := by
    rcases Nat.eq_zero_or_pos k with z | z
    · rw [z, Nat.mul_zero] at hk; omega
    · exact z
  have e2 : q.num * k = z := by
    have hd : (q.den : Int) ≠ 0 := by have := q.den_pos; omega
    have : (q.num * k) * q.den = z * q.den := by
      rw [← e1, hk]
      rw [Int.natCast_mul]
      grind
    exact Int.eq_of_mul_eq_mul_right hd this
  have e3 : q.num.natAbs * k = z.natAbs := by rw [← e2, Int.natAbs_mul]; simp
  calc q.num.natAbs ≤ q.num.natAbs * k := Nat.le_mul_of_pos_right _ hk0
    _ = z.natAbs := e3
    _ ≤ M := l
theorem Bd.of {q : Rat} {D M : Nat} (h : q.den ∣ D) (l : q.num.natAbs * D ≤ M) : Bd D M q := by
  obtain ⟨k, hk⟩ := h
  refine ⟨q.num * k, ?_, ?_⟩
  · have h2 : Rat.divInt q.num q.den = q := Rat.num_divInt_den q
    conv => lhs; rw [← h2]
    rw [Rat.divInt_eq_div, hk, Rat.natCast_mul, Rat.intCast_mul, Rat.div_def]
    have e1 : ((k : Int) : Rat) = (k : Rat) := rfl
    have e2 : (((q.den : Nat) : Int) : Rat) = ((q.den : Nat) : Rat) := rfl
    rw [e1, e2]
    have hd : ((q.den : Nat) : Rat) ≠ 0 := by
      have := q.den_pos
      intro z
      have : q.den = 0 := by exact_mod_cast z
      omega
    have : ((q.den : Nat) : Rat)⁻¹ * ((q.den : Nat) : Rat) = 1 := Rat.inv_mul_cancel _ hd
    grind
  · rw [Int.natAbs_mul]
    simp only [Int.natAbs_natCast]
    refine Nat.le_trans (Nat.mul_le_mul_left _ ?_) l
    rw [hk]
    exact Nat.le_mul_of_pos_left _ q.den_pos
/-- all numbers of a sum -/
def Bk (D M : Nat) (kv : Kq) : Prop := ∀ w, Bd D M (kg kv w)
theorem Bk.nil (D M : Nat) : Bk D M [] := fun _ => Bd.zero D M
theorem Bk.putP {D M M' : Nat} {kv : Kq} {q : Rat} (h : Bk D M kv) (w : W) (h' : Bd D M' q) : Bk D (M + M') (putP kv w q) := fun v => by
  rw [kg_putP]
  split
  · exact (h v).add h'
  · exact ((h v).add (Bd.zero D M'))
theorem Bk.addAll {D M M' : Nat} : ∀ {l kv : Kq}, Bk D M kv → (∀ p ∈ l, Bd D M' p.2) → Bk D (M + l.length * M') (addAll kv l)
  | [], kv, h, _ => fun w => (h w).mono (by simp)
  | p :: l, kv, h, h' => by
    have := Bk.addAll (l := l) (h.putP p.1 (h' p (List.mem_cons_self ..))) (fun q hq => h' q (List.mem_cons_of_mem _ hq))
    have e : M + (p :: l).length * M' = M + M' + l.length * M' := by simp only [List.length_cons, Nat.succ_mul]; omega
    rw [e]; exact this
theorem putP_length (kv : Kq) (w : W) (q : Rat) : (putP kv w q).length ≤ kv.length + 1 := by
  unfold putP
  split
  · exact Nat.le_succ_of_le (List.length_filter_le _ _)
  · unfold kputQ
    split
    · simp
    · simp
theorem addAll_length : ∀ (l kv : Kq), (addAll kv l).length ≤ kv.length + l.length
  | [], kv => by simp [addAll]
  | p :: l, kv => by
    have := addAll_length l (putP kv p.1 p.2)
    have h2 := putP_length kv p.1 p.2
    show (addAll (putP kv p.1 p.2) l).length ≤ _
    simp only [List.length_cons]; omega
/-- words of at most five letters, each of 0 to 3 -/
def wordsN : Nat → List W
  | 0 => [[]]
  | n + 1 => [] :: ([0, 1, 2, 3].flatMap fun a => (wordsN n).map (a :: ·))
def WOk (w : W) : Prop := w.length ≤ 5 ∧ ∀ i ∈ w, 0 ≤ i ∧ i < 4
theorem wordsN_mem : ∀ (n : Nat) (w : W), w.length ≤ n → (∀ i ∈ w, 0 ≤ i ∧ i < 4) → w ∈ wordsN n
  | 0, w, h, _ => by
    have : w = [] := List.length_eq_zero_iff.mp (by omega)
    subst this; simp [wordsN]
  | n + 1, [], _, _ => by simp [wordsN]
  | n + 1, a :: w, h, h' => by
    have ha := h' a (List.mem_cons_self ..)
    have hw := wordsN_mem n w (by simpa using h) (fun i hi => h' i (List.mem_cons_of_mem _ hi))
    simp only [wordsN]
    refine List.mem_cons_of_mem _ (List.mem_flatMap.mpr ⟨a, ?_, List.mem_map_of_mem hw⟩)
    have : a = 0 ∨ a = 1 ∨ a = 2 ∨ a = 3 := by omega
    rcases this with rfl | rfl | rfl | rfl <;> simp
def KOk (kv : Kq) : Prop := ∀ w ∈ kv.map (·.1), WOk w
theorem words_len : (wordsN 5).length = 1365 := by decide +kernel
theorem KOk.length {kv : Kq} (h : KOk kv) (nd : (kv.map (·.1)).Nodup) : kv.length ≤ 1365 := by
  have := nd.length_le_of_subset (fun w hw => wordsN_mem 5 w (h w hw).1 (h w hw).2)
  rw [words_len, List.length_map] at this
  exact this
theorem KOk.putP {kv : Kq} (h : KOk kv) {w : W} (hw : WOk w) (q : Rat) : KOk (putP kv w q) := fun v hv => by
  unfold Wd.putP at hv
  split at hv
  · obtain ⟨p, hp, e⟩ := List.mem_map.mp hv
    exact h v (e ▸ List.mem_map_of_mem (List.mem_filter.mp hp).1)
  · rw [put_keys] at hv
    split at hv
    · exact h v hv
    · rcases List.mem_append.mp hv with z | z
      · exact h v z
      · rw [List.mem_singleton] at z; rw [z]; exact hw
theorem KOk.addAll : ∀ {l kv : Kq}, KOk kv → (∀ p ∈ l, WOk p.1) → KOk (addAll kv l)
  | [], kv, h, _ => h
  | p :: l, kv, h, h' => KOk.addAll (l := l) (h.putP (h' p (List.mem_cons_self ..)) p.2) (fun q hq => h' q (List.mem_cons_of_mem _ hq))
theorem KOk.told {kv : Kq} (h : KOk kv) : KOk (told kv) := fun w hw => by
  rw [told_keys] at hw
  exact h w ((srt_perm _).mem_iff.mp hw)
theorem pairs_ok {a b : Kq} (ha : KOk a) (hb : KOk b) : ∀ p ∈ pairs a b, WOk p.1 := fun p hp => by
  obtain ⟨x, hx, hp⟩ := List.mem_flatMap.mp hp
  obtain ⟨y, hy, e⟩ := List.mem_map.mp hp
  obtain ⟨hy, hl⟩ := List.mem_filter.mp hy
  subst e
  refine ⟨by rw [List.length_append]; exact of_decide_eq_true hl, fun i hi => ?_⟩
  rcases List.mem_append.mp hi with z | z
  · exact (ha x.1 (List.mem_map_of_mem hx)).2 i z
  · exact (hb y.1 (List.mem_map_of_mem hy)).2 i z
theorem pair1_bd {D D' M M' : Nat} {p : W × Rat} {b : Kq} (hp : Bd D M p.2) (hb : ∀ q ∈ b, Bd D' M' q.2) : ∀ q ∈ pair1 p b, Bd (D * D') (M * M') q.2 := fun q hq => by
  obtain ⟨y, hy, e⟩ := List.mem_map.mp hq
  subst e
  exact hp.mul (hb y (List.mem_filter.mp hy).1)
theorem pairs_bd {D D' M M' : Nat} {a b : Kq} (ha : ∀ q ∈ a, Bd D M q.2) (hb : ∀ q ∈ b, Bd D' M' q.2) : ∀ q ∈ pairs a b, Bd (D * D') (M * M') q.2 := fun q hq => by
  obtain ⟨x, hx, hq⟩ := List.mem_flatMap.mp hq
  exact pair1_bd (ha x hx) hb q hq
theorem pair1_len (p : W × Rat) (b : Kq) : (pair1 p b).length ≤ b.length := by
  unfold pair1; rw [List.length_map]; exact List.length_filter_le _ _
theorem pairs_len : ∀ (a b : Kq), (pairs a b).length ≤ a.length * b.length
  | [], b => by simp [pairs]
  | p :: a, b => by
    have h1 := pairs_len a b
    have h2 := pair1_len p b
    unfold pairs at h1 ⊢
    rw [List.flatMap_cons, List.length_append, List.length_cons, Nat.succ_mul]
    omega
theorem told_bd {D M : Nat} {kv : Kq} (h : Bk D M kv) : ∀ p ∈ told kv, Bd D M p.2 := fun p hp => by
  obtain ⟨w, _, e⟩ := List.mem_map.mp hp
  rw [← e]; exact h w
theorem told_length (kv : Kq) : (told kv).length = kv.length := by
  have := congrArg List.length (told_keys kv)
  rw [List.length_map] at this
  rw [this, (srt_perm _).length_eq, List.length_map]
theorem Bk.of_told {D M : Nat} {kv : Kq} (h : Wf kv) (hb : ∀ p ∈ kv, Bd D M p.2) : Bk D M kv := fun w => by
  by_cases m : w ∈ kv.map (·.1)
  · obtain ⟨p, hp, e⟩ := List.mem_map.mp m
    rw [← e, kg_mem h.nd hp]; exact hb p hp
  · rw [kg_not m]; exact Bd.zero D M
end Sw.Wd
/-! fractions: what the defs tell -/
namespace Sp
open Sw
theorem fnM_of {n : Nat} {P : List Nat} {b : SF} {S : Ss} {o : Out} {S' : Ss} (h : owOk P S = true) (e : b (S ++ List.replicate (n - S.length) .un) = some (o, S')) : fnM n P b S = some (o, cutP P S.length S') := by
  unfold fnM; rw [if_pos h, e]; rfl
/-- a def that tells d -/
def Tells (m : SF) (ds : List D) (d : D) : Prop := ∃ S', m (ds.map .va) = some (.ret d, S')
theorem call_tells {m : SF} {fs : AF} {S S1 : Ss} {ds : List D} {d : D} (h : Tells m ds d) (e : fs S = some (ds, S1)) : eCall m fs S = some (d, S1) := by
  obtain ⟨S', h⟩ := h
  unfold eCall
  rw [e, bd_some, h]
theorem tells_of {n : Nat} {b : SF} {ds : List D} {d : D} (h : owOk [] (ds.map .va) = true) (e : ∃ S', b (ds.map .va ++ List.replicate (n - (ds.map Sl.va).length) .un) = some (.ret d, S')) : Tells (fnM n [] b) ds d := by
  obtain ⟨S', e⟩ := e
  exact ⟨_, fnM_of h e⟩
/-- a def that tells a new cell -/
def TellsF (m : SF) (ds : List D) (d : D) : Prop := ∃ S', m (ds.map .va) = some (.rtF d, S')
theorem tellsF_of {n : Nat} {b : SF} {ds : List D} {d : D} (h : owOk [] (ds.map .va) = true) (e : ∃ S', b (ds.map .va ++ List.replicate (n - (ds.map Sl.va).length) .un) = some (.rtF d, S')) : TellsF (fnM n [] b) ds d := by
  obtain ⟨S', e⟩ := e
  exact ⟨_, fnM_of h e⟩
theorem call_tellsF {m : SF} {fs : AF} {S S1 : Ss} {ds : List D} {d : D} (h : TellsF m ds d) (e : fs S = some (ds, S1)) : eCall m fs S = some (d, S1) := by
  obtain ⟨S', h⟩ := h
  unfold eCall
  rw [e, bd_some, h]
theorem callF_tells {m : SF} {fs : AF} {S S1 : Ss} {ds : List D} {d : D} (h : TellsF m ds d) (e : fs S = some (ds, S1)) : eCallF m fs S = some (d, S1) := by
  obtain ⟨S', h⟩ := h
  unfold eCallF
  rw [e, bd_some, h]
@[simp] theorem gIx_fr0 (q : Rat) : gIx (.fr q) (.int 0) = some (.int q.num) := rfl
@[simp] theorem gIx_fr1 (q : Rat) : gIx (.fr q) (.int 1) = some (.int q.den) := rfl
theorem gTup2 (x y : D) : gTup [x, y] = some (.tup [x, y]) := if_pos (by show 2 ≤ 16777216; decide)
theorem eqD_int (a b : Int) : eqD (.int a) (.int b) = decide (a = b) := by
  unfold eqD toP
  simp only [PySem.PyData.eqv]
  by_cases h : a = b <;> simp [h]
@[simp] theorem gEq_int (a b : Int) : gEq (.int a) (.int b) = some (.bl (decide (a = b))) := by
  unfold gEq; rw [eqD_int]; rfl
@[simp] theorem gNe_int (a b : Int) : gNe (.int a) (.int b) = some (.bl (decide (a ≠ b))) := by
  unfold gNe; rw [eqD_int]; simp [okD]
@[simp] theorem gLt_int (a b : Int) : gLt (.int a) (.int b) = some (.bl (decide (a < b))) := rfl
@[simp] theorem gLe_int (a b : Int) : gLe (.int a) (.int b) = some (.bl (decide (a ≤ b))) := rfl
@[simp] theorem gGt_int (a b : Int) : gGt (.int a) (.int b) = some (.bl (decide (b < a))) := rfl
@[simp] theorem gGe_int (a b : Int) : gGe (.int a) (.int b) = some (.bl (decide (b ≤ a))) := rfl
@[simp] theorem gAdd_int (a b : Int) : gAdd (.int a) (.int b) = some (.int (a + b)) := rfl
@[simp] theorem gSub_int (a b : Int) : gSub (.int a) (.int b) = some (.int (a - b)) := rfl
@[simp] theorem gNeg_int (a : Int) : gNeg (.int a) = some (.int (-a)) := rfl
theorem log2_lt {n k : Nat} (h : n < 2 ^ (k + 1)) : n.log2 < k + 1 := by
  by_cases z : n = 0
  · subst z; simp
  · exact (Nat.log2_lt z).mpr h
theorem gMul_int {a b : Int} (h : a.natAbs < 2 ^ 400000) (h' : b.natAbs < 2 ^ 400000) : gMul (.int a) (.int b) = some (.int (a * b)) := by
  unfold gMul
  have h1 : a.natAbs.log2 < 400000 := log2_lt h
  have h2 : b.natAbs.log2 < 400000 := log2_lt h'
  exact if_pos (by omega)
theorem gDiv_int {a b : Int} (h : 0 < b) (h' : b.natAbs < 2 ^ 9000) : gDiv (.int a) (.int b) = some (.int (a / b)) := by
  unfold gDiv
  have h2 : b.natAbs.log2 < 9000 := log2_lt h'
  exact if_pos ⟨h, h2⟩
theorem gMod_int {a b : Int} (h : 0 < b) : gMod (.int a) (.int b) = some (.int (a % b)) := if_pos h
/-! ### the greatest common divisor -/
theorem gAbs_int (i : Int) : gAbs [.int i] = some (.int i.natAbs) := by
  show some (D.int (if i < 0 then -i else i)) = _
  by_cases h : i < 0
  · rw [if_pos h, show -i = (i.natAbs : Int) by omega]
  · rw [if_neg h]
    have : i = (i.natAbs : Int) := by omega
    rw [← this]
def tD (i j : Nat) : TF := tVal (eBin gNe (eVar j) (eC (.int 0)))
theorem gcd_loop (i j : Nat) (hij : i ≠ j) : ∀ (n : Nat) (a b : Nat) (S : Ss), b ≤ n → S[i]? = some (.va (.int a)) → S[j]? = some (.va (.int b)) →
    ∃ S', whL (tVal (eBin gNe (eVar j) (eC (.int 0)))) (sPar i j (aCons (eVar j) (aCons (eBin gMod (eVar i) (eVar j)) aNil))) (n + 1) S = some (.nx, S') ∧ S'[i]? = some (.va (.int (Nat.gcd a b))) ∧ S'.length = S.length ∧ ∀ k, k ≠ i → k ≠ j → S'[k]? = S[k]? := by
  intro n
  induction n with
  | zero =>
    intro a b S hb h1 h2
    obtain rfl : b = 0 := by omega
    refine ⟨S, ?_, by simpa using h1, rfl, fun k _ _ => rfl⟩
    unfold whL
    simp [tVal, eBin, eVar, eC, h2]
  | succ n ih =>
    intro a b S hb h1 h2
    by_cases z : b = 0
    · subst z
      refine ⟨S, ?_, by simpa using h1, rfl, fun k _ _ => rfl⟩
      unfold whL
      simp [tVal, eBin, eVar, eC, h2]
    · have hi : i < S.length := by
        rcases Nat.lt_or_ge i S.length with q | q
        · exact q
        · rw [List.getElem?_eq_none q] at h1; cases h1
      have hj : j < S.length := by
        rcases Nat.lt_or_ge j S.length with q | q
        · exact q
        · rw [List.getElem?_eq_none q] at h2; cases h2
      have hm : ((a : Int) % (b : Int)) = ((a % b : Nat) : Int) := by simp
      obtain ⟨S', e, r1, r2, r3⟩ := ih b (a % b) ((S.set i (.va (.int b))).set j (.va (.int (a % b : Nat)))) (by have := Nat.mod_lt a (Nat.pos_of_ne_zero z); omega)
        (by rw [List.getElem?_set_ne (Ne.symm hij), List.getElem?_set_self hi]) (by rw [List.getElem?_set_self (by simpa using hj)])
      refine ⟨S', ?_, ?_, by simpa using r2, fun k k1 k2 => ?_⟩
      · unfold whL
        have hb0 : ((b : Int) ≠ 0) := by omega
        simp only [tVal, eBin, eVar, eC, h2, bd_some, gNe_int, Option.map_some, decide_eq_true hb0, if_true]
        have : sPar i j (aCons (eVar j) (aCons (eBin gMod (eVar i) (eVar j)) aNil)) S = some (.nx, (S.set i (.va (.int b))).set j (.va (.int (a % b : Nat)))) := by
          unfold sPar
          have hb1 : 0 < (b : Int) := by omega
          simp only [aCons, eVar, h2, h1, bd_some, eBin, aNil, gMod_int hb1, Option.map_some, hm]
        rw [this]
        exact e
      · rw [r1, Nat.gcd_comm a b, Nat.gcd_rec b a, Nat.gcd_comm]
      · rw [r3 k k1 k2, List.getElem?_set_ne (Ne.symm k2), List.getElem?_set_ne (Ne.symm k1)]
theorem divisor_tells (a b : Int) : Tells m_divisor [.int a, .int b] (.int (Int.gcd a b)) := by
  obtain ⟨S', e, r1, r2, r3⟩ := gcd_loop 0 1 (by decide) b.natAbs a.natAbs b.natAbs [.va (.int a.natAbs), .va (.int b.natAbs)] (Nat.le_refl _) rfl rfl
  refine ⟨_, fnM_of (S' := S') rfl ?_⟩
  unfold b_divisor
  have s0 : ∀ x y : D, ([D.int a, D.int b].map Sl.va ++ List.replicate (2 - ([D.int a, D.int b].map Sl.va).length) .un) = [.va (.int a), .va (.int b)] := fun _ _ => rfl
  rw [s0 .non .non]
  simp only [sSeq, sSet, eA, aCons, eVar, aNil, List.getElem?_cons_zero, List.getElem?_cons_succ, bd_some, gAbs_int, Option.map_some, List.set_cons_zero, List.set_cons_succ]
  rw [sWh_of e]
  simp only [bd_some, sRet, eVar, r1]
  rfl
/-! ### fractions -/
theorem nfD_of {n : Int} {m : Int} {q : Rat} (hn : n = q.num) (hm : m = q.den) : nfD (.tup [.int n, .int m]) = .fr q := by
  subst hn hm
  unfold nfD
  simp only
  rw [dif_pos ⟨by have := q.den_pos; omega, by simpa using q.reduced⟩]
  congr
theorem lowest_tells {t b : Int} (hb : 0 < b) (ht : t.natAbs < 2 ^ 8000) (hb' : b.natAbs < 2 ^ 8000) : Tells m_lowest [.int t, .int b] (.fr (Rat.normalize t b.toNat (by omega))) := by
  refine tells_of rfl ?_
  show ∃ S', b_lowest [.va (.int t), .va (.int b), .un] = some (_, S')
  unfold b_lowest
  have hg : 0 < (Int.gcd t b : Int) := by
    have : 0 < Int.gcd t b := Int.gcd_pos_of_ne_zero_right t (by omega)
    omega
  have hg' : ((Int.gcd t b : Nat) : Int).natAbs < 2 ^ 9000 := by
    have h1 : Int.gcd t b ≤ b.natAbs := Nat.gcd_le_right _ (by omega)
    have : (2 : Nat) ^ 8000 ≤ 2 ^ 9000 := Nat.pow_le_pow_right (by decide) (by decide)
    simp only [Int.natAbs_natCast]
    omega
  have hnl : ¬ b < 0 := by omega
  simp only [sSeq, sIf, tVal, eBin, eVar, eC, List.getElem?_cons_zero, List.getElem?_cons_succ, bd_some, gLt_int, Option.map_some, hnl, decide_false, Bool.false_eq_true, if_false, sNx, sSet]
  rw [call_tells (divisor_tells t b) (S1 := [.va (.int t), .va (.int b), .un]) rfl]
  simp only [bd_some, List.set_cons_zero, List.set_cons_succ, sRet, eNf, eA, aCons, aNil, eVar, eBin, List.getElem?_cons_zero, List.getElem?_cons_succ, gDiv_int hg hg', Option.map_some, gTup2]
  have e1 : (b.toNat : Int) = b := Int.toNat_of_nonneg (by omega)
  have e2 : b.natAbs = b.toNat := by omega
  have e := nfD_of (q := Rat.normalize t b.toNat (by omega)) (n := t / (Int.gcd t b : Int)) (m := b / (Int.gcd t b : Int)) (by
    rw [Rat.normalize_eq]
    unfold Int.gcd
    rw [e2]) (by
    rw [Rat.normalize_eq]
    show _ = ((b.toNat / Nat.gcd t.natAbs b.toNat : Nat) : Int)
    rw [Int.natCast_ediv, e1]
    unfold Int.gcd
    rw [e2])
  rw [e]
  exact ⟨_, rfl⟩
/-- a number of few enough digits -/
def Fit (q : Rat) : Prop := q.num.natAbs < 2 ^ 3900 ∧ q.den < 2 ^ 3900
theorem mul_lt {a b : Nat} {m n : Nat} (ha : a < 2 ^ m) (hb : b < 2 ^ n) : a * b < 2 ^ (m + n) := by
  rw [Nat.pow_add]
  exact Nat.mul_lt_mul'' ha hb
theorem up {a m n : Nat} (h : a < 2 ^ m) (h' : m ≤ n) : a < 2 ^ n := Nat.lt_of_lt_of_le h (Nat.pow_le_pow_right (by decide) h')
theorem add_lt {a b : Nat} {m : Nat} (ha : a < 2 ^ m) (hb : b < 2 ^ m) : a + b < 2 ^ (m + 1) := by rw [Nat.pow_succ]; omega
section
variable {a b : Rat} (ha : Fit a) (hb : Fit b)
include ha hb
theorem fit_nd : (a.num * b.den).natAbs < 2 ^ 7800 := by rw [Int.natAbs_mul]; exact mul_lt (m := 3900) (n := 3900) ha.1 (by simpa using hb.2)
theorem fit_dd : (a.den * b.den : Nat) < 2 ^ 7800 := mul_lt (m := 3900) (n := 3900) ha.2 hb.2
theorem fit_nn : (a.num * b.num).natAbs < 2 ^ 7800 := by rw [Int.natAbs_mul]; exact mul_lt (m := 3900) (n := 3900) ha.1 hb.1
theorem mul_nd : gMul (.int a.num) (.int b.den) = some (.int (a.num * b.den)) := gMul_int (up ha.1 (by decide)) (up (by simpa using hb.2) (by decide : 3900 ≤ 400000))
theorem mul_dd : gMul (.int a.den) (.int b.den) = some (.int ((a.den * b.den : Nat) : Int)) := by
  rw [gMul_int (up (by simpa using ha.2) (by decide : 3900 ≤ 400000)) (up (by simpa using hb.2) (by decide : 3900 ≤ 400000))]; simp
theorem mul_nn : gMul (.int a.num) (.int b.num) = some (.int (a.num * b.num)) := gMul_int (up ha.1 (by decide)) (up hb.1 (by decide))
theorem plus_tells : Tells m_plus [.fr a, .fr b] (.fr (a + b)) := by
  refine tells_of rfl ?_
  show ∃ S', b_plus [.va (.fr a), .va (.fr b)] = some (_, S')
  unfold b_plus
  by_cases h1 : a.den = 1 ∧ b.den = 1
  · simp only [sSeq, sIf, tAndF, tVal, eBin, eVar, eC, List.getElem?_cons_zero, List.getElem?_cons_succ, bd_some, gIx_fr1, gIx_fr0, gEq_int, Option.map_some, h1.1, h1.2, decide_true, if_true, sRet, eNf, eA, aCons, aNil, gAdd_int, gTup2, Int.ofNat_one]
    have e : a + b = ⟨a.num + b.num, 1, by decide, by simp⟩ := by
      rw [Rat.add_def, Rat.normalize_eq]
      apply Rat.ext <;> simp [h1.1, h1.2]
    rw [nfD_of (q := a + b) (by rw [e]) (by rw [e]; rfl)]
    exact ⟨_, rfl⟩
  · have ht : (tAndF (tVal (eBin gEq (eBin gIx (eVar 0) (eC (.int 1))) (eC (.int 1)))) (tVal (eBin gEq (eBin gIx (eVar 1) (eC (.int 1))) (eC (.int 1))))) [.va (.fr a), .va (.fr b)] = some (false, [.va (.fr a), .va (.fr b)]) := by
      simp only [tAndF, tVal, eBin, eVar, eC, List.getElem?_cons_zero, List.getElem?_cons_succ, bd_some, gIx_fr1, gEq_int, Option.map_some]
      by_cases h2 : a.den = 1
      · have h3 : ¬ b.den = 1 := fun h3 => h1 ⟨h2, h3⟩
        have h4 : ¬ ((b.den : Int) = 1) := by omega
        simp [h2, h4]
      · have h4 : ¬ ((a.den : Int) = 1) := by omega
        simp [h4]
    simp only [sSeq, sIf, ht, bd_some, Bool.false_eq_true, if_false, sNx, sRet]
    have hd : 0 < ((a.den * b.den : Nat) : Int) := by have := Nat.mul_pos a.den_pos b.den_pos; omega
    have tl := lowest_tells (t := a.num * b.den + b.num * a.den) hd (up (Nat.lt_of_le_of_lt (Int.natAbs_add_le _ _) (add_lt (fit_nd ha hb) (fit_nd hb ha))) (by decide)) (up (by rw [Int.natAbs_natCast]; exact fit_dd ha hb) (by decide : 7800 ≤ 8000))
    rw [call_tells tl (S1 := [.va (.fr a), .va (.fr b)])]
    · simp only [bd_some, Int.toNat_natCast]
      rw [← Rat.add_def]
      exact ⟨_, rfl⟩
    · simp only [aCons, aNil, eBin, eVar, eC, List.getElem?_cons_zero, List.getElem?_cons_succ, bd_some, gIx_fr0, gIx_fr1, Option.map_some, mul_nd ha hb, mul_nd hb ha, mul_dd ha hb, gAdd_int]
theorem times_tells : Tells m_times [.fr a, .fr b] (.fr (a * b)) := by
  refine tells_of rfl ?_
  show ∃ S', b_times [.va (.fr a), .va (.fr b)] = some (_, S')
  unfold b_times
  by_cases h1 : a.den = 1 ∧ b.den = 1
  · simp only [sSeq, sIf, tAndF, tVal, eBin, eVar, eC, List.getElem?_cons_zero, List.getElem?_cons_succ, bd_some, gIx_fr1, gIx_fr0, gEq_int, Option.map_some, h1.1, h1.2, decide_true, if_true, sRet, eNf, eA, aCons, aNil, mul_nn ha hb, gTup2, Int.ofNat_one]
    have e : a * b = ⟨a.num * b.num, 1, by decide, by simp⟩ := by
      rw [Rat.mul_def, Rat.normalize_eq]
      apply Rat.ext <;> simp [h1.1, h1.2]
    rw [nfD_of (q := a * b) (by rw [e]) (by rw [e]; rfl)]
    exact ⟨_, rfl⟩
  · have ht : (tAndF (tVal (eBin gEq (eBin gIx (eVar 0) (eC (.int 1))) (eC (.int 1)))) (tVal (eBin gEq (eBin gIx (eVar 1) (eC (.int 1))) (eC (.int 1))))) [.va (.fr a), .va (.fr b)] = some (false, [.va (.fr a), .va (.fr b)]) := by
      simp only [tAndF, tVal, eBin, eVar, eC, List.getElem?_cons_zero, List.getElem?_cons_succ, bd_some, gIx_fr1, gEq_int, Option.map_some]
      by_cases h2 : a.den = 1
      · have h3 : ¬ b.den = 1 := fun h3 => h1 ⟨h2, h3⟩
        have h4 : ¬ ((b.den : Int) = 1) := by omega
        simp [h2, h4]
      · have h4 : ¬ ((a.den : Int) = 1) := by omega
        simp [h4]
    simp only [sSeq, sIf, ht, bd_some, Bool.false_eq_true, if_false, sNx, sRet]
    have hd : 0 < ((a.den * b.den : Nat) : Int) := by have := Nat.mul_pos a.den_pos b.den_pos; omega
    have tl := lowest_tells (t := a.num * b.num) hd (up (fit_nn ha hb) (by decide)) (up (by rw [Int.natAbs_natCast]; exact fit_dd ha hb) (by decide : 7800 ≤ 8000))
    rw [call_tells tl (S1 := [.va (.fr a), .va (.fr b)])]
    · simp only [bd_some, Int.toNat_natCast]
      rw [← Rat.mul_def]
      exact ⟨_, rfl⟩
    · simp only [aCons, aNil, eBin, eVar, eC, List.getElem?_cons_zero, List.getElem?_cons_succ, bd_some, gIx_fr0, gIx_fr1, Option.map_some, mul_nn ha hb, mul_dd ha hb]
end
end Sp
/-! the law's fractions; numbers put to sums -/
namespace Sp
open Sw Sw.Wd
theorem law_low_tells {t b : Int} (hb : 0 < b) (ht : t.natAbs < 2 ^ 8000) (hb' : b.natAbs < 2 ^ 8000) : Tells m__law_low [.int t, .int b] (.fr (Rat.normalize t b.toNat (by omega))) := by
  refine tells_of rfl ?_
  show ∃ S', b__law_low [.va (.int t), .va (.int b), .un, .un] = some (_, S')
  unfold b__law_low
  have hg : 0 < (Int.gcd t b : Int) := by
    have : 0 < Int.gcd t b := Int.gcd_pos_of_ne_zero_right t (by omega)
    omega
  have hg' : ((Int.gcd t b : Nat) : Int).natAbs < 2 ^ 9000 := by
    have h1 : Int.gcd t b ≤ b.natAbs := Nat.gcd_le_right _ (by omega)
    have : (2 : Nat) ^ 8000 ≤ 2 ^ 9000 := Nat.pow_le_pow_right (by decide) (by decide)
    simp only [Int.natAbs_natCast]
    omega
  have eb : b = (b.natAbs : Int) := by omega
  obtain ⟨S', e, r1, r2, r3⟩ := gcd_loop 2 3 (by decide) b.natAbs t.natAbs b.natAbs [.va (.int t), .va (.int b), .va (.int t.natAbs), .va (.int b)] (Nat.le_refl _) rfl (by rw [← eb]; rfl)
  have q0 := r3 0 (by decide) (by decide)
  have q1 := r3 1 (by decide) (by decide)
  simp only [List.getElem?_cons_zero, List.getElem?_cons_succ] at q0 q1
  simp only [sSeq, sSet, eA, aCons, eVar, aNil, List.getElem?_cons_zero, List.getElem?_cons_succ, bd_some, gAbs_int, Option.map_some, List.set_cons_zero, List.set_cons_succ]
  rw [sWh_of e]
  have r1' : S'[2]? = some (.va (.int (Int.gcd t b))) := r1
  simp only [bd_some, sRet, eNf, eA, aCons, aNil, eVar, eBin, r1', q0, q1, gDiv_int hg hg', Option.map_some, gTup2]
  have e1 : (b.toNat : Int) = b := Int.toNat_of_nonneg (by omega)
  have e2 : b.natAbs = b.toNat := by omega
  have e := nfD_of (q := Rat.normalize t b.toNat (by omega)) (n := t / (Int.gcd t b : Int)) (m := b / (Int.gcd t b : Int)) (by
    rw [Rat.normalize_eq]
    unfold Int.gcd
    rw [e2]) (by
    rw [Rat.normalize_eq]
    show _ = ((b.toNat / Nat.gcd t.natAbs b.toNat : Nat) : Int)
    rw [Int.natCast_ediv, e1]
    unfold Int.gcd
    rw [e2])
  rw [e]
  exact ⟨_, rfl⟩
section
variable {a b : Rat} (ha : Fit a) (hb : Fit b)
include ha hb
theorem law_plus_tells : Tells m__law_plus [.fr a, .fr b] (.fr (a + b)) := by
  refine tells_of rfl ?_
  show ∃ S', b__law_plus [.va (.fr a), .va (.fr b)] = some (_, S')
  unfold b__law_plus
  have hd : 0 < ((a.den * b.den : Nat) : Int) := by have := Nat.mul_pos a.den_pos b.den_pos; omega
  have tl := law_low_tells (t := a.num * b.den + b.num * a.den) hd (up (Nat.lt_of_le_of_lt (Int.natAbs_add_le _ _) (add_lt (fit_nd ha hb) (fit_nd hb ha))) (by decide)) (up (by rw [Int.natAbs_natCast]; exact fit_dd ha hb) (by decide : 7800 ≤ 8000))
  unfold sRet
  rw [call_tells tl (S1 := [.va (.fr a), .va (.fr b)])]
  · simp only [bd_some, Int.toNat_natCast]
    rw [← Rat.add_def]
    exact ⟨_, rfl⟩
  · simp only [aCons, aNil, eBin, eVar, eC, List.getElem?_cons_zero, List.getElem?_cons_succ, bd_some, gIx_fr0, gIx_fr1, Option.map_some, mul_nd ha hb, mul_nd hb ha, mul_dd ha hb, gAdd_int]
theorem law_by_tells : Tells m__law_by [.fr a, .fr b] (.fr (a * b)) := by
  refine tells_of rfl ?_
  show ∃ S', b__law_by [.va (.fr a), .va (.fr b)] = some (_, S')
  unfold b__law_by
  have hd : 0 < ((a.den * b.den : Nat) : Int) := by have := Nat.mul_pos a.den_pos b.den_pos; omega
  have tl := law_low_tells (t := a.num * b.num) hd (up (fit_nn ha hb) (by decide)) (up (by rw [Int.natAbs_natCast]; exact fit_dd ha hb) (by decide : 7800 ≤ 8000))
  unfold sRet
  rw [call_tells tl (S1 := [.va (.fr a), .va (.fr b)])]
  · simp only [bd_some, Int.toNat_natCast]
    rw [← Rat.mul_def]
    exact ⟨_, rfl⟩
  · simp only [aCons, aNil, eBin, eVar, eC, List.getElem?_cons_zero, List.getElem?_cons_succ, bd_some, gIx_fr0, gIx_fr1, Option.map_some, mul_nn ha hb, mul_dd ha hb]
end
/-! ### sums as data -/
def kvD (kv : Kq) : Kv := kv.map fun p => (p.1, D.fr p.2)
def tD1 (p : W × Rat) : D := .tup [wD p.1, .fr p.2]
def kqD (l : Kq) : List D := l.map tD1
theorem keyOf_w : ∀ w : W, keyOf (w.map D.int) = some w
  | [] => rfl
  | i :: w => by simp [keyOf, keyOf_w w]
theorem kget_kvD : ∀ (kv : Kq) (w : W), kget (kvD kv) w = (kv.find? fun p => decide (p.1 = w)).map fun p => D.fr p.2
  | [], w => rfl
  | p :: kv, w => by
    have ih := kget_kvD kv w
    unfold kget kvD at ih ⊢
    rw [List.map_cons, List.find?_cons, List.find?_cons]
    by_cases h : p.1 = w
    · simp [h]
    · simp only [h, decide_false]
      exact ih
theorem kget_or (kv : Kq) (w : W) : (kget (kvD kv) w).getD (.fr 0) = .fr (kg kv w) := by
  rw [kget_kvD]
  unfold kg
  cases kv.find? fun p => decide (p.1 = w) <;> rfl
theorem kget_mem {kv : Kq} {w : W} (h : w ∈ kv.map (·.1)) : kget (kvD kv) w = some (.fr (kg kv w)) := by
  rw [kget_kvD]
  unfold kg
  cases e : kv.find? fun p => decide (p.1 = w) with
  | some p => rfl
  | none =>
    obtain ⟨p, hp, ep⟩ := List.mem_map.mp h
    have := List.find?_eq_none.mp e p hp
    simp [ep] at this
theorem kget_some {kv : Kq} {w : W} : (kget (kvD kv) w).isSome = true ↔ w ∈ kv.map (·.1) := by
  constructor
  · intro h
    rw [kget_kvD] at h
    cases e : kv.find? fun p => decide (p.1 = w) with
    | none => rw [e] at h; cases h
    | some p =>
      have h1 := List.mem_of_find?_eq_some e
      have h2 : p.1 = w := of_decide_eq_true (List.find?_some (p := fun p : W × Rat => decide (p.1 = w)) e)
      exact List.mem_map.mpr ⟨p, h1, h2⟩
  · intro h; rw [kget_mem h]; rfl
theorem kput_kvD (kv : Kq) (w : W) (q : Rat) : kput (kvD kv) w (.fr q) = kvD (kputQ kv w q) := by
  unfold kput kputQ kvD
  rw [List.any_map]
  have e : ((fun p : List Int × D => decide (p.1 = w)) ∘ fun p : W × Rat => (p.1, D.fr p.2)) = fun p : W × Rat => decide (p.1 = w) := rfl
  rw [e]
  split
  · rw [List.map_map, List.map_map]
    apply List.map_congr_left
    intro p _
    simp only [Function.comp]
    split <;> rfl
  · rw [List.map_append]; rfl
theorem kdrop_kvD (kv : Kq) (w : W) : kdrop (kvD kv) w = kvD (kdropQ kv w) := by
  unfold kdrop kdropQ kvD
  rw [List.filter_map]; rfl
theorem kvD_length (kv : Kq) : (kvD kv).length = kv.length := by unfold kvD; rw [List.length_map]
theorem kdrop_not {kv : Kq} {w : W} (h : w ∉ kv.map (·.1)) : kdropQ kv w = kv := by
  unfold kdropQ
  rw [List.filter_eq_self]
  intro p hp
  exact decide_eq_true fun e => h (List.mem_map.mpr ⟨p, hp, e⟩)
theorem kdrop_put (kv : Kq) (w : W) (q : Rat) : kdropQ (kputQ kv w q) w = kdropQ kv w := by
  unfold kputQ
  split
  · unfold kdropQ
    rw [List.filter_map]
    have e : ((fun p : W × Rat => decide (p.1 ≠ w)) ∘ fun p => if p.1 = w then (p.1, q) else p) = fun p : W × Rat => decide (p.1 ≠ w) := by
      funext p
      by_cases h : p.1 = w <;> simp [h]
    rw [e]
    have : ∀ l : Kq, (∀ p ∈ l, p.1 ≠ w) → l.map (fun p => if p.1 = w then (p.1, q) else p) = l := fun l hl => by
      conv => rhs; rw [← List.map_id l]
      apply List.map_congr_left
      intro p hp
      rw [if_neg (hl p hp)]; rfl
    exact this _ fun p hp => of_decide_eq_true (List.mem_filter.mp hp).2
  · unfold kdropQ
    rw [List.filter_append]
    simp
/-- a def that puts a number to a word's -/
def PutOk (m : SF) : Prop := ∀ (kv : Kq) (w : W) (q : Rat), Fit (kg kv w) → Fit q → kv.length < 16777216 →
  m [.ow (.dct (kvD kv)), .va (wD w), .va (.fr q)] = some (.nx, [.ow (.dct (kvD (putP kv w q))), .un, .un])
theorem num0 {q : Rat} : q.num = 0 ↔ q = 0 := Rat.num_eq_zero
theorem get_or {kv : Kq} {w : W} {S : Ss} {i j : Nat} {x : EF} (hi : S[i]? = some (.va (.dct (kvD kv)))) (hj : S[j]? = some (.va (wD w))) (hx : x S = some (.fr 0, S)) : eDget2 (eVar i) (eVar j) x S = some (.fr (kg kv w), S) := by
  unfold eDget2
  simp only [eVar, hi, hj, bd_some, hx, wD, keyOf_w, kget_or]
theorem put_to_ok : PutOk m_put_to := by
  intro kv w q hf hq hl
  unfold m_put_to
  refine (fnM_of (o := .nx) (S' := [.ow (.dct (kvD (putP kv w q))), .va (wD w), .va (.fr q), .va (.fr (kg kv w + q))]) rfl ?_).trans rfl
  show b_put_to [.ow (.dct (kvD kv)), .va (wD w), .va (.fr q), .un] = _
  unfold b_put_to
  have e1 : eBor (eDget2 (eVar 0) (eVar 1) (eC (.fr 0))) [.ow (.dct (kvD kv)), .va (wD w), .va (.fr q), .un] = some (.fr (kg kv w), [.ow (.dct (kvD kv)), .va (wD w), .va (.fr q), .un]) := by
    unfold eBor
    have : frzAll [.ow (.dct (kvD kv)), .va (wD w), .va (.fr q), .un] = [.va (.dct (kvD kv)), .va (wD w), .va (.fr q), .un] := rfl
    rw [this, get_or rfl rfl rfl]
    rfl
  simp only [sSeq, sSet]
  rw [call_tells (plus_tells hf hq) (S1 := [.ow (.dct (kvD kv)), .va (wD w), .va (.fr q), .un]) (by simp only [aCons, e1, bd_some, eVar, aNil, List.getElem?_cons_zero, List.getElem?_cons_succ])]
  simp only [bd_some, List.set_cons_succ, List.set_cons_zero, sIf, tVal, eBin, eVar, eC, List.getElem?_cons_zero, List.getElem?_cons_succ, gIx_fr0, Option.map_some, gNe_int]
  unfold putP
  by_cases h : kg kv w + q = 0
  · have h0 : (kg kv w + q).num = 0 := num0.mpr h
    rw [if_pos h]
    simp only [h0, ne_eq, not_true, decide_false, Bool.false_eq_true, if_false]
    have e2 : tBor (tVal (eBin gDin (eVar 1) (eVar 0))) [.ow (.dct (kvD kv)), .va (wD w), .va (.fr q), .va (.fr (kg kv w + q))] = some ((kget (kvD kv) w).isSome, [.ow (.dct (kvD kv)), .va (wD w), .va (.fr q), .va (.fr (kg kv w + q))]) := by
      unfold tBor
      have : frzAll [.ow (.dct (kvD kv)), .va (wD w), .va (.fr q), .va (.fr (kg kv w + q))] = [.va (.dct (kvD kv)), .va (wD w), .va (.fr q), .va (.fr (kg kv w + q))] := rfl
      rw [this]
      simp only [tVal, eBin, eVar, List.getElem?_cons_zero, List.getElem?_cons_succ, bd_some, gDin, wD, keyOf_w, Option.map_some]
    have e2' : ∀ f g : SF, (bd (tBor (tVal (eBin gDin (eVar 1) (eVar 0))) [.ow (.dct (kvD kv)), .va (wD w), .va (.fr q), .va (.fr (kg kv w + q))]) fun b S1 => if b = true then f S1 else g S1) = if (kget (kvD kv) w).isSome = true then f [.ow (.dct (kvD kv)), .va (wD w), .va (.fr q), .va (.fr (kg kv w + q))] else g [.ow (.dct (kvD kv)), .va (wD w), .va (.fr q), .va (.fr (kg kv w + q))] := fun f g => by rw [e2]; rfl
    refine (e2' (sDpop 0 (eVar 1)) sNx).trans ?_
    by_cases hm : w ∈ kv.map (·.1)
    · rw [if_pos (kget_some.mpr hm)]
      unfold sDpop
      simp only [List.getElem?_cons_zero, eVar, List.getElem?_cons_succ, bd_some, wD, keyOf_w, kget_some.mpr hm, if_true, List.set_cons_zero, kdrop_kvD]
    · rw [if_neg (fun z => hm (kget_some.mp z)), kdrop_not hm]
      rfl
  · have h0 : ¬ (kg kv w + q).num = 0 := fun z => h (num0.mp z)
    rw [if_neg h]
    have hl' : (kvD kv).length < 16777216 := by rw [kvD_length]; exact hl
    simp only [h0, ne_eq, not_false_eq_true, decide_true, if_true, sDp, eVar, List.getElem?_cons_zero, List.getElem?_cons_succ, bd_some, isOw, wD, keyOf_w, hl', List.set_cons_zero, kput_kvD]
theorem law_put_ok : PutOk m__law_put := by
  intro kv w q hf hq hl
  unfold m__law_put
  refine (fnM_of (o := .nx) (S' := [.ow (.dct (kvD (putP kv w q))), .va (wD w), .va (.fr q)]) rfl ?_).trans rfl
  show b__law_put [.ow (.dct (kvD kv)), .va (wD w), .va (.fr q)] = _
  unfold b__law_put
  have e0 : eNf (eA gTup (aCons (eC (.int 0)) (aCons (eC (.int 1)) aNil))) [.va (.dct (kvD kv)), .va (wD w), .va (.fr q)] = some (.fr 0, [.va (.dct (kvD kv)), .va (wD w), .va (.fr q)]) := by
    simp only [eNf, eA, aCons, aNil, eC, bd_some, gTup2, Option.map_some]
    rw [nfD_of (n := 0) (m := 1) (q := 0) rfl rfl]
  have e1 : eBor (eDget2 (eVar 0) (eVar 1) (eNf (eA gTup (aCons (eC (.int 0)) (aCons (eC (.int 1)) aNil))))) [.ow (.dct (kvD kv)), .va (wD w), .va (.fr q)] = some (.fr (kg kv w), [.ow (.dct (kvD kv)), .va (wD w), .va (.fr q)]) := by
    unfold eBor
    have : frzAll [.ow (.dct (kvD kv)), .va (wD w), .va (.fr q)] = [.va (.dct (kvD kv)), .va (wD w), .va (.fr q)] := rfl
    rw [this, get_or rfl rfl e0]
    rfl
  have hl' : (kvD kv).length < 16777216 := by rw [kvD_length]; exact hl
  have e3 : sDp 0 (eCall m__law_plus (aCons (eBor (eDget2 (eVar 0) (eVar 1) (eNf (eA gTup (aCons (eC (.int 0)) (aCons (eC (.int 1)) aNil)))))) (aCons (eVar 2) aNil))) (eVar 1) [.ow (.dct (kvD kv)), .va (wD w), .va (.fr q)] =
      some (.nx, [.ow (.dct (kvD (kputQ kv w (kg kv w + q)))), .va (wD w), .va (.fr q)]) := by
    unfold sDp
    rw [call_tells (law_plus_tells hf hq) (S1 := [.ow (.dct (kvD kv)), .va (wD w), .va (.fr q)]) (by simp only [aCons, e1, bd_some, eVar, aNil, List.getElem?_cons_zero, List.getElem?_cons_succ])]
    simp only [eVar, List.getElem?_cons_zero, List.getElem?_cons_succ, bd_some, isOw, wD, keyOf_w, hl', if_true, List.set_cons_zero, kput_kvD]
  simp only [sSeq]
  rw [e3]
  simp only [bd_some, sIf]
  have hk : w ∈ (kputQ kv w (kg kv w + q)).map (·.1) := by
    rw [put_keys]
    split
    · assumption
    · exact List.mem_append_right _ (List.mem_singleton.mpr rfl)
  have e4 : tVal (eBin gEq (eBin gIx (eBor (eBin gDget (eVar 0) (eVar 1))) (eC (.int 0))) (eC (.int 0))) [.ow (.dct (kvD (kputQ kv w (kg kv w + q)))), .va (wD w), .va (.fr q)] = some (decide ((kg kv w + q).num = 0), [.ow (.dct (kvD (kputQ kv w (kg kv w + q)))), .va (wD w), .va (.fr q)]) := by
    have e5 : eBor (eBin gDget (eVar 0) (eVar 1)) [.ow (.dct (kvD (kputQ kv w (kg kv w + q)))), .va (wD w), .va (.fr q)] = some (.fr (kg kv w + q), [.ow (.dct (kvD (kputQ kv w (kg kv w + q)))), .va (wD w), .va (.fr q)]) := by
      unfold eBor
      have : frzAll [.ow (.dct (kvD (kputQ kv w (kg kv w + q)))), .va (wD w), .va (.fr q)] = [.va (.dct (kvD (kputQ kv w (kg kv w + q)))), .va (wD w), .va (.fr q)] := rfl
      rw [this]
      simp only [eBin, eVar, List.getElem?_cons_zero, List.getElem?_cons_succ, bd_some, gDget, wD, keyOf_w, Option.bind_some]
      rw [kget_mem hk, kg_put, if_pos rfl]
      rfl
    simp only [tVal, eBin, e5, bd_some, eC, gIx_fr0, Option.map_some, gEq_int]
  rw [e4]
  simp only [bd_some]
  unfold putP
  by_cases h : kg kv w + q = 0
  · have h0 : (kg kv w + q).num = 0 := num0.mpr h
    rw [if_pos h]
    simp only [h0, decide_true, if_true]
    unfold sDpop
    simp only [List.getElem?_cons_zero, eVar, List.getElem?_cons_succ, bd_some, wD, keyOf_w, kget_some.mpr hk, if_true, List.set_cons_zero, kdrop_kvD, kdrop_put]
  · have h0 : ¬ (kg kv w + q).num = 0 := fun z => h (num0.mp z)
    rw [if_neg h]
    simp only [h0, decide_false, Bool.false_eq_true, if_false, sNx]
theorem put_call {m : SF} (hm : PutOk m) {i : Nat} {S : Ss} {e1 e2 : EF} {kv : Kq} {w : W} {q : Rat} (hS : S[i]? = some (.ow (.dct (kvD kv)))) (h1 : e1 S = some (wD w, S)) (h2 : e2 S = some (.fr q, S)) (f1 : Fit (kg kv w)) (f2 : Fit q) (hl : kv.length < 16777216) :
    eCallO [some i, none, none] m (aOwn i (aCons e1 (aCons e2 aNil))) S = some (.non, S.set i (.ow (.dct (kvD (putP kv w q))))) := by
  have e := hm kv w q f1 f2 hl
  have ea : aOwn i (aCons e1 (aCons e2 aNil)) S = some ([.non, wD w, .fr q], S) := by
    unfold aOwn
    simp only [hS, isOw, if_true, aCons, h1, bd_some, h2, aNil]
  unfold eCallO goO
  rw [ea]
  have ec : (decide (ownIx [some i, none, none]).Nodup && (ownIx [some i, none, none]).all fun i => isOw S[i]?) = true := by
    simp [ownIx, hS, isOw]
  simp only [bd_some, ec, if_true, parS, hS, Option.getD_some, e]
  rfl
end Sp
/-! sums joined, added up -/
namespace Sp
open Sw Sw.Wd
def Says (m : SF) (ds : List D) (d : D) : Prop := ∀ (fs : AF) (S S1 : Ss), fs S = some (ds, S1) → eCall m fs S = some (d, S1)
theorem Tells.says {m : SF} {ds : List D} {d : D} (h : Tells m ds d) : Says m ds d := fun _ _ _ e => call_tells h e
theorem TellsF.says {m : SF} {ds : List D} {d : D} (h : TellsF m ds d) : Says m ds d := fun _ _ _ e => call_tellsF h e
theorem cpL_map {own : List Nat} {g : GF} {t : TF} {e : EF} {S0 : Ss} {r : D → D} {c : D → Bool} : ∀ (ds : List D),
    (∀ d ∈ ds, ∃ S1, g d S0 = some S1 ∧ t S1 = some (c d, S1) ∧ (c d = true → e S1 = some (r d, S1)) ∧ wipeS S1 own = S0) → cpL own g t e ds S0 = some ((ds.filter c).map r, S0)
  | [], _ => rfl
  | d :: ds, h => by
    obtain ⟨S1, h1, h2, h3, h4⟩ := h d (List.mem_cons_self ..)
    have ih := cpL_map ds fun d hd => h d (List.mem_cons_of_mem _ hd)
    unfold cpL
    rw [h1]
    simp only [h2, bd_some]
    by_cases hc : c d = true
    · rw [if_pos hc, h3 hc, List.filter_cons_of_pos hc]
      simp only [bd_some, h4, ih]
      rfl
    · rw [if_neg hc, List.filter_cons_of_neg hc, h4, ih]
theorem wD_keys (kv : Kq) : (kvD kv).map (·.1) = kv.map (·.1) := by unfold kvD; rw [List.map_map]; rfl
theorem gSortR_kv (kv : Kq) : gSortR [.dct (kvD kv)] = some (.lst ((srt (kv.map (·.1))).map wD)) := by
  show some (D.lst _) = _
  rw [wD_keys]; rfl
theorem told_eq_D (kv : Kq) : (((srt (kv.map (·.1))).map wD).filter fun _ => true).map (fun d => match d with | .tup ks => D.tup [.tup ks, (kget (kvD kv) ((keyOf ks).getD [])).getD .non] | d => d) = kqD (told kv) := by
  rw [List.filter_eq_self.mpr (fun _ _ => rfl), List.map_map]
  unfold kqD told
  rw [List.map_map]
  apply List.map_congr_left
  intro w hw
  have hk : w ∈ kv.map (·.1) := (srt_perm _).mem_iff.mp hw
  simp only [Function.comp, wD, tD1, keyOf_w, Option.getD_some, kget_mem hk]
theorem told_tells {m : SF} (hm : m = fnM 2 [] (sRetF (eLc [1] (iL (eA gSortR (aCons (eVar 0) aNil))) (gNm 1) tTrue (eA gTup (aCons (eVar 1) (aCons (eBin gDget (eVar 0) (eVar 1)) aNil)))))) (kv : Kq) :
    TellsF m [.dct (kvD kv)] (.lst (kqD (told kv))) := by
  rw [hm]
  refine tellsF_of rfl ?_
  show ∃ S', sRetF _ [.va (.dct (kvD kv)), .un] = some (_, S')
  unfold sRetF eLc
  have e1 : iL (eA gSortR (aCons (eVar 0) aNil)) [.va (.dct (kvD kv)), .un] = some ((srt (kv.map (·.1))).map wD, [.va (.dct (kvD kv)), .un]) := by
    unfold iL
    simp only [eA, aCons, eVar, List.getElem?_cons_zero, bd_some, aNil, gSortR_kv, Option.map_some]
  rw [e1]
  have e2 := cpL_map (own := [1]) (g := gNm 1) (t := tTrue) (e := eA gTup (aCons (eVar 1) (aCons (eBin gDget (eVar 0) (eVar 1)) aNil))) (S0 := [.va (.dct (kvD kv)), .un])
    (r := fun d => match d with | .tup ks => D.tup [.tup ks, (kget (kvD kv) ((keyOf ks).getD [])).getD .non] | d => d) (c := fun _ => true) ((srt (kv.map (·.1))).map wD) fun d hd => by
      obtain ⟨w, hw, e⟩ := List.mem_map.mp hd
      subst e
      have hk : w ∈ kv.map (·.1) := (srt_perm _).mem_iff.mp hw
      refine ⟨[.va (.dct (kvD kv)), .va (wD w)], rfl, rfl, fun _ => ?_, rfl⟩
      simp only [eA, aCons, eVar, List.getElem?_cons_zero, List.getElem?_cons_succ, bd_some, eBin, aNil, gDget, wD, keyOf_w, Option.bind_some, kget_mem hk, Option.map_some, gTup2, Option.getD_some]
  rw [told_eq_D] at e2
  have e3 : wipeS [Sl.va (.dct (kvD kv)), .un] [1] = [.va (.dct (kvD kv)), .un] := rfl
  simp only [bd_some, e3, e2]
  exact ⟨_, rfl⟩
theorem told_sum_tells (kv : Kq) : TellsF m_told_sum [.dct (kvD kv)] (.lst (kqD (told kv))) := told_tells rfl kv
theorem law_told_tells (kv : Kq) : TellsF m__law_told [.dct (kvD kv)] (.lst (kqD (told kv))) := told_tells rfl kv
/-! ### loops that put -/
def Lim : Nat := 2 ^ 3900
theorem fit_of {D M : Nat} {q : Rat} (h : Bd D M q) (hD : 0 < D) (h1 : D < Lim) (h2 : M < Lim) : Fit q := by
  obtain ⟨a, b⟩ := h.fit hD
  exact ⟨Nat.lt_of_le_of_lt a h2, Nat.lt_of_le_of_lt b h1⟩
theorem acc_loop {g : GF} {b : SF} {Inv : Kq → Ss → Prop} {f : W × Rat → Kq} {D M' : Nat} : ∀ {l : Kq},
    (∀ kv S r M, r ∈ l → Inv kv S → Bk D M kv → kv.length + (f r).length < 16777216 → M + (f r).length * M' < Lim → ∃ S1 S2, g (tD1 r) S = some S1 ∧ b S1 = some (.nx, S2) ∧ Inv (addAll kv (f r)) S2) →
    (∀ r ∈ l, ∀ x ∈ f r, Bd D M' x.2) → ∀ kv S M, Inv kv S → Bk D M kv → kv.length + (l.flatMap f).length < 16777216 → M + (l.flatMap f).length * M' < Lim →
    ∃ S', forL g b (kqD l) S = some (.nx, S') ∧ Inv (addAll kv (l.flatMap f)) S'
  | [], _, _, kv, S, M, hi, _, _, _ => ⟨S, rfl, hi⟩
  | r :: l, step, hb, kv, S, M, hi, hk, hl, hM => by
    rw [List.flatMap_cons, List.length_append] at hl
    rw [List.flatMap_cons, List.length_append, Nat.add_mul] at hM
    obtain ⟨S1, S2, e1, e2, i2⟩ := step kv S r M (List.mem_cons_self ..) hi hk (by omega) (by omega)
    have hk2 : Bk D (M + (f r).length * M') (addAll kv (f r)) := hk.addAll (hb r (List.mem_cons_self ..))
    have hl2 := addAll_length (f r) kv
    obtain ⟨S', e3, i3⟩ := acc_loop (l := l) (fun kv S r' M hr => step kv S r' M (List.mem_cons_of_mem _ hr)) (fun r' hr => hb r' (List.mem_cons_of_mem _ hr)) (addAll kv (f r)) S2 (M + (f r).length * M') i2 hk2 (by omega) (by omega)
    refine ⟨S', ?_, ?_⟩
    · show forL g b (tD1 r :: kqD l) S = _
      unfold forL
      rw [e1]
      simp only [e2]
      exact e3
    · rw [List.flatMap_cons, addAll_append]; exact i3
theorem pair1_flat (p : W × Rat) : ∀ l : Kq, l.flatMap (fun r => pair1 p [r]) = pair1 p l
  | [] => rfl
  | r :: l => by
    rw [List.flatMap_cons, pair1_flat p l]
    unfold pair1
    rw [← List.map_append, ← List.filter_append]; rfl
theorem gTp2 (i j : Nat) (r : W × Rat) (S : Ss) : gTp 2 (gsCons (gNm i) (gsCons (gNm j) gsNil)) (tD1 r) S = some ((S.set i (.va (wD r.1))).set j (.va (.fr r.2))) := rfl
theorem gLen_w (w : W) : gLen [wD w] = some (.int w.length) := by
  show some (D.int ((w.map D.int).length : Nat)) = _
  rw [List.length_map]
theorem gAdd_w (u v : W) (hu : u.length + v.length ≤ 5) : gAdd (wD u) (wD v) = some (wD (u ++ v)) := by
  show (if (u.map D.int).length + (v.map D.int).length ≤ 16777216 then some (D.tup (u.map D.int ++ v.map D.int)) else none) = _
  rw [if_pos (by rw [List.length_map, List.length_map]; omega), ← List.map_append]; rfl
theorem addAll_one (kv : Kq) (p r : W × Rat) : addAll kv (pair1 p [r]) = if p.1.length + r.1.length ≤ 5 then putP kv (p.1 ++ r.1) (p.2 * r.2) else kv := by
  unfold pair1
  by_cases h : p.1.length + r.1.length ≤ 5
  · rw [if_pos h, List.filter_cons_of_pos (by simpa using h)]; rfl
  · rw [if_neg h, List.filter_cons_of_neg (by simpa using h)]; rfl
theorem pair1_one_len (p r : W × Rat) : (pair1 p [r]).length = if p.1.length + r.1.length ≤ 5 then 1 else 0 := by
  unfold pair1
  by_cases h : p.1.length + r.1.length ≤ 5
  · rw [if_pos h, List.filter_cons_of_pos (by simpa using h)]; rfl
  · rw [if_neg h, List.filter_cons_of_neg (by simpa using h)]; rfl
section
variable {a b : Kq} {D1 M1 D2 M2 : Nat}
structure JB (a b : Kq) (D1 M1 D2 M2 : Nat) : Prop where
  ha : ∀ p ∈ a, Bd D1 M1 p.2
  hb : ∀ p ∈ b, Bd D2 M2 p.2
  la : a.length ≤ 1365
  lb : b.length ≤ 1365
  d1 : 0 < D1
  d2 : 0 < D2
  b1 : D1 < Lim
  b2 : D2 < Lim
  b3 : M1 < Lim
  b4 : M2 < Lim
  b5 : D1 * D2 < Lim
  b6 : 1863225 * (M1 * M2) < Lim
theorem JB.len (h : JB a b D1 M1 D2 M2) : (a.flatMap fun p => pair1 p b).length ≤ 1863225 := by
  have := pairs_len a b
  have h1 : a.length * b.length ≤ 1365 * 1365 := Nat.mul_le_mul h.la h.lb
  unfold pairs at this
  omega
/-- the two loops, by what one turn of the inner one does -/
theorem join_loops (h : JB a b D1 M1 D2 M2) {g1 g2 : GF} {it : IFn} {b2 : SF} {Io : Kq → Ss → Prop} {Ii : W × Rat → Kq → Ss → Prop}
    (enter : ∀ kv S p, Io kv S → ∃ S1, g1 (tD1 p) S = some S1 ∧ it S1 = some (kqD b, S1) ∧ Ii p kv S1) (leave : ∀ kv S p, Ii p kv S → Io kv S)
    (turn : ∀ kv S p r, Ii p kv S → Fit p.2 → Fit r.2 → (p.1.length + r.1.length ≤ 5 → Fit (kg kv (p.1 ++ r.1)) ∧ Fit (p.2 * r.2) ∧ kv.length < 16777216) →
      ∃ S1 S2, g2 (tD1 r) S = some S1 ∧ b2 S1 = some (.nx, S2) ∧ Ii p (if p.1.length + r.1.length ≤ 5 then putP kv (p.1 ++ r.1) (p.2 * r.2) else kv) S2)
    {S : Ss} (hs : Io [] S) : ∃ S', forL g1 (sFor it g2 b2) (kqD a) S = some (.nx, S') ∧ Io (addAll [] (pairs a b)) S' := by
  have hD : 0 < D1 * D2 := Nat.mul_pos h.d1 h.d2
  refine acc_loop (D := D1 * D2) (M' := M1 * M2) (f := fun p => pair1 p b) (Inv := Io) (fun kv S p M hp hi hk hl hM => ?_) (fun p hp => pair1_bd (h.ha p hp) h.hb) [] S 0 hs (Bk.nil _ _) ?_ ?_
  · obtain ⟨S1, e1, e2, i1⟩ := enter kv S p hi
    have hx := acc_loop (D := D1 * D2) (M' := M1 * M2) (f := fun r => pair1 p [r]) (Inv := Ii p) (l := b) (g := g2) (b := b2) (fun kv S r M hr hi hk hl hM => by
      have fp := fit_of (h.ha p hp) h.d1 h.b1 h.b3
      have fr := fit_of (h.hb r hr) h.d2 h.b2 h.b4
      rw [pair1_one_len] at hl hM
      obtain ⟨S1, S2, g1, g2, g3⟩ := turn kv S p r hi fp fr (fun h5 => by
        rw [if_pos h5] at hl hM
        have hM' : M1 * M2 < Lim := by have := h.b6; omega
        exact ⟨fit_of (hk _) hD h.b5 (by omega), fit_of ((h.ha p hp).mul (h.hb r hr)) hD h.b5 hM', by omega⟩)
      exact ⟨S1, S2, g1, g2, by rw [addAll_one]; exact g3⟩) (fun r hr => pair1_bd (h.ha p hp) (fun q hq => by rw [List.mem_singleton] at hq; rw [hq]; exact h.hb r hr)) kv S1 M i1 hk (by rw [pair1_flat]; exact hl) (by rw [pair1_flat]; exact hM)
    rw [pair1_flat] at hx
    obtain ⟨S2, e3, i3⟩ := hx
    refine ⟨S1, S2, e1, ?_, leave _ _ p i3⟩
    unfold sFor
    rw [e2]
    exact e3
  · have := h.len; simp only [List.length_nil]; omega
  · have := h.len
    have h6 := h.b6
    have : (a.flatMap fun p => pair1 p b).length * (M1 * M2) ≤ 1863225 * (M1 * M2) := Nat.mul_le_mul_right _ this
    omega
def IoP (A B : D) (kv : Kq) (S : Ss) : Prop := ∃ w x y z, S = [.va A, .va B, .va (.int 5), .ow (.dct (kvD kv)), w, x, y, z]
def IiP (A B : D) (p : W × Rat) (kv : Kq) (S : Ss) : Prop := ∃ y z, S = [.va A, .va B, .va (.int 5), .ow (.dct (kvD kv)), .va (wD p.1), .va (.fr p.2), y, z]
theorem joined_tells (h : JB a b D1 M1 D2 M2) : TellsF m_joined_short [.lst (kqD a), .lst (kqD b), .int 5] (.lst (kqD (joinP a b))) := by
  refine tellsF_of rfl ?_
  show ∃ S', b_joined_short [.va (.lst (kqD a)), .va (.lst (kqD b)), .va (.int 5), .un, .un, .un, .un, .un] = some (_, S')
  unfold b_joined_short
  obtain ⟨S', e, w, x, y, z, eS⟩ := join_loops h (g1 := gTp 2 (gsCons (gNm 4) (gsCons (gNm 5) gsNil))) (g2 := gTp 2 (gsCons (gNm 6) (gsCons (gNm 7) gsNil))) (it := iL (eVar 1))
    (b2 := sIf (tVal (eBin gLe (eBin gAdd (eA gLen (aCons (eVar 4) aNil)) (eA gLen (aCons (eVar 6) aNil))) (eVar 2)))
      (sDrop (eCallO [some 3, none, none] m_put_to (aOwn 3 (aCons (eBin gAdd (eVar 4) (eVar 6)) (aCons (eCall m_times (aCons (eVar 5) (aCons (eVar 7) aNil))) aNil))))) sNx)
    (Io := IoP (.lst (kqD a)) (.lst (kqD b))) (Ii := IiP (.lst (kqD a)) (.lst (kqD b)))
    (fun kv S p ⟨w, x, y, z, e⟩ => ⟨_, gTp2 4 5 p S, by subst e; rfl, y, z, by subst e; rfl⟩)
    (fun kv S p ⟨y, z, e⟩ => ⟨_, _, y, z, e⟩)
    (fun kv S p r ⟨y, z, e⟩ fp fr hf => by
      subst e
      refine ⟨_, _, gTp2 6 7 r _, ?_, .va (wD r.1), .va (.fr r.2), rfl⟩
      simp only [List.set_cons_succ, List.set_cons_zero]
      unfold sIf
      have et : tVal (eBin gLe (eBin gAdd (eA gLen (aCons (eVar 4) aNil)) (eA gLen (aCons (eVar 6) aNil))) (eVar 2)) [.va (.lst (kqD a)), .va (.lst (kqD b)), .va (.int 5), .ow (.dct (kvD kv)), .va (wD p.1), .va (.fr p.2), .va (wD r.1), .va (.fr r.2)] =
          some (decide (((p.1.length : Nat) : Int) + ((r.1.length : Nat) : Int) ≤ 5), [.va (.lst (kqD a)), .va (.lst (kqD b)), .va (.int 5), .ow (.dct (kvD kv)), .va (wD p.1), .va (.fr p.2), .va (wD r.1), .va (.fr r.2)]) := by
        simp only [tVal, eBin, eA, aCons, eVar, aNil, List.getElem?_cons_zero, List.getElem?_cons_succ, bd_some, gLen_w, Option.map_some, gAdd_int, gLe_int]
      rw [et]
      simp only [bd_some]
      by_cases h5 : p.1.length + r.1.length ≤ 5
      · obtain ⟨f1, f2, hl⟩ := hf h5
        have h5' : ((p.1.length : Nat) : Int) + ((r.1.length : Nat) : Int) ≤ 5 := by omega
        rw [if_pos (decide_eq_true h5'), if_pos h5]
        unfold sDrop
        rw [put_call put_to_ok (kv := kv) (w := p.1 ++ r.1) (q := p.2 * r.2) rfl (by simp only [eBin, eVar, List.getElem?_cons_zero, List.getElem?_cons_succ, bd_some, gAdd_w _ _ h5, Option.map_some]) ((times_tells fp fr).says _ _ _ rfl) f1 f2 hl]
        rfl
      · have h5' : ¬ ((p.1.length : Nat) : Int) + ((r.1.length : Nat) : Int) ≤ 5 := by omega
        rw [if_neg (by simpa using h5'), if_neg h5]
        rfl)
    (S := [.va (.lst (kqD a)), .va (.lst (kqD b)), .va (.int 5), .ow (.dct []), .un, .un, .un, .un]) ⟨.un, .un, .un, .un, rfl⟩
  subst eS
  simp only [sSeq, sSetF, eC, bd_some, List.set_cons_succ, List.set_cons_zero]
  have e' : sFor (iL (eVar 0)) (gTp 2 (gsCons (gNm 4) (gsCons (gNm 5) gsNil))) (sFor (iL (eVar 1)) (gTp 2 (gsCons (gNm 6) (gsCons (gNm 7) gsNil)))
      (sIf (tVal (eBin gLe (eBin gAdd (eA gLen (aCons (eVar 4) aNil)) (eA gLen (aCons (eVar 6) aNil))) (eVar 2)))
      (sDrop (eCallO [some 3, none, none] m_put_to (aOwn 3 (aCons (eBin gAdd (eVar 4) (eVar 6)) (aCons (eCall m_times (aCons (eVar 5) (aCons (eVar 7) aNil))) aNil))))) sNx))
      [.va (.lst (kqD a)), .va (.lst (kqD b)), .va (.int 5), .ow (.dct []), .un, .un, .un, .un] = some (.nx, [.va (.lst (kqD a)), .va (.lst (kqD b)), .va (.int 5), .ow (.dct (kvD (addAll [] (pairs a b)))), w, x, y, z]) := by
    unfold sFor at e ⊢
    exact e
  rw [e']
  simp only [bd_some]
  unfold sRetF
  rw [callF_tells (told_sum_tells (addAll [] (pairs a b))) (S1 := [.va (.lst (kqD a)), .va (.lst (kqD b)), .va (.int 5), .va (.dct (kvD (addAll [] (pairs a b)))), w, x, y, z]) rfl]
  exact ⟨_, rfl⟩
end
end Sp
/-! the law's joined; powers added up -/
namespace Sp
open Sw Sw.Wd
section
variable {a b : Kq} {D1 M1 D2 M2 : Nat}
def IoL (A B : D) (kv : Kq) (S : Ss) : Prop := ∃ w x y z, S = [.va A, .va B, .ow (.dct (kvD kv)), w, x, y, z]
def IiL (A B : D) (p : W × Rat) (kv : Kq) (S : Ss) : Prop := ∃ y z, S = [.va A, .va B, .ow (.dct (kvD kv)), .va (wD p.1), .va (.fr p.2), y, z]
theorem law_joined_tells (h : JB a b D1 M1 D2 M2) : Says m__law_joined [.lst (kqD a), .lst (kqD b)] (.lst (kqD (joinP a b))) := by
  refine Tells.says ?_
  refine tells_of rfl ?_
  show ∃ S', b__law_joined [.va (.lst (kqD a)), .va (.lst (kqD b)), .un, .un, .un, .un, .un] = some (_, S')
  unfold b__law_joined
  obtain ⟨S', e, w, x, y, z, eS⟩ := join_loops h (g1 := gTp 2 (gsCons (gNm 3) (gsCons (gNm 4) gsNil))) (g2 := gTp 2 (gsCons (gNm 5) (gsCons (gNm 6) gsNil))) (it := iL (eVar 1))
    (b2 := sIf (tVal (eBin gLt (eBin gAdd (eA gLen (aCons (eVar 3) aNil)) (eA gLen (aCons (eVar 5) aNil))) (eC (.int 6))))
      (sDrop (eCallO [some 2, none, none] m__law_put (aOwn 2 (aCons (eBin gAdd (eVar 3) (eVar 5)) (aCons (eCall m__law_by (aCons (eVar 4) (aCons (eVar 6) aNil))) aNil))))) sNx)
    (Io := IoL (.lst (kqD a)) (.lst (kqD b))) (Ii := IiL (.lst (kqD a)) (.lst (kqD b)))
    (fun kv S p ⟨w, x, y, z, e⟩ => ⟨_, gTp2 3 4 p S, by subst e; rfl, y, z, by subst e; rfl⟩)
    (fun kv S p ⟨y, z, e⟩ => ⟨_, _, y, z, e⟩)
    (fun kv S p r ⟨y, z, e⟩ fp fr hf => by
      subst e
      refine ⟨_, _, gTp2 5 6 r _, ?_, .va (wD r.1), .va (.fr r.2), rfl⟩
      simp only [List.set_cons_succ, List.set_cons_zero]
      unfold sIf
      have et : tVal (eBin gLt (eBin gAdd (eA gLen (aCons (eVar 3) aNil)) (eA gLen (aCons (eVar 5) aNil))) (eC (.int 6))) [.va (.lst (kqD a)), .va (.lst (kqD b)), .ow (.dct (kvD kv)), .va (wD p.1), .va (.fr p.2), .va (wD r.1), .va (.fr r.2)] =
          some (decide (((p.1.length : Nat) : Int) + ((r.1.length : Nat) : Int) < 6), [.va (.lst (kqD a)), .va (.lst (kqD b)), .ow (.dct (kvD kv)), .va (wD p.1), .va (.fr p.2), .va (wD r.1), .va (.fr r.2)]) := by
        simp only [tVal, eBin, eA, aCons, eVar, eC, aNil, List.getElem?_cons_zero, List.getElem?_cons_succ, bd_some, gLen_w, Option.map_some, gAdd_int, gLt_int]
      rw [et]
      simp only [bd_some]
      by_cases h5 : p.1.length + r.1.length ≤ 5
      · obtain ⟨f1, f2, hl⟩ := hf h5
        have h5' : ((p.1.length : Nat) : Int) + ((r.1.length : Nat) : Int) < 6 := by omega
        rw [if_pos (decide_eq_true h5'), if_pos h5]
        unfold sDrop
        rw [put_call law_put_ok (kv := kv) (w := p.1 ++ r.1) (q := p.2 * r.2) rfl (by simp only [eBin, eVar, List.getElem?_cons_zero, List.getElem?_cons_succ, bd_some, gAdd_w _ _ h5, Option.map_some]) ((law_by_tells fp fr).says _ _ _ rfl) f1 f2 hl]
        rfl
      · have h5' : ¬ ((p.1.length : Nat) : Int) + ((r.1.length : Nat) : Int) < 6 := by omega
        rw [if_neg (by simpa using h5'), if_neg h5]
        rfl)
    (S := [.va (.lst (kqD a)), .va (.lst (kqD b)), .ow (.dct []), .un, .un, .un, .un]) ⟨.un, .un, .un, .un, rfl⟩
  subst eS
  simp only [sSeq, sSetF, eC, bd_some, List.set_cons_succ, List.set_cons_zero]
  have e' : sFor (iL (eVar 0)) (gTp 2 (gsCons (gNm 3) (gsCons (gNm 4) gsNil))) (sFor (iL (eVar 1)) (gTp 2 (gsCons (gNm 5) (gsCons (gNm 6) gsNil)))
      (sIf (tVal (eBin gLt (eBin gAdd (eA gLen (aCons (eVar 3) aNil)) (eA gLen (aCons (eVar 5) aNil))) (eC (.int 6))))
      (sDrop (eCallO [some 2, none, none] m__law_put (aOwn 2 (aCons (eBin gAdd (eVar 3) (eVar 5)) (aCons (eCall m__law_by (aCons (eVar 4) (aCons (eVar 6) aNil))) aNil))))) sNx))
      [.va (.lst (kqD a)), .va (.lst (kqD b)), .ow (.dct []), .un, .un, .un, .un] = some (.nx, [.va (.lst (kqD a)), .va (.lst (kqD b)), .ow (.dct (kvD (addAll [] (pairs a b)))), w, x, y, z]) := by
    unfold sFor at e ⊢
    exact e
  rw [e']
  simp only [bd_some]
  unfold sRet
  rw [call_tellsF (law_told_tells (addAll [] (pairs a b))) (S1 := [.va (.lst (kqD a)), .va (.lst (kqD b)), .va (.dct (kvD (addAll [] (pairs a b)))), w, x, y, z]) rfl]
  exact ⟨_, rfl⟩
end
/-! ### powers added up -/
/-- the limits that m more powers keep -/
def okB (Dt Mt Ds Ms : Nat) : Nat → Nat → Nat → Nat → Bool
  | 0, _, _, _ => true
  | m + 1, Dp, Mp, Mk => decide (0 < Dp) && decide (Dp < Lim) && decide (Mp < Lim) && decide (Dp * Dt < Lim) && decide (1863225 * (Mp * Mt) < Lim) &&
      decide (Dp * Dt * Ds * Dt ^ m < Lim) && decide (Mk + 1365 * (1863225 * (Mp * Mt) * Ms * Dt ^ m) < Lim) &&
      okB Dt Mt Ds Ms m (Dp * Dt) (1863225 * (Mp * Mt)) (Mk + 1365 * (1863225 * (Mp * Mt) * Ms * Dt ^ m))
def outB (Dt Mt Ds Ms : Nat) : Nat → Nat → Nat → Nat
  | 0, _, Mk => Mk
  | m + 1, Mp, Mk => outB Dt Mt Ds Ms m (1863225 * (Mp * Mt)) (Mk + 1365 * (1863225 * (Mp * Mt) * Ms * Dt ^ m))
structure TB (total : Kq) (Dt Mt : Nat) : Prop where
  bd : ∀ p ∈ total, Bd Dt Mt p.2
  ok : KOk total
  nd : (total.map (·.1)).Nodup
  d0 : 0 < Dt
  d1 : Dt < Lim
  m1 : Mt < Lim
theorem TB.len {total : Kq} {Dt Mt : Nat} (h : TB total Dt Mt) : total.length ≤ 1365 := h.ok.length h.nd
structure PB (pwr : Kq) (Dp Mp : Nat) : Prop where
  bd : ∀ p ∈ pwr, Bd Dp Mp p.2
  ok : KOk pwr
  nd : (pwr.map (·.1)).Nodup
theorem PB.join {pwr total : Kq} {Dp Mp Dt Mt : Nat} (hp : PB pwr Dp Mp) (ht : TB total Dt Mt) : PB (joinP pwr total) (Dp * Dt) (1863225 * (Mp * Mt)) := by
  have hl : (pairs pwr total).length ≤ 1863225 := by
    have := pairs_len pwr total
    have h1 : pwr.length * total.length ≤ 1365 * 1365 := Nat.mul_le_mul (hp.ok.length hp.nd) ht.len
    omega
  refine ⟨told_bd ?_, KOk.told (KOk.addAll (fun w h => by simp at h) (pairs_ok hp.ok ht.ok)), (joinP_wf pwr total).nd⟩
  have := (Bk.nil (Dp * Dt) 0).addAll (pairs_bd hp.bd ht.bd)
  exact fun w => (this w).mono (by rw [Nat.zero_add]; exact Nat.mul_le_mul_right _ hl)
theorem added_loop {total : Kq} {Dt Mt Ds Ms : Nat} (ht : TB total Dt Mt) (hd : 0 < Ds) (hds : Ds < Lim) (hms : Ms < Lim) {g : GF} {b : SF} {Inv : Kq → Kq → Ss → Prop}
    (step : ∀ pwr kv S s Dp Mp Mk m, Inv pwr kv S → JB pwr total Dp Mp Dt Mt → PB (joinP pwr total) (Dp * Dt) (1863225 * (Mp * Mt)) → Bd Ds Ms s → Dp * Dt < Lim → 1863225 * (Mp * Mt) < Lim →
      Bk (Dp * Dt * Ds * Dt ^ m) Mk kv → 0 < Dp * Dt * Ds * Dt ^ m → Dp * Dt * Ds * Dt ^ m < Lim → Mk + 1365 * (1863225 * (Mp * Mt) * Ms * Dt ^ m) < Lim → kv.length ≤ 1366 →
      ∃ S1 S2, g (.fr s) S = some S1 ∧ b S1 = some (.nx, S2) ∧ Inv (joinP pwr total) (addAll kv ((joinP pwr total).map fun p => (p.1, p.2 * s))) S2) :
    ∀ (ss : List Rat) (pwr kv : Kq) (S : Ss) (Dp Mp Mk : Nat), (∀ s ∈ ss, Bd Ds Ms s) → Inv pwr kv S → PB pwr Dp Mp → Wf kv → KOk kv → Bk (Dp * Ds * Dt ^ ss.length) Mk kv → okB Dt Mt Ds Ms ss.length Dp Mp Mk = true →
      ∃ S' pwr', forL g b (ss.map D.fr) S = some (.nx, S') ∧ Inv pwr' (addedP total ss pwr kv) S' ∧ Bk (Dp * Ds * Dt ^ ss.length) (outB Dt Mt Ds Ms ss.length Mp Mk) (addedP total ss pwr kv) ∧ KOk (addedP total ss pwr kv)
  | [], pwr, kv, S, Dp, Mp, Mk, _, hi, _, _, hk0, hk, _ => ⟨S, pwr, rfl, hi, hk, hk0⟩
  | s :: ss, pwr, kv, S, Dp, Mp, Mk, hs, hi, hp, hw, hk0, hk, hok => by
    simp only [List.length_cons, okB, Bool.and_eq_true, decide_eq_true_eq] at hok
    obtain ⟨⟨⟨⟨⟨⟨⟨o1, o2⟩, o3⟩, o4⟩, o5⟩, o6⟩, o7⟩, o8⟩ := hok
    have jb : JB pwr total Dp Mp Dt Mt := ⟨hp.bd, ht.bd, hp.ok.length hp.nd, ht.len, o1, ht.d0, o2, ht.d1, o3, ht.m1, o4, o5⟩
    have pj := hp.join ht
    have eD : Dp * Ds * Dt ^ (s :: ss).length = Dp * Dt * Ds * Dt ^ ss.length := by
      rw [List.length_cons, Nat.pow_succ]
      simp only [Nat.mul_assoc, Nat.mul_comm, Nat.mul_left_comm]
    rw [eD] at hk
    have dpos : 0 < Dp * Dt * Ds * Dt ^ ss.length := Nat.mul_pos (Nat.mul_pos (Nat.mul_pos o1 ht.d0) hd) (Nat.pow_pos ht.d0)
    obtain ⟨S1, S2, e1, e2, i2⟩ := step pwr kv S s Dp Mp Mk ss.length hi jb pj (hs s (List.mem_cons_self ..)) o4 o5 hk dpos o6 o7 (Nat.le_succ_of_le (hk0.length hw.nd))
    have hitems : ∀ p ∈ (joinP pwr total).map (fun p => (p.1, p.2 * s)), Bd (Dp * Dt * Ds * Dt ^ ss.length) (1863225 * (Mp * Mt) * Ms * Dt ^ ss.length) p.2 := fun p hp => by
      obtain ⟨r, hr, e⟩ := List.mem_map.mp hp
      subst e
      exact ((pj.bd r hr).mul (hs s (List.mem_cons_self ..))).wide _
    have hk2 : Bk (Dp * Dt * Ds * Dt ^ ss.length) (Mk + 1365 * (1863225 * (Mp * Mt) * Ms * Dt ^ ss.length)) (addAll kv ((joinP pwr total).map fun p => (p.1, p.2 * s))) := by
      have := hk.addAll hitems
      exact fun w => (this w).mono (Nat.add_le_add_left (Nat.mul_le_mul_right _ (by rw [List.length_map]; exact pj.ok.length pj.nd)) _)
    have hk3 : KOk (addAll kv ((joinP pwr total).map fun p => (p.1, p.2 * s))) := hk0.addAll fun p hp => by
      obtain ⟨r, hr, e⟩ := List.mem_map.mp hp
      subst e
      exact pj.ok r.1 (List.mem_map_of_mem hr)
    obtain ⟨S', pwr', e3, i3, b3, k3⟩ := added_loop ht hd hds hms step ss (joinP pwr total) (addAll kv ((joinP pwr total).map fun p => (p.1, p.2 * s))) S2 (Dp * Dt) (1863225 * (Mp * Mt)) _ (fun s' h => hs s' (List.mem_cons_of_mem _ h)) i2 pj (Wf.addAll hw) hk3 hk2 o8
    refine ⟨S', pwr', ?_, i3, ?_, k3⟩
    · show forL g b (.fr s :: ss.map D.fr) S = _
      unfold forL
      rw [e1]
      simp only [e2]
      exact e3
    · rw [eD]; exact b3
/-- the loop that puts a power's numbers, each by a share -/
theorem scale_loop {pwr : Kq} {Dq Mq Ds Ms k : Nat} (hp : PB pwr Dq Mq) {s : Rat} (hs : Bd Ds Ms s) (hd : 0 < Dq) (hds : 0 < Ds) (l1 : Dq < Lim) (l2 : Mq < Lim) (l3 : Ds < Lim) (l4 : Ms < Lim) {g : GF} {b : SF} {Inv : Kq → Ss → Prop}
    (step : ∀ kv S (r : W × Rat), Inv kv S → Fit r.2 → Fit s → Fit (r.2 * s) → Fit (kg kv r.1) → kv.length < 16777216 → ∃ S1 S2, g (tD1 r) S = some S1 ∧ b S1 = some (.nx, S2) ∧ Inv (putP kv r.1 (r.2 * s)) S2)
    {kv : Kq} {S : Ss} {Mk : Nat} (hi : Inv kv S) (hk : Bk (Dq * Ds * k) Mk kv) (h0 : 0 < Dq * Ds * k) (h1 : Dq * Ds * k < Lim) (h2 : Mk + 1365 * (Mq * Ms * k) < Lim) (hl : kv.length ≤ 1366) :
    ∃ S', forL g b (kqD pwr) S = some (.nx, S') ∧ Inv (addAll kv (pwr.map fun p => (p.1, p.2 * s))) S' := by
  have hlen : pwr.length ≤ 1365 := hp.ok.length hp.nd
  have e : pwr.flatMap (fun r => [(r.1, r.2 * s)]) = pwr.map fun p => (p.1, p.2 * s) := by
    induction pwr with
    | nil => rfl
    | cons p l ih =>
      rw [List.flatMap_cons, List.map_cons, ih ⟨fun q hq => hp.bd q (List.mem_cons_of_mem _ hq), fun w hw => hp.ok w (List.mem_cons_of_mem _ hw), (List.nodup_cons.mp hp.nd).2⟩ (by simp at hlen; omega)]
      rfl
  have hk0 : 0 < k := Nat.pos_of_mul_pos_left h0 |> fun _ => by
    rcases Nat.eq_zero_or_pos k with z | z
    · rw [z] at h0; simp at h0
    · exact z
  have := acc_loop (D := Dq * Ds * k) (M' := Mq * Ms * k) (f := fun r => [(r.1, r.2 * s)]) (Inv := Inv) (l := pwr) (g := g) (b := b) (fun kv S r M hr hi hk hl hM => by
    have b1 := (hp.bd r hr).mul hs
    have fq : Fit (r.2 * s) := fit_of (b1.wide k) h0 h1 (by simp only [List.length_singleton] at hM; omega)
    exact step kv S r hi (fit_of (hp.bd r hr) hd l1 l2) (fit_of hs hds l3 l4) fq (fit_of (hk _) h0 h1 (by omega)) (by simp only [List.length_singleton] at hl; omega)) (fun r hr x hx => by
      rw [List.mem_singleton] at hx
      rw [hx]
      exact ((hp.bd r hr).mul hs).wide k) kv S Mk hi hk (by rw [e, List.length_map]; omega) (by
      rw [e, List.length_map]
      have : pwr.length * (Mq * Ms * k) ≤ 1365 * (Mq * Ms * k) := Nat.mul_le_mul_right _ hlen
      omega)
  rw [e] at this
  exact this
end Sp
/-! grown, logged: both sides -/
namespace Sp
open Sw Sw.Wd
structure AB (total : Kq) (Dt Mt : Nat) (ss : List Rat) (Ds Ms : Nat) : Prop where
  ht : TB total Dt Mt
  hs : ∀ s ∈ ss, Bd Ds Ms s
  d0 : 0 < Ds
  d1 : Ds < Lim
  m1 : Ms < Lim
  ok : okB Dt Mt Ds Ms ss.length 1 1 0 = true
theorem one_lt_lim : 1 < Lim := by unfold Lim; exact Nat.one_lt_two_pow (by decide)
theorem start_pb : PB [([], 1)] 1 1 := by
  refine ⟨fun p hp => ?_, fun w hw => ?_, by simp⟩
  · rw [List.mem_singleton] at hp
    subst hp
    exact ⟨1, by decide +kernel, by decide⟩
  · simp at hw
    subst hw
    exact ⟨by simp, by simp⟩
def addedK (total : Kq) (ss : List Rat) : Kq := addedP total ss [([], 1)] []
/-- what is added up, and how great it is -/
structure AOut (total : Kq) (Dt Mt : Nat) (ss : List Rat) (Ds Ms : Nat) : Prop where
  bk : Bk (Ds * Dt ^ ss.length) (outB Dt Mt Ds Ms ss.length 1 0) (addedK total ss)
  ok : KOk (addedK total ss)
  wf : Wf (addedK total ss)
def InvA (A B : D) (pwr kv : Kq) (S : Ss) : Prop := ∃ w x y, S = [.va A, .va B, .va (.int 5), .ow (.dct (kvD kv)), .va (.lst (kqD pwr)), w, x, y]
def InvL (A B : D) (pwr kv : Kq) (S : Ss) : Prop := ∃ w x y, S = [.va A, .va B, .ow (.dct (kvD kv)), .va (.lst (kqD pwr)), w, x, y]
section
variable {total : Kq} {Dt Mt : Nat} {ss : List Rat} {Ds Ms : Nat}
theorem added_run (h : AB total Dt Mt ss Ds Ms) {B : D} : ∃ S' pwr', forL (gNm 5) (sSeq (sSet 4 (eCall m_joined_short (aCons (eVar 4) (aCons (eVar 0) (aCons (eVar 2) aNil)))))
      (sFor (iL (eVar 4)) (gTp 2 (gsCons (gNm 6) (gsCons (gNm 7) gsNil)))
      (sDrop (eCallO [some 3, none, none] m_put_to (aOwn 3 (aCons (eVar 6) (aCons (eCall m_times (aCons (eVar 7) (aCons (eVar 5) aNil))) aNil))))))) (ss.map D.fr)
      [.va (.lst (kqD total)), .va B, .va (.int 5), .ow (.dct []), .va (.lst (kqD [([], 1)])), .un, .un, .un] = some (.nx, S') ∧ InvA (.lst (kqD total)) B pwr' (addedK total ss) S' ∧
      Bk (1 * Ds * Dt ^ ss.length) (outB Dt Mt Ds Ms ss.length 1 0) (addedK total ss) ∧ KOk (addedK total ss) := by
  refine added_loop h.ht h.d0 h.d1 h.m1 (Inv := InvA (.lst (kqD total)) B) (fun pwr kv S s Dp Mp Mk m hi jb pj hs o4 o5 hk h0 h1 h2 hl => ?_) ss [([], 1)] [] _ 1 1 0 h.hs ⟨.un, .un, .un, rfl⟩ start_pb Wf.nil (fun w hw => by simp at hw) (Bk.nil _ _) h.ok
  obtain ⟨w, x, y, e⟩ := hi
  subst e
  obtain ⟨S', e3, x', y', i3⟩ := scale_loop (pwr := joinP pwr total) (s := s) (Ds := Ds) (Ms := Ms) (k := Dt ^ m) pj hs (Nat.mul_pos jb.d1 jb.d2) h.d0 o4 o5 h.d1 h.m1 (g := gTp 2 (gsCons (gNm 6) (gsCons (gNm 7) gsNil)))
    (b := sDrop (eCallO [some 3, none, none] m_put_to (aOwn 3 (aCons (eVar 6) (aCons (eCall m_times (aCons (eVar 7) (aCons (eVar 5) aNil))) aNil)))))
    (Inv := fun kv S => ∃ x y, S = [.va (.lst (kqD total)), .va B, .va (.int 5), .ow (.dct (kvD kv)), .va (.lst (kqD (joinP pwr total))), .va (.fr s), x, y])
    (fun kv S r ⟨x, y, e⟩ f1 f2 f3 f4 hl => by
      subst e
      refine ⟨_, _, gTp2 6 7 r _, ?_, .va (wD r.1), .va (.fr r.2), rfl⟩
      simp only [List.set_cons_succ, List.set_cons_zero]
      unfold sDrop
      rw [put_call put_to_ok (kv := kv) (w := r.1) (q := r.2 * s) rfl rfl ((times_tells f1 f2).says _ _ _ rfl) f4 f3 hl]
      rfl)
    (kv := kv) (S := [.va (.lst (kqD total)), .va B, .va (.int 5), .ow (.dct (kvD kv)), .va (.lst (kqD (joinP pwr total))), .va (.fr s), x, y]) (Mk := Mk) ⟨x, y, rfl⟩ hk h0 h1 h2 hl
  refine ⟨_, S', rfl, ?_, .va (.fr s), x', y', i3⟩
  simp only [List.set_cons_succ, List.set_cons_zero, sSeq, sSet]
  rw [(joined_tells jb).says (aCons (eVar 4) (aCons (eVar 0) (aCons (eVar 2) aNil))) _ [.va (.lst (kqD total)), .va B, .va (.int 5), .ow (.dct (kvD kv)), .va (.lst (kqD pwr)), .va (.fr s), x, y] rfl]
  simp only [bd_some, List.set_cons_succ, List.set_cons_zero]
  unfold sFor
  exact e3
theorem law_added_run (h : AB total Dt Mt ss Ds Ms) {B : D} : ∃ S' pwr', forL (gNm 4) (sSeq (sSet 3 (eCall m__law_joined (aCons (eVar 3) (aCons (eVar 0) aNil))))
      (sFor (iL (eVar 3)) (gTp 2 (gsCons (gNm 5) (gsCons (gNm 6) gsNil)))
      (sDrop (eCallO [some 2, none, none] m__law_put (aOwn 2 (aCons (eVar 5) (aCons (eCall m__law_by (aCons (eVar 6) (aCons (eVar 4) aNil))) aNil))))))) (ss.map D.fr)
      [.va (.lst (kqD total)), .va B, .ow (.dct []), .va (.lst (kqD [([], 1)])), .un, .un, .un] = some (.nx, S') ∧ InvL (.lst (kqD total)) B pwr' (addedK total ss) S' ∧
      Bk (1 * Ds * Dt ^ ss.length) (outB Dt Mt Ds Ms ss.length 1 0) (addedK total ss) ∧ KOk (addedK total ss) := by
  refine added_loop h.ht h.d0 h.d1 h.m1 (Inv := InvL (.lst (kqD total)) B) (fun pwr kv S s Dp Mp Mk m hi jb pj hs o4 o5 hk h0 h1 h2 hl => ?_) ss [([], 1)] [] _ 1 1 0 h.hs ⟨.un, .un, .un, rfl⟩ start_pb Wf.nil (fun w hw => by simp at hw) (Bk.nil _ _) h.ok
  obtain ⟨w, x, y, e⟩ := hi
  subst e
  obtain ⟨S', e3, x', y', i3⟩ := scale_loop (pwr := joinP pwr total) (s := s) (Ds := Ds) (Ms := Ms) (k := Dt ^ m) pj hs (Nat.mul_pos jb.d1 jb.d2) h.d0 o4 o5 h.d1 h.m1 (g := gTp 2 (gsCons (gNm 5) (gsCons (gNm 6) gsNil)))
    (b := sDrop (eCallO [some 2, none, none] m__law_put (aOwn 2 (aCons (eVar 5) (aCons (eCall m__law_by (aCons (eVar 6) (aCons (eVar 4) aNil))) aNil)))))
    (Inv := fun kv S => ∃ x y, S = [.va (.lst (kqD total)), .va B, .ow (.dct (kvD kv)), .va (.lst (kqD (joinP pwr total))), .va (.fr s), x, y])
    (fun kv S r ⟨x, y, e⟩ f1 f2 f3 f4 hl => by
      subst e
      refine ⟨_, _, gTp2 5 6 r _, ?_, .va (wD r.1), .va (.fr r.2), rfl⟩
      simp only [List.set_cons_succ, List.set_cons_zero]
      unfold sDrop
      rw [put_call law_put_ok (kv := kv) (w := r.1) (q := r.2 * s) rfl rfl ((law_by_tells f1 f2).says _ _ _ rfl) f4 f3 hl]
      rfl)
    (kv := kv) (S := [.va (.lst (kqD total)), .va B, .ow (.dct (kvD kv)), .va (.lst (kqD (joinP pwr total))), .va (.fr s), x, y]) (Mk := Mk) ⟨x, y, rfl⟩ hk h0 h1 h2 hl
  refine ⟨_, S', rfl, ?_, .va (.fr s), x', y', i3⟩
  simp only [List.set_cons_succ, List.set_cons_zero, sSeq, sSet]
  rw [law_joined_tells jb (aCons (eVar 3) (aCons (eVar 0) aNil)) _ [.va (.lst (kqD total)), .va B, .ow (.dct (kvD kv)), .va (.lst (kqD pwr)), .va (.fr s), x, y] rfl]
  simp only [bd_some, List.set_cons_succ, List.set_cons_zero]
  unfold sFor
  exact e3
theorem added_out (h : AB total Dt Mt ss Ds Ms) : AOut total Dt Mt ss Ds Ms := by
  obtain ⟨_, _, _, _, b, k⟩ := added_run h (B := .non)
  rw [Nat.one_mul] at b
  exact ⟨b, k, addedP_wf _ _ _ _ Wf.nil⟩
theorem added_tells (h : AB total Dt Mt ss Ds Ms) : TellsF m_added_up [.lst (kqD total), .lst (ss.map D.fr), .int 5] (.dct (kvD (addedK total ss))) := by
  refine tellsF_of rfl ?_
  show ∃ S', b_added_up [.va (.lst (kqD total)), .va (.lst (ss.map D.fr)), .va (.int 5), .un, .un, .un, .un, .un] = some (_, S')
  unfold b_added_up
  obtain ⟨S', pwr', e, ⟨w, x, y, eS⟩, _⟩ := added_run h (B := .lst (ss.map D.fr))
  subst eS
  have e1 : eA gLst (aCons (eA gTup (aCons (eA gTup aNil) (aCons (eC (.fr 1)) aNil))) aNil) [.va (.lst (kqD total)), .va (.lst (ss.map D.fr)), .va (.int 5), .ow (.dct []), .un, .un, .un, .un] =
    some (.lst (kqD [([], 1)]), [.va (.lst (kqD total)), .va (.lst (ss.map D.fr)), .va (.int 5), .ow (.dct []), .un, .un, .un, .un]) := rfl
  simp only [sSeq, sSetF, eC, bd_some, List.set_cons_succ, List.set_cons_zero, sSet]
  rw [e1]
  simp only [bd_some, List.set_cons_succ, List.set_cons_zero]
  have e2 : ∀ (g : GF) (b : SF), sFor (iL (eVar 1)) g b [.va (.lst (kqD total)), .va (.lst (ss.map D.fr)), .va (.int 5), .ow (.dct []), .va (.lst (kqD [([], 1)])), .un, .un, .un] = forL g b (ss.map D.fr) [.va (.lst (kqD total)), .va (.lst (ss.map D.fr)), .va (.int 5), .ow (.dct []), .va (.lst (kqD [([], 1)])), .un, .un, .un] := fun g b => rfl
  rw [e2]
  rw [e]
  exact ⟨_, rfl⟩
theorem law_powers_tells (h : AB total Dt Mt ss Ds Ms) : TellsF m__law_powers [.lst (kqD total), .lst (ss.map D.fr)] (.dct (kvD (addedK total ss))) := by
  refine tellsF_of rfl ?_
  show ∃ S', b__law_powers [.va (.lst (kqD total)), .va (.lst (ss.map D.fr)), .un, .un, .un, .un, .un] = some (_, S')
  unfold b__law_powers
  obtain ⟨S', pwr', e, ⟨w, x, y, eS⟩, _⟩ := law_added_run h (B := .lst (ss.map D.fr))
  subst eS
  have e1 : eA gLst (aCons (eA gTup (aCons (eA gTup aNil) (aCons (eNf (eA gTup (aCons (eC (.int 1)) (aCons (eC (.int 1)) aNil)))) aNil))) aNil) [.va (.lst (kqD total)), .va (.lst (ss.map D.fr)), .ow (.dct []), .un, .un, .un, .un] =
    some (.lst (kqD [([], 1)]), [.va (.lst (kqD total)), .va (.lst (ss.map D.fr)), .ow (.dct []), .un, .un, .un, .un]) := by
    have e0 : nfD (.tup [.int 1, .int 1]) = .fr 1 := nfD_of (n := 1) (m := 1) (q := 1) rfl rfl
    have : eNf (eA gTup (aCons (eC (.int 1)) (aCons (eC (.int 1)) aNil))) [.va (.lst (kqD total)), .va (.lst (ss.map D.fr)), .ow (.dct []), .un, .un, .un, .un] = some (.fr 1, [.va (.lst (kqD total)), .va (.lst (ss.map D.fr)), .ow (.dct []), .un, .un, .un, .un]) := by
      rw [← e0]; rfl
    simp only [eA, aCons, this, bd_some, aNil]
    rfl
  simp only [sSeq, sSetF, bd_some, sSet]
  have e3 : eC (.dct []) [.va (.lst (kqD total)), .va (.lst (ss.map D.fr)), .un, .un, .un, .un, .un] = some (.dct [], [.va (.lst (kqD total)), .va (.lst (ss.map D.fr)), .un, .un, .un, .un, .un]) := rfl
  rw [e3]
  simp only [bd_some, List.set_cons_succ, List.set_cons_zero]
  rw [e1]
  simp only [bd_some, List.set_cons_succ, List.set_cons_zero]
  have e2 : ∀ (g : GF) (b : SF), sFor (iL (eVar 1)) g b [.va (.lst (kqD total)), .va (.lst (ss.map D.fr)), .ow (.dct []), .va (.lst (kqD [([], 1)])), .un, .un, .un] = forL g b (ss.map D.fr) [.va (.lst (kqD total)), .va (.lst (ss.map D.fr)), .ow (.dct []), .va (.lst (kqD [([], 1)])), .un, .un, .un] := fun g b => rfl
  rw [e2]
  rw [e]
  exact ⟨_, rfl⟩
end
end Sp
/-! grown_short, logged_short, the law's -/
namespace Sp
open Sw Sw.Wd
theorem aCons_of {f : EF} {r : AF} {S S1 S2 : Ss} {d : D} {ds : List D} (h1 : f S = some (d, S1)) (h2 : r S1 = some (ds, S2)) : aCons f r S = some (d :: ds, S2) := by
  unfold aCons; rw [h1, bd_some, h2]; rfl
theorem eA_of {g : List D → Option D} {f : AF} {S S1 : Ss} {d : D} {ds : List D} (h1 : f S = some (ds, S1)) (h2 : g ds = some d) : eA g f S = some (d, S1) := by
  unfold eA; rw [h1, bd_some, h2]; rfl
theorem fraction_tells {n : Int} (h : 0 < n) (h' : n.natAbs < 2 ^ 8000) : Tells m_fraction [.int 1, .int n] (.fr (Rat.normalize 1 n.toNat (by omega))) := by
  refine tells_of rfl ?_
  show ∃ S', b_fraction [.va (.int 1), .va (.int n)] = some (_, S')
  unfold b_fraction
  have h0 : ¬ n = 0 := by omega
  simp only [sSeq, sIf, tVal, eBin, eVar, eC, List.getElem?_cons_zero, List.getElem?_cons_succ, bd_some, gEq_int, Option.map_some, h0, decide_false, Bool.false_eq_true, if_false, sNx, sRet]
  rw [call_tells (lowest_tells (t := 1) h (Nat.lt_of_le_of_lt (by decide : (1 : Int).natAbs ≤ 1) (Nat.one_lt_two_pow (by decide))) h') (S1 := [.va (.int 1), .va (.int n)]) rfl]
  exact ⟨_, rfl⟩
theorem small_lt {n : Nat} (h : n < 256) : n < 2 ^ 8000 := Nat.lt_of_lt_of_le h (Nat.pow_le_pow_right (n := 2) (by decide) (by decide : 8 ≤ 8000))
def frD (d : D) : D := match d with
  | .int n => if h : 0 < n then .fr (Rat.normalize 1 n.toNat (by omega)) else d
  | d => d
theorem shares_e (S : Ss) (hS : S.length = 4) (h3 : S[3]? = some .un) : eLc [3] (iT (eA gTup (aCons (eC (.int 1)) (aCons (eC (.int 2)) (aCons (eC (.int 6)) (aCons (eC (.int 24)) (aCons (eC (.int 120)) aNil))))))) (gNm 3) tTrue (eCall m_fraction (aCons (eC (.int 1)) (aCons (eVar 3) aNil))) S =
    some (.lst (eS.map D.fr), S) := by
  match S, hS with
  | [s0, s1, s2, s3], _ =>
    simp at h3
    subst h3
    unfold eLc
    have e1 : iT (eA gTup (aCons (eC (.int 1)) (aCons (eC (.int 2)) (aCons (eC (.int 6)) (aCons (eC (.int 24)) (aCons (eC (.int 120)) aNil)))))) [s0, s1, s2, .un] = some ([.int 1, .int 2, .int 6, .int 24, .int 120], [s0, s1, s2, .un]) := rfl
    rw [e1]
    have hall : ∀ d ∈ [D.int 1, .int 2, .int 6, .int 24, .int 120], ∃ n : Int, 0 < n ∧ n.natAbs < 256 ∧ d = .int n := by
      intro d hd
      simp only [List.mem_cons, List.not_mem_nil, or_false] at hd
      rcases hd with rfl | rfl | rfl | rfl | rfl
      · exact ⟨1, by decide, by decide, rfl⟩
      · exact ⟨2, by decide, by decide, rfl⟩
      · exact ⟨6, by decide, by decide, rfl⟩
      · exact ⟨24, by decide, by decide, rfl⟩
      · exact ⟨120, by decide, by decide, rfl⟩
    have e2 := cpL_map (own := [3]) (g := gNm 3) (t := tTrue) (e := eCall m_fraction (aCons (eC (.int 1)) (aCons (eVar 3) aNil))) (S0 := [s0, s1, s2, .un]) (r := frD) (c := fun _ => true) [.int 1, .int 2, .int 6, .int 24, .int 120] fun d hd => by
      obtain ⟨n, h1, h2, e⟩ := hall d hd
      subst e
      refine ⟨[s0, s1, s2, .va (.int n)], rfl, rfl, fun _ => ?_, rfl⟩
      rw [call_tells (fraction_tells h1 (small_lt h2)) (S1 := [s0, s1, s2, .va (.int n)]) rfl]
      unfold frD
      simp only
      rw [dif_pos h1]
    have e3 : wipeS [s0, s1, s2, Sl.un] [3] = [s0, s1, s2, .un] := rfl
    have e4 : (([D.int 1, .int 2, .int 6, .int 24, .int 120].filter fun _ => true).map frD) = eS.map D.fr := by
      show [frD (.int 1), frD (.int 2), frD (.int 6), frD (.int 24), frD (.int 120)] = [D.fr 1, .fr (1/2), .fr (1/6), .fr (1/24), .fr (1/120)]
      have f : ∀ (n : Int) (q : Rat) (h : 0 < n), mkRat 1 n.toNat = q → frD (.int n) = .fr q := fun n q h e => by
        unfold frD; simp only; rw [dif_pos h, Rat.normalize_eq_mkRat, e]
      rw [f 1 1 (by decide) (by decide +kernel), f 2 (1/2) (by decide) (by decide +kernel), f 6 (1/6) (by decide) (by decide +kernel), f 24 (1/24) (by decide) (by decide +kernel), f 120 (1/120) (by decide) (by decide +kernel)]
    rw [e4] at e2
    simp only [bd_some, e3, e2]
    rfl
/-- grown: what is asked of the sum, what is told -/
structure GB (total : Kq) (Dt Mt : Nat) : Prop where
  ab : AB total Dt Mt eS 120 120
  dl : 120 * Dt ^ 5 < Lim
  ml : outB Dt Mt 120 120 5 1 0 + 1 * (120 * Dt ^ 5) < Lim
theorem GB.put {total : Kq} {Dt Mt : Nat} (h : GB total Dt Mt) : Fit (kg (addedK total eS) []) ∧ Fit 1 ∧ (addedK total eS).length < 16777216 := by
  have o := added_out h.ab
  have hd : 0 < 120 * Dt ^ 5 := Nat.mul_pos (by decide) (Nat.pow_pos h.ab.ht.d0)
  refine ⟨fit_of (o.bk []) hd h.dl (Nat.lt_of_le_of_lt (Nat.le_add_right _ _) h.ml), ⟨?_, ?_⟩, ?_⟩
  · exact Nat.lt_of_le_of_lt (by decide : (1 : Rat).num.natAbs ≤ 1) one_lt_lim
  · exact Nat.lt_of_le_of_lt (by decide : (1 : Rat).den ≤ 1) one_lt_lim
  · have := o.ok.length o.wf.nd
    omega
theorem grown_short_tells {total : Kq} {Dt Mt : Nat} (h : GB total Dt Mt) : TellsF m_grown_short [.lst (kqD total), .int 5] (.lst (kqD (grownP total))) := by
  refine tellsF_of rfl ?_
  show ∃ S', b_grown_short [.va (.lst (kqD total)), .va (.int 5), .un, .un] = some (_, S')
  unfold b_grown_short
  obtain ⟨p1, p2, p3⟩ := h.put
  have ea : aCons (eVar 0) (aCons (eLc [3] (iT (eA gTup (aCons (eC (.int 1)) (aCons (eC (.int 2)) (aCons (eC (.int 6)) (aCons (eC (.int 24)) (aCons (eC (.int 120)) aNil))))))) (gNm 3) tTrue (eCall m_fraction (aCons (eC (.int 1)) (aCons (eVar 3) aNil)))) (aCons (eVar 1) aNil))
      [.va (.lst (kqD total)), .va (.int 5), .un, .un] = some ([.lst (kqD total), .lst (eS.map D.fr), .int 5], [.va (.lst (kqD total)), .va (.int 5), .un, .un]) := by
    exact aCons_of rfl (aCons_of (shares_e _ rfl rfl) rfl)
  simp only [sSeq, sSetF]
  rw [callF_tells (added_tells h.ab) ea]
  simp only [bd_some, List.set_cons_succ, List.set_cons_zero, sDrop]
  rw [put_call put_to_ok (i := 2) (kv := addedK total eS) (w := []) (q := 1) rfl rfl rfl p1 p2 p3]
  simp only [bd_some, List.set_cons_succ, List.set_cons_zero]
  unfold sRetF
  rw [callF_tells (told_sum_tells (putP (addedK total eS) [] 1)) (S1 := [.va (.lst (kqD total)), .va (.int 5), .va (.dct (kvD (putP (addedK total eS) [] 1))), .un]) rfl]
  exact ⟨_, rfl⟩
theorem nf1 {n m : Int} {q : Rat} (hn : n = q.num) (hm : m = q.den) (S : Ss) : eNf (eA gTup (aCons (eC (.int n)) (aCons (eC (.int m)) aNil))) S = some (.fr q, S) := by
  rw [← nfD_of hn hm]; rfl
theorem nf2 {n m : Int} {q : Rat} (hn : -n = q.num) (hm : m = q.den) (S : Ss) : eNf (eA gTup (aCons (eUn gNeg (eC (.int n))) (aCons (eC (.int m)) aNil))) S = some (.fr q, S) := by
  rw [← nfD_of hn hm]; rfl
theorem law_grown_says {total : Kq} {Dt Mt : Nat} (h : GB total Dt Mt) : Says m__law_grown [.lst (kqD total)] (.lst (kqD (grownP total))) := by
  refine Tells.says (tells_of rfl ?_)
  show ∃ S', b__law_grown [.va (.lst (kqD total)), .un] = some (_, S')
  unfold b__law_grown
  obtain ⟨p1, p2, p3⟩ := h.put
  have ea : ∀ S : Ss, S[0]? = some (.va (.lst (kqD total))) → aCons (eVar 0) (aCons (eA gLst (aCons (eNf (eA gTup (aCons (eC (.int 1)) (aCons (eC (.int 1)) aNil)))) (aCons (eNf (eA gTup (aCons (eC (.int 1)) (aCons (eC (.int 2)) aNil)))) (aCons (eNf (eA gTup (aCons (eC (.int 1)) (aCons (eC (.int 6)) aNil)))) (aCons (eNf (eA gTup (aCons (eC (.int 1)) (aCons (eC (.int 24)) aNil)))) (aCons (eNf (eA gTup (aCons (eC (.int 1)) (aCons (eC (.int 120)) aNil)))) aNil)))))) aNil)
      S = some ([.lst (kqD total), .lst (eS.map D.fr)], S) := by
    intro S hS
    refine aCons_of (by unfold eVar; rw [hS]) (aCons_of (eA_of (aCons_of (nf1 (q := 1) rfl rfl S) (aCons_of (nf1 (q := 1/2) (by decide +kernel) (by decide +kernel) S) (aCons_of (nf1 (q := 1/6) (by decide +kernel) (by decide +kernel) S)
      (aCons_of (nf1 (q := 1/24) (by decide +kernel) (by decide +kernel) S) (aCons_of (nf1 (q := 1/120) (by decide +kernel) (by decide +kernel) S) rfl))))) rfl) rfl)
  simp only [sSeq, sSetF]
  rw [callF_tells (law_powers_tells h.ab) (ea _ rfl)]
  simp only [bd_some, List.set_cons_succ, List.set_cons_zero, sDrop]
  rw [put_call law_put_ok (i := 1) (kv := addedK total eS) (w := []) (q := 1) rfl rfl (nf1 (n := 1) (m := 1) (q := 1) rfl rfl _) p1 p2 p3]
  simp only [bd_some, List.set_cons_succ, List.set_cons_zero]
  unfold sRet
  rw [call_tellsF (law_told_tells (putP (addedK total eS) [] 1)) (S1 := [.va (.lst (kqD total)), .va (.dct (kvD (putP (addedK total eS) [] 1)))]) rfl]
  exact ⟨_, rfl⟩
/-! ### logged -/
theorem okA_ints : ∀ (n : Nat) (w : W), okA n (w.map D.int) = true
  | n, [] => by simp [okA]
  | n, i :: w => by simp [okA, okD, okA_ints n w]
theorem toPA_ints : ∀ w : W, toPA (w.map D.int) = w.map .int
  | [] => rfl
  | i :: w => by simp [toPA, toP, toPA_ints w]
theorem gNe_w (u v : W) : gNe (wD u) (wD v) = some (.bl (decide (u ≠ v))) := by
  unfold gNe
  have h1 : okD 40 (wD u) = true := okA_ints 39 u
  have h2 : okD 40 (wD v) = true := okA_ints 39 v
  rw [h1, h2]
  have : eqD (wD u) (wD v) = decide (u = v) := by
    unfold eqD
    show PySem.PyData.eqv (.tuple (toPA (u.map D.int))) (.tuple (toPA (v.map D.int))) = _
    rw [toPA_ints, toPA_ints]
    simp only [PySem.PyData.eqv]
    exact eqv_ints u v
  rw [this]
  simp
theorem rest_lc (own1 own2 : Nat) (n : Nat) (l : Kq) (S : Ss) (hS : S[0]? = some (.va (.lst (kqD l)))) (h1 : own1 ≠ own2) (hw : wipeS S [own1, own2] = S) (hu : unwS S S [own1, own2] = S) (hl1 : own1 < S.length) (hl2 : own2 < S.length) (ho : ([own1, own2].all fun v => !isOw S[v]?) = true)
    (hk : ∀ x y, wipeS ((S.set own1 x).set own2 y) [own1, own2] = S) :
    eLc [own1, own2] (iL (eVar 0)) (gTp 2 (gsCons (gNm own1) (gsCons (gNm own2) gsNil))) (tVal (eBin gNe (eVar own1) (eA gTup aNil))) (eNf (eA gTup (aCons (eVar own1) (aCons (eVar own2) aNil)))) S = some (.lst (kqD (restP l)), S) := by
  unfold eLc
  have e1 : iL (eVar 0) S = some (kqD l, S) := by
    unfold iL
    simp only [eVar, hS, bd_some]
  rw [e1]
  have e2 := cpL_map (own := [own1, own2]) (g := gTp 2 (gsCons (gNm own1) (gsCons (gNm own2) gsNil))) (t := tVal (eBin gNe (eVar own1) (eA gTup aNil))) (e := eNf (eA gTup (aCons (eVar own1) (aCons (eVar own2) aNil)))) (S0 := S) (r := id)
    (c := fun d => match d with | .tup [.tup ks, _] => !ks.isEmpty | _ => false) (kqD l) fun d hd => by
      obtain ⟨r, hr, e⟩ := List.mem_map.mp hd
      subst e
      have g1 : ((S.set own1 (.va (wD r.1))).set own2 (.va (.fr r.2)))[own1]? = some (.va (wD r.1)) := by rw [List.getElem?_set_ne (Ne.symm h1), List.getElem?_set_self hl1]
      have g2 : ((S.set own1 (.va (wD r.1))).set own2 (.va (.fr r.2)))[own2]? = some (.va (.fr r.2)) := List.getElem?_set_self (by simpa using hl2)
      refine ⟨_, gTp2 own1 own2 r S, ?_, fun _ => ?_, hk _ _⟩
      · simp only [tVal, eBin, eVar, g1, bd_some, eA, aNil]
        have : gTup [] = some (wD []) := rfl
        rw [this]
        simp only [Option.map_some, bd_some, gNe_w]
        have : decide (r.1 ≠ []) = !(r.1.map D.int).isEmpty := by cases r.1 <;> simp
        rw [this]
        rfl
      · simp only [eNf, eA, aCons, eVar, g1, g2, bd_some, aNil, gTup2, Option.map_some]
        rfl
  have e3 : ((kqD l).filter fun d => match d with | .tup [.tup ks, _] => !ks.isEmpty | _ => false).map id = kqD (restP l) := by
    rw [List.map_id]
    unfold kqD restP
    rw [List.filter_map]
    congr 1
    apply List.filter_congr
    intro p _
    show (!(p.1.map D.int).isEmpty) = decide (p.1 ≠ [])
    cases p.1 <;> simp
  rw [e3] at e2
  simp only [bd_some, ho, if_true, hw, e2, hu]
theorem shares_l (S : Ss) : eA gLst (aCons (eNf (eA gTup (aCons (eC (.int 1)) (aCons (eC (.int 1)) aNil)))) (aCons (eNf (eA gTup (aCons (eUn gNeg (eC (.int 1))) (aCons (eC (.int 2)) aNil)))) (aCons (eNf (eA gTup (aCons (eC (.int 1)) (aCons (eC (.int 3)) aNil)))) (aCons (eNf (eA gTup (aCons (eUn gNeg (eC (.int 1))) (aCons (eC (.int 4)) aNil)))) (aCons (eNf (eA gTup (aCons (eC (.int 1)) (aCons (eC (.int 5)) aNil)))) aNil))))) S =
    some (.lst (lS.map D.fr), S) := by
  exact eA_of (aCons_of (nf1 (q := 1) rfl rfl S) (aCons_of (nf2 (q := -1/2) (by decide +kernel) (by decide +kernel) S) (aCons_of (nf1 (q := 1/3) (by decide +kernel) (by decide +kernel) S)
    (aCons_of (nf2 (q := -1/4) (by decide +kernel) (by decide +kernel) S) (aCons_of (nf1 (q := 1/5) (by decide +kernel) (by decide +kernel) S) rfl))))) rfl
theorem logged_short_tells {total : Kq} {Dt Mt : Nat} (h : AB (restP total) Dt Mt lS 60 60) : TellsF m_logged_short [.lst (kqD total), .int 5] (.lst (kqD (loggedP total))) := by
  refine tellsF_of rfl ?_
  show ∃ S', b_logged_short [.va (.lst (kqD total)), .va (.int 5), .un, .un, .un] = some (_, S')
  unfold b_logged_short
  simp only [sSeq, sSet]
  rw [rest_lc 3 4 5 total [.va (.lst (kqD total)), .va (.int 5), .un, .un, .un] rfl (by decide) rfl rfl (by show 3 < 5; decide) (by show 4 < 5; decide) rfl (fun _ _ => rfl)]
  simp only [bd_some, List.set_cons_succ, List.set_cons_zero, sRetF]
  have ea : aCons (eVar 2) (aCons (eA gLst (aCons (eNf (eA gTup (aCons (eC (.int 1)) (aCons (eC (.int 1)) aNil)))) (aCons (eNf (eA gTup (aCons (eUn gNeg (eC (.int 1))) (aCons (eC (.int 2)) aNil)))) (aCons (eNf (eA gTup (aCons (eC (.int 1)) (aCons (eC (.int 3)) aNil)))) (aCons (eNf (eA gTup (aCons (eUn gNeg (eC (.int 1))) (aCons (eC (.int 4)) aNil)))) (aCons (eNf (eA gTup (aCons (eC (.int 1)) (aCons (eC (.int 5)) aNil)))) aNil)))))) (aCons (eVar 1) aNil))
      [.va (.lst (kqD total)), .va (.int 5), .va (.lst (kqD (restP total))), .un, .un] = some ([.lst (kqD (restP total)), .lst (lS.map D.fr), .int 5], [.va (.lst (kqD total)), .va (.int 5), .va (.lst (kqD (restP total))), .un, .un]) := by
    exact aCons_of rfl (aCons_of (shares_l _) rfl)
  have e2 := (added_tells h).says _ _ _ ea
  rw [callF_tells (told_sum_tells (addedK (restP total) lS)) (S1 := [.va (.lst (kqD total)), .va (.int 5), .va (.lst (kqD (restP total))), .un, .un]) (aCons_of e2 rfl)]
  exact ⟨_, rfl⟩
theorem law_logged_says {total : Kq} {Dt Mt : Nat} (h : AB (restP total) Dt Mt lS 60 60) : Says m__law_logged [.lst (kqD total)] (.lst (kqD (loggedP total))) := by
  refine Tells.says (tells_of rfl ?_)
  show ∃ S', b__law_logged [.va (.lst (kqD total)), .un, .un, .un] = some (_, S')
  unfold b__law_logged
  simp only [sSeq, sSet]
  rw [rest_lc 2 3 4 total [.va (.lst (kqD total)), .un, .un, .un] rfl (by decide) rfl rfl (by show 2 < 4; decide) (by show 3 < 4; decide) rfl (fun _ _ => rfl)]
  simp only [bd_some, List.set_cons_succ, List.set_cons_zero, sRet]
  have ea : aCons (eVar 1) (aCons (eA gLst (aCons (eNf (eA gTup (aCons (eC (.int 1)) (aCons (eC (.int 1)) aNil)))) (aCons (eNf (eA gTup (aCons (eUn gNeg (eC (.int 1))) (aCons (eC (.int 2)) aNil)))) (aCons (eNf (eA gTup (aCons (eC (.int 1)) (aCons (eC (.int 3)) aNil)))) (aCons (eNf (eA gTup (aCons (eUn gNeg (eC (.int 1))) (aCons (eC (.int 4)) aNil)))) (aCons (eNf (eA gTup (aCons (eC (.int 1)) (aCons (eC (.int 5)) aNil)))) aNil)))))) aNil)
      [.va (.lst (kqD total)), .va (.lst (kqD (restP total))), .un, .un] = some ([.lst (kqD (restP total)), .lst (lS.map D.fr)], [.va (.lst (kqD total)), .va (.lst (kqD (restP total))), .un, .un]) := by
    exact aCons_of rfl (aCons_of (shares_l _) rfl)
  have e2 := (law_powers_tells h).says _ _ _ ea
  rw [call_tellsF (law_told_tells (addedK (restP total) lS)) (S1 := [.va (.lst (kqD total)), .va (.lst (kqD (restP total))), .un, .un]) (aCons_of e2 rfl)]
  exact ⟨_, rfl⟩
end Sp
/-! grown and logged of a sum that is one -/
namespace Sp
open Sw Sw.Wd
theorem is_whole_tells (n : Int) : Tells m_is_whole [.int n] (.bl true) := tells_of rfl ⟨_, rfl⟩
theorem is_number_tells (q : Rat) : Tells m_is_number [.fr q] (.bl true) := by
  refine tells_of rfl ?_
  show ∃ S', b_is_number [.va (.fr q)] = some (_, S')
  unfold b_is_number
  have t1 : tOrF (tNotF (tVal (eUn (isiD "tuple") (eVar 0)))) (tVal (eBin gNe (eA gLen (aCons (eVar 0) aNil)) (eC (.int 2)))) [.va (.fr q)] = some (false, [.va (.fr q)]) := by
    have : gNe (.int 2) (.int 2) = some (.bl false) := by rw [gNe_int]; rfl
    rfl
  have w1 := (is_whole_tells q.num).says (aCons (eBin gIx (eVar 0) (eC (.int 0))) aNil) [.va (.fr q)] [.va (.fr q)] rfl
  have w2 := (is_whole_tells q.den).says (aCons (eBin gIx (eVar 0) (eC (.int 1))) aNil) [.va (.fr q)] [.va (.fr q)] rfl
  have d := (divisor_tells q.num q.den).says (aCons (eBin gIx (eVar 0) (eC (.int 0))) (aCons (eBin gIx (eVar 0) (eC (.int 1))) aNil)) [.va (.fr q)] [.va (.fr q)] rfl
  have t2 : tOrF (tNotF (tVal (eCall m_is_whole (aCons (eBin gIx (eVar 0) (eC (.int 0))) aNil)))) (tNotF (tVal (eCall m_is_whole (aCons (eBin gIx (eVar 0) (eC (.int 1))) aNil)))) [.va (.fr q)] = some (false, [.va (.fr q)]) := by
    simp only [tOrF, tNotF, tVal, w1, bd_some, w2, Bool.not_true, Bool.false_eq_true, if_false]
  have hg : (1 : Int) ≤ (q.den : Int) := by have := q.den_pos; omega
  have hd : ((Int.gcd q.num q.den : Nat) : Int) = 1 := by
    have := q.reduced
    unfold Int.gcd
    simp only [Int.natAbs_natCast]
    rw [this]; rfl
  simp only [sSeq, sIf, t1, t2, bd_some, Bool.false_eq_true, if_false, sNx, sRet, eAndF, tVal, eBin, eVar, eC, List.getElem?_cons_zero, gIx_fr1, Option.map_some, gGe_int, decide_eq_true hg, if_true]
  rw [hd] at d
  have d' : eCall m_divisor (aCons (eBin gIx (eVar 0) (eC (.int 0))) (aCons (eBin gIx (eVar 0) (eC (.int 1))) aNil)) [.va (.fr q)] = some (.int 1, [.va (.fr q)]) := d
  rw [d']
  simp only [bd_some, gEq_int, Option.map_some]
  exact ⟨_, rfl⟩
theorem is_word_tells {w : W} {count : Int} (hl : w.length ≤ 5) (h : ∀ i ∈ w, 0 ≤ i ∧ i < count) : Tells m_is_word [wD w, .int count] (.bl true) := by
  refine tells_of rfl ?_
  show ∃ S', b_is_word [.va (wD w), .va (.int count), .un] = some (_, S')
  unfold b_is_word
  have t1 : tOrF (tNotF (tVal (eUn (isiD "tuple") (eVar 0)))) (tVal (eBin gGt (eA gLen (aCons (eVar 0) aNil)) (eC (.int 5)))) [.va (wD w), .va (.int count), .un] = some (false, [.va (wD w), .va (.int count), .un]) := by
    have e1 : tNotF (tVal (eUn (isiD "tuple") (eVar 0))) [.va (wD w), .va (.int count), .un] = some (false, [.va (wD w), .va (.int count), .un]) := rfl
    have h5 : ¬ (5 : Int) < ((w.length : Nat) : Int) := by omega
    simp only [tOrF, e1, bd_some, Bool.false_eq_true, if_false, tVal, eBin, eA, aCons, eVar, eC, aNil, List.getElem?_cons_zero, gLen_w, Option.map_some, gGt_int, h5, decide_false]
  have loop : ∀ (l : W) (x : Sl), (∀ i ∈ l, 0 ≤ i ∧ i < count) → ∃ y, forL (gNm 2) (sIf (tOrF (tNotF (tVal (eCall m_is_whole (aCons (eVar 2) aNil)))) (tOrF (tVal (eBin gLt (eVar 2) (eC (.int 0)))) (tVal (eBin gGe (eVar 2) (eVar 1)))))
      (sRet (eC (.bl false))) sNx) (l.map D.int) [.va (wD w), .va (.int count), x] = some (.nx, [.va (wD w), .va (.int count), y]) := by
    intro l
    induction l with
    | nil => intro x _; exact ⟨x, rfl⟩
    | cons i l ih =>
      intro x hi
      obtain ⟨y, e⟩ := ih (.va (.int i)) (fun j hj => hi j (List.mem_cons_of_mem _ hj))
      refine ⟨y, ?_⟩
      rw [List.map_cons]
      unfold forL
      have hi' := hi i (List.mem_cons_self ..)
      have w1 := (is_whole_tells i).says (aCons (eVar 2) aNil) [.va (wD w), .va (.int count), .va (.int i)] [.va (wD w), .va (.int count), .va (.int i)] rfl
      have n1 : ¬ i < 0 := by omega
      have n2 : ¬ count ≤ i := by omega
      have t2 : tOrF (tNotF (tVal (eCall m_is_whole (aCons (eVar 2) aNil)))) (tOrF (tVal (eBin gLt (eVar 2) (eC (.int 0)))) (tVal (eBin gGe (eVar 2) (eVar 1)))) [.va (wD w), .va (.int count), .va (.int i)] = some (false, [.va (wD w), .va (.int count), .va (.int i)]) := by
        simp only [tOrF, tNotF, tVal, w1, bd_some, Bool.not_true, Bool.false_eq_true, if_false, eBin, eVar, eC, List.getElem?_cons_zero, List.getElem?_cons_succ, gLt_int, gGe_int, Option.map_some, n1, n2, decide_false]
      have g1 : gNm 2 (.int i) [.va (wD w), .va (.int count), x] = some [.va (wD w), .va (.int count), .va (.int i)] := rfl
      rw [g1]
      simp only [sIf, t2, bd_some, Bool.false_eq_true, if_false, sNx]
      exact e
  obtain ⟨y, e⟩ := loop w .un h
  have e1 : ∀ b : SF, sFor (iT (eVar 0)) (gNm 2) b [.va (wD w), .va (.int count), .un] = forL (gNm 2) b (w.map D.int) [.va (wD w), .va (.int count), .un] := fun b => rfl
  simp only [sSeq, sIf, t1, bd_some, Bool.false_eq_true, if_false, sNx, e1]
  rw [e]
  exact ⟨_, rfl⟩
theorem is_term_tells {r : W × Rat} {count : Int} (hl : r.1.length ≤ 5) (h : ∀ i ∈ r.1, 0 ≤ i ∧ i < count) (hq : r.2 ≠ 0) : Tells m_is_term [tD1 r, .int count] (.bl true) := by
  refine tells_of rfl ?_
  show ∃ S', b_is_term [.va (tD1 r), .va (.int count)] = some (_, S')
  unfold b_is_term
  have t1 : tOrF (tNotF (tVal (eUn (isiD "tuple") (eVar 0)))) (tVal (eBin gNe (eA gLen (aCons (eVar 0) aNil)) (eC (.int 2)))) [.va (tD1 r), .va (.int count)] = some (false, [.va (tD1 r), .va (.int count)]) := rfl
  have w1 := (is_word_tells hl h).says (aCons (eBin gIx (eVar 0) (eC (.int 0))) (aCons (eVar 1) aNil)) [.va (tD1 r), .va (.int count)] [.va (tD1 r), .va (.int count)] rfl
  have w2 := (is_number_tells r.2).says (aCons (eBin gIx (eVar 0) (eC (.int 1))) aNil) [.va (tD1 r), .va (.int count)] [.va (tD1 r), .va (.int count)] rfl
  have w3 : eBin gNe (eBin gIx (eBin gIx (eVar 0) (eC (.int 1))) (eC (.int 0))) (eC (.int 0)) [.va (tD1 r), .va (.int count)] = some (.bl true, [.va (tD1 r), .va (.int count)]) := by
    have e1 : eBin gIx (eBin gIx (eVar 0) (eC (.int 1))) (eC (.int 0)) [.va (tD1 r), .va (.int count)] = some (.int r.2.num, [.va (tD1 r), .va (.int count)]) := rfl
    have hn : r.2.num ≠ 0 := fun z => hq (num0.mp z)
    show bd (eBin gIx (eBin gIx (eVar 0) (eC (.int 1))) (eC (.int 0)) [.va (tD1 r), .va (.int count)]) _ = _
    rw [e1]
    simp only [bd_some, eC, gNe_int, decide_eq_true hn, Option.map_some]
  simp only [sSeq, sIf, t1, bd_some, Bool.false_eq_true, if_false, sNx, sRet, eAndF, tVal, w1, w2, if_true, w3]
  exact ⟨_, rfl⟩
theorem rank_tells (w : W) : Tells m_rank [wD w] (.tup [.int w.length, wD w]) := by
  refine tells_of rfl ?_
  show ∃ S', b_rank [.va (wD w)] = some (_, S')
  unfold b_rank
  simp only [sRet, eA, aCons, eVar, aNil, List.getElem?_cons_zero, bd_some, gLen_w, Option.map_some, gTup2]
  exact ⟨_, rfl⟩
/-! ### the order of ranks -/
theorem lexAt_shift {e r : Nat → Bool} {z : Bool} : ∀ (k i : Nat), Ob.lexAt e r z (i + 1) k = Ob.lexAt (fun j => e (j + 1)) (fun j => r (j + 1)) z i k
  | 0, i => rfl
  | k + 1, i => by rw [Ob.lexAt_succ, Ob.lexAt_succ, lexAt_shift k (i + 1)]
theorem geI_cons (x y : Int) (xs ys : W) : geI (x :: xs) (y :: ys) = if x = y then geI xs ys else decide (y ≤ x) := by
  unfold geI
  have hm : min (x :: xs).length (y :: ys).length = min xs.length ys.length + 1 := by simp only [List.length_cons]; omega
  rw [hm, Ob.lexAt_succ, lexAt_shift]
  have hz : decide ((x :: xs).length ≥ (y :: ys).length) = decide (xs.length ≥ ys.length) := by
    simp only [List.length_cons]
    by_cases h : xs.length ≥ ys.length
    · rw [decide_eq_true h, decide_eq_true (by omega)]
    · rw [decide_eq_false h, decide_eq_false (by omega)]
  rw [hz]
  by_cases h : x = y
  · simp only [List.getD_cons_zero, h, decide_true, if_true, List.getD_cons_succ]
  · simp only [List.getD_cons_zero, h, decide_false, Bool.false_eq_true, if_false]
theorem geI_lt : ∀ {a b : W}, a < b → geI a b = false
  | [], [], h => absurd h (List.lt_irrefl _)
  | [], y :: ys, _ => rfl
  | x :: xs, [], h => by cases h
  | x :: xs, y :: ys, h => by
    rw [geI_cons]
    rcases List.cons_lt_cons_iff.mp h with h | ⟨h, h'⟩
    · rw [if_neg (by omega), decide_eq_false (by omega)]
    · rw [if_pos h, geI_lt h']
theorem rkGe_no {a b : W} (h : Rk a b) (hne : a ≠ b) : rkGe a.length a b.length b = false := by
  unfold rkGe
  rcases h with h | ⟨h, l⟩
  · rw [if_neg (by omega), decide_eq_false (by omega)]
  · rw [if_pos (by omega), if_neg hne]
    apply geI_lt
    apply List.not_le.mp
    intro z
    exact hne (List.le_antisymm l z)
theorem atI_nat {α : Type} {xs : List α} {j : Nat} (h : j < xs.length) : L2.atI xs (j : Int) = xs[j]? := by
  unfold L2.atI L2.ixN
  rw [if_pos (by omega), if_pos (by omega)]
  simp
/-- a sum that is one -/
structure SumOk (count : Int) (l : Kq) : Prop where
  len : ∀ r ∈ l, r.1.length ≤ 5
  let_ : ∀ r ∈ l, ∀ i ∈ r.1, 0 ≤ i ∧ i < count
  nz : ∀ r ∈ l, r.2 ≠ 0
  ord : (l.map (·.1)).Pairwise fun a b => Rk a b ∧ a ≠ b
theorem SumOk.nd {count : Int} {l : Kq} (h : SumOk count l) : (l.map (·.1)).Nodup := h.ord.imp fun h => h.2
theorem told_sumOk {count : Int} {kv : Kq} (hw : Wf kv) (hl : ∀ w ∈ kv.map (·.1), w.length ≤ 5 ∧ ∀ i ∈ w, 0 ≤ i ∧ i < count) : SumOk count (told kv) := by
  have hk : ∀ r ∈ told kv, r.1 ∈ kv.map (·.1) := fun r hr => by
    have : r.1 ∈ (told kv).map (·.1) := List.mem_map_of_mem hr
    rw [told_keys] at this
    exact (srt_perm _).mem_iff.mp this
  refine ⟨fun r hr => (hl _ (hk r hr)).1, fun r hr => (hl _ (hk r hr)).2, fun r hr => hw.told.nz r hr, ?_⟩
  have nd := told_nd hw
  rw [told_keys] at nd ⊢
  exact (srt_pw _).imp₂ (fun _ _ a b => ⟨a, b⟩) nd
theorem check_sum_tells {count : Int} {l : Kq} (h : SumOk count l) (hlen : l.length ≤ 1365) : ∀ (fs : AF) (S S1 : Ss), fs S = some ([.int count, .lst (kqD l)], S1) → eCall m_check_sum fs S = some (.non, S1) := by
  have main : ∃ S', m_check_sum [.va (.int count), .va (.lst (kqD l))] = some (.nx, S') := by
    suffices hb : ∃ S', b_check_sum [.va (.int count), .va (.lst (kqD l)), .un, .un] = some (.nx, S') by
      obtain ⟨S', e⟩ := hb
      exact ⟨_, fnM_of rfl e⟩
    unfold b_check_sum
    have loop : ∀ (n : Nat) (x y : Sl), n ≤ l.length → ∃ x' y', forL (gTp 2 (gsCons (gNm 2) (gsCons (gNm 3) gsNil))) (sSeq (sIf (tNotF (tVal (eCall m_is_term (aCons (eVar 3) (aCons (eVar 0) aNil))))) sNo sNx)
        (sIf (tAndF (tVal (eBin gGt (eVar 2) (eC (.int 0)))) (tVal (eBin gGeR (eCall m_rank (aCons (eBin gIx (eBin gIx (eVar 1) (eBin gSub (eVar 2) (eC (.int 1)))) (eC (.int 0))) aNil)) (eCall m_rank (aCons (eBin gIx (eVar 3) (eC (.int 0))) aNil))))) sNo sNx))
        ((enumD (kqD l)).drop (l.length - n)) [.va (.int count), .va (.lst (kqD l)), x, y] = some (.nx, [.va (.int count), .va (.lst (kqD l)), x', y']) := by
      intro n
      induction n with
      | zero =>
        intro x y _
        refine ⟨x, y, ?_⟩
        have : (enumD (kqD l)).length = l.length := by unfold enumD kqD; simp
        rw [List.drop_eq_nil_of_le (by omega)]
        rfl
      | succ n ih =>
        intro x y hn
        obtain ⟨p, hp⟩ : ∃ p, l.length - (n + 1) = p := ⟨_, rfl⟩
        have hpl : p < l.length := by omega
        have e1 : l.length - n = p + 1 := by omega
        obtain ⟨r, hr⟩ : ∃ r, l[p]? = some r := ⟨_, List.getElem?_eq_getElem hpl⟩
        have hrm : r ∈ l := List.mem_of_getElem? hr
        have ed : (enumD (kqD l)).drop p = .tup [.int (p : Nat), tD1 r] :: (enumD (kqD l)).drop (p + 1) := by
          have hl' : p < (enumD (kqD l)).length := by unfold enumD kqD; simpa using hpl
          rw [List.drop_eq_getElem_cons hl']
          congr 1
          have : (enumD (kqD l))[p]? = some (.tup [.int (p : Nat), tD1 r]) := by
            unfold enumD kqD
            rw [List.getElem?_map, List.getElem?_zipIdx, List.getElem?_map, hr]
            simp
          rw [List.getElem?_eq_getElem hl'] at this
          exact Option.some.inj this
        obtain ⟨x', y', e2⟩ := ih (.va (.int (p : Nat))) (.va (tD1 r)) (by omega)
        refine ⟨x', y', ?_⟩
        rw [hp, ed]
        unfold forL
        have g1 : gTp 2 (gsCons (gNm 2) (gsCons (gNm 3) gsNil)) (.tup [.int (p : Nat), tD1 r]) [.va (.int count), .va (.lst (kqD l)), x, y] = some [.va (.int count), .va (.lst (kqD l)), .va (.int (p : Nat)), .va (tD1 r)] := rfl
        rw [g1]
        have w1 := (is_term_tells (h.len r hrm) (h.let_ r hrm) (h.nz r hrm)).says (aCons (eVar 3) (aCons (eVar 0) aNil)) [.va (.int count), .va (.lst (kqD l)), .va (.int (p : Nat)), .va (tD1 r)] [.va (.int count), .va (.lst (kqD l)), .va (.int (p : Nat)), .va (tD1 r)] rfl
        have t1 : tNotF (tVal (eCall m_is_term (aCons (eVar 3) (aCons (eVar 0) aNil)))) [.va (.int count), .va (.lst (kqD l)), .va (.int (p : Nat)), .va (tD1 r)] = some (false, [.va (.int count), .va (.lst (kqD l)), .va (.int (p : Nat)), .va (tD1 r)]) := by
          simp only [tNotF, tVal, w1, bd_some, Bool.not_true]
        have t2 : tAndF (tVal (eBin gGt (eVar 2) (eC (.int 0)))) (tVal (eBin gGeR (eCall m_rank (aCons (eBin gIx (eBin gIx (eVar 1) (eBin gSub (eVar 2) (eC (.int 1)))) (eC (.int 0))) aNil)) (eCall m_rank (aCons (eBin gIx (eVar 3) (eC (.int 0))) aNil)))) [.va (.int count), .va (.lst (kqD l)), .va (.int (p : Nat)), .va (tD1 r)] =
            some (false, [.va (.int count), .va (.lst (kqD l)), .va (.int (p : Nat)), .va (tD1 r)]) := by
          simp only [tAndF]
          have ta : tVal (eBin gGt (eVar 2) (eC (.int 0))) [.va (.int count), .va (.lst (kqD l)), .va (.int (p : Nat)), .va (tD1 r)] = some (decide ((0 : Int) < (p : Nat)), [.va (.int count), .va (.lst (kqD l)), .va (.int (p : Nat)), .va (tD1 r)]) := rfl
          rw [ta]
          simp only [bd_some]
          by_cases h0 : (0 : Int) < (p : Nat)
          · rw [if_pos (decide_eq_true h0)]
            obtain ⟨s, hs⟩ : ∃ s, l[p - 1]? = some s := ⟨_, List.getElem?_eq_getElem (by omega)⟩
            have ei : gIx (.lst (kqD l)) (.int ((p : Nat) - 1 : Int)) = some (tD1 s) := by
              have ep : ((p : Nat) - 1 : Int) = ((p - 1 : Nat) : Int) := by omega
              rw [ep]
              show L2.atI (kqD l) ((p - 1 : Nat) : Int) = _
              rw [atI_nat (by unfold kqD; rw [List.length_map]; omega)]
              unfold kqD
              rw [List.getElem?_map, hs]
              rfl
            have r1 := (rank_tells s.1).says (aCons (eBin gIx (eBin gIx (eVar 1) (eBin gSub (eVar 2) (eC (.int 1)))) (eC (.int 0))) aNil) [.va (.int count), .va (.lst (kqD l)), .va (.int (p : Nat)), .va (tD1 r)] [.va (.int count), .va (.lst (kqD l)), .va (.int (p : Nat)), .va (tD1 r)] (by
              simp only [aCons, eBin, eVar, eC, aNil, List.getElem?_cons_zero, List.getElem?_cons_succ, bd_some, gSub_int, Option.map_some, ei]
              rfl)
            have r2 := (rank_tells r.1).says (aCons (eBin gIx (eVar 3) (eC (.int 0))) aNil) [.va (.int count), .va (.lst (kqD l)), .va (.int (p : Nat)), .va (tD1 r)] [.va (.int count), .va (.lst (kqD l)), .va (.int (p : Nat)), .va (tD1 r)] rfl
            have ord : Rk s.1 r.1 ∧ s.1 ≠ r.1 := by
              have hq := List.pairwise_iff_getElem.mp h.ord (p - 1) p (by rw [List.length_map]; omega) (by rw [List.length_map]; omega) (by omega)
              rw [List.getElem_map, List.getElem_map] at hq
              rw [List.getElem?_eq_getElem (by omega)] at hs hr
              rw [Option.some.inj hs, Option.some.inj hr] at hq
              exact hq
            have eg : gGeR (.tup [.int s.1.length, wD s.1]) (.tup [.int r.1.length, wD r.1]) = some (.bl false) := by
              unfold gGeR rankD wD
              simp only [keyOf_w, Option.map_some, Option.bind_some]
              rw [rkGe_no ord.1 ord.2]
            simp only [tVal, eBin, r1, r2, bd_some, eg, Option.map_some]
          · rw [if_neg (by simpa using h0)]
        simp only [sSeq, sIf, t1, bd_some, Bool.false_eq_true, if_false, sNx, t2]
        rw [← e1]
        exact e2
    obtain ⟨x', y', e⟩ := loop l.length .un .un (Nat.le_refl _)
    rw [Nat.sub_self, List.drop_zero] at e
    exact ⟨_, e⟩
  intro fs S S1 e
  obtain ⟨S', hm⟩ := main
  unfold eCall
  rw [e, bd_some]
  show (match m_check_sum [.va (.int count), .va (.lst (kqD l))] with | some (.ret d, _) => some (d, S1) | some (.rtF c, _) => some (c, S1) | some (.nx, _) => some (.non, S1) | _ => none) = _
  rw [hm]
end Sp
/-! grown, logged -/
namespace Sp
open Sw Sw.Wd
theorem gPairs_kq : ∀ l : Kq, gPairs (kqD l) = some (kvD l)
  | [] => rfl
  | r :: l => by
    show ((keyOf (r.1.map D.int)).bind fun k => (gPairs (kqD l)).map fun x => (k, D.fr r.2) :: x) = _
    rw [keyOf_w, gPairs_kq l]
    rfl
theorem kput_new {kv : Kv} {w : W} {d : D} (h : w ∉ kv.map (·.1)) : kput kv w d = kv ++ [(w, d)] := by
  unfold kput
  have : (kv.any fun p => decide (p.1 = w)) = false := by
    rw [List.any_eq_false]
    intro p hp e
    exact h (List.mem_map.mpr ⟨p, hp, of_decide_eq_true e⟩)
  rw [this]
  rfl
theorem fold_kput : ∀ (l : Kq) (acc : Kv), (acc.map (·.1) ++ l.map (·.1)).Nodup → (kvD l).foldl (fun acc p => kput acc p.1 p.2) acc = acc ++ kvD l
  | [], acc, _ => by simp [kvD]
  | r :: l, acc, h => by
    show (kvD l).foldl (fun acc p => kput acc p.1 p.2) (kput acc r.1 (.fr r.2)) = _
    have hn : r.1 ∉ acc.map (·.1) := fun m => by
      rw [List.nodup_append] at h
      exact h.2.2 _ m _ (List.mem_cons_self ..) rfl
    rw [kput_new hn, fold_kput l _ (by
      rw [List.map_append, List.append_assoc]
      simpa using h)]
    rw [List.append_assoc]
    rfl
theorem gDict_kq {l : Kq} (h : (l.map (·.1)).Nodup) : gDict [.lst (kqD l)] = some (.dct (kvD l)) := by
  show (gPairs (kqD l)).map (fun ps => D.dct (ps.foldl (fun acc p => kput acc p.1 p.2) [])) = _
  rw [gPairs_kq]
  show some (D.dct _) = _
  rw [fold_kput l [] (by simpa using h)]
  rfl
theorem gathered_tells {l : Kq} (h : (l.map (·.1)).Nodup) : TellsF m_gathered [.lst (kqD l)] (.dct (kvD l)) := by
  refine tellsF_of rfl ?_
  show ∃ S', b_gathered [.va (.lst (kqD l))] = some (_, S')
  unfold b_gathered
  have : eA gDict (aCons (eVar 0) aNil) [.va (.lst (kqD l))] = some (.dct (kvD l), [.va (.lst (kqD l))]) := eA_of rfl (gDict_kq h)
  unfold sRetF
  rw [this]
  exact ⟨_, rfl⟩
theorem check_count_says {count : Int} (h1 : 1 ≤ count) (h4 : count ≤ 4) : ∀ (fs : AF) (S S1 : Ss), fs S = some ([.int count], S1) → eCall m_check_count fs S = some (.non, S1) := by
  have main : ∃ S', m_check_count [.va (.int count)] = some (.nx, S') := by
    suffices hb : ∃ S', b_check_count [.va (.int count)] = some (.nx, S') by
      obtain ⟨S', e⟩ := hb
      exact ⟨_, fnM_of rfl e⟩
    unfold b_check_count
    have w1 := (is_whole_tells count).says (aCons (eVar 0) aNil) [.va (.int count)] [.va (.int count)] rfl
    have n1 : ¬ count < 1 := by omega
    have n2 : ¬ 4 < count := by omega
    have t2 : tOrF (tNotF (tVal (eCall m_is_whole (aCons (eVar 0) aNil)))) (tOrF (tVal (eBin gLt (eVar 0) (eC (.int 1)))) (tVal (eBin gGt (eVar 0) (eC (.int 4))))) [.va (.int count)] = some (false, [.va (.int count)]) := by
      simp only [tOrF, tNotF, tVal, w1, bd_some, Bool.not_true, Bool.false_eq_true, if_false, eBin, eVar, eC, List.getElem?_cons_zero, gLt_int, gGt_int, Option.map_some, n1, n2, decide_false]
    simp only [sIf, t2, bd_some, Bool.false_eq_true, if_false]
    exact ⟨_, rfl⟩
  intro fs S S1 e
  obtain ⟨S', hm⟩ := main
  unfold eCall
  rw [e, bd_some]
  show (match m_check_count [.va (.int count)] with | some (.ret d, _) => some (d, S1) | some (.rtF c, _) => some (c, S1) | some (.nx, _) => some (.non, S1) | _ => none) = _
  rw [hm]
theorem grown_tells {count : Int} {l : Kq} {Dt Mt : Nat} (h1 : 1 ≤ count) (h4 : count ≤ 4) (h : SumOk count l) (h0 : [] ∉ l.map (·.1)) (g : GB l Dt Mt) : TellsF m_grown [.int count, .lst (kqD l)] (.lst (kqD (grownP l))) := by
  refine tellsF_of rfl ?_
  show ∃ S', b_grown [.va (.int count), .va (.lst (kqD l))] = some (_, S')
  unfold b_grown
  have e1 := check_count_says h1 h4 (aCons (eVar 0) aNil) [.va (.int count), .va (.lst (kqD l))] [.va (.int count), .va (.lst (kqD l))] rfl
  have e2 := check_sum_tells h g.ab.ht.len (aCons (eVar 0) (aCons (eVar 1) aNil)) [.va (.int count), .va (.lst (kqD l))] [.va (.int count), .va (.lst (kqD l))] rfl
  have e3 := (gathered_tells h.nd).says (aCons (eVar 1) aNil) [.va (.int count), .va (.lst (kqD l))] [.va (.int count), .va (.lst (kqD l))] rfl
  have e4 : tVal (eBin gDin (eA gTup aNil) (eCall m_gathered (aCons (eVar 1) aNil))) [.va (.int count), .va (.lst (kqD l))] = some (false, [.va (.int count), .va (.lst (kqD l))]) := by
    have : eA gTup aNil [.va (.int count), .va (.lst (kqD l))] = some (wD [], [.va (.int count), .va (.lst (kqD l))]) := rfl
    have hk : (kget (kvD l) []).isSome = false := by
      cases z : (kget (kvD l) []).isSome with
      | false => rfl
      | true => exact absurd (kget_some.mp z) h0
    have hg : gDin (wD []) (.dct (kvD l)) = some (.bl false) := by
      unfold gDin wD
      simp only [keyOf_w, Option.map_some, hk]
    simp only [tVal, eBin, this, bd_some, e3, hg, Option.map_some]
  simp only [sSeq, sDrop, e1, bd_some, e2, sIf, e4, Bool.false_eq_true, if_false, sNx]
  unfold sRetF
  rw [callF_tells (grown_short_tells g) (S1 := [.va (.int count), .va (.lst (kqD l))]) rfl]
  exact ⟨_, rfl⟩
theorem logged_tells {count : Int} {l : Kq} {Dt Mt : Nat} (h1 : 1 ≤ count) (h4 : count ≤ 4) (h : SumOk count l) (hl : l.length ≤ 1365) (h0 : kg l [] = 1) (g : AB (restP l) Dt Mt lS 60 60) : TellsF m_logged [.int count, .lst (kqD l)] (.lst (kqD (loggedP l))) := by
  refine tellsF_of rfl ?_
  show ∃ S', b_logged [.va (.int count), .va (.lst (kqD l))] = some (_, S')
  unfold b_logged
  have e1 := check_count_says h1 h4 (aCons (eVar 0) aNil) [.va (.int count), .va (.lst (kqD l))] [.va (.int count), .va (.lst (kqD l))] rfl
  have e2 := check_sum_tells h hl (aCons (eVar 0) (aCons (eVar 1) aNil)) [.va (.int count), .va (.lst (kqD l))] [.va (.int count), .va (.lst (kqD l))] rfl
  have e3 := (gathered_tells h.nd).says (aCons (eVar 1) aNil) [.va (.int count), .va (.lst (kqD l))] [.va (.int count), .va (.lst (kqD l))] rfl
  have e4 : tVal (eBin gNe (eDget2 (eCall m_gathered (aCons (eVar 1) aNil)) (eA gTup aNil) (eC (.fr 0))) (eC (.fr 1))) [.va (.int count), .va (.lst (kqD l))] = some (false, [.va (.int count), .va (.lst (kqD l))]) := by
    have : eA gTup aNil [.va (.int count), .va (.lst (kqD l))] = some (wD [], [.va (.int count), .va (.lst (kqD l))]) := rfl
    have e5 : eDget2 (eCall m_gathered (aCons (eVar 1) aNil)) (eA gTup aNil) (eC (.fr 0)) [.va (.int count), .va (.lst (kqD l))] = some (.fr 1, [.va (.int count), .va (.lst (kqD l))]) := by
      unfold eDget2
      simp only [e3, bd_some, this, eC, wD, keyOf_w, kget_or, h0]
    have hg : gNe (.fr 1) (.fr 1) = some (.bl false) := by
      unfold gNe eqD
      have : PySem.PyData.eqv (toP (.fr 1)) (toP (.fr 1)) = true := by decide +kernel
      rw [this]
      rfl
    simp only [tVal, eBin, e5, bd_some, eC, hg, Option.map_some]
  simp only [sSeq, sDrop, e1, bd_some, e2, sIf, e4, Bool.false_eq_true, if_false, sNx]
  unfold sRetF
  rw [callF_tells (logged_short_tells g) (S1 := [.va (.int count), .va (.lst (kqD l))]) rfl]
  exact ⟨_, rfl⟩
/-! ### the four calls of the law -/
def c0 : Nat := 2520
def m0 : Nat := 1000 * 2520
def gD : Nat := 120 * c0 ^ 5
def gM : Nat := outB c0 m0 120 120 5 1 0 + gD
def lD : Nat := 60 * c0 ^ 5
def lM : Nat := outB c0 m0 60 60 5 1 0
theorem eS_bd : ∀ s ∈ eS, Bd 120 120 s := by
  intro s hs
  unfold eS at hs
  simp only [List.mem_cons, List.not_mem_nil, or_false] at hs
  rcases hs with rfl | rfl | rfl | rfl | rfl <;> exact Bd.of (by decide +kernel) (by decide +kernel)
theorem lS_bd : ∀ s ∈ lS, Bd 60 60 s := by
  intro s hs
  unfold lS at hs
  simp only [List.mem_cons, List.not_mem_nil, or_false] at hs
  rcases hs with rfl | rfl | rfl | rfl | rfl <;> exact Bd.of (by decide +kernel) (by decide +kernel)
theorem lim_of {n : Nat} (k : Nat) (h : n < 2 ^ k) (hk : k ≤ 3900) : n < Lim := up h hk
theorem small_lim {n : Nat} (h : n < 2 ^ 20) : n < Lim := lim_of 20 h (by decide)
/-- the sum that is drawn -/
structure Drawn (count : Int) (kv : Kq) : Prop where
  c1 : 1 ≤ count
  c4 : count ≤ 4
  wf : Wf kv
  len : ∀ w ∈ kv.map (·.1), w ≠ [] ∧ w.length ≤ 5 ∧ ∀ i ∈ w, 0 ≤ i ∧ i < count
  bd : ∀ p ∈ kv, Bd c0 m0 p.2
theorem Drawn.kok {count : Int} {kv : Kq} (h : Drawn count kv) : KOk kv := fun w hw => ⟨(h.len w hw).2.1, fun i hi => by
  have := (h.len w hw).2.2 i hi
  have := h.c4
  omega⟩
theorem Drawn.k0 {count : Int} {kv : Kq} (h : Drawn count kv) : kg kv [] = 0 := kg_not fun m => (h.len _ m).1 rfl
theorem Drawn.k5 {count : Int} {kv : Kq} (h : Drawn count kv) : ∀ v : W, ¬ v.length ≤ 5 → kg kv v = 0 := fun v hv => kg_not fun m => hv (h.len _ m).2.1
theorem ok1 : okB c0 m0 120 120 5 1 1 0 = true := by decide +kernel
theorem ok2 : okB c0 m0 60 60 5 1 1 0 = true := by decide +kernel
theorem ok3 : okB gD gM 60 60 5 1 1 0 = true := by decide +kernel
theorem ok4 : okB lD lM 120 120 5 1 1 0 = true := by decide +kernel
theorem lims : c0 < Lim ∧ m0 < Lim ∧ gD < Lim ∧ gM < Lim ∧ lD < Lim ∧ lM < Lim ∧ 120 * c0 ^ 5 < Lim ∧ outB c0 m0 120 120 5 1 0 + 1 * (120 * c0 ^ 5) < Lim ∧ 120 * lD ^ 5 < Lim ∧ outB lD lM 120 120 5 1 0 + 1 * (120 * lD ^ 5) < Lim := by decide +kernel
end Sp
/-! the text of told sums is short enough -/
namespace Sp
open Sw Sw.Wd PySem
theorem fmt_text' (ts : List Str) : (tupleText ts).length ≤ piled ts + 2 := by
  have e3 : (((if ts.length == 1 then ",)" else ")" : String) : Str)).length ≤ 2 := by split <;> decide +kernel
  have e1 : ((("(" : String) : Str)).length = 1 := rfl
  have e2 : (Str.join ", " ts).length ≤ piled ts ∧ (ts.length ≠ 1 ∨ (Str.join ", " ts).length + 2 ≤ piled ts) := by
    by_cases h : ts = []
    · subst h; exact ⟨by decide +kernel, .inl (by decide)⟩
    · have := join_length_add ts h; exact ⟨by omega, .inr (by omega)⟩
  unfold tupleText
  rw [strLen_append, strLen_append, e1]
  rcases e2 with ⟨h1, h2 | h2⟩
  · have : (((if ts.length == 1 then ",)" else ")" : String) : Str)).length = 1 := by
      have : (ts.length == 1) = false := by simpa using h2
      rw [this]; rfl
    omega
  · omega
theorem textFrom_le : ∀ (ts : List Str) (k : Nat) (acc : Str), (textFrom k acc ts).length ≤ acc.length + piled ts
  | [], k, acc => by show acc.length ≤ _; omega
  | t :: ts, k, acc => by
    have h := textFrom_le ts (k + 1) (acc ++ (if k > 0 then ", " else "" : String) ++ t)
    rw [strLen_append, strLen_append] at h
    have : (((if k > 0 then ", " else "" : String) : Str)).length ≤ 2 := by split <;> decide +kernel
    show (textFrom (k + 1) _ ts).length ≤ _
    rw [piled_cons]
    omega
theorem listText_le (ts : List Str) : (listText ts).length ≤ piled ts + 2 := by
  have h := textFrom_le ts 0 "["
  have e1 : ((("[" : String) : Str)).length = 1 := rfl
  have e2 : ((("]" : String) : Str)).length = 1 := rfl
  unfold listText
  rw [strLen_append, e2]
  rw [e1] at h
  omega
theorem piled_le (ts : List Str) (n : Nat) (h : ∀ t ∈ ts, t.length ≤ n) : piled ts ≤ ts.length * (n + 2) := by
  induction ts with
  | nil => simp [piled_nil]
  | cons t ts ih =>
    rw [piled_cons, List.length_cons, Nat.succ_mul]
    have := h t (List.mem_cons_self ..)
    have := ih fun t ht => h t (List.mem_cons_of_mem _ ht)
    omega
theorem ofString_len (s : String) : (Str.ofString s).length = s.toList.length := by
  rw [Str.ofString_eq_toList]
  show (List.map Char.toNat s.toList).toArray.size = _
  simp
theorem int_len {i : Int} {k : Nat} (hk : 1 ≤ k) (h : i.natAbs < 10 ^ k) : (PyData.shown (.int i)).length ≤ k + 1 := by
  simp only [PyData.shown]
  rw [ofString_len]
  cases i with
  | ofNat n =>
    have e : toString (Int.ofNat n) = Nat.repr n := rfl
    rw [e]
    have := PySem.Flt.repr_len (k := k) (c := n) hk h
    omega
  | negSucc n =>
    have e : toString (Int.negSucc n) = "-" ++ Nat.repr (n + 1) := rfl
    rw [e, String.toList_append, List.length_append]
    have := PySem.Flt.repr_len (k := k) (c := n + 1) hk h
    have e2 : "-".toList.length = 1 := rfl
    omega
def small (q : Rat) : Prop := q.num.natAbs < 10 ^ 80 ∧ q.den < 10 ^ 80
theorem shownAll_map : ∀ l : List PyData, PyData.shownAll l = l.map PyData.shown
  | [] => by simp [PyData.shownAll]
  | d :: l => by simp [PyData.shownAll, shownAll_map l]
theorem toPA_map : ∀ l : List D, toPA l = l.map toP
  | [] => by simp [toPA]
  | d :: l => by simp [toPA, toPA_map l]
theorem digit_len {i : Int} (h : 0 ≤ i ∧ i < 4) : (PyData.shown (.int i)).length ≤ 2 := int_len (k := 1) (by decide) (by have := h.1; have := h.2; omega)
theorem word_len {w : W} (h : WOk w) : (PyData.shown (toP (wD w))).length ≤ 22 := by
  show (PyData.shown (.tuple (toPA (w.map D.int)))).length ≤ _
  rw [toPA_ints]
  simp only [PyData.shown]
  rw [shownAll_map, List.map_map]
  refine Nat.le_trans (fmt_text' _) ?_
  have := piled_le (w.map (PyData.shown ∘ PyData.int)) 2 fun t ht => by
    obtain ⟨i, hi, e⟩ := List.mem_map.mp ht
    subst e
    exact digit_len (h.2 i hi)
  rw [List.length_map] at this
  have := h.1
  omega
theorem fr_len {q : Rat} (h : small q) : (PyData.shown (toP (.fr q))).length ≤ 168 := by
  show (PyData.shown (.tuple [.int q.num, .int q.den])).length ≤ _
  simp only [PyData.shown, PyData.shownAll]
  refine Nat.le_trans (fmt_text' _) ?_
  have h1 := int_len (i := q.num) (k := 80) (by decide) h.1
  have h2 := int_len (i := q.den) (k := 80) (by decide) (by rw [Int.natAbs_natCast]; exact h.2)
  simp only [PyData.shown] at h1 h2
  rw [piled_cons, piled_cons, piled_nil]
  omega
theorem term_len {r : W × Rat} (h : WOk r.1) (h' : small r.2) : (PyData.shown (toP (tD1 r))).length ≤ 196 := by
  show (PyData.shown (.tuple (toPA [wD r.1, .fr r.2]))).length ≤ _
  rw [toPA_map]
  simp only [PyData.shown, List.map_cons, List.map_nil, PyData.shownAll]
  refine Nat.le_trans (fmt_text' _) ?_
  have h1 := word_len h
  have h2 := fr_len h'
  rw [piled_cons, piled_cons, piled_nil]
  omega
structure Short (l : Kq) : Prop where
  ok : KOk l
  len : l.length ≤ 1365
  sm : ∀ r ∈ l, small r.2
theorem list_len {l : Kq} (h : Short l) : (PyData.shown (toP (.lst (kqD l)))).length ≤ 270272 := by
  show (PyData.shown (.list (toPA (kqD l)))).length ≤ _
  rw [toPA_map]
  simp only [PyData.shown]
  rw [shownAll_map]
  refine Nat.le_trans (listText_le _) ?_
  have := piled_le (((kqD l).map toP).map PyData.shown) 196 fun t ht => by
    obtain ⟨d, hd, e⟩ := List.mem_map.mp ht
    obtain ⟨d', hd', e'⟩ := List.mem_map.mp hd
    obtain ⟨r, hr, e''⟩ := List.mem_map.mp hd'
    subst e'' e' e
    exact term_len (h.ok _ (List.mem_map_of_mem hr)) (h.sm r hr)
  rw [List.length_map, List.length_map] at this
  have e : (kqD l).length = l.length := by unfold kqD; rw [List.length_map]
  rw [e] at this
  have := h.len
  omega
theorem okD_term (n : Nat) (r : W × Rat) : okD (n + 2) (tD1 r) = true := by
  simp [tD1, okD, okA, wD, okA_ints]
theorem okA_kq (n : Nat) : ∀ l : Kq, okA (n + 2) (kqD l) = true
  | [] => rfl
  | r :: l => by
    show (okD (n + 2) (tD1 r) && okA (n + 2) (kqD l)) = true
    rw [okD_term, okA_kq n l]; rfl
theorem show_ints : ∀ w : W, (∀ i ∈ w, 0 ≤ i ∧ i < 4) → PyData.showableAll (w.map .int) = true
  | [], _ => rfl
  | i :: w, h => by
    have hi := h i (List.mem_cons_self ..)
    have : i.natAbs.log2 < 1920 := by
      have : i.natAbs < 4 := by omega
      have := log2_lt (n := i.natAbs) (k := 1) (by omega)
      omega
    rw [List.map_cons]
    simp only [PyData.showableAll, PyData.showable]
    rw [decide_eq_true this, show_ints w fun j hj => h j (List.mem_cons_of_mem _ hj)]
    rfl
theorem small_log {n : Nat} (h : n < 10 ^ 80) : n.log2 < 1920 := by
  have h1 : (10 : Nat) ^ 80 ≤ 2 ^ 1920 := by decide +kernel
  have := log2_lt (n := n) (k := 1919) (Nat.lt_of_lt_of_le h h1)
  omega
theorem shw_term {r : W × Rat} (h : WOk r.1) (h' : small r.2) : PyData.showable (toP (tD1 r)) = true ∧ PyData.hasDict (toP (tD1 r)) = false := by
  have e : toP (tD1 r) = .tuple [.tuple (r.1.map .int), .tuple [.int r.2.num, .int r.2.den]] := by
    simp [tD1, toP, toPA, wD, toPA_ints]
  rw [e]
  have nd : ∀ w : W, PyData.hasDictAll (w.map .int) = false := by
    intro w
    induction w with
    | nil => rfl
    | cons i w ih => simp [PyData.hasDictAll, PyData.hasDict, ih]
  refine ⟨?_, ?_⟩
  · have h2 := small_log h'.1
    have h3 := small_log h'.2
    simp [PyData.showable, PyData.showableAll, show_ints _ h.2, h2, h3]
  · simp [PyData.hasDict, PyData.hasDictAll, nd]
theorem show_list {l : Kq} (h : Short l) : PyData.showableAll (toPA (kqD l)) = true ∧ PyData.hasDictAll (toPA (kqD l)) = false := by
  obtain ⟨h1, -, h3⟩ := h
  induction l with
  | nil => exact ⟨rfl, rfl⟩
  | cons r l ih =>
    obtain ⟨a, b⟩ := shw_term (h1 r.1 (List.mem_cons_self ..)) (h3 r (List.mem_cons_self ..))
    obtain ⟨c, d⟩ := ih (fun w hw => h1 w (List.mem_cons_of_mem _ hw)) (fun r' hr => h3 r' (List.mem_cons_of_mem _ hr))
    show PyData.showableAll (toP (tD1 r) :: toPA (kqD l)) = true ∧ PyData.hasDictAll (toP (tD1 r) :: toPA (kqD l)) = false
    simp [PyData.showableAll, PyData.hasDictAll, a, b, c, d]
theorem str_two {a b : Kq} (ha : Short a) (hb : Short b) : ∃ s, gStr [.lst [.lst (kqD a), .lst (kqD b)]] = some (.str s) := by
  refine ⟨(toP (.lst [.lst (kqD a), .lst (kqD b)])).shown, ?_⟩
  have h1 : okD 40 (.lst [.lst (kqD a), .lst (kqD b)]) = true := by
    simp [okD, okA, okA_kq 36]
  have h2 : strFit (toP (.lst [.lst (kqD a), .lst (kqD b)])) = true := by
    unfold strFit
    obtain ⟨s1, d1⟩ := show_list ha
    obtain ⟨s2, d2⟩ := show_list hb
    have e : toP (.lst [.lst (kqD a), .lst (kqD b)]) = .list [.list (toPA (kqD a)), .list (toPA (kqD b))] := by simp [toP, toPA]
    have l1 := list_len ha
    have l2 := list_len hb
    have e1 : toP (.lst (kqD a)) = .list (toPA (kqD a)) := by simp [toP]
    have e2 : toP (.lst (kqD b)) = .list (toPA (kqD b)) := by simp [toP]
    rw [e1] at l1
    rw [e2] at l2
    rw [e]
    have hl : (PyData.shown (.list [.list (toPA (kqD a)), .list (toPA (kqD b))])).length ≤ sizeLine := by
      simp only [PyData.shown, PyData.shownAll] at l1 l2 ⊢
      refine Nat.le_trans (listText_le _) ?_
      rw [piled_cons, piled_cons, piled_nil]
      have : (540000 + 10000 : Nat) ≤ sizeLine := by decide
      omega
    rw [decide_eq_true hl]
    simp [PyData.showable, PyData.showableAll, PyData.hasDict, PyData.hasDictAll, s1, s2, d1, d2]
  show (if (okD 40 (.lst [.lst (kqD a), .lst (kqD b)]) && strFit (toP (.lst [.lst (kqD a), .lst (kqD b)]))) = true then some (D.str _) else none) = _
  rw [h1, h2]
  rfl
end Sp
/-! the four calls of the law -/
namespace Sp
open Sw Sw.Wd
/-! ### letters -/
def Lt (count : Int) (w : W) : Prop := ∀ i ∈ w, 0 ≤ i ∧ i < count
def PK (count : Int) (kv : Kq) : Prop := ∀ w ∈ kv.map (·.1), Lt count w
section
variable {count : Int}
theorem PK.putP {kv : Kq} (h : PK count kv) {w : W} (hw : Lt count w) (q : Rat) : PK count (putP kv w q) := fun v hv => by
  unfold Wd.putP at hv
  split at hv
  · obtain ⟨p, hp, e⟩ := List.mem_map.mp hv
    exact h v (e ▸ List.mem_map_of_mem (List.mem_filter.mp hp).1)
  · rw [put_keys] at hv
    split at hv
    · exact h v hv
    · rcases List.mem_append.mp hv with z | z
      · exact h v z
      · rw [List.mem_singleton] at z; rw [z]; exact hw
theorem PK.addAll : ∀ {l kv : Kq}, PK count kv → (∀ p ∈ l, Lt count p.1) → PK count (addAll kv l)
  | [], kv, h, _ => h
  | p :: l, kv, h, h' => PK.addAll (l := l) (h.putP (h' p (List.mem_cons_self ..)) p.2) (fun q hq => h' q (List.mem_cons_of_mem _ hq))
theorem PK.told {kv : Kq} (h : PK count kv) : PK count (told kv) := fun w hw => by
  rw [told_keys] at hw
  exact h w ((srt_perm _).mem_iff.mp hw)
theorem PK.nil : PK count [] := fun w h => by simp at h
theorem PK.join {a b : Kq} (ha : PK count a) (hb : PK count b) : PK count (joinP a b) := by
  refine PK.told (PK.addAll PK.nil fun p hp => ?_)
  obtain ⟨x, hx, hp⟩ := List.mem_flatMap.mp hp
  obtain ⟨y, hy, e⟩ := List.mem_map.mp hp
  subst e
  intro i hi
  rcases List.mem_append.mp hi with z | z
  · exact ha x.1 (List.mem_map_of_mem hx) i z
  · exact hb y.1 (List.mem_map_of_mem (List.mem_filter.mp hy).1) i z
theorem PK.added {total : Kq} (ht : PK count total) : ∀ (ss : List Rat) (pwr kv : Kq), PK count pwr → PK count kv → PK count (addedP total ss pwr kv)
  | [], _, _, _, h => h
  | s :: ss, pwr, kv, hp, h => PK.added ht ss _ _ (hp.join ht) (h.addAll fun p hp' => by
    obtain ⟨r, hr, e⟩ := List.mem_map.mp hp'
    subst e
    exact (hp.join ht) r.1 (List.mem_map_of_mem hr))
theorem PK.start : PK count [([], 1)] := fun w h => by
  simp at h
  subst h
  intro i hi
  cases hi
theorem PK.addedK {total : Kq} (ht : PK count total) (ss : List Rat) : PK count (addedK total ss) := PK.added ht ss _ _ PK.start PK.nil
theorem lt_nil : Lt count [] := fun i h => by cases h
end
/-! ### what is drawn -/
section
variable {count : Int} {kv : Kq} (h : Drawn count kv)
include h
theorem dr_pk : PK count (told kv) := PK.told fun w hw => (h.len w hw).2.2
theorem dr_tb : TB (told kv) c0 m0 :=
  ⟨fun p hp => told_bd (Bk.of_told h.wf h.bd) p hp, h.kok.told, told_nd h.wf, by decide, lims.1, lims.2.1⟩
theorem dr_ok : SumOk count (told kv) := told_sumOk h.wf fun w hw => ⟨(h.len w hw).2.1, (h.len w hw).2.2⟩
theorem dr_no : [] ∉ (told kv).map (·.1) := fun m => by
  rw [told_keys] at m
  exact (h.len _ ((srt_perm _).mem_iff.mp m)).1 rfl
theorem dr_ab : AB (told kv) c0 m0 eS 120 120 := ⟨dr_tb h, eS_bd, by decide, small_lim (by decide), small_lim (by decide), ok1⟩
theorem dr_gb : GB (told kv) c0 m0 := ⟨dr_ab h, lims.2.2.2.2.2.2.1, lims.2.2.2.2.2.2.2.1⟩
theorem dr_rest : restP (([], 1) :: told kv) = told kv := by
  unfold restP
  rw [List.filter_cons_of_neg (by simp)]
  rw [List.filter_eq_self]
  intro p hp
  exact decide_eq_true fun e => dr_no h (e ▸ List.mem_map_of_mem hp)
theorem dr_la : AB (restP (([], 1) :: told kv)) c0 m0 lS 60 60 := by
  rw [dr_rest h]
  exact ⟨dr_tb h, lS_bd, by decide, small_lim (by decide), small_lim (by decide), ok2⟩
/-- grown of what is drawn -/
theorem g_wf : Wf (putP (addedK (told kv) eS) [] 1) := (added_out (dr_ab h)).wf.putP _ _
theorem g_kok : KOk (putP (addedK (told kv) eS) [] 1) := (added_out (dr_ab h)).ok.putP ⟨by simp, by simp⟩ _
theorem g_bk : Bk gD gM (putP (addedK (told kv) eS) [] 1) :=
  (added_out (dr_ab h)).bk.putP [] (Bd.of (by decide +kernel) (by decide +kernel) : Bd (120 * c0 ^ 5) (120 * c0 ^ 5) 1)
theorem g_ok : SumOk count (grownP (told kv)) := told_sumOk (g_wf h) fun w hw => ⟨(g_kok h w hw).1, (PK.putP ((dr_pk h).addedK eS) lt_nil 1) w hw⟩
theorem g_one : kg (grownP (told kv)) [] = 1 := by
  have e : sumAt (grownP (told kv)) [] = kg (grownP (told kv)) [] := sumAt_kg (told_nd (g_wf h)) []
  rw [← e]
  rw [sumAt_grown, if_pos (by simp), if_pos rfl, pe_nil (by rw [sumAt_told h.wf, h.k0]) eS 1 (by decide)]
  decide +kernel
theorem g_tb : TB (restP (grownP (told kv))) gD gM := by
  have hb := told_bd (g_bk h)
  have hk := KOk.told (g_kok h)
  have nd := told_nd (g_wf h)
  have sub : List.Sublist ((restP (grownP (told kv))).map (·.1)) ((grownP (told kv)).map (·.1)) := List.Sublist.map _ List.filter_sublist
  refine ⟨fun p hp => hb p (List.mem_filter.mp hp).1, fun w hw => hk w (sub.subset hw), nd.sublist sub, by decide +kernel, lims.2.2.1, lims.2.2.2.1⟩
theorem g_ab : AB (restP (grownP (told kv))) gD gM lS 60 60 := ⟨g_tb h, lS_bd, by decide, small_lim (by decide), small_lim (by decide), ok3⟩
theorem g_short : Short (grownP (told kv)) := by
  have hk := KOk.told (g_kok h)
  have nd := told_nd (g_wf h)
  refine ⟨hk, hk.length nd, fun r hr => ?_⟩
  obtain ⟨a, b⟩ := (told_bd (g_bk h) r hr).fit (by decide +kernel)
  exact ⟨Nat.lt_of_le_of_lt a (by decide +kernel), Nat.lt_of_le_of_lt b (by decide +kernel)⟩
/-- logged of what is drawn with the word of none -/
theorem l_out : AOut (told kv) c0 m0 lS 60 60 := by
  have := added_out (dr_la h)
  rw [dr_rest h] at this
  exact this
theorem l_eq : loggedP (([], 1) :: told kv) = told (addedK (told kv) lS) := by
  unfold loggedP
  rw [dr_rest h]; rfl
theorem l_bk : Bk lD lM (addedK (told kv) lS) := (l_out h).bk
theorem l_ok : SumOk count (loggedP (([], 1) :: told kv)) := by
  rw [l_eq h]
  exact told_sumOk (l_out h).wf fun w hw => ⟨((l_out h).ok w hw).1, ((dr_pk h).addedK lS) w hw⟩
theorem l_no : [] ∉ (loggedP (([], 1) :: told kv)).map (·.1) := fun m => by
  rw [l_eq h, told_keys] at m
  have m' := (srt_perm _).mem_iff.mp m
  have := (mem_keys (l_out h).wf).mp m'
  apply this
  show kg (addedP _ _ _ _) [] = 0
  rw [kg_added0, if_pos (by simp), pe_nil (by rw [sumAt_told h.wf, h.k0]) lS 1 (by decide)]
theorem l_tb : TB (loggedP (([], 1) :: told kv)) lD lM := by
  rw [l_eq h]
  exact ⟨told_bd (l_bk h), KOk.told (l_out h).ok, told_nd (l_out h).wf, by decide +kernel, lims.2.2.2.2.1, lims.2.2.2.2.2.1⟩
theorem l_gb : GB (loggedP (([], 1) :: told kv)) lD lM := ⟨⟨l_tb h, eS_bd, by decide, small_lim (by decide), small_lim (by decide), ok4⟩, lims.2.2.2.2.2.2.2.2.1, lims.2.2.2.2.2.2.2.2.2⟩
theorem l_short : Short (loggedP (([], 1) :: told kv)) := by
  have t := l_tb h
  refine ⟨t.ok, t.len, fun r hr => ?_⟩
  obtain ⟨a, b⟩ := (t.bd r hr).fit t.d0
  exact ⟨Nat.lt_of_le_of_lt a (by decide +kernel), Nat.lt_of_le_of_lt b (by decide +kernel)⟩
/-- the sum with the word of none -/
theorem w_wf : Wf (([], 1) :: kv) := by
  refine ⟨?_, fun p hp => ?_⟩
  · rw [List.map_cons, List.nodup_cons]
    exact ⟨fun m => (h.len _ m).1 rfl, h.wf.nd⟩
  · rcases List.mem_cons.mp hp with e | e
    · rw [e]; decide +kernel
    · exact h.wf.nz p e
theorem w_eq : told (([], 1) :: kv) = ([], 1) :: told kv := by
  have e1 : srt (([] : W) :: kv.map (·.1)) = [] :: srt (kv.map (·.1)) := by
    refine List.Perm.eq_of_pairwise (le := Rk) (fun _ _ _ _ h h' => h.anti h') (srt_pw _) ?_ ((srt_perm _).trans ((srt_perm _).symm.cons _))
    rw [List.pairwise_cons]
    refine ⟨fun w _ => ?_, srt_pw _⟩
    cases w with
    | nil => exact .inr ⟨rfl, List.le_refl _⟩
    | cons a w => exact .inl (by simp)
  unfold told
  rw [List.map_cons, e1, List.map_cons]
  congr 1
  · apply List.map_congr_left
    intro w hw
    have hw' := (srt_perm _).mem_iff.mp hw
    rw [kg_cons, if_neg (fun e => (h.len w hw').1 e.symm)]
theorem w_ok : SumOk count (([], 1) :: told kv) := by
  rw [← w_eq h]
  refine told_sumOk (w_wf h) fun w hw => ?_
  rcases List.mem_cons.mp hw with e | e
  · rw [e]; exact ⟨by simp, by simp⟩
  · exact ⟨(h.len w e).2.1, (h.len w e).2.2⟩
theorem w_len : (([], 1) :: told kv).length ≤ 1365 := by
  rw [← w_eq h, told_length]
  refine KOk.length (fun w hw => ?_) (w_wf h).nd
  rcases List.mem_cons.mp hw with e | e
  · rw [e]; exact ⟨by simp, by simp⟩
  · exact h.kok w e
theorem w_kg (v : W) : kg (([], 1) :: kv) v = (if v = [] then 1 else 0) + kg kv v := by
  rw [kg_cons]
  by_cases e : v = []
  · rw [if_pos e.symm, if_pos e, e, h.k0]; decide +kernel
  · rw [if_neg (fun z => e z.symm), if_neg e]; grind
theorem back_one : loggedP (grownP (told kv)) = told kv := back1 h.wf h.k0 h.k5
theorem back_whole : grownP (loggedP (([], 1) :: told kv)) = ([], 1) :: told kv := by
  refine back2 h.wf h.k0 h.k5 (fun v => ?_) (w_wf h) (w_eq h).symm
  rw [← w_eq h, sumAt_told (w_wf h), w_kg h]
/-! the calls -/
theorem call_g : TellsF m_grown [.int count, .lst (kqD (told kv))] (.lst (kqD (grownP (told kv)))) := grown_tells h.c1 h.c4 (dr_ok h) (dr_no h) (dr_gb h)
theorem call_l : TellsF m_logged [.int count, .lst (kqD (([], 1) :: told kv))] (.lst (kqD (loggedP (([], 1) :: told kv)))) := logged_tells h.c1 h.c4 (w_ok h) (w_len h) (by rw [kg_cons]; exact if_pos rfl) (dr_la h)
theorem call_lg : TellsF m_logged [.int count, .lst (kqD (grownP (told kv)))] (.lst (kqD (told kv))) := by
  have := logged_tells h.c1 h.c4 (g_ok h) (g_short h).len (g_one h) (g_ab h)
  rw [back_one h] at this
  exact this
theorem call_gl : TellsF m_grown [.int count, .lst (kqD (loggedP (([], 1) :: told kv)))] (.lst (kqD (([], 1) :: told kv))) := by
  have := grown_tells h.c1 h.c4 (l_ok h) (l_no h) (l_gb h)
  rw [back_whole h] at this
  exact this
theorem law_g : Says m__law_grown [.lst (kqD (told kv))] (.lst (kqD (grownP (told kv)))) := law_grown_says (dr_gb h)
theorem law_l : Says m__law_logged [.lst (kqD (([], 1) :: told kv))] (.lst (kqD (loggedP (([], 1) :: told kv)))) := law_logged_says (dr_la h)
end
end Sp
/-! the law's draws -/
namespace Sp
open Sw Sw.Wd
theorem lt_huge {n k : Nat} (h : n < 2 ^ k) (hk : k ≤ 400000 := by decide) : n < 2 ^ 400000 := up h hk
theorem mod_lo (a m : Int) (hm : 0 < m) : 0 ≤ a % m ∧ a % m < m := ⟨Int.emod_nonneg _ (by omega), Int.emod_lt_of_pos _ hm⟩
theorem gPow_10 (k : Nat) (h : k ≤ 1000000) : gPow (.int 10) (.int k) = some (.int ((10 : Int) ^ k)) := by
  show (if 0 ≤ (k : Int) ∧ (k : Int) ≤ 1000000 ∧ (10 : Int).natAbs < 2 ^ 64 then some (D.int ((10 : Int) ^ (k : Int).toNat)) else none) = _
  rw [if_pos ⟨by omega, by omega, by decide⟩]
  rfl
theorem p18 (S : Ss) : eBin gAdd (eBin gPow (eC (.int 10)) (eC (.int 18))) (eC (.int 9)) S = some (.int (10 ^ 18 + 9), S) := by
  simp only [eBin, eC, bd_some]
  rw [show gPow (.int 10) (.int 18) = some (.int ((10 : Int) ^ 18)) from gPow_10 18 (by decide)]
  rfl
theorem p60 (S : Ss) : eBin gAdd (eBin gPow (eC (.int 10)) (eC (.int 60))) (eC (.int 7)) S = some (.int (10 ^ 60 + 7), S) := by
  simp only [eBin, eC, bd_some]
  rw [show gPow (.int 10) (.int 60) = some (.int ((10 : Int) ^ 60)) from gPow_10 60 (by decide)]
  rfl
theorem eBin_of {g : D → D → Option D} {fa fb : EF} {S S1 S2 : Ss} {a b d : D} (h1 : fa S = some (a, S1)) (h2 : fb S1 = some (b, S2)) (h3 : g a b = some d) : eBin g fa fb S = some (d, S2) := by
  unfold eBin; rw [h1, bd_some, h2, bd_some, h3]; rfl
theorem abs_lt {i : Int} {n : Nat} (h0 : 0 ≤ i) (h : i < n) : i.natAbs < n := by omega
theorem eC_of (d : D) (S : Ss) : eC d S = some (d, S) := rfl
def Nb (n : Nat) (i : Int) : Prop := i.natAbs < 2 ^ n
theorem Nb.add {m : Nat} {a b : Int} (ha : Nb m a) (hb : Nb m b) : Nb (m + 1) (a + b) := Nat.lt_of_le_of_lt (Int.natAbs_add_le a b) (add_lt ha hb)
theorem Nb.mul {m n : Nat} {a b : Int} (ha : Nb m a) (hb : Nb n b) : Nb (m + n) (a * b) := by unfold Nb; rw [Int.natAbs_mul]; exact mul_lt ha hb
theorem Nb.up {m n : Nat} {a : Int} (h : Nb m a) (hmn : m ≤ n := by decide) : Nb n a := Sp.up h hmn
theorem Nb.emod (a : Int) {m : Int} (hm : 0 < m) {n : Nat} (h : Nb n m) : Nb n (a % m) := by
  have := mod_lo a m hm
  unfold Nb at *
  omega
theorem gMulN {m n : Nat} {a b : Int} (ha : Nb m a) (hb : Nb n b) (hm : m ≤ 400000 := by decide) (hn : n ≤ 400000 := by decide) : gMul (.int a) (.int b) = some (.int (a * b)) := gMul_int (Sp.up ha hm) (Sp.up hb hn)
def mixI (c k : Int) : Int :=
  let x := (c % (10 ^ 18 + 9) + 7 * k) * 739108512309184756019283746561 + 7919 * k + 1
  let y := x * x % (10 ^ 60 + 7)
  (y + 40503) * (y + 57) % (10 ^ 60 + 7)
theorem sSet_of {i : Nat} {f : EF} {S S1 : Ss} {d : D} (h : f S = some (d, S1)) : sSet i f S = some (.nx, S1.set i (.va d)) := by unfold sSet; rw [h]; rfl
theorem sSeq_of {f g : SF} {S S1 : Ss} {r : Option (Out × Ss)} (h : f S = some (.nx, S1)) (h2 : g S1 = r) : sSeq f g S = r := by unfold sSeq; rw [h]; exact h2
theorem sRet_of {f : EF} {S S1 : Ss} {d : D} (h : f S = some (d, S1)) : sRet f S = some (.ret d, S1) := by unfold sRet; rw [h]; rfl
theorem mix_nb (c k : Int) : 0 ≤ mixI c k ∧ mixI c k < 10 ^ 60 + 7 := mod_lo _ _ (by decide)
theorem mixed_tells {c k : Int} (hk : Nb 70 k) : Tells m__law_mixed [.int c, .int k] (.int (mixI c k)) := by
  obtain ⟨x, hx⟩ : ∃ x : Int, (c % (10 ^ 18 + 9) + 7 * k) * 739108512309184756019283746561 + 7919 * k + 1 = x := ⟨_, rfl⟩
  have n18 : Nb 60 (10 ^ 18 + 9) := by unfold Nb; decide
  have n60 : Nb 200 (10 ^ 60 + 7) := by unfold Nb; decide +kernel
  have a1 : Nb 60 (c % (10 ^ 18 + 9)) := Nb.emod c (by decide) n18
  have a2 : Nb 73 (7 * k) := Nb.mul (m := 3) (by unfold Nb; decide) hk
  have a3 : Nb 74 (c % (10 ^ 18 + 9) + 7 * k) := a1.up.add a2
  have a4 : Nb 174 ((c % (10 ^ 18 + 9) + 7 * k) * 739108512309184756019283746561) := a3.mul (n := 100) (by unfold Nb; decide +kernel)
  have a5 : Nb 83 (7919 * k) := Nb.mul (m := 13) (by unfold Nb; decide) hk
  have a6 : Nb 175 ((c % (10 ^ 18 + 9) + 7 * k) * 739108512309184756019283746561 + 7919 * k) := a4.add a5.up
  have a7 : Nb 176 x := by rw [← hx]; exact a6.add (Nb.up (m := 1) (by unfold Nb; decide))
  have b1 : Nb 200 (x * x % (10 ^ 60 + 7)) := Nb.emod _ (by decide) n60
  refine tells_of rfl ?_
  show ∃ S', b__law_mixed [.va (.int c), .va (.int k), .un] = some (_, S')
  unfold b__law_mixed
  have e1 : eBin gAdd (eBin gAdd (eBin gMul (eBin gAdd (eBin gMod (eVar 0) (eBin gAdd (eBin gPow (eC (.int 10)) (eC (.int 18))) (eC (.int 9)))) (eBin gMul (eC (.int 7)) (eVar 1))) (eC (.int 739108512309184756019283746561))) (eBin gMul (eC (.int 7919)) (eVar 1))) (eC (.int 1)) [.va (.int c), .va (.int k), .un] = some (.int x, [.va (.int c), .va (.int k), .un]) := by
    rw [← hx]
    exact eBin_of (eBin_of (eBin_of (eBin_of (eBin_of rfl (p18 _) (gMod_int (by decide))) (eBin_of rfl rfl (gMulN (m := 3) (by unfold Nb; decide) hk)) rfl) rfl (gMulN a3 (n := 100) (by unfold Nb; decide +kernel))) (eBin_of rfl rfl (gMulN (m := 13) (by unfold Nb; decide) hk)) rfl) rfl rfl
  have e2 : eBin gMod (eBin gMul (eVar 2) (eVar 2)) (eBin gAdd (eBin gPow (eC (.int 10)) (eC (.int 60))) (eC (.int 7))) [.va (.int c), .va (.int k), .va (.int x)] = some (.int (x * x % (10 ^ 60 + 7)), [.va (.int c), .va (.int k), .va (.int x)]) :=
    eBin_of (eBin_of rfl rfl (gMulN a7 a7)) (p60 _) (gMod_int (by decide))
  have e3 : eBin gMod (eBin gMul (eBin gAdd (eVar 2) (eC (.int 40503))) (eBin gAdd (eVar 2) (eC (.int 57)))) (eBin gAdd (eBin gPow (eC (.int 10)) (eC (.int 60))) (eC (.int 7))) [.va (.int c), .va (.int k), .va (.int (x * x % (10 ^ 60 + 7)))] =
      some (.int (mixI c k), [.va (.int c), .va (.int k), .va (.int (x * x % (10 ^ 60 + 7)))]) := by
    unfold mixI
    rw [hx]
    exact eBin_of (eBin_of (eBin_of rfl rfl rfl) (eBin_of rfl rfl rfl) (gMulN (b1.add (Nb.up (m := 16) (by unfold Nb; decide))) (b1.add (Nb.up (m := 6) (by unfold Nb; decide))))) (p60 _) (gMod_int (by decide))
  exact ⟨_, sSeq_of (sSet_of e1) (sSeq_of (sSet_of e2) (sRet_of e3))⟩
/-! ### the purse -/
def pur (a b c : Int) : D := .lst [.int a, .int b, .int c]
/-- a purse from which at most n times something was taken -/
def Pu (n : Nat) (P : D) : Prop := ∃ a b c : Int, 0 ≤ a ∧ 0 ≤ b ∧ b ≤ n ∧ P = pur a b c
theorem Pu.mono {n m : Nat} {P : D} (h : Pu n P) (l : n ≤ m) : Pu m P := by
  obtain ⟨a, b, c, h1, h2, h3, e⟩ := h
  exact ⟨a, b, c, h1, h2, by omega, e⟩
theorem bor_ix {S : Ss} {a b c : Int} {i : Nat} {j : Int} {d : Int} (hS : S[i]? = some (.ow (pur a b c))) (hd : L2.atI [D.int a, .int b, .int c] j = some (.int d)) : eBor (eBin gIx (eVar i) (eC (.int j))) S = some (.int d, S) := by
  have h1 : (frzAll S)[i]? = some (.va (pur a b c)) := by unfold frzAll; rw [List.getElem?_map, hS]; rfl
  have : eBin gIx (eVar i) (eC (.int j)) (frzAll S) = some (.int d, frzAll S) := eBin_of (g := gIx) (a := pur a b c) (b := .int j) (by unfold eVar; rw [h1]) rfl hd
  unfold eBor
  rw [this]
  rfl
theorem sIx_of {i : Nat} {f : EF} {S : Ss} {a b c d : Int} {j k : Nat} (hf : f S = some (.int d, S)) (hS : S[i]? = some (.ow (pur a b c))) (hj : k = j ∧ j < 3) : sIx i f (eC (.int (k : Int))) S = some (.nx, S.set i (.ow (.lst ([D.int a, .int b, .int c].set j (.int d))))) := by
  obtain ⟨rfl, h⟩ := hj
  unfold sIx
  rw [hf]
  simp only [bd_some, hS, isOw, if_true, eC, pur]
  have : L2.ixN [D.int a, .int b, .int c].length (k : Int) = some k := by
    unfold L2.ixN
    rw [if_pos (by omega), if_pos (by show (k : Int) < 3; omega)]
    simp
  rw [this]
theorem take_run {n : Nat} {P : D} {many : Int} (hP : Pu n P) (hn : n < 2 ^ 60) (h1 : 1 ≤ many) (h2 : Nb 60 many) :
    ∃ (got : Int) (P' : D), 0 ≤ got ∧ got < many ∧ Pu (n + 1) P' ∧ m__law_take [.ow P, .va (.int many)] = some (.ret (.int got), [.ow P', .un]) := by
  obtain ⟨a, b, c, ha, hb, hbn, rfl⟩ := hP
  -- behind the first test
  have key : ∃ a' b' : Int, 0 ≤ a' ∧ 0 ≤ b' ∧ b' ≤ n + 1 ∧ sIf (tVal (eBin gLt (eBor (eBin gIx (eVar 0) (eC (.int 0)))) (eVar 1)))
      (sSeq (sIx 0 (eBin gAdd (eBor (eBin gIx (eVar 0) (eC (.int 1)))) (eC (.int 1))) (eC (.int 1)))
      (sIx 0 (eBin gAdd (eBor (eBin gIx (eVar 0) (eC (.int 0)))) (eBin gMul (eVar 1) (eCall m__law_mixed (aCons (eBor (eBin gIx (eVar 0) (eC (.int 2)))) (aCons (eBin gAdd (eBin gMul (eC (.int 11)) (eBor (eBin gIx (eVar 0) (eC (.int 1))))) (eC (.int 5))) aNil))))) (eC (.int 0)))) sNx
      [.ow (pur a b c), .va (.int many), .un] = some (.nx, [.ow (pur a' b' c), .va (.int many), .un]) := by
    have et : tVal (eBin gLt (eBor (eBin gIx (eVar 0) (eC (.int 0)))) (eVar 1)) [.ow (pur a b c), .va (.int many), .un] = some (decide (a < many), [.ow (pur a b c), .va (.int many), .un]) := by
      unfold tVal
      rw [eBin_of (bor_ix (i := 0) (d := a) rfl rfl) (S2 := [.ow (pur a b c), .va (.int many), .un]) rfl rfl]
      rfl
    by_cases hlt : a < many
    · have nb : Nb 70 (11 * (b + 1) + 5) := by
        have : (b + 1).natAbs < 2 ^ 61 := by
          have : (2 : Nat) ^ 61 = 2305843009213693952 := by decide
          have : (2 : Nat) ^ 60 = 1152921504606846976 := by decide
          omega
        exact (Nb.mul (m := 4) (by unfold Nb; decide) (this : Nb 61 (b + 1))).up (n := 69) |>.add (Nb.up (m := 3) (by unfold Nb; decide))
      have mb := mix_nb c (11 * (b + 1) + 5)
      have nm : Nb 200 (mixI c (11 * (b + 1) + 5)) := by
        unfold Nb
        have : (10 : Int) ^ 60 + 7 < 2 ^ 200 := by decide +kernel
        have h3 : mixI c (11 * (b + 1) + 5) < 2 ^ 200 := Int.lt_trans mb.2 this
        have h4 : ((2 : Int) ^ 200) = ((2 ^ 200 : Nat) : Int) := by decide +kernel
        rw [h4] at h3
        have := mb.1
        omega
      refine ⟨a + many * mixI c (11 * (b + 1) + 5), b + 1, Int.add_nonneg ha (Int.mul_nonneg (by omega) mb.1), by omega, by omega, ?_⟩
      unfold sIf
      rw [et]
      simp only [bd_some, decide_eq_true hlt, if_true]
      have s1 := sIx_of (i := 0) (f := eBin gAdd (eBor (eBin gIx (eVar 0) (eC (.int 1)))) (eC (.int 1))) (S := [.ow (pur a b c), .va (.int many), .un]) (a := a) (b := b) (c := c) (d := b + 1) (j := 1) (k := 1)
        (eBin_of (bor_ix (i := 0) (d := b) rfl rfl) rfl rfl) rfl ⟨rfl, by decide⟩
      refine sSeq_of s1 ?_
      have s2 := sIx_of (i := 0) (f := eBin gAdd (eBor (eBin gIx (eVar 0) (eC (.int 0)))) (eBin gMul (eVar 1) (eCall m__law_mixed (aCons (eBor (eBin gIx (eVar 0) (eC (.int 2)))) (aCons (eBin gAdd (eBin gMul (eC (.int 11)) (eBor (eBin gIx (eVar 0) (eC (.int 1))))) (eC (.int 5))) aNil)))))
        (S := [.ow (pur a (b + 1) c), .va (.int many), .un]) (a := a) (b := b + 1) (c := c) (d := a + many * mixI c (11 * (b + 1) + 5)) (j := 0) (k := 0)
        (eBin_of (bor_ix (i := 0) (d := a) rfl rfl) (eBin_of rfl ((mixed_tells nb).says _ _ _ (aCons_of (bor_ix (i := 0) (d := c) rfl rfl) (aCons_of (eBin_of (eBin_of rfl (bor_ix (i := 0) (d := b + 1) rfl rfl) (gMulN (m := 4) (n := 61) (by unfold Nb; decide) (by
          unfold Nb
          have : (2 : Nat) ^ 61 = 2305843009213693952 := by decide
          have : (2 : Nat) ^ 60 = 1152921504606846976 := by decide
          omega))) rfl rfl) rfl))) (gMulN h2 nm)) rfl) rfl ⟨rfl, by decide⟩
      exact s2
    · refine ⟨a, b, ha, hb, by omega, ?_⟩
      unfold sIf
      rw [et]
      simp only [bd_some, decide_eq_false hlt, Bool.false_eq_true, if_false, sNx]
  obtain ⟨a', b', ha', hb', hbn', e⟩ := key
  have ml := mod_lo a' many (by omega)
  refine ⟨a' % many, pur (a' / many) b' c, ml.1, ml.2, ⟨_, _, _, Int.ediv_nonneg ha' (by omega), hb', by omega, rfl⟩, ?_⟩
  have body : b__law_take [.ow (pur a b c), .va (.int many), .un] = some (.ret (.int (a' % many)), [.ow (pur (a' / many) b' c), .va (.int many), .va (.int (a' % many))]) := by
    unfold b__law_take
    refine sSeq_of e (sSeq_of (sSet_of (eBin_of (bor_ix (i := 0) (d := a') rfl rfl) rfl (gMod_int (by omega)))) (sSeq_of (sIx_of (i := 0) (a := a') (b := b') (c := c) (d := a' / many) (j := 0) (k := 0) (eBin_of (bor_ix (i := 0) (d := a') rfl rfl) rfl (gDiv_int (by omega) (Sp.up h2 (by decide)))) rfl ⟨rfl, by decide⟩) (sRet_of rfl)))
  exact (fnM_of rfl body).trans rfl
/-- take, called -/
theorem take_call {n i : Nat} {P : D} {many : Int} {S : Ss} {e : EF} (hP : Pu n P) (hn : n < 2 ^ 60) (h1 : 1 ≤ many) (h2 : Nb 60 many) (hS : S[i]? = some (.ow P)) (he : e S = some (.int many, S)) :
    ∃ (got : Int) (P' : D), 0 ≤ got ∧ got < many ∧ Pu (n + 1) P' ∧ eCallO [some i, none] m__law_take (aOwn i (aCons e aNil)) S = some (.int got, S.set i (.ow P')) := by
  obtain ⟨got, P', g1, g2, g3, em⟩ := take_run hP hn h1 h2
  refine ⟨got, P', g1, g2, g3, ?_⟩
  have ea : aOwn i (aCons e aNil) S = some ([.non, .int many], S) := by
    unfold aOwn
    simp only [hS, isOw, if_true, aCons, he, bd_some, aNil]
  unfold eCallO goO
  rw [ea]
  have ec : (decide (ownIx [some i, none]).Nodup && (ownIx [some i, none]).all fun i => isOw S[i]?) = true := by
    simp [ownIx, hS, isOw]
  simp only [bd_some, ec, if_true, parS, hS, Option.getD_some, em]
  rfl
end Sp
/-! the law's number, sum, purse -/
namespace Sp
open Sw Sw.Wd
theorem sSeq_ret {f g : SF} {S S1 : Ss} {d : D} (h : f S = some (.ret d, S1)) : sSeq f g S = some (.ret d, S1) := by unfold sSeq; rw [h]; rfl
theorem sIf_yes {t : TF} {f g : SF} {S S1 : Ss} {r : Option (Out × Ss)} (h : t S = some (true, S1)) (h2 : f S1 = r) : sIf t f g S = r := by unfold sIf; rw [h]; exact h2
theorem sIf_no {t : TF} {f g : SF} {S S1 : Ss} {r : Option (Out × Ss)} (h : t S = some (false, S1)) (h2 : g S1 = r) : sIf t f g S = r := by unfold sIf; rw [h]; exact h2
theorem tVal_of {f : EF} {S S1 : Ss} {b : Bool} (h : f S = some (.bl b, S1)) : tVal f S = some (b, S1) := by unfold tVal; rw [h]; rfl
theorem bd_int {q : Rat} (hd : q.den ∣ 2520) (hn : q.num.natAbs ≤ 1000) : Bd c0 m0 q := Bd.of hd (Nat.mul_le_mul_right 2520 hn)
theorem number_run {n : Nat} {P : D} (hP : Pu n P) (hn : n + 4 < 2 ^ 60) : ∃ (q : Rat) (P' : D), Bd c0 m0 q ∧ Pu (n + 3) P' ∧ m__law_number [.ow P] = some (.ret (.fr q), [.ow P']) := by
  suffices hb : ∃ (q : Rat) (P' : D) (s : Sl), Bd c0 m0 q ∧ Pu (n + 3) P' ∧ b__law_number [.ow P, .un] = some (.ret (.fr q), [.ow P', s]) by
    obtain ⟨q, P', s, h1, h2, h3⟩ := hb
    exact ⟨q, P', h1, h2, (fnM_of rfl h3).trans rfl⟩
  obtain ⟨way, P1, w1, w2, p1, e1⟩ := take_call (i := 0) (S := [.ow P, .un]) (e := eC (.int 5)) (many := 5) hP (by omega) (by decide) (by unfold Nb; decide) rfl rfl
  unfold b__law_number
  have s1 := sSet_of (i := 1) e1
  by_cases h3 : way < 3
  · have hw : way = 0 ∨ way = 1 ∨ way = 2 := by omega
    have el : eA gLst (aCons (eNf (eA gTup (aCons (eC (.int 0)) (aCons (eC (.int 1)) aNil)))) (aCons (eNf (eA gTup (aCons (eC (.int 1)) (aCons (eC (.int 1)) aNil)))) (aCons (eNf (eA gTup (aCons (eUn gNeg (eC (.int 1))) (aCons (eC (.int 1)) aNil)))) aNil))) [.ow P1, .va (.int way)] =
        some (.lst [.fr 0, .fr 1, .fr (-1)], [.ow P1, .va (.int way)]) :=
      eA_of (aCons_of (nf1 (n := 0) (m := 1) (q := 0) rfl rfl _) (aCons_of (nf1 (n := 1) (m := 1) (q := 1) rfl rfl _) (aCons_of (nf2 (n := 1) (m := 1) (q := -1) rfl rfl _) rfl))) rfl
    have t3 : tVal (eBin gLt (eVar 1) (eC (.int 3))) [.ow P1, .va (.int way)] = some (true, [.ow P1, .va (.int way)]) := by
      refine tVal_of (eBin_of rfl rfl ?_)
      rw [gLt_int, decide_eq_true h3]
    obtain ⟨q, e, hb⟩ : ∃ q : Rat, gIx (.lst [.fr 0, .fr 1, .fr (-1)]) (.int way) = some (.fr q) ∧ Bd c0 m0 q := by
      rcases hw with h | h | h
      · exact ⟨0, by rw [h]; rfl, bd_int (by decide) (by decide)⟩
      · exact ⟨1, by rw [h]; rfl, bd_int (by decide) (by decide)⟩
      · exact ⟨-1, by rw [h]; rfl, bd_int (by decide) (by decide)⟩
    have er := sRet_of (eBin_of (g := gIx) (fb := eVar 1) (S2 := [.ow P1, .va (.int way)]) el rfl e)
    exact ⟨q, P1, .va (.int way), hb, p1.mono (by omega), sSeq_of s1 (sSeq_ret (sIf_yes t3 er))⟩
  · have t3 : tVal (eBin gLt (eVar 1) (eC (.int 3))) [.ow P1, .va (.int way)] = some (false, [.ow P1, .va (.int way)]) := by
      refine tVal_of (eBin_of rfl rfl ?_)
      rw [gLt_int, decide_eq_false h3]
    by_cases h4 : way = 3
    · have t4 : tVal (eBin gEq (eVar 1) (eC (.int 3))) [.ow P1, .va (.int way)] = some (true, [.ow P1, .va (.int way)]) := by
        refine tVal_of (eBin_of rfl rfl ?_)
        rw [gEq_int, decide_eq_true h4]
      obtain ⟨g, P2, g1, g2, p2, e2⟩ := take_call (i := 0) (S := [.ow P1, .va (.int way)]) (e := eC (.int 13)) (many := 13) p1 (by omega) (by decide) (by unfold Nb; decide) rfl rfl
      have en : eNf (eA gTup (aCons (eBin gSub (eCallO [some 0, none] m__law_take (aOwn 0 (aCons (eC (.int 13)) aNil))) (eC (.int 6))) (aCons (eC (.int 1)) aNil))) [.ow P1, .va (.int way)] = some (.fr ((g - 6 : Int) : Rat), [.ow P2, .va (.int way)]) := by
        unfold eNf
        rw [eA_of (aCons_of (eBin_of e2 rfl rfl) (aCons_of rfl rfl)) (gTup2 _ _)]
        simp only [bd_some]
        rw [nfD_of (q := ((g - 6 : Int) : Rat)) (Rat.num_intCast _).symm (by rw [Rat.den_intCast]; rfl)]
        rfl
      refine ⟨_, P2, _, bd_int (q := ((g - 6 : Int) : Rat)) (by rw [Rat.den_intCast]; exact Nat.one_dvd _) (by rw [Rat.num_intCast]; omega), p2.mono (by omega), sSeq_of s1 (sSeq_of (sIf_no t3 rfl) (sSeq_ret (sIf_yes t4 (sRet_of en))))⟩
    · have t4 : tVal (eBin gEq (eVar 1) (eC (.int 3))) [.ow P1, .va (.int way)] = some (false, [.ow P1, .va (.int way)]) := by
        refine tVal_of (eBin_of rfl rfl ?_)
        rw [gEq_int, decide_eq_false h4]
      have p3 : ∀ S : Ss, eBin gPow (eC (.int 10)) (eC (.int 3)) S = some (.int 1000, S) := fun S => eBin_of rfl rfl (gPow_10 3 (by decide))
      obtain ⟨g, P2, g1, g2, p2, e2⟩ := take_call (i := 0) (S := [.ow P1, .va (.int way)]) (e := eBin gAdd (eBin gMul (eC (.int 2)) (eBin gPow (eC (.int 10)) (eC (.int 3)))) (eC (.int 1))) (many := 2001) p1 (by omega) (by decide) (by unfold Nb; decide) rfl
        (eBin_of (eBin_of rfl (p3 _) (gMulN (m := 2) (n := 10) (by unfold Nb; decide) (by unfold Nb; decide))) rfl rfl)
      obtain ⟨k, P3, k1, k2, p3', e3⟩ := take_call (i := 0) (S := [.ow P2, .va (.int way)]) (e := eC (.int 9)) (many := 9) p2 (by omega) (by decide) (by unfold Nb; decide) rfl rfl
      have hb : 0 < 1 + k := by omega
      have tl := law_low_tells (t := g - 1000) (b := 1 + k) hb (Nat.lt_of_le_of_lt (by omega : (g - 1000).natAbs ≤ 1000) (up (m := 10) (by decide) (by decide))) (Nat.lt_of_le_of_lt (by omega : (1 + k).natAbs ≤ 9) (up (m := 10) (by decide) (by decide)))
      have ea := aCons_of (eBin_of e2 (p3 _) rfl : eBin gSub (eCallO [some 0, none] m__law_take (aOwn 0 (aCons (eBin gAdd (eBin gMul (eC (.int 2)) (eBin gPow (eC (.int 10)) (eC (.int 3)))) (eC (.int 1))) aNil))) (eBin gPow (eC (.int 10)) (eC (.int 3))) [.ow P1, .va (.int way)] = some (.int (g - 1000), [.ow P2, .va (.int way)]))
        (aCons_of (eBin_of rfl e3 rfl : eBin gAdd (eC (.int 1)) (eCallO [some 0, none] m__law_take (aOwn 0 (aCons (eC (.int 9)) aNil))) [.ow P2, .va (.int way)] = some (.int (1 + k), [.ow P3, .va (.int way)])) (rfl : aNil [.ow P3, .va (.int way)] = some ([], [.ow P3, .va (.int way)])))
      refine ⟨_, P3, _, ?_, p3'.mono (by omega), sSeq_of s1 (sSeq_of (sIf_no t3 rfl) (sSeq_of (sIf_no t4 rfl) (sRet_of (call_tells tl ea))))⟩
      refine bd_int ?_ ?_
      · rw [Rat.normalize_eq]
        show (1 + k).toNat / _ ∣ 2520
        refine Nat.dvd_trans (Nat.div_dvd_of_dvd (Nat.gcd_dvd_right _ _)) ?_
        have : (1 + k).toNat = 1 ∨ (1 + k).toNat = 2 ∨ (1 + k).toNat = 3 ∨ (1 + k).toNat = 4 ∨ (1 + k).toNat = 5 ∨ (1 + k).toNat = 6 ∨ (1 + k).toNat = 7 ∨ (1 + k).toNat = 8 ∨ (1 + k).toNat = 9 := by omega
        rcases this with h | h | h | h | h | h | h | h | h <;> rw [h] <;> decide
      · rw [Rat.normalize_eq]
        show ((g - 1000) / _).natAbs ≤ 1000
        refine Nat.le_trans (Int.natAbs_ediv_le_natAbs _ _) ?_
        omega
theorem number_call {n : Nat} {P : D} {S : Ss} (hP : Pu n P) (hn : n + 4 < 2 ^ 60) (hS : S[0]? = some (.ow P)) : ∃ (q : Rat) (P' : D), Bd c0 m0 q ∧ Pu (n + 3) P' ∧ eCallO [some 0] m__law_number (aOwn 0 aNil) S = some (.fr q, S.set 0 (.ow P')) := by
  obtain ⟨q, P', h1, h2, em⟩ := number_run hP hn
  refine ⟨q, P', h1, h2, ?_⟩
  have ea : aOwn 0 aNil S = some ([.non], S) := by
    unfold aOwn
    simp only [hS, isOw, if_true, aNil, bd_some]
  unfold eCallO goO
  rw [ea]
  have ec : (decide (ownIx [some 0]).Nodup && (ownIx [some 0]).all fun i => isOw S[i]?) = true := by
    simp [ownIx, hS, isOw]
  simp only [bd_some, ec, if_true, parS, hS, Option.getD_some, em]
  rfl
end Sp
/-! the law's sum drawn -/
namespace Sp
open Sw Sw.Wd
def stD (P : D) (count : Int) (d2 : Sl) (most : Int) (a b c : Sl) : Ss := [.ow P, .va (.int count), d2, .va (.int most), a, b, c, .un]
theorem small60 {i : Int} (h0 : 0 ≤ i) (h : i < 1000) : Nb 60 i := by
  unfold Nb
  have : (2 : Nat) ^ 60 = 1152921504606846976 := by decide
  omega
theorem word_loop {count : Int} (c1 : 1 ≤ count) (c4 : count ≤ 4) {d2 a b c : Sl} {most : Int} : ∀ (ds : List D) (n : Nat) (P : D), Pu n P → n + ds.length < 2 ^ 60 →
    ∃ (w : W) (P' : D), w.length = ds.length ∧ (∀ i ∈ w, 0 ≤ i ∧ i < count) ∧ Pu (n + ds.length) P' ∧
      cpL [7] (gNm 7) tTrue (eCallO [some 0, none] m__law_take (aOwn 0 (aCons (eVar 1) aNil))) ds (stD P count d2 most a b c) = some (w.map D.int, stD P' count d2 most a b c)
  | [], n, P, hP, _ => ⟨[], P, rfl, fun i h => (nomatch h), hP, rfl⟩
  | d :: ds, n, P, hP, hn => by
    simp only [List.length_cons] at hn
    obtain ⟨g, P1, g1, g2, p1, e1⟩ := take_call (i := 0) (S := [.ow P, .va (.int count), d2, .va (.int most), a, b, c, .va d]) (e := eVar 1) (many := count) hP (by omega) c1 (small60 (by omega) (by omega)) rfl rfl
    obtain ⟨w, P', h1, h2, h3, e2⟩ := word_loop c1 c4 (d2 := d2) (a := a) (b := b) (c := c) (most := most) ds (n + 1) P1 p1 (by omega)
    refine ⟨g :: w, P', by simp [h1], fun i hi => ?_, h3.mono (by simp only [List.length_cons]; omega), ?_⟩
    · rcases List.mem_cons.mp hi with e | e
      · rw [e]; exact ⟨g1, g2⟩
      · exact h2 i e
    · unfold cpL
      have eg : gNm 7 d (stD P count d2 most a b c) = some [.ow P, .va (.int count), d2, .va (.int most), a, b, c, .va d] := rfl
      rw [eg]
      have et : tTrue [.ow P, .va (.int count), d2, .va (.int most), a, b, c, .va d] = some (true, [.ow P, .va (.int count), d2, .va (.int most), a, b, c, .va d]) := rfl
      simp only [et, bd_some, if_true, e1]
      have ew : wipeS (([Sl.ow P, .va (.int count), d2, .va (.int most), a, b, c, .va d] : Ss).set 0 (.ow P1)) [7] = stD P1 count d2 most a b c := rfl
      rw [ew, e2]
      rfl
theorem rng_eq (n : Nat) : (rngD 0 n).length = n := by unfold rngD; simp
theorem word_run {count : Int} (c1 : 1 ≤ count) (c4 : count ≤ 4) {d2 a b c : Sl} {most : Int} (m1 : 1 ≤ most) (m3 : most ≤ 3) {n : Nat} {P : D} (hP : Pu n P) (hn : n + 10 < 2 ^ 60) :
    ∃ (w : W) (P' : D), w ≠ [] ∧ w.length ≤ 3 ∧ (∀ i ∈ w, 0 ≤ i ∧ i < count) ∧ Pu (n + 4) P' ∧
      eA gTuple (aCons (eLc [7] (iR1 (aCons (eBin gAdd (eC (.int 1)) (eCallO [some 0, none] m__law_take (aOwn 0 (aCons (eVar 3) aNil)))) aNil)) (gNm 7) tTrue (eCallO [some 0, none] m__law_take (aOwn 0 (aCons (eVar 1) aNil)))) aNil) (stD P count d2 most a b c) =
        some (wD w, stD P' count d2 most a b c) := by
  obtain ⟨g, P1, g1, g2, p1, e1⟩ := take_call (i := 0) (S := stD P count d2 most a b c) (e := eVar 3) (many := most) hP (by omega) m1 (small60 (by omega) (by omega)) rfl rfl
  obtain ⟨w, P', h1, h2, h3, e2⟩ := word_loop c1 c4 (d2 := d2) (a := a) (b := b) (c := c) (most := most) (rngD 0 (1 + g).toNat) (n + 1) P1 p1 (by rw [rng_eq]; omega)
  rw [rng_eq] at h1 h3
  refine ⟨w, P', fun z => ?_, by omega, h2, h3.mono (by omega), eA_of (ds := [.lst (w.map D.int)]) (aCons_of ?_ rfl) rfl⟩
  · rw [z] at h1; simp at h1; omega
  · unfold eLc
    have ei : iR1 (aCons (eBin gAdd (eC (.int 1)) (eCallO [some 0, none] m__law_take (aOwn 0 (aCons (eVar 3) aNil)))) aNil) (stD P count d2 most a b c) = some (rngD 0 (1 + g).toNat, stD P1 count d2 most a b c) := by
      unfold iR1
      rw [aCons_of (eBin_of rfl e1 rfl) rfl]
      simp only [bd_some]
      rw [if_pos (by
        have : (2 : Int) ^ 62 = 4611686018427387904 := by decide
        omega)]
      rfl
    rw [ei]
    have ew : wipeS (stD P1 count d2 most a b c) [7] = stD P1 count d2 most a b c := rfl
    have eo : ([7].all fun v => !isOw (stD P1 count d2 most a b c)[v]?) = true := rfl
    simp only [bd_some, eo, if_true, ew, e2]
    rfl
/-- the sum as far as it is drawn -/
structure Dw (count : Int) (kv : Kq) (k : Nat) : Prop where
  wf : Wf kv
  len : ∀ w ∈ kv.map (·.1), w ≠ [] ∧ w.length ≤ 5 ∧ ∀ i ∈ w, 0 ≤ i ∧ i < count
  bd : ∀ p ∈ kv, Bd c0 m0 p.2
  sz : kv.length ≤ k
theorem Dw.put {count : Int} {kv : Kq} {k : Nat} (h : Dw count kv k) {w : W} {q : Rat} (h1 : w ≠ []) (h2 : w.length ≤ 3) (h3 : ∀ i ∈ w, 0 ≤ i ∧ i < count) (hq : q ≠ 0) (hb : Bd c0 m0 q) : Dw count (kputQ kv w q) (k + 1) := by
  refine ⟨⟨?_, fun p hp => ?_⟩, fun v hv => ?_, fun p hp => ?_, ?_⟩
  · rw [put_keys]
    split
    · exact h.wf.nd
    · rename_i hm
      rw [List.nodup_append]
      refine ⟨h.wf.nd, by simp, fun a ha b hb e => hm ?_⟩
      rw [List.mem_singleton] at hb
      rw [← hb, ← e]; exact ha
  · rcases mem_kput hp with h' | h'
    · exact h.wf.nz p h'
    · rw [h']; exact hq
  · rw [put_keys] at hv
    split at hv
    · exact h.len v hv
    · rcases List.mem_append.mp hv with z | z
      · exact h.len v z
      · rw [List.mem_singleton] at z; rw [z]; exact ⟨h1, by omega, h3⟩
  · rcases mem_kput hp with h' | h'
    · exact h.bd p h'
    · rw [h']; exact hb
  · have := h.sz
    unfold kputQ
    split
    · rw [List.length_map]; omega
    · rw [List.length_append]; simp; omega
noncomputable def bodyT : SF := (sSeq (sSet 5 (eA gTuple (aCons (eLc [7] (iR1 (aCons (eBin gAdd (eC (.int 1)) (eCallO [some 0, none] m__law_take (aOwn 0 (aCons (eVar 3) aNil)))) aNil)) (gNm 7) tTrue (eCallO [some 0, none] m__law_take (aOwn 0 (aCons (eVar 1) aNil)))) aNil)))
  (sSeq (sSet 6 (eCallO [some 0] m__law_number (aOwn 0 aNil)))
  (sIf (tVal (eBin gNe (eBin gIx (eVar 6) (eC (.int 0))) (eC (.int 0))))
  (sDp 2 (eVar 6) (eVar 5))
  sNx)))
theorem term_loop {count : Int} (c1 : 1 ≤ count) (c4 : count ≤ 4) {most : Int} (m1 : 1 ≤ most) (m3 : most ≤ 3) : ∀ (ds : List D) (n k : Nat) (P : D) (kv : Kq) (a b c : Sl), Pu n P → n + 20 * ds.length + 20 < 2 ^ 60 → Dw count kv k → k + ds.length < 1000 →
    ∃ (kv' : Kq) (P' : D) (a' b' c' : Sl), Pu (n + 7 * ds.length) P' ∧ Dw count kv' (k + ds.length) ∧ forL (gNm 4) bodyT ds (stD P count (.ow (.dct (kvD kv))) most a b c) = some (.nx, stD P' count (.ow (.dct (kvD kv'))) most a' b' c')
  | [], n, k, P, kv, a, b, c, hP, _, hk, _ => ⟨kv, P, a, b, c, hP, hk, rfl⟩
  | d :: ds, n, k, P, kv, a, b, c, hP, hn, hk, hl => by
    simp only [List.length_cons] at hn hl
    obtain ⟨w, P1, w1, w2, w3, p1, e1⟩ := word_run c1 c4 (d2 := .ow (.dct (kvD kv))) (a := .va d) (b := b) (c := c) m1 m3 hP (by omega)
    obtain ⟨q, P2, hq, p2, e2⟩ := number_call (S := stD P1 count (.ow (.dct (kvD kv))) most (.va d) (.va (wD w)) c) p1 (by omega) rfl
    have eg : gNm 4 d (stD P count (.ow (.dct (kvD kv))) most a b c) = some (stD P count (.ow (.dct (kvD kv))) most (.va d) b c) := rfl
    have hsz := hk.sz
    have eb : ∃ kv', Dw count kv' (k + 1) ∧ bodyT (stD P count (.ow (.dct (kvD kv))) most (.va d) b c) = some (.nx, stD P2 count (.ow (.dct (kvD kv'))) most (.va d) (.va (wD w)) (.va (.fr q))) := by
      unfold bodyT
      have et : tVal (eBin gNe (eBin gIx (eVar 6) (eC (.int 0))) (eC (.int 0))) (stD P2 count (.ow (.dct (kvD kv))) most (.va d) (.va (wD w)) (.va (.fr q))) = some (decide (q.num ≠ 0), stD P2 count (.ow (.dct (kvD kv))) most (.va d) (.va (wD w)) (.va (.fr q))) :=
        tVal_of (eBin_of (eBin_of rfl rfl (gIx_fr0 q)) rfl (gNe_int _ _))
      by_cases h0 : q = 0
      · refine ⟨kv, ⟨hk.wf, hk.len, hk.bd, by omega⟩, sSeq_of (sSet_of e1) (sSeq_of (sSet_of e2) (sIf_no (S1 := stD P2 count (.ow (.dct (kvD kv))) most (.va d) (.va (wD w)) (.va (.fr q))) ?_ rfl))⟩
        refine et.trans ?_
        rw [h0]; rfl
      · have hn0 : q.num ≠ 0 := fun z => h0 (num0.mp z)
        refine ⟨kputQ kv w q, hk.put w1 w2 w3 h0 hq, sSeq_of (sSet_of e1) (sSeq_of (sSet_of e2) (sIf_yes (S1 := stD P2 count (.ow (.dct (kvD kv))) most (.va d) (.va (wD w)) (.va (.fr q))) ?_ ?_))⟩
        · refine et.trans ?_
          rw [decide_eq_true hn0]
        · have hl' : (kvD kv).length < 16777216 := by rw [kvD_length]; omega
          unfold stD sDp
          simp only [eVar, List.getElem?_cons_zero, List.getElem?_cons_succ, bd_some, isOw, if_true, wD, keyOf_w, hl', List.set_cons_succ, List.set_cons_zero, kput_kvD]
    obtain ⟨kv1, d1, e3⟩ := eb
    obtain ⟨kv', P', a', b', c', p', d', e4⟩ := term_loop c1 c4 m1 m3 ds (n + 7) (k + 1) P2 kv1 (.va d) (.va (wD w)) (.va (.fr q)) (p2.mono (by omega)) (by omega) d1 (by omega)
    refine ⟨kv', P', a', b', c', p'.mono (by simp only [List.length_cons]; omega), ⟨d'.wf, d'.len, d'.bd, by have := d'.sz; simp only [List.length_cons]; omega⟩, ?_⟩
    unfold forL
    rw [eg]
    simp only [e3]
    exact e4
theorem drawn_call {n i : Nat} {P : D} {count : Int} {S : Ss} {e : EF} (hP : Pu n P) (hn : n + 100 < 2 ^ 60) (c1 : 1 ≤ count) (c4 : count ≤ 4) (hS : S[i]? = some (.ow P)) (he : e S = some (.int count, S)) :
    ∃ (kv : Kq) (P' : D), Drawn count kv ∧ eCallO [some i, none] m__law_drawn (aOwn i (aCons e aNil)) S = some (.lst (kqD (told kv)), S.set i (.ow P')) := by
  have run : ∃ (kv : Kq) (P' : D), Drawn count kv ∧ m__law_drawn [.ow P, .va (.int count)] = some (.ret (.lst (kqD (told kv))), [.ow P', .un]) := by
    suffices hb : ∃ (kv : Kq) (P' : D) (r : Ss), Drawn count kv ∧ b__law_drawn [.ow P, .va (.int count), .un, .un, .un, .un, .un, .un] = some (.ret (.lst (kqD (told kv))), .ow P' :: r) by
      obtain ⟨kv, P', r, h1, h2⟩ := hb
      exact ⟨kv, P', h1, (fnM_of rfl h2).trans rfl⟩
    obtain ⟨g, P1, g1, g2, p1, e1⟩ := take_call (i := 0) (S := [.ow P, .va (.int count), .ow (.dct []), .un, .un, .un, .un, .un]) (e := eC (.int 3)) (many := 3) hP (by omega) (by decide) (by unfold Nb; decide) rfl rfl
    obtain ⟨g', P2, g1', g2', p2, e2⟩ := take_call (i := 0) (S := stD P1 count (.ow (.dct (kvD []))) (1 + g) .un .un .un) (e := eC (.int 3)) (many := 3) p1 (by omega) (by decide) (by unfold Nb; decide) rfl rfl
    have d0 : Dw count [] 0 := ⟨Wf.nil, (fun w h => absurd h (by simp)), (fun p h => absurd h (by simp)), Nat.le_refl _⟩
    obtain ⟨kv, P', a, b, c, p', d', e3⟩ := term_loop c1 c4 (most := 1 + g) (by omega) (by omega) (rngD 0 g'.toNat) (n + 2) 0 P2 [] .un .un .un p2 (by rw [rng_eq]; omega) d0 (by rw [rng_eq]; omega)
    refine ⟨kv, P', [.va (.int count), .va (.dct (kvD kv)), .va (.int (1 + g)), a, b, c, .un], ⟨c1, c4, d'.wf, d'.len, d'.bd⟩, ?_⟩
    have ei : iR1 (aCons (eCallO [some 0, none] m__law_take (aOwn 0 (aCons (eC (.int 3)) aNil))) aNil) (stD P1 count (.ow (.dct (kvD []))) (1 + g) .un .un .un) = some (rngD 0 g'.toNat, stD P2 count (.ow (.dct (kvD []))) (1 + g) .un .un .un) := by
      unfold iR1
      rw [aCons_of e2 rfl]
      simp only [bd_some]
      rw [if_pos (by
        have : (2 : Int) ^ 62 = 4611686018427387904 := by decide
        omega)]
      rfl
    have ef : sFor (iR1 (aCons (eCallO [some 0, none] m__law_take (aOwn 0 (aCons (eC (.int 3)) aNil))) aNil)) (gNm 4) bodyT (stD P1 count (.ow (.dct (kvD []))) (1 + g) .un .un .un) = some (.nx, stD P' count (.ow (.dct (kvD kv))) (1 + g) a b c) := by
      unfold sFor
      rw [ei]
      exact e3
    show sSeq (sSetF 2 (eC (.dct []))) _ _ = _
    refine sSeq_of rfl (sSeq_of (sSet_of (eBin_of rfl e1 rfl)) (sSeq_of ef (sRet_of ?_)))
    exact (law_told_tells kv).says (aCons (eVar 2) aNil) (stD P' count (.ow (.dct (kvD kv))) (1 + g) a b c) _ rfl
  obtain ⟨kv, P', h1, em⟩ := run
  refine ⟨kv, P', h1, ?_⟩
  have ea : aOwn i (aCons e aNil) S = some ([.non, .int count], S) := by
    unfold aOwn
    simp only [hS, isOw, if_true, aCons, he, bd_some, aNil]
  unfold eCallO goO
  rw [ea]
  have ec : (decide (ownIx [some i, none]).Nodup && (ownIx [some i, none]).all fun i => isOw S[i]?) = true := by
    simp [ownIx, hS, isOw]
  simp only [bd_some, ec, if_true, parS, hS, Option.getD_some, em]
  rfl
end Sp
/-! the law itself -/
namespace Sp
open Sw Sw.Wd
theorem sSetF_of {i : Nat} {f : EF} {S S1 : Ss} {d : D} (h : f S = some (d, S1)) : sSetF i f S = some (.nx, S1.set i (.ow d)) := by unfold sSetF; rw [h]; rfl
theorem tOrF_no {a b : TF} {S S1 S2 : Ss} (h1 : a S = some (false, S1)) (h2 : b S1 = some (false, S2)) : tOrF a b S = some (false, S2) := by unfold tOrF; rw [h1]; exact h2
theorem gNe_refl {d : D} (h : okD 40 d = true) : gNe d d = some (.bl false) := by
  unfold gNe eqD
  rw [h, PySem.SeqAt.eqv_refl _ (shp_of 40 d h).1]
  rfl
theorem at_tells (ns : List Int) (k : Nat) (hk : k < 2) : ∃ cell : Int, Tells m__law_at [.scr ns, .int (k : Int)] (.int cell) := by
  have el : eA gLen (aCons (eVar 0) aNil) [.va (.scr ns), .va (.int (k : Int))] = some (.int ns.length, [.va (.scr ns), .va (.int (k : Int))]) := rfl
  by_cases h : k < ns.length
  · obtain ⟨c, hc⟩ : ∃ c, ns[k]? = some c := ⟨_, List.getElem?_eq_getElem h⟩
    have et : tVal (eBin gLt (eVar 1) (eA gLen (aCons (eVar 0) aNil))) [.va (.scr ns), .va (.int (k : Int))] = some (true, [.va (.scr ns), .va (.int (k : Int))]) := by
      refine tVal_of (eBin_of rfl el ?_)
      rw [gLt_int, decide_eq_true (by omega)]
    have er : eBin gIx (eVar 0) (eVar 1) [.va (.scr ns), .va (.int (k : Int))] = some (.int c, [.va (.scr ns), .va (.int (k : Int))]) := by
      refine eBin_of (a := .scr ns) (b := .int (k : Int)) rfl rfl ?_
      show (L2.atI ns (k : Int)).map D.int = _
      rw [atI_nat h, hc]; rfl
    exact ⟨c, tells_of rfl ⟨[.va (.scr ns), .va (.int (k : Int))], sSeq_ret (sIf_yes et (sRet_of er))⟩⟩
  · have et : tVal (eBin gLt (eVar 1) (eA gLen (aCons (eVar 0) aNil))) [.va (.scr ns), .va (.int (k : Int))] = some (false, [.va (.scr ns), .va (.int (k : Int))]) := by
      refine tVal_of (eBin_of rfl el ?_)
      rw [gLt_int, decide_eq_false (by omega)]
    have er : eBin gAdd (eBin gMul (eC (.int 3)) (eVar 1)) (eC (.int 1)) [.va (.scr ns), .va (.int (k : Int))] = some (.int (3 * (k : Int) + 1), [.va (.scr ns), .va (.int (k : Int))]) :=
      eBin_of (eBin_of (a := .int 3) (b := .int (k : Int)) rfl rfl (gMulN (m := 2) (n := 2) (by unfold Nb; decide) (by unfold Nb; simp; omega))) rfl rfl
    exact ⟨3 * k + 1, tells_of rfl ⟨[.va (.scr ns), .va (.int (k : Int))], sSeq_of (sIf_no et rfl) (sRet_of er)⟩⟩
theorem purse_tells (cell : Int) (k : Nat) (hk : k < 2) : ∃ P : D, Pu 0 P ∧ TellsF m__law_purse [.int cell, .int (k : Int)] P := by
  have p18' : ∀ S : Ss, eBin gPow (eC (.int 10)) (eC (.int 18)) S = some (.int (10 ^ 18), S) := fun S => eBin_of rfl rfl (gPow_10 18 (by decide))
  by_cases h : (10 : Int) ^ 18 ≤ cell
  · have et : tVal (eBin gGe (eVar 0) (eBin gPow (eC (.int 10)) (eC (.int 18)))) [.va (.int cell), .va (.int (k : Int))] = some (true, [.va (.int cell), .va (.int (k : Int))]) := by
      refine tVal_of (eBin_of rfl (p18' _) ?_)
      rw [gGe_int, decide_eq_true h]
    have er : eA gLst (aCons (eBin gSub (eVar 0) (eBin gPow (eC (.int 10)) (eC (.int 18)))) (aCons (eC (.int 0)) (aCons (eVar 1) aNil))) [.va (.int cell), .va (.int (k : Int))] = some (pur (cell - 10 ^ 18) 0 k, [.va (.int cell), .va (.int (k : Int))]) :=
      eA_of (aCons_of (eBin_of rfl (p18' _) rfl) (aCons_of rfl (aCons_of rfl rfl))) rfl
    have e2 : sRetF (eA gLst (aCons (eBin gSub (eVar 0) (eBin gPow (eC (.int 10)) (eC (.int 18)))) (aCons (eC (.int 0)) (aCons (eVar 1) aNil)))) [.va (.int cell), .va (.int (k : Int))] = some (.rtF (pur (cell - 10 ^ 18) 0 k), [.va (.int cell), .va (.int (k : Int))]) := by
      unfold sRetF; rw [er]; rfl
    refine ⟨pur (cell - 10 ^ 18) 0 k, ⟨_, _, _, by omega, Int.le_refl _, Int.le_refl _, rfl⟩, tellsF_of rfl ⟨[.va (.int cell), .va (.int (k : Int))], ?_⟩⟩
    show sSeq _ _ [.va (.int cell), .va (.int (k : Int))] = _
    unfold sSeq
    rw [sIf_yes et e2]
    rfl
  · have et : tVal (eBin gGe (eVar 0) (eBin gPow (eC (.int 10)) (eC (.int 18)))) [.va (.int cell), .va (.int (k : Int))] = some (false, [.va (.int cell), .va (.int (k : Int))]) := by
      refine tVal_of (eBin_of rfl (p18' _) ?_)
      rw [gGe_int, decide_eq_false h]
    have nk : Nb 70 (k : Int) := by
      unfold Nb
      simp
      exact Nat.lt_trans hk (by decide)
    have er : eA gLst (aCons (eCall m__law_mixed (aCons (eVar 0) (aCons (eVar 1) aNil))) (aCons (eC (.int 0)) (aCons (eBin gAdd (eBin gMod (eVar 0) (eBin gAdd (eBin gPow (eC (.int 10)) (eC (.int 18))) (eC (.int 9)))) (eVar 1)) aNil))) [.va (.int cell), .va (.int (k : Int))] =
        some (pur (mixI cell k) 0 (cell % (10 ^ 18 + 9) + k), [.va (.int cell), .va (.int (k : Int))]) :=
      eA_of (aCons_of ((mixed_tells nk).says _ _ [.va (.int cell), .va (.int (k : Int))] rfl) (aCons_of rfl (aCons_of (eBin_of (eBin_of rfl (p18 _) (gMod_int (by decide))) rfl rfl) rfl))) rfl
    have e2 : sRetF (eA gLst (aCons (eCall m__law_mixed (aCons (eVar 0) (aCons (eVar 1) aNil))) (aCons (eC (.int 0)) (aCons (eBin gAdd (eBin gMod (eVar 0) (eBin gAdd (eBin gPow (eC (.int 10)) (eC (.int 18))) (eC (.int 9)))) (eVar 1)) aNil)))) [.va (.int cell), .va (.int (k : Int))] =
        some (.rtF (pur (mixI cell k) 0 (cell % (10 ^ 18 + 9) + k)), [.va (.int cell), .va (.int (k : Int))]) := by
      unfold sRetF; rw [er]; rfl
    refine ⟨pur (mixI cell k) 0 (cell % (10 ^ 18 + 9) + k), ⟨_, _, _, (mix_nb cell k).1, Int.le_refl _, Int.le_refl _, rfl⟩, tellsF_of rfl ⟨[.va (.int cell), .va (.int (k : Int))], ?_⟩⟩
    exact sSeq_of (sIf_no et rfl) e2
/-! ### the turn -/
theorem sTurn_of {m i j z : Nat} {f1 f2 f3 f4 : EF} {g2 g4 : SF} {S S1 S2 S3 S4 S5 S6 : Ss} {d1 d2 d3 d4 : List D}
    (hc : (noOwn S && decide (S.length = m) && decide (i ≠ j) && decide (i < S.length) && decide (j < S.length) && decide (z < S.length)) = true)
    (h1 : f1 S = some (.lst d1, S1)) (h2 : f2 S1 = some (.lst d2, S2)) (h3 : g2 (S2.set i (.va (.lst [.lst d1, .lst d2]))) = some (.nx, S3)) (l3 : S3.length = S.length)
    (h4 : f3 S3 = some (.lst d3, S4)) (h5 : f4 S4 = some (.lst d4, S5)) (h6 : g4 (S5.set j (.va (.lst [.lst d3, .lst d4]))) = some (.nx, S6)) (l6 : S6.length = S.length) :
    sTurn m i j z f1 f2 g2 f3 f4 g4 S = some (.nx, wipe3 S i j z) := by
  unfold sTurn
  rw [if_pos hc, h1]
  simp only [lstOf, bd_some, h2, h3, nxOf, l3, if_true, Option.bind_some, h4, h5, h6, l6]
section
variable {count : Int} {kv : Kq} (h : Drawn count kv)
def oneD (kv : Kq) : D := .lst (kqD (told kv))
def wholeD (kv : Kq) : D := .lst (kqD (([], 1) :: told kv))
def duesD (kv : Kq) : D := .lst [.lst (kqD (grownP (told kv))), .lst (kqD (loggedP (([], 1) :: told kv)))]
def handD (kv : Kq) : D := .lst [oneD kv, wholeD kv]
def stL (scr k P2 : Sl) (count : Int) (kv : Kq) (t s9 s10 s11 : Sl) : Ss := [scr, k, P2, .va (.int count), .va (oneD kv), .va (wholeD kv), .va (duesD kv), .va (handD kv), t, s9, s10, s11]
noncomputable def turnF : SF := sFrz (sTurn 12 9 10 11 (eCallF m_grown (aCons (eVar 3) (aCons (eBin gIx (eVar 7) (eC (.int 0))) aNil))) (eCallF m_logged (aCons (eVar 3) (aCons (eBin gIx (eVar 7) (eC (.int 1))) aNil))) (sIf (tOrF (tVal (eBin gNeS (eA gStr (aCons (eVar 9) aNil)) (eA gStr (aCons (eVar 6) aNil)))) (tVal (eBin gNe (eVar 7) (eA gLst (aCons (eVar 4) (aCons (eVar 5) aNil))))))
  (sRet (eC (.bl false)))
  sNx) (eCallF m_logged (aCons (eVar 3) (aCons (eBin gIx (eVar 9) (eC (.int 0))) aNil))) (eCallF m_grown (aCons (eVar 3) (aCons (eBin gIx (eVar 9) (eC (.int 1))) aNil))) (sIf (tOrF (tVal (eBin gNe (eVar 10) (eA gLst (aCons (eVar 4) (aCons (eVar 5) aNil))))) (tVal (eBin gNe (eVar 9) (eVar 6))))
  (sRet (eC (.bl false)))
  sNx))
include h
theorem turn_run {scr k P t : D} {S : Ss} (hS : frzAll S = stL (.va scr) (.va k) (.va P) count kv (.va t) .un .un .un) : turnF S = some (.nx, stL (.va scr) (.va k) (.va P) count kv (.va t) .un .un .un) := by
  unfold turnF sFrz
  rw [hS]
  obtain ⟨tx, htx⟩ := str_two (g_short h) (l_short h)
  have ok2 : ∀ a b : Kq, okD 40 (.lst [.lst (kqD a), .lst (kqD b)]) = true := fun a b => by simp [okD, okA, okA_kq 36]
  have e1 := callF_tells (call_g h) (fs := aCons (eVar 3) (aCons (eBin gIx (eVar 7) (eC (.int 0))) aNil)) (S := stL (.va scr) (.va k) (.va P) count kv (.va t) .un .un .un) (S1 := stL (.va scr) (.va k) (.va P) count kv (.va t) .un .un .un) rfl
  have e2 := callF_tells (call_l h) (fs := aCons (eVar 3) (aCons (eBin gIx (eVar 7) (eC (.int 1))) aNil)) (S := stL (.va scr) (.va k) (.va P) count kv (.va t) .un .un .un) (S1 := stL (.va scr) (.va k) (.va P) count kv (.va t) .un .un .un) rfl
  have t1 : tOrF (tVal (eBin gNeS (eA gStr (aCons (eVar 9) aNil)) (eA gStr (aCons (eVar 6) aNil)))) (tVal (eBin gNe (eVar 7) (eA gLst (aCons (eVar 4) (aCons (eVar 5) aNil))))) (stL (.va scr) (.va k) (.va P) count kv (.va t) (.va (duesD kv)) .un .un) =
      some (false, stL (.va scr) (.va k) (.va P) count kv (.va t) (.va (duesD kv)) .un .un) := by
    refine tOrF_no (S1 := stL (.va scr) (.va k) (.va P) count kv (.va t) (.va (duesD kv)) .un .un) (tVal_of (eBin_of (eA_of (ds := [duesD kv]) rfl htx) (eA_of (ds := [duesD kv]) rfl htx) ?_)) (tVal_of (eBin_of (a := handD kv) (b := handD kv) rfl rfl (gNe_refl (ok2 _ _))))
    show some (D.bl (!decide (tx = tx))) = _
    simp
  have e3 := callF_tells (call_lg h) (fs := aCons (eVar 3) (aCons (eBin gIx (eVar 9) (eC (.int 0))) aNil)) (S := stL (.va scr) (.va k) (.va P) count kv (.va t) (.va (duesD kv)) .un .un) (S1 := stL (.va scr) (.va k) (.va P) count kv (.va t) (.va (duesD kv)) .un .un) rfl
  have e4 := callF_tells (call_gl h) (fs := aCons (eVar 3) (aCons (eBin gIx (eVar 9) (eC (.int 1))) aNil)) (S := stL (.va scr) (.va k) (.va P) count kv (.va t) (.va (duesD kv)) .un .un) (S1 := stL (.va scr) (.va k) (.va P) count kv (.va t) (.va (duesD kv)) .un .un) rfl
  have t2 : tOrF (tVal (eBin gNe (eVar 10) (eA gLst (aCons (eVar 4) (aCons (eVar 5) aNil))))) (tVal (eBin gNe (eVar 9) (eVar 6))) (stL (.va scr) (.va k) (.va P) count kv (.va t) (.va (duesD kv)) (.va (handD kv)) .un) =
      some (false, stL (.va scr) (.va k) (.va P) count kv (.va t) (.va (duesD kv)) (.va (handD kv)) .un) :=
    tOrF_no (S1 := stL (.va scr) (.va k) (.va P) count kv (.va t) (.va (duesD kv)) (.va (handD kv)) .un) (tVal_of (eBin_of (a := handD kv) (b := handD kv) rfl rfl (gNe_refl (ok2 _ _)))) (tVal_of (eBin_of (a := duesD kv) (b := duesD kv) rfl rfl (gNe_refl (ok2 _ _))))
  exact sTurn_of (S3 := stL (.va scr) (.va k) (.va P) count kv (.va t) (.va (duesD kv)) .un .un) (S6 := stL (.va scr) (.va k) (.va P) count kv (.va t) (.va (duesD kv)) (.va (handD kv)) .un) rfl e1 e2 (sIf_no t1 rfl) rfl e3 e4 (sIf_no t2 rfl) rfl
end
end Sp
namespace Sp
open Sw Sw.Wd
noncomputable def cellF : SF := (sSeq (sSetF 2 (eCallF m__law_purse (aCons (eCall m__law_at (aCons (eVar 0) (aCons (eVar 1) aNil))) (aCons (eVar 1) aNil))))
  (sSeq (sSet 3 (eBin gAdd (eC (.int 1)) (eCallO [some 2, none] m__law_take (aOwn 2 (aCons (eC (.int 4)) aNil)))))
  (sSeq (sSet 4 (eCallO [some 2, none] m__law_drawn (aOwn 2 (aCons (eVar 3) aNil))))
  (sSeq (sSet 5 (eBin gAdd (eA gLst (aCons (eA gTup (aCons (eA gTup aNil) (aCons (eNf (eA gTup (aCons (eC (.int 1)) (aCons (eC (.int 1)) aNil)))) aNil))) aNil)) (eVar 4)))
  (sSeq (sSet 6 (eA gLst (aCons (eCall m__law_grown (aCons (eVar 4) aNil)) (aCons (eCall m__law_logged (aCons (eVar 5) aNil)) aNil))))
  (sSeq (sSet 7 (eA gLst (aCons (eA gList (aCons (eVar 4) aNil)) (aCons (eA gList (aCons (eVar 5) aNil)) aNil))))
  (sFor (iR1 (aCons (eC (.int 2)) aNil)) (gNm 8) turnF)))))))
theorem turns_run {count : Int} {kv : Kq} (h : Drawn count kv) {scr k P : D} {t : Sl} (ht : frzS t = t) : ∃ t', sFor (iR1 (aCons (eC (.int 2)) aNil)) (gNm 8) turnF (stL (.va scr) (.va k) (.ow P) count kv t .un .un .un) = some (.nx, stL (.va scr) (.va k) (.va P) count kv (.va t') .un .un .un) := by
  have ei : iR1 (aCons (eC (.int 2)) aNil) (stL (.va scr) (.va k) (.ow P) count kv t .un .un .un) = some ([.int 0, .int 1], stL (.va scr) (.va k) (.ow P) count kv t .un .un .un) := by
    unfold iR1
    have : aCons (eC (.int 2)) aNil (stL (.va scr) (.va k) (.ow P) count kv t .un .un .un) = some ([.int 2], stL (.va scr) (.va k) (.ow P) count kv t .un .un .un) := rfl
    rw [this]
    simp only [bd_some]
    rw [if_pos (by decide)]
    rfl
  refine ⟨.int 1, ?_⟩
  unfold sFor
  rw [ei]
  simp only [bd_some]
  unfold forL
  have g1 : gNm 8 (.int 0) (stL (.va scr) (.va k) (.ow P) count kv t .un .un .un) = some (stL (.va scr) (.va k) (.ow P) count kv (.va (.int 0)) .un .un .un) := rfl
  rw [g1]
  simp only [turn_run h (scr := scr) (k := k) (P := P) (t := .int 0) (S := stL (.va scr) (.va k) (.ow P) count kv (.va (.int 0)) .un .un .un) rfl]
  unfold forL
  have g2 : gNm 8 (.int 1) (stL (.va scr) (.va k) (.va P) count kv (.va (.int 0)) .un .un .un) = some (stL (.va scr) (.va k) (.va P) count kv (.va (.int 1)) .un .un .un) := rfl
  rw [g2]
  simp only [turn_run h (scr := scr) (k := k) (P := P) (t := .int 1) (S := stL (.va scr) (.va k) (.va P) count kv (.va (.int 1)) .un .un .un) rfl]
  rfl
def InvK (ns : List Int) (S : Ss) : Prop := ∃ s1 s2 s3 s4 s5 s6 s7 t, frzS t = t ∧ S = [.va (.scr ns), s1, s2, s3, s4, s5, s6, s7, t, .un, .un, .un]
theorem cell_run (ns : List Int) (k : Nat) (hk : k < 2) {S : Ss} (hS : InvK ns S) : ∃ S', InvK ns S' ∧ cellF (S.set 1 (.va (.int (k : Int)))) = some (.nx, S') := by
  obtain ⟨s1, s2, s3, s4, s5, s6, s7, t, ht, rfl⟩ := hS
  obtain ⟨cell, ec⟩ := at_tells ns k hk
  obtain ⟨P, hP, ep⟩ := purse_tells cell k hk
  have e1 := callF_tells ep (aCons_of (ec.says (aCons (eVar 0) (aCons (eVar 1) aNil)) [.va (.scr ns), .va (.int (k : Int)), s2, s3, s4, s5, s6, s7, t, .un, .un, .un] [.va (.scr ns), .va (.int (k : Int)), s2, s3, s4, s5, s6, s7, t, .un, .un, .un] rfl) (rfl : aCons (eVar 1) aNil [.va (.scr ns), .va (.int (k : Int)), s2, s3, s4, s5, s6, s7, t, .un, .un, .un] = some ([.int (k : Int)], [.va (.scr ns), .va (.int (k : Int)), s2, s3, s4, s5, s6, s7, t, .un, .un, .un])))
  obtain ⟨g, P1, g1, g2, p1, e2⟩ := take_call (i := 2) (S := [.va (.scr ns), .va (.int (k : Int)), .ow P, s3, s4, s5, s6, s7, t, .un, .un, .un]) (e := eC (.int 4)) (many := 4) hP (by decide) (by decide) (by unfold Nb; decide) rfl rfl
  obtain ⟨kv, P2, h, e3⟩ := drawn_call (i := 2) (S := [.va (.scr ns), .va (.int (k : Int)), .ow P1, .va (.int (1 + g)), s4, s5, s6, s7, t, .un, .un, .un]) (e := eVar 3) (count := 1 + g) p1 (by decide) (by omega) (by omega) rfl rfl
  have e4 : eBin gAdd (eA gLst (aCons (eA gTup (aCons (eA gTup aNil) (aCons (eNf (eA gTup (aCons (eC (.int 1)) (aCons (eC (.int 1)) aNil)))) aNil))) aNil)) (eVar 4) [.va (.scr ns), .va (.int (k : Int)), .ow P2, .va (.int (1 + g)), .va (oneD kv), s5, s6, s7, t, .un, .un, .un] =
      some (wholeD kv, [.va (.scr ns), .va (.int (k : Int)), .ow P2, .va (.int (1 + g)), .va (oneD kv), s5, s6, s7, t, .un, .un, .un]) := by
    refine eBin_of (a := .lst [tD1 ([], 1)]) (b := oneD kv) (eA_of (aCons_of (eA_of (aCons_of (eA_of rfl rfl) (aCons_of (nf1 (n := 1) (m := 1) (q := 1) rfl rfl _) rfl)) (gTup2 _ _)) rfl) rfl) rfl ?_
    have hl : [tD1 (([] : W), (1 : Rat))].length + (kqD (told kv)).length ≤ 16777216 := by
      have := (w_len h)
      have e : (kqD (told kv)).length = (told kv).length := by unfold kqD; rw [List.length_map]
      simp only [List.length_cons, List.length_nil] at this ⊢
      rw [e]; omega
    show (if [tD1 (([] : W), (1 : Rat))].length + (kqD (told kv)).length ≤ 16777216 then some (D.lst ([tD1 ([], 1)] ++ kqD (told kv))) else none) = _
    rw [if_pos hl]
    rfl
  have e5 : eA gLst (aCons (eCall m__law_grown (aCons (eVar 4) aNil)) (aCons (eCall m__law_logged (aCons (eVar 5) aNil)) aNil)) [.va (.scr ns), .va (.int (k : Int)), .ow P2, .va (.int (1 + g)), .va (oneD kv), .va (wholeD kv), s6, s7, t, .un, .un, .un] =
      some (duesD kv, [.va (.scr ns), .va (.int (k : Int)), .ow P2, .va (.int (1 + g)), .va (oneD kv), .va (wholeD kv), s6, s7, t, .un, .un, .un]) :=
    eA_of (aCons_of (law_g h (aCons (eVar 4) aNil) _ [.va (.scr ns), .va (.int (k : Int)), .ow P2, .va (.int (1 + g)), .va (oneD kv), .va (wholeD kv), s6, s7, t, .un, .un, .un] rfl) (aCons_of (law_l h (aCons (eVar 5) aNil) _ [.va (.scr ns), .va (.int (k : Int)), .ow P2, .va (.int (1 + g)), .va (oneD kv), .va (wholeD kv), s6, s7, t, .un, .un, .un] rfl) rfl)) rfl
  have e6 : eA gLst (aCons (eA gList (aCons (eVar 4) aNil)) (aCons (eA gList (aCons (eVar 5) aNil)) aNil)) [.va (.scr ns), .va (.int (k : Int)), .ow P2, .va (.int (1 + g)), .va (oneD kv), .va (wholeD kv), .va (duesD kv), s7, t, .un, .un, .un] =
      some (handD kv, [.va (.scr ns), .va (.int (k : Int)), .ow P2, .va (.int (1 + g)), .va (oneD kv), .va (wholeD kv), .va (duesD kv), s7, t, .un, .un, .un]) := rfl
  obtain ⟨t', e7⟩ := turns_run h (scr := .scr ns) (k := .int (k : Int)) (P := P2) ht
  refine ⟨stL (.va (.scr ns)) (.va (.int (k : Int))) (.va P2) (1 + g) kv (.va t') .un .un .un, ⟨.va (.int (k : Int)), .va P2, .va (.int (1 + g)), .va (oneD kv), .va (wholeD kv), .va (duesD kv), .va (handD kv), .va t', rfl, rfl⟩, ?_⟩
  unfold cellF
  exact sSeq_of (sSetF_of e1) (sSeq_of (sSet_of (eBin_of rfl e2 rfl)) (sSeq_of (sSet_of e3) (sSeq_of (sSet_of e4) (sSeq_of (sSet_of e5) (sSeq_of (sSet_of e6) e7)))))
theorem cells_run (ns : List Int) : ∀ (l : List Nat), (∀ k ∈ l, k < 2) → ∀ S, InvK ns S → ∃ S', InvK ns S' ∧ forL (gNm 1) cellF (l.map fun (k : Nat) => D.int (0 + (k : Int))) S = some (.nx, S')
  | [], _, S, hS => ⟨S, hS, rfl⟩
  | k :: l, hl, S, hS => by
    obtain ⟨S1, h1, e1⟩ := cell_run ns k (hl k (List.mem_cons_self ..)) hS
    obtain ⟨S2, h2, e2⟩ := cells_run ns l (fun j hj => hl j (List.mem_cons_of_mem _ hj)) S1 h1
    refine ⟨S2, h2, ?_⟩
    rw [List.map_cons]
    unfold forL
    have eg : gNm 1 (.int (0 + (k : Int))) S = some (S.set 1 (.va (.int (k : Int)))) := by
      rw [Int.zero_add]; rfl
    rw [eg]
    simp only [e1]
    exact e2
theorem law_true (ns : List Int) (h : ns.length ≤ 63) : ∃ S', m_law [.va (.scr ns)] = some (.ret (.bl true), S') := by
  suffices hb : ∃ S', b_law [.va (.scr ns), .un, .un, .un, .un, .un, .un, .un, .un, .un, .un, .un] = some (.ret (.bl true), S') by
    obtain ⟨S', e⟩ := hb
    exact ⟨_, fnM_of rfl e⟩
  have ei : ∃ n : Nat, n ≤ 2 ∧ iR1 (aCons (eBin gAdd (eC (.int 1)) (eA gInt1 (aCons (eBin gGt (eA gLen (aCons (eVar 0) aNil)) (eC (.int 1))) aNil))) aNil) [.va (.scr ns), .un, .un, .un, .un, .un, .un, .un, .un, .un, .un, .un] =
      some (rngD 0 n, [.va (.scr ns), .un, .un, .un, .un, .un, .un, .un, .un, .un, .un, .un]) := by
    have el : eBin gGt (eA gLen (aCons (eVar 0) aNil)) (eC (.int 1)) [.va (.scr ns), .un, .un, .un, .un, .un, .un, .un, .un, .un, .un, .un] = some (.bl (decide ((1 : Int) < ns.length)), [.va (.scr ns), .un, .un, .un, .un, .un, .un, .un, .un, .un, .un, .un]) := eBin_of (a := .int ns.length) (b := .int 1) rfl rfl rfl
    by_cases hn : (1 : Int) < ns.length
    · rw [decide_eq_true hn] at el
      refine ⟨2, by decide, ?_⟩
      unfold iR1
      rw [aCons_of (eBin_of (a := .int 1) (b := .int 1) rfl (eA_of (aCons_of el rfl) rfl) rfl) rfl]
      simp only [bd_some]
      rw [if_pos (by decide)]
      rfl
    · rw [decide_eq_false hn] at el
      refine ⟨1, by decide, ?_⟩
      unfold iR1
      rw [aCons_of (eBin_of (a := .int 1) (b := .int 0) rfl (eA_of (aCons_of el rfl) rfl) rfl) rfl]
      simp only [bd_some]
      rw [if_pos (by decide)]
      rfl
  obtain ⟨n, hn, ei⟩ := ei
  obtain ⟨S', _, e⟩ := cells_run ns (List.range n) (fun k hk => by have := List.mem_range.mp hk; omega) [.va (.scr ns), .un, .un, .un, .un, .un, .un, .un, .un, .un, .un, .un] ⟨.un, .un, .un, .un, .un, .un, .un, .un, rfl, rfl⟩
  have ef : sFor (iR1 (aCons (eBin gAdd (eC (.int 1)) (eA gInt1 (aCons (eBin gGt (eA gLen (aCons (eVar 0) aNil)) (eC (.int 1))) aNil))) aNil)) (gNm 1) cellF [.va (.scr ns), .un, .un, .un, .un, .un, .un, .un, .un, .un, .un, .un] = some (.nx, S') := by
    unfold sFor
    rw [ei]
    exact e
  exact ⟨S', sSeq_of ef (sRet_of rfl)⟩
end Sp
namespace Sp
open PySem PySem.Spec PyProof.Rows L2 Sw
theorem law_fn {Pg : Program} {w : World} {K : PySem.W.Frag} {mg : Str → Option Value} {fa : Addr} (T : Tx K mg) (h : mg "law" = some (.ref fa)) :
    ∃ fd : FuncData, (∀ (s : Shared) (u : Value), BindsTo s fd ⟨[u], []⟩ [("_law_script", u)]) ∧ ∀ base : Heap, K.In base → base.Ns mainGlobals mg → FnAt callerA Pg w K mg base fa fd ["_law_script"] (spM ⟨K, mg⟩ 1 m_law) := by
  have e := h.symm.trans T.law.g
  cases e
  refine ⟨T.law.fd, fun s u => ?_, fun base _ _ => ok_law T⟩
  obtain ⟨oc, od, kV, doc, pm, an, cdv, ct, osl, e, lk, hcd⟩ := T.law.F.ex
  rw [e]
  exact .of_eq rfl
theorem law_goal {Pg : Program} {w : World} {K : PySem.W.Frag} {h : Heap} {mg : Str → Option Value} {fa : Addr} (KX : K.In h) (T : Nonempty (Tx K mg)) (e : mg "law" = some (.ref fa)) :
    ∃ (K : PySem.W.Frag) (fd : FuncData), K.In h ∧ (∀ (s : Shared) (u : Value), BindsTo s fd ⟨[u], []⟩ [("_law_script", u)]) ∧ ∀ base : Heap, K.In base → base.Ns mainGlobals mg → FnAt callerA Pg w K mg base fa fd ["_law_script"] (spM ⟨K, mg⟩ 1 m_law) := by
  obtain ⟨T⟩ := T
  obtain ⟨fd, h1, h2⟩ := law_fn (Pg := Pg) (w := w) T e
  exact ⟨K, fd, KX, h1, h2⟩
end Sp
open PySem PySem.W PyProof.Rows in
set_option maxRecDepth 100000 in
set_option maxHeartbeats 0 in
theorem PySem.Challenge.cw_swaprest_k58_grown_and_logged_sums_holds : PySem.Challenge.rw_swaprest_k58_grown_and_logged_sums.Holds := by
  w_on; o_law; k_head; (case hw => w_witness2)
  k_fill
  refine Sw.walk_law (l := PySem.Challenge.rw_swaprest_k58_grown_and_logged_sums) (n := 63) (x := "_law_script") rfl (by decide) rfl Sp.law_true ?F
  case F =>
    intro w mg fa h Y G hmg
    refine Sp.law_goal (PySem.W.kIn_of Y) ?T hmg
    case T =>
      have KX := PySem.W.kIn_of Y
      refine' ⟨⟨(Sw.mkFn KX G (fun _ _ _ _ _ _ us hl => match us, hl with | [_], _ => rfl) ?a1 ?l1 ?c1 ?k1),
        (Sw.mkFn KX G (fun _ _ _ _ _ _ us hl => match us, hl with | [_, _], _ => rfl) ?a2 ?l2 ?c2 ?k2),
        (Sw.mkFn KX G (fun _ _ _ _ _ _ us hl => match us, hl with | [_, _], _ => rfl) ?a3 ?l3 ?c3 ?k3),
        (Sw.mkFn KX G (fun _ _ _ _ _ _ us hl => match us, hl with | [_], _ => rfl) ?a4 ?l4 ?c4 ?k4),
        (Sw.mkFn KX G (fun _ _ _ _ _ _ us hl => match us, hl with | [_, _], _ => rfl) ?a5 ?l5 ?c5 ?k5),
        (Sw.mkFn KX G (fun _ _ _ _ _ _ us hl => match us, hl with | [_, _], _ => rfl) ?a6 ?l6 ?c6 ?k6),
        (Sw.mkFn KX G (fun _ _ _ _ _ _ us hl => match us, hl with | [_, _], _ => rfl) ?a7 ?l7 ?c7 ?k7),
        (Sw.mkFn KX G (fun _ _ _ _ _ _ us hl => match us, hl with | [_, _], _ => rfl) ?a8 ?l8 ?c8 ?k8),
        (Sw.mkFn KX G (fun _ _ _ _ _ _ us hl => match us, hl with | [_, _], _ => rfl) ?a9 ?l9 ?c9 ?k9),
        (Sw.mkFn KX G (fun _ _ _ _ _ _ us hl => match us, hl with | [_], _ => rfl) ?a10 ?l10 ?c10 ?k10),
        (Sw.mkFn KX G (fun _ _ _ _ _ _ us hl => match us, hl with | [_, _], _ => rfl) ?a11 ?l11 ?c11 ?k11),
        (Sw.mkFn KX G (fun _ _ _ _ _ _ us hl => match us, hl with | [_], _ => rfl) ?a12 ?l12 ?c12 ?k12),
        (Sw.mkFn KX G (fun _ _ _ _ _ _ us hl => match us, hl with | [_], _ => rfl) ?a13 ?l13 ?c13 ?k13),
        (Sw.mkFn KX G (fun _ _ _ _ _ _ us hl => match us, hl with | [_, _, _], _ => rfl) ?a14 ?l14 ?c14 ?k14),
        (Sw.mkFn KX G (fun _ _ _ _ _ _ us hl => match us, hl with | [_], _ => rfl) ?a15 ?l15 ?c15 ?k15),
        (Sw.mkFn KX G (fun _ _ _ _ _ _ us hl => match us, hl with | [_, _, _], _ => rfl) ?a16 ?l16 ?c16 ?k16),
        (Sw.mkFn KX G (fun _ _ _ _ _ _ us hl => match us, hl with | [_, _, _], _ => rfl) ?a17 ?l17 ?c17 ?k17),
        (Sw.mkFn KX G (fun _ _ _ _ _ _ us hl => match us, hl with | [_, _], _ => rfl) ?a18 ?l18 ?c18 ?k18),
        (Sw.mkFn KX G (fun _ _ _ _ _ _ us hl => match us, hl with | [_, _], _ => rfl) ?a19 ?l19 ?c19 ?k19),
        (Sw.mkFn KX G (fun _ _ _ _ _ _ us hl => match us, hl with | [_, _], _ => rfl) ?a20 ?l20 ?c20 ?k20),
        (Sw.mkFn KX G (fun _ _ _ _ _ _ us hl => match us, hl with | [_, _], _ => rfl) ?a21 ?l21 ?c21 ?k21),
        (Sw.mkFn KX G (fun _ _ _ _ _ _ us hl => match us, hl with | [_, _], _ => rfl) ?a22 ?l22 ?c22 ?k22),
        (Sw.mkFn KX G (fun _ _ _ _ _ _ us hl => match us, hl with | [_, _], _ => rfl) ?a23 ?l23 ?c23 ?k23),
        (Sw.mkFn KX G (fun _ _ _ _ _ _ us hl => match us, hl with | [_, _], _ => rfl) ?a24 ?l24 ?c24 ?k24),
        (Sw.mkFn KX G (fun _ _ _ _ _ _ us hl => match us, hl with | [_, _], _ => rfl) ?a25 ?l25 ?c25 ?k25),
        (Sw.mkFn KX G (fun _ _ _ _ _ _ us hl => match us, hl with | [_, _], _ => rfl) ?a26 ?l26 ?c26 ?k26),
        (Sw.mkFn KX G (fun _ _ _ _ _ _ us hl => match us, hl with | [_, _], _ => rfl) ?a27 ?l27 ?c27 ?k27),
        (Sw.mkFn KX G (fun _ _ _ _ _ _ us hl => match us, hl with | [_, _], _ => rfl) ?a28 ?l28 ?c28 ?k28),
        (Sw.mkFn KX G (fun _ _ _ _ _ _ us hl => match us, hl with | [_], _ => rfl) ?a29 ?l29 ?c29 ?k29),
        (Sw.mkFn KX G (fun _ _ _ _ _ _ us hl => match us, hl with | [_], _ => rfl) ?a30 ?l30 ?c30 ?k30),
        (Sw.mkFn KX G (fun _ _ _ _ _ _ us hl => match us, hl with | [_], _ => rfl) ?a31 ?l31 ?c31 ?k31),
        (Sw.mkFn KX G (fun _ _ _ _ _ _ us hl => match us, hl with | [_, _, _], _ => rfl) ?a32 ?l32 ?c32 ?k32),
        (Sw.mkFn KX G (fun _ _ _ _ _ _ us hl => match us, hl with | [_, _], _ => rfl) ?a33 ?l33 ?c33 ?k33),
        (Sw.mkFn KX G (fun _ _ _ _ _ _ us hl => match us, hl with | [_, _], _ => rfl) ?a34 ?l34 ?c34 ?k34),
        (Sw.mkFn KX G (fun _ _ _ _ _ _ us hl => match us, hl with | [_], _ => rfl) ?a35 ?l35 ?c35 ?k35),
        (Sw.mkFn KX G (fun _ _ _ _ _ _ us hl => match us, hl with | [_], _ => rfl) ?a36 ?l36 ?c36 ?k36),
        (Sw.mkFn KX G (fun _ _ _ _ _ _ us hl => match us, hl with | [_, _], _ => rfl) ?a37 ?l37 ?c37 ?k37),
        (Sw.mkFn KX G (fun _ _ _ _ _ _ us hl => match us, hl with | [_], _ => rfl) ?a38 ?l38 ?c38 ?k38),
        PySem.W.mg_none_of KX G ?z1,
        PySem.W.mg_none_of KX G ?z2,
        PySem.W.mg_none_of KX G ?z3,
        PySem.W.mg_none_of KX G ?z4,
        PySem.W.mg_none_of KX G ?z5,
        PySem.W.mg_none_of KX G ?z6,
        PySem.W.mg_none_of KX G ?z7,
        PySem.W.mg_none_of KX G ?z8,
        PySem.W.mg_none_of KX G ?z9,
        PySem.W.mg_none_of KX G ?z10,
        PySem.W.mg_none_of KX G ?z11,
        PySem.W.mg_none_of KX G ?z12,
        Sw.mk_cint KX G ?z13,
        Sw.mk_cint KX G ?z14,
        Sw.mk_cfr KX G ?z15 ?y15,
        Sw.mk_cfr KX G ?z16 ?y16⟩⟩
      (case a1 => k_is); (case l1 => k_is); (case c1 => k_is); (case k1 => k_is)
      (case a2 => k_is); (case l2 => k_is); (case c2 => k_is); (case k2 => k_is)
      (case a3 => k_is); (case l3 => k_is); (case c3 => k_is); (case k3 => k_is)
      (case a4 => k_is); (case l4 => k_is); (case c4 => k_is); (case k4 => k_is)
      (case a5 => k_is); (case l5 => k_is); (case c5 => k_is); (case k5 => k_is)
      (case a6 => k_is); (case l6 => k_is); (case c6 => k_is); (case k6 => k_is)
      (case a7 => k_is); (case l7 => k_is); (case c7 => k_is); (case k7 => k_is)
      (case a8 => k_is); (case l8 => k_is); (case c8 => k_is); (case k8 => k_is)
      (case a9 => k_is); (case l9 => k_is); (case c9 => k_is); (case k9 => k_is)
      (case a10 => k_is); (case l10 => k_is); (case c10 => k_is); (case k10 => k_is)
      (case a11 => k_is); (case l11 => k_is); (case c11 => k_is); (case k11 => k_is)
      (case a12 => k_is); (case l12 => k_is); (case c12 => k_is); (case k12 => k_is)
      (case a13 => k_is); (case l13 => k_is); (case c13 => k_is); (case k13 => k_is)
      (case a14 => k_is); (case l14 => k_is); (case c14 => k_is); (case k14 => k_is)
      (case a15 => k_is); (case l15 => k_is); (case c15 => k_is); (case k15 => k_is)
      (case a16 => k_is); (case l16 => k_is); (case c16 => k_is); (case k16 => k_is)
      (case a17 => k_is); (case l17 => k_is); (case c17 => k_is); (case k17 => k_is)
      (case a18 => k_is); (case l18 => k_is); (case c18 => k_is); (case k18 => k_is)
      (case a19 => k_is); (case l19 => k_is); (case c19 => k_is); (case k19 => k_is)
      (case a20 => k_is); (case l20 => k_is); (case c20 => k_is); (case k20 => k_is)
      (case a21 => k_is); (case l21 => k_is); (case c21 => k_is); (case k21 => k_is)
      (case a22 => k_is); (case l22 => k_is); (case c22 => k_is); (case k22 => k_is)
      (case a23 => k_is); (case l23 => k_is); (case c23 => k_is); (case k23 => k_is)
      (case a24 => k_is); (case l24 => k_is); (case c24 => k_is); (case k24 => k_is)
      (case a25 => k_is); (case l25 => k_is); (case c25 => k_is); (case k25 => k_is)
      (case a26 => k_is); (case l26 => k_is); (case c26 => k_is); (case k26 => k_is)
      (case a27 => k_is); (case l27 => k_is); (case c27 => k_is); (case k27 => k_is)
      (case a28 => k_is); (case l28 => k_is); (case c28 => k_is); (case k28 => k_is)
      (case a29 => k_is); (case l29 => k_is); (case c29 => k_is); (case k29 => k_is)
      (case a30 => k_is); (case l30 => k_is); (case c30 => k_is); (case k30 => k_is)
      (case a31 => k_is); (case l31 => k_is); (case c31 => k_is); (case k31 => k_is)
      (case a32 => k_is); (case l32 => k_is); (case c32 => k_is); (case k32 => k_is)
      (case a33 => k_is); (case l33 => k_is); (case c33 => k_is); (case k33 => k_is)
      (case a34 => k_is); (case l34 => k_is); (case c34 => k_is); (case k34 => k_is)
      (case a35 => k_is); (case l35 => k_is); (case c35 => k_is); (case k35 => k_is)
      (case a36 => k_is); (case l36 => k_is); (case c36 => k_is); (case k36 => k_is)
      (case a37 => k_is); (case l37 => k_is); (case c37 => k_is); (case k37 => k_is)
      (case a38 => k_is); (case l38 => k_is); (case c38 => k_is); (case k38 => k_is)
      (case z1 => k_is)
      (case z2 => k_is)
      (case z3 => k_is)
      (case z4 => k_is)
      (case z5 => k_is)
      (case z6 => k_is)
      (case z7 => k_is)
      (case z8 => k_is)
      (case z9 => k_is)
      (case z10 => k_is)
      (case z11 => k_is)
      (case z12 => k_is)
      (case z13 => k_is)
      (case z14 => k_is)
      (case z15 => k_is); (case y15 => k_is)
      (case z16 => k_is); (case y16 => k_is)
#print axioms PySem.Challenge.cw_swaprest_k58_grown_and_logged_sums_holds
