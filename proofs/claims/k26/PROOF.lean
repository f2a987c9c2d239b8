import PyProof.Rows.All
import Wide.All
import OpenK.AllK
import Wide.FinOn
import HandS.ForMost
import HandS.ForExc
import HandS.ExcCtx
import HandS.CallSlots
import HandS.Codes
import HandS.ExcInit
import HandS.Wide
import HandS.IsInst
import HandS.StrMore
import HandS.FStr
import HandS.Style
import HandS.Flow
import HandS.Strs
import HandS.Conv
import HandS.More
import HandS.Walk
import PyProof.ReprRoads
import HandS.TupAny
import HandS.Ends
import HandS.EndBits
import HandS.OwnEq
import HandS.HotCalls
import PyProof.InstNe
import HandS.Iter
import KE.GoesEnum
import HandS.WideBits
import KE.KExcSuper
import KE.KExcIs
import HandS.ExcField
import HandS.Deep
import HandS.ExcIs
import KE.RegKIsAll
import KE.KExcLine
import PySem.Challenge.RW_calledin_k26_rules_refused
set_option Elab.async false
set_option linter.all false
set_option autoImplicit false
set_option maxRecDepth 100000
set_option maxHeartbeats 4000000
/-! DL0: plain data D over the hand layer: how a datum lies in the abstract heap (Rep), cells that change (Hs), the state's relation (GRel, ERel), how it grows (Ext), readings over plain data (rd, rdS). -/
namespace DL
open PySem L2

inductive D where
  | non | bl (b : Bool) | int (i : Int) | str (x : Str) | ty (n : String) | gl (a : Addr)
  | tup (ds : List D) | lst (ds : List D) | rol (ds : List D) | dic (ks : List Key) (ds : List D)
  | obj (c : Nat) (ns : List Str) (ds : List D) | ref (i : Nat) | exc (c : Nat) (ns : List Str) (ds : List D)
inductive Cell where
  | lst (ds : List D) | ins (c : Nat) (ns : List Str) (ds : List D) | dic (ks : List Key) (ds : List D) | dead
abbrev Env := List (Option D)
abbrev Hs := List Cell
inductive EC where
  | own (c : Nat) | bt (n : String)
structure Exc where
  c : EC
  ns : List Str
  ds : List D
abbrev PQ := D → Hs → Prop
abbrev PL := List D → Hs → Prop
abbrev PX := Exc → Hs → Prop
abbrev wE := Env → Hs → PQ → PX → Prop
abbrev wL := Env → Hs → PL → PX → Prop
abbrev wT := Env → Hs → (Bool → Hs → Prop) → PX → Prop
structure Dn where
  nx : Env → Hs → Prop
  rt : PQ
  bk : Env → Hs → Prop := fun _ _ => False
  ct : Env → Hs → Prop := fun _ _ => False
  ex : Exc → Env → Hs → Prop := fun _ _ _ => False
abbrev wS := Dn → Env → Hs → Prop
/-- a def's contract: arguments, cells, what is wanted of the result, of an exception -/
abbrev Ct := List D → Hs → PQ → PX → Prop

/-- at a: an exception of the class at C, its dict at dd -/
def exT (a C : Addr) (dd : Option Addr) : HO := .ext fun h => ∃ oe, h.get? a = some oe ∧ oe.cls = .ref C ∧ oe.dict = dd ∧ ∃ vs, oe.data = .fields vs ∧ vs[2]? = some .none
mutual
def Rep (K : PySem.W.Frag) (CA : Nat → Addr) (ρ : List Addr) (F : Hp) : D → V → Prop
  | .non, v => v = .non
  | .bl b, v => v = .bl b
  | .int i, v => v = .int i
  | .str x, v => v = .str x
  | .ty n, v => v = .ty n
  | .gl a, v => v = .ref a
  | .tup ds, v => ∃ a xs, v = .ref a ∧ SqT K F a xs ∧ Reps K CA ρ F ds xs
  | .lst ds, v => ∃ a xs, v = .ref a ∧ F a = some (.lst xs) ∧ Reps K CA ρ F ds xs
  | .rol ds, v => ∃ a xs, v = .ref a ∧ SqL K F a xs ∧ Reps K CA ρ F ds xs
  | .dic ks ds, v => ∃ a xs, v = .ref a ∧ F a = some (.dK (ks.zip xs)) ∧ ks.length = ds.length ∧ Reps K CA ρ F ds xs
  | .obj c ns ds, v => ∃ a dx xs, v = .ref a ∧ F a = some (.ins (CA c) dx (ns.zip xs)) ∧ ns.length = ds.length ∧ Reps K CA ρ F ds xs
  | .ref i, v => ∃ a, ρ[i]? = some a ∧ v = .ref a
  | .exc c ns ds, v => ∃ a dd, v = .ref a ∧ F a = some (exT a (CA c) dd) ∧ ((dd = none ∧ ns = [] ∧ ds = []) ∨ ∃ d xs, dd = some d ∧ F d = some (.xd (ns.zip xs)) ∧ ns.length = ds.length ∧ Reps K CA ρ F ds xs)
def Reps (K : PySem.W.Frag) (CA : Nat → Addr) (ρ : List Addr) (F : Hp) : List D → List V → Prop
  | [], xs => xs = []
  | d :: ds, xs => ∃ v r, xs = v :: r ∧ Rep K CA ρ F d v ∧ Reps K CA ρ F ds r
end

section
variable {K : PySem.W.Frag} {CA : Nat → Addr} {ρ ρ' ρ1 ρ2 : List Addr} {F F' F1 F2 : Hp} {H H' H1 H2 : Hp} {h h' : Hs} {a : Addr} {u : HO}

theorem Rd.sub (s : ∀ a o, F a = some o → F' a = some o) (r : Rd F a u) : Rd F' a u := by
  rcases r with r | ⟨o, r⟩
  · exact .inl (s _ _ r)
  · exact .inr ⟨o, s _ _ r⟩
theorem SqL.sub {xs : List V} (s : ∀ a o, F a = some o → F' a = some o) (r : SqL K F a xs) : SqL K F' a xs := by
  rcases r with r | r
  · exact .inl (Rd.sub s r)
  · exact .inr r
theorem SqT.sub {xs : List V} (s : ∀ a o, F a = some o → F' a = some o) (r : SqT K F a xs) : SqT K F' a xs := by
  rcases r with r | r
  · exact .inl (Rd.sub s r)
  · exact .inr r
mutual
theorem Rep.sub (hp : ∃ l, ρ' = ρ ++ l) (s : ∀ a o, F a = some o → F' a = some o) : ∀ (d : D) (v : V), Rep K CA ρ F d v → Rep K CA ρ' F' d v
  | .non, _, r => r
  | .bl _, _, r => r
  | .int _, _, r => r
  | .str _, _, r => r
  | .ty _, _, r => r
  | .gl _, _, r => r
  | .tup ds, v, ⟨a, xs, e, q, r⟩ => ⟨a, xs, e, SqT.sub s q, Reps.sub hp s ds xs r⟩
  | .lst ds, v, ⟨a, xs, e, q, r⟩ => ⟨a, xs, e, s _ _ q, Reps.sub hp s ds xs r⟩
  | .rol ds, v, ⟨a, xs, e, q, r⟩ => ⟨a, xs, e, SqL.sub s q, Reps.sub hp s ds xs r⟩
  | .dic ks ds, v, ⟨a, xs, e, q, l, r⟩ => ⟨a, xs, e, s _ _ q, l, Reps.sub hp s ds xs r⟩
  | .obj c ns ds, v, ⟨a, dx, xs, e, q, l, r⟩ => ⟨a, dx, xs, e, s _ _ q, l, Reps.sub hp s ds xs r⟩
  | .ref i, v, ⟨a, e, r⟩ => ⟨a, by
      obtain ⟨l, rfl⟩ := hp
      rw [List.getElem?_append_left (List.getElem?_eq_some_iff.mp e).1]
      exact e, r⟩
  | .exc c ns ds, v, ⟨a, dd, e, q, r⟩ => ⟨a, dd, e, s _ _ q, by
      rcases r with r | ⟨d, xs, e1, e2, l, r⟩
      · exact .inl r
      · exact .inr ⟨d, xs, e1, s _ _ e2, l, Reps.sub hp s ds xs r⟩⟩
theorem Reps.sub (hp : ∃ l, ρ' = ρ ++ l) (s : ∀ a o, F a = some o → F' a = some o) : ∀ (ds : List D) (xs : List V), Reps K CA ρ F ds xs → Reps K CA ρ' F' ds xs
  | [], _, r => r
  | d :: ds, xs, ⟨v, r, e, q, t⟩ => ⟨v, r, e, Rep.sub hp s d v q, Reps.sub hp s ds r t⟩
end
theorem Reps.length : ∀ {ds : List D} {xs : List V}, Reps K CA ρ F ds xs → ds.length = xs.length
  | [], xs, e => (show xs = [] from e) ▸ rfl
  | d :: ds, _, ⟨v, r, e, _, t⟩ => by rw [e, List.length_cons, List.length_cons, Reps.length t]
theorem Reps.get : ∀ {ds : List D} {xs : List V} {i : Nat} {d : D}, Reps K CA ρ F ds xs → ds[i]? = some d → ∃ v, xs[i]? = some v ∧ Rep K CA ρ F d v
  | [], _, _, _, _, e => by simp at e
  | d :: ds, _, 0, _, ⟨v, r, e, q, t⟩, z => by
    simp at z
    subst z
    exact ⟨v, by rw [e]; rfl, q⟩
  | d :: ds, _, i + 1, _, ⟨v, r, e, q, t⟩, z => by
    obtain ⟨v', h1, h2⟩ := Reps.get (i := i) t (by simpa using z)
    exact ⟨v', by rw [e]; simpa using h1, h2⟩
theorem Reps.get' : ∀ {ds : List D} {xs : List V} {i : Nat} {v : V}, Reps K CA ρ F ds xs → xs[i]? = some v → ∃ d, ds[i]? = some d ∧ Rep K CA ρ F d v := fun {ds xs i v} r e => by
  have hl := r.length
  have hi : i < ds.length := by
    rw [hl]
    exact (List.getElem?_eq_some_iff.mp e).1
  obtain ⟨v', h1, h2⟩ := r.get (i := i) (d := ds[i]) (by simp [hi])
  rw [e] at h1
  cases h1
  exact ⟨ds[i], by simp [hi], h2⟩
theorem Reps.nil : Reps K CA ρ F [] [] := rfl
theorem Reps.cons {d : D} {v : V} {ds : List D} {xs : List V} (r : Rep K CA ρ F d v) (t : Reps K CA ρ F ds xs) : Reps K CA ρ F (d :: ds) (v :: xs) := ⟨v, xs, rfl, r, t⟩
theorem Reps.append : ∀ {ds es : List D} {xs ys : List V}, Reps K CA ρ F ds xs → Reps K CA ρ F es ys → Reps K CA ρ F (ds ++ es) (xs ++ ys)
  | [], _, _, _, e, t => by
    have e' : _ = [] := e
    rw [e']
    exact t
  | _ :: _, _, _, _, ⟨v, r, e, q, t⟩, t2 => by
    rw [e]
    exact ⟨v, r ++ _, rfl, q, Reps.append t t2⟩
theorem Reps.take : ∀ {ds : List D} {xs : List V} (n : Nat), Reps K CA ρ F ds xs → Reps K CA ρ F (ds.take n) (xs.take n)
  | _, _, 0, _ => by rw [List.take_zero, List.take_zero]; exact Reps.nil
  | [], _, _ + 1, e => by
    have e' : _ = [] := e
    rw [e']
    exact Reps.nil
  | _ :: _, _, n + 1, ⟨v, r, e, q, t⟩ => by
    rw [e]
    exact ⟨v, r.take n, rfl, q, Reps.take n t⟩
theorem Reps.drop : ∀ {ds : List D} {xs : List V} (n : Nat), Reps K CA ρ F ds xs → Reps K CA ρ F (ds.drop n) (xs.drop n)
  | _, _, 0, r => r
  | [], _, _ + 1, e => by
    have e' : _ = [] := e
    rw [e']
    exact Reps.nil
  | _ :: _, _, n + 1, ⟨v, r, e, q, t⟩ => by
    rw [e]
    exact Reps.drop n t
theorem Reps.set {d : D} {v : V} (q : Rep K CA ρ F d v) : ∀ {ds : List D} {xs : List V} (n : Nat), Reps K CA ρ F ds xs → Reps K CA ρ F (ds.set n d) (xs.set n v)
  | [], _, _, e => by
    have e' : _ = [] := e
    rw [e']
    exact Reps.nil
  | _ :: _, _, 0, ⟨v', r, e, _, t⟩ => by
    rw [e]
    exact ⟨v, r, rfl, q, t⟩
  | _ :: _, _, n + 1, ⟨v', r, e, q', t⟩ => by
    rw [e]
    exact ⟨v', r.set n v, rfl, q', Reps.set q n t⟩

theorem nodup_inj : ∀ {l : List Addr} {i j : Nat} {x : Addr}, l.Nodup → l[i]? = some x → l[j]? = some x → i = j
  | [], _, _, _, _, e, _ => by simp at e
  | y :: l, 0, 0, _, _, _, _ => rfl
  | y :: l, 0, j + 1, x, n, e, e' => by
    simp at e e'
    subst e
    exact absurd (List.mem_of_getElem? e') (List.nodup_cons.mp n).1
  | y :: l, i + 1, 0, x, n, e, e' => by
    simp at e e'
    subst e'
    exact absurd (List.mem_of_getElem? e) (List.nodup_cons.mp n).1
  | y :: l, i + 1, j + 1, x, n, e, e' => by
    simp at e e'
    rw [nodup_inj (List.nodup_cons.mp n).2 e e']
/-- a cell that lives -/
def CellOk (K : PySem.W.Frag) (CA : Nat → Addr) (ρ : List Addr) (F : Hp) (a : Addr) (H : Hp) : Cell → Prop
  | .lst ds => ∃ xs, H a = some (.lst xs) ∧ Reps K CA ρ F ds xs
  | .ins c ns ds => ∃ dx xs, H a = some (.ins (CA c) dx (ns.zip xs)) ∧ F dx = some (.own a) ∧ ns.length = ds.length ∧ Reps K CA ρ F ds xs
  | .dic ks ds => ∃ xs, H a = some (.dK (ks.zip xs)) ∧ ks.length = ds.length ∧ Reps K CA ρ F ds xs
  | .dead => True
structure GRel (K : PySem.W.Frag) (CA : Nat → Addr) (ρ : List Addr) (F : Hp) (h : Hs) (H : Hp) : Prop where
  sub : ∀ a o, F a = some o → H a = some o
  len : ρ.length = h.length
  nd : ρ.Nodup
  off : ∀ (i : Nat) (a : Addr), ρ[i]? = some a → F a ≠ none → h[i]? = some .dead
  there : ∀ a ∈ ρ, ∃ o, H a = some o
  cell : ∀ (i : Nat) (c : Cell) (a : Addr), h[i]? = some c → ρ[i]? = some a → CellOk K CA ρ F a H c
def ERel (K : PySem.W.Frag) (CA : Nat → Addr) (ρ : List Addr) (F : Hp) (env : Env) (σ : L2.St) : Prop :=
  env.length = σ.length ∧ ∀ (k : Nat) (d : D), env[k]? = some (some d) → ∃ v, σ[k]? = some (some v) ∧ Rep K CA ρ F d v
structure Ext (ρ : List Addr) (F H : Hp) (ρ' : List Addr) (F' H' : Hp) : Prop where
  pre : ∃ l, ρ' = ρ ++ l
  sub : ∀ a o, F a = some o → F' a = some o
  frame : ∀ a o, H a = some o → a ∉ ρ → H' a = some o
  newR : ∀ a, a ∈ ρ' → a ∈ ρ ∨ H a = none
  newF : ∀ a, F' a ≠ none → F a ≠ none ∨ a ∈ ρ ∨ H a = none
theorem Ext.refl (G : GRel K CA ρ F h H) : Ext ρ F H ρ F H where
  pre := ⟨[], by simp⟩
  sub := fun _ _ e => e
  frame := fun _ _ e _ => e
  newR := fun a z => .inl z
  newF := fun a z => .inl z
theorem Ext.trans (x : Ext ρ F H ρ1 F1 H1) (y : Ext ρ1 F1 H1 ρ2 F2 H2) : Ext ρ F H ρ2 F2 H2 where
  pre := by
    obtain ⟨l, e⟩ := x.pre
    obtain ⟨m, e'⟩ := y.pre
    exact ⟨l ++ m, by rw [e', e, List.append_assoc]⟩
  sub := fun a o e => y.sub a o (x.sub a o e)
  frame := fun a o e n => by
    refine y.frame a o (x.frame a o e n) fun z => ?_
    rcases x.newR a z with q | q
    · exact n q
    · rw [e] at q
      cases q
  newR := fun a z => by
    rcases y.newR a z with q | q
    · exact x.newR a q
    · cases e : H a with
      | none => exact .inr rfl
      | some o =>
        by_cases n : a ∈ ρ
        · exact .inl n
        · rw [x.frame a o e n] at q
          cases q
  newF := fun a z => by
    rcases y.newF a z with q | q | q
    · exact x.newF a q
    · exact .inr (x.newR a q)
    · cases e : H a with
      | none => exact .inr (.inr rfl)
      | some o =>
        by_cases n : a ∈ ρ
        · exact .inr (.inl n)
        · rw [x.frame a o e n] at q
          cases q
theorem Rep.ext (x : Ext ρ F H ρ' F' H') {d : D} {v : V} (r : Rep K CA ρ F d v) : Rep K CA ρ' F' d v := Rep.sub x.pre x.sub d v r
theorem Reps.ext (x : Ext ρ F H ρ' F' H') {ds : List D} {xs : List V} (r : Reps K CA ρ F ds xs) : Reps K CA ρ' F' ds xs := Reps.sub x.pre x.sub ds xs r
theorem ERel.ext (x : Ext ρ F H ρ' F' H') {env : Env} {σ : L2.St} (r : ERel K CA ρ F env σ) : ERel K CA ρ' F' env σ :=
  ⟨r.1, fun k d e => let ⟨v, h1, h2⟩ := r.2 k d e; ⟨v, h1, h2.ext x⟩⟩
theorem GRel.sqL (G : GRel K CA ρ F h H) {xs : List V} (r : SqL K F a xs) : SqL K H a xs := SqL.sub G.sub r
theorem GRel.sqT (G : GRel K CA ρ F h H) {xs : List V} (r : SqT K F a xs) : SqT K H a xs := SqT.sub G.sub r
theorem CellOk.sub {c : Cell} (hp : ∃ l, ρ' = ρ ++ l) (s : ∀ a o, F a = some o → F' a = some o) (hH : H' a = H a) (r : CellOk K CA ρ F a H c) : CellOk K CA ρ' F' a H' c := by
  cases c with
  | lst ds => obtain ⟨xs, e, q⟩ := r; exact ⟨xs, hH.trans e, Reps.sub hp s _ _ q⟩
  | ins c ns ds => obtain ⟨dx, xs, e, d, l, q⟩ := r; exact ⟨dx, xs, hH.trans e, s _ _ d, l, Reps.sub hp s _ _ q⟩
  | dic ks ds => obtain ⟨xs, e, l, q⟩ := r; exact ⟨xs, hH.trans e, l, Reps.sub hp s _ _ q⟩
  | dead => trivial
theorem GRel.free (G : GRel K CA ρ F h H) (hp : H a = none) : F a = none ∧ a ∉ ρ := by
  refine ⟨?_, fun z => ?_⟩
  · cases e : F a with
    | none => rfl
    | some o =>
      rw [G.sub _ _ e] at hp
      cases hp
  · obtain ⟨o, e⟩ := G.there a z
    rw [e] at hp
    cases hp
/-- a new object that stays as it is -/
theorem GRel.frozen (G : GRel K CA ρ F h H) (hp : H a = none) (o : HO) : GRel K CA ρ (upd F a o) h (upd H a o) ∧ Ext ρ F H ρ (upd F a o) (upd H a o) := by
  obtain ⟨f0, nr⟩ := G.free hp
  have sub : ∀ b u, F b = some u → upd F a o b = some u := fun b u e => by
    rw [upd_ne (ne_of_none e f0)]
    exact e
  have ne : ∀ b, b ∈ ρ → b ≠ a := fun b hb e => nr (e ▸ hb)
  refine ⟨⟨fun b u e => ?_, G.len, G.nd, fun i b hb z => ?_, fun b hb => ?_, fun i c b hi hb => ?_⟩, ⟨[], by simp⟩, sub, fun b u e _ => ?_, fun b z => .inl z, fun b z => ?_⟩
  · by_cases hb : b = a
    · subst hb
      rw [upd_same] at e ⊢
      exact e
    · rw [upd_ne hb] at e ⊢
      exact G.sub _ _ e
  · rw [upd_ne (ne b (List.mem_of_getElem? hb))] at z
    exact G.off i b hb z
  · rw [upd_ne (ne b hb)]
    exact G.there b hb
  · exact (G.cell i c b hi hb).sub ⟨[], by simp⟩ sub (upd_ne (ne b (List.mem_of_getElem? hb)))
  · rw [upd_ne (ne_of_none e hp)]
    exact e
  · by_cases hb : b = a
    · subst hb
      exact .inr (.inr hp)
    · rw [upd_ne hb] at z
      exact .inl z
/-- a new cell -/
theorem GRel.cellNew (G : GRel K CA ρ F h H) (hp : H a = none) (o : HO) (c : Cell) (hc : CellOk K CA (ρ ++ [a]) F a (upd H a o) c) :
    GRel K CA (ρ ++ [a]) F (h ++ [c]) (upd H a o) ∧ Ext ρ F H (ρ ++ [a]) F (upd H a o) := by
  obtain ⟨f0, nr⟩ := G.free hp
  have ne : ∀ b, b ∈ ρ → b ≠ a := fun b hb e => nr (e ▸ hb)
  have off : ∀ (i : Nat) (b : Addr), (ρ ++ [a])[i]? = some b → F b ≠ none → (h ++ [c])[i]? = some .dead := fun i b hb z => by
    by_cases hl : i < h.length
    · rw [List.getElem?_append_left (by rw [G.len]; exact hl)] at hb
      rw [List.getElem?_append_left hl]
      exact G.off i b hb z
    · have hl1 := (List.getElem?_eq_some_iff.mp hb).1
      rw [List.length_append, List.length_singleton, G.len] at hl1
      have he : i = h.length := by omega
      subst he
      rw [List.getElem?_append_right (by rw [G.len]; exact Nat.le_refl _), G.len, Nat.sub_self] at hb
      simp at hb
      subst hb
      exact absurd f0 z
  refine ⟨⟨fun b u e => ?_, ?_, ?_, off, fun b hb => ?_, fun i c' b hi hb => ?_⟩, ⟨[a], rfl⟩, fun _ _ e => e, fun b u e _ => ?_, fun b z => ?_, fun b z => .inl z⟩
  · rw [upd_ne (ne_of_none e f0)]
    exact G.sub _ _ e
  · rw [List.length_append, List.length_append, G.len]
    rfl
  · rw [List.nodup_append]
    exact ⟨G.nd, by simp, fun x hx y hy => by
      rw [List.mem_singleton.mp hy]
      exact ne x hx⟩
  · rcases List.mem_append.mp hb with z | z
    · rw [upd_ne (ne b z)]
      exact G.there b z
    · rw [List.mem_singleton.mp z, upd_same]
      exact ⟨_, rfl⟩
  · by_cases hl : i < h.length
    · rw [List.getElem?_append_left hl] at hi
      rw [List.getElem?_append_left (by rw [G.len]; exact hl)] at hb
      exact (G.cell i c' b hi hb).sub ⟨[a], rfl⟩ (fun _ _ e => e) (upd_ne (ne b (List.mem_of_getElem? hb)))
    · have hl1 : i < (h ++ [c]).length := (List.getElem?_eq_some_iff.mp hi).1
      rw [List.length_append, List.length_singleton] at hl1
      have he : i = h.length := by omega
      subst he
      rw [List.getElem?_append_right (Nat.le_refl _), Nat.sub_self] at hi
      rw [List.getElem?_append_right (by rw [G.len]; exact Nat.le_refl _), G.len, Nat.sub_self] at hb
      simp at hi hb
      subst hi hb
      exact hc
  · rw [upd_ne (ne_of_none e hp)]
    exact e
  · rcases List.mem_append.mp z with z | z
    · exact .inl z
    · rw [List.mem_singleton.mp z]
      exact .inr hp
theorem GRel.live (G : GRel K CA ρ F h H) {i : Nat} {c : Cell} (hi : h[i]? = some c) (hb : ρ[i]? = some a) (hd : c ≠ .dead) : F a = none := by
  cases e : F a with
  | none => rfl
  | some o =>
    have := G.off i a hb (by rw [e]; simp)
    rw [hi] at this
    cases this
    exact absurd rfl hd
/-- a cell changes -/
theorem GRel.cellSet (G : GRel K CA ρ F h H) {i : Nat} {c0 c : Cell} (hi : h[i]? = some c0) (hb : ρ[i]? = some a) (o : HO) (hc : CellOk K CA ρ F a (upd H a o) c) (hd : c0 ≠ .dead := by intro z; cases z) :
    GRel K CA ρ F (h.set i c) (upd H a o) ∧ Ext ρ F H ρ F (upd H a o) := by
  have ha : a ∈ ρ := List.mem_of_getElem? hb
  have f0 := G.live hi hb hd
  refine ⟨⟨fun b u e => ?_, ?_, G.nd, fun j b hb' z => ?_, fun b hb' => ?_, fun j c' b hj hb' => ?_⟩, ⟨[], by simp⟩, fun _ _ e => e, fun b u e nb => ?_, fun b z => .inl z, fun b z => .inl z⟩
  · rw [upd_ne (ne_of_none e f0)]
    exact G.sub _ _ e
  · rw [List.length_set]
    exact G.len
  · have nij : i ≠ j := fun e => by
      subst e
      rw [hb] at hb'
      cases hb'
      exact z f0
    rw [List.getElem?_set_ne nij]
    exact G.off j b hb' z
  · by_cases e : b = a
    · rw [e, upd_same]
      exact ⟨_, rfl⟩
    · rw [upd_ne e]
      exact G.there b hb'
  · by_cases e : i = j
    · subst e
      rw [hb] at hb'
      cases hb'
      rw [List.getElem?_set_self (List.getElem?_eq_some_iff.mp hi).1] at hj
      cases hj
      exact hc
    · rw [List.getElem?_set_ne e] at hj
      have nba : b ≠ a := fun z => by
        subst z
        exact e (nodup_inj G.nd hb hb')
      exact (G.cell j c' b hj hb').sub ⟨[], by simp⟩ (fun _ _ e => e) (upd_ne nba)
  · rw [upd_ne (fun z => nb (by rw [z]; exact ha))]
    exact e
/-- what a live cell is as a datum that stays -/
def frzD : Cell → Option D
  | .lst ds => some (.lst ds)
  | .ins c ns ds => some (.obj c ns ds)
  | .dic ks ds => some (.dic ks ds)
  | .dead => none
/-- a cell that changes no more becomes a datum -/
theorem GRel.freeze (G : GRel K CA ρ F h H) {i : Nat} {c : Cell} {d : D} (hi : h[i]? = some c) (hb : ρ[i]? = some a) (hf : frzD c = some d) :
    ∃ F', GRel K CA ρ F' (h.set i .dead) H ∧ Ext ρ F H ρ F' H ∧ Rep K CA ρ F' d (.ref a) := by
  have hd : c ≠ .dead := fun e => by subst e; cases hf
  have f0 := G.live hi hb hd
  have hl := (List.getElem?_eq_some_iff.mp hi).1
  have sub : ∀ b u, F b = some u → (if b = a then H a else F b) = some u := fun b u e => by
    rw [if_neg (ne_of_none e f0)]
    exact e
  refine ⟨fun b => if b = a then H a else F b, ⟨fun b u e => ?_, by rw [List.length_set]; exact G.len, G.nd, fun j b hb' z => ?_, G.there, fun j c' b hj hb' => ?_⟩, ⟨⟨[], by simp⟩, sub, fun b u e _ => e, fun b z => .inl z, fun b z => ?_⟩, ?_⟩
  · by_cases q : b = a
    · simp only [q, if_true] at e
      rw [q]; exact e
    · simp only [q, if_false] at e
      exact G.sub _ _ e
  · by_cases e : i = j
    · subst e
      rw [List.getElem?_set_self hl]
    · rw [List.getElem?_set_ne e]
      have nba : b ≠ a := fun z => by
        subst z
        exact e (nodup_inj G.nd hb hb')
      simp only [nba, if_false] at z
      exact G.off j b hb' z
  · by_cases e : i = j
    · subst e
      rw [List.getElem?_set_self hl] at hj
      cases hj
      trivial
    · rw [List.getElem?_set_ne e] at hj
      exact (G.cell j c' b hj hb').sub ⟨[], by simp⟩ sub rfl
  · by_cases q : b = a
    · exact .inr (.inl (q ▸ List.mem_of_getElem? hb))
    · simp only [q, if_false] at z
      exact .inl z
  · have ck := G.cell i c a hi hb
    have hp : ∃ l : List Addr, ρ = ρ ++ l := ⟨[], by simp⟩
    cases c with
    | lst ds =>
      cases hf
      obtain ⟨xs, e, q⟩ := ck
      exact ⟨a, xs, rfl, by simp only [if_true]; exact e, Reps.sub hp sub _ _ q⟩
    | ins c ns ds =>
      cases hf
      obtain ⟨dx, xs, e, _, l, q⟩ := ck
      exact ⟨a, dx, xs, rfl, by simp only [if_true]; exact e, l, Reps.sub hp sub _ _ q⟩
    | dic ks ds =>
      cases hf
      obtain ⟨xs, e, l, q⟩ := ck
      exact ⟨a, xs, rfl, by simp only [if_true]; exact e, l, Reps.sub hp sub _ _ q⟩
    | dead => exact absurd rfl hd
end
end DL
/-! DL1: readings over plain data (rd, rdS), the judgements SE, SA, ST, SS, SSs, and the first rules. -/
namespace DL
open PySem L2

section
variable {K : PySem.W.Frag} {CA : Nat → Addr} {ρ ρ' ρ1 : List Addr} {F F' F1 : Hp} {H H' H1 : Hp} {h h' : Hs} {σ : L2.St} {env : Env}

def ecV (CA : Nat → Addr) : EC → Value
  | .own c => .ref (CA c)
  | .bt n => .type n
/-- an exception: its class, its own dict with its fields -/
def XRep (K : PySem.W.Frag) (CA : Nat → Addr) (ρ : List Addr) (F : Hp) (x : Exc) (cls : Value) (dd : Option Addr) (H : Hp) : Prop :=
  cls = ecV CA x.c ∧ ((dd = none ∧ x.ns = [] ∧ x.ds = []) ∨ ∃ d xs, dd = some d ∧ F d = some (.xd (x.ns.zip xs)) ∧ x.ns.length = x.ds.length ∧ Reps K CA ρ F x.ds xs)

def Go (K : PySem.W.Frag) (CA : Nat → Addr) (ρ : List Addr) (F H : Hp) (Qd : PQ) (Q : VK) : Prop := ∀ d h' ρ' F' v H', Qd d h' → Ext ρ F H ρ' F' H' → GRel K CA ρ' F' h' H' → Rep K CA ρ' F' d v → Q v H'
def GoL (K : PySem.W.Frag) (CA : Nat → Addr) (ρ : List Addr) (F H : Hp) (Qd : PL) (Q : List V → Hp → Prop) : Prop := ∀ ds h' ρ' F' vs H', Qd ds h' → Ext ρ F H ρ' F' H' → GRel K CA ρ' F' h' H' → Reps K CA ρ' F' ds vs → Q vs H'
def GoB (K : PySem.W.Frag) (CA : Nat → Addr) (ρ : List Addr) (F H : Hp) (Qd : Bool → Hs → Prop) (Q : Bool → Hp → Prop) : Prop := ∀ b h' ρ' F' H', Qd b h' → Ext ρ F H ρ' F' H' → GRel K CA ρ' F' h' H' → Q b H'
def GoX (K : PySem.W.Frag) (CA : Nat → Addr) (ρ : List Addr) (F H : Hp) (Ed : PX) (E : XK) : Prop := ∀ x h' ρ' F' H' cls dd, Ed x h' → Ext ρ F H ρ' F' H' → GRel K CA ρ' F' h' H' → XRep K CA ρ' F' x cls dd H' → E cls dd H'
def GoS (K : PySem.W.Frag) (CA : Nat → Addr) (ρ : List Addr) (F H : Hp) (q : Env → Hs → Prop) (Q : L2.St → Hp → Prop) : Prop := ∀ env' h' ρ' F' σ' H', q env' h' → Ext ρ F H ρ' F' H' → GRel K CA ρ' F' h' H' → ERel K CA ρ' F' env' σ' → Q σ' H'
def GoXS (K : PySem.W.Frag) (CA : Nat → Addr) (ρ : List Addr) (F H : Hp) (Ed : Exc → Env → Hs → Prop) (W : WX) : Prop := ∀ x env' h' ρ' F' σ' H' cls dd, Ed x env' h' → Ext ρ F H ρ' F' H' → GRel K CA ρ' F' h' H' → ERel K CA ρ' F' env' σ' → XRep K CA ρ' F' x cls dd H' → W cls dd σ' H'
theorem Go.on {Qd : PQ} {Q : VK} (g : Go K CA ρ F H Qd Q) (x : Ext ρ F H ρ1 F1 H1) : Go K CA ρ1 F1 H1 Qd Q := fun d h' ρ' F' v H' q y => g d h' ρ' F' v H' q (x.trans y)
theorem GoL.on {Qd : PL} {Q : List V → Hp → Prop} (g : GoL K CA ρ F H Qd Q) (x : Ext ρ F H ρ1 F1 H1) : GoL K CA ρ1 F1 H1 Qd Q := fun d h' ρ' F' v H' q y => g d h' ρ' F' v H' q (x.trans y)
theorem GoB.on {Qd : Bool → Hs → Prop} {Q : Bool → Hp → Prop} (g : GoB K CA ρ F H Qd Q) (x : Ext ρ F H ρ1 F1 H1) : GoB K CA ρ1 F1 H1 Qd Q := fun d h' ρ' F' H' q y => g d h' ρ' F' H' q (x.trans y)
theorem GoX.on {Ed : PX} {E : XK} (g : GoX K CA ρ F H Ed E) (x : Ext ρ F H ρ1 F1 H1) : GoX K CA ρ1 F1 H1 Ed E := fun d h' ρ' F' H' c dd q y => g d h' ρ' F' H' c dd q (x.trans y)
theorem GoS.on {q : Env → Hs → Prop} {Q : L2.St → Hp → Prop} (g : GoS K CA ρ F H q Q) (x : Ext ρ F H ρ1 F1 H1) : GoS K CA ρ1 F1 H1 q Q := fun e h' ρ' F' s H' q y => g e h' ρ' F' s H' q (x.trans y)
theorem GoXS.on {Ed : Exc → Env → Hs → Prop} {W : WX} (g : GoXS K CA ρ F H Ed W) (x : Ext ρ F H ρ1 F1 H1) : GoXS K CA ρ1 F1 H1 Ed W := fun d e h' ρ' F' s H' c dd q y => g d e h' ρ' F' s H' c dd q (x.trans y)
/-- within an expression: the slots stay -/
theorem GoXS.at {Ed : Exc → Env → Hs → Prop} {W : WX} (g : GoXS K CA ρ F H Ed W) (E : ERel K CA ρ F env σ) : GoX K CA ρ F H (fun x h1 => Ed x env h1) (WE W σ) :=
  fun x h' ρ' F' H' cls dd q y G r => g x env h' ρ' F' σ H' cls dd q y G (E.ext y) r

def rd (K : PySem.W.Frag) (CA : Nat → Addr) (W : WX) (t : wE) : TE := fun σ H Q => ∃ ρ F env h Qd Ed, GRel K CA ρ F h H ∧ ERel K CA ρ F env σ ∧ t env h Qd Ed ∧ Go K CA ρ F H Qd Q ∧ GoX K CA ρ F H Ed (WE W σ)
def rdL (K : PySem.W.Frag) (CA : Nat → Addr) (W : WX) (t : wL) : TA := fun σ H Q => ∃ ρ F env h Qd Ed, GRel K CA ρ F h H ∧ ERel K CA ρ F env σ ∧ t env h Qd Ed ∧ GoL K CA ρ F H Qd Q ∧ GoX K CA ρ F H Ed (WE W σ)
def rdT (K : PySem.W.Frag) (CA : Nat → Addr) (W : WX) (t : wT) : TT := fun σ H Q => ∃ ρ F env h Qd Ed, GRel K CA ρ F h H ∧ ERel K CA ρ F env σ ∧ t env h Qd Ed ∧ GoB K CA ρ F H Qd Q ∧ GoX K CA ρ F H Ed (WE W σ)
structure GoD (K : PySem.W.Frag) (CA : Nat → Addr) (W : WX) (ρ : List Addr) (F H : Hp) (Dd : Dn) (D : Ends) : Prop where
  nx : GoS K CA ρ F H Dd.nx D.nx
  rt : Go K CA ρ F H Dd.rt D.rt
  bk : GoS K CA ρ F H Dd.bk D.bk
  ct : GoS K CA ρ F H Dd.ct D.ct
  ex : GoXS K CA ρ F H Dd.ex W
theorem GoD.on {W : WX} {Dd : Dn} {D : Ends} (g : GoD K CA W ρ F H Dd D) (x : Ext ρ F H ρ1 F1 H1) : GoD K CA W ρ1 F1 H1 Dd D := ⟨g.nx.on x, g.rt.on x, g.bk.on x, g.ct.on x, g.ex.on x⟩
def rdS (K : PySem.W.Frag) (CA : Nat → Addr) (W : WX) (t : wS) : TS := fun D σ H => ∃ ρ F env h Dd, GRel K CA ρ F h H ∧ ERel K CA ρ F env σ ∧ t Dd env h ∧ GoD K CA W ρ F H Dd D

structure SE (X : Cx) (CA : Nat → Addr) (e : Expr) (t : wE) : Prop where
  run : ∀ W, L2N.Takes X W → PE X e (rd X.K CA W t)
structure ST (X : Cx) (CA : Nat → Addr) (e : Expr) (t : wT) : Prop where
  run : ∀ W, L2N.Takes X W → PT X e (rdT X.K CA W t)
structure SW (X : Cx) (CA : Nat → Addr) (e : Expr) (t : wT) : Prop where
  run : ∀ W, L2N.Takes X W → PW X e (rdT X.K CA W t)
structure SA (X : Cx) (CA : Nat → Addr) (es : List Expr) (t : wL) : Prop where
  run : ∀ W, L2N.Takes X W → PA X es (rdL X.K CA W t)
structure SS (X : Cx) (CA : Nat → Addr) (s : Stmt) (t : wS) : Prop where
  run : ∀ W, L2N.Takes X W → PS X s (rdS X.K CA W t)
structure SSs (X : Cx) (CA : Nat → Addr) (s : List Stmt) (t : wS) : Prop where
  run : ∀ W, L2N.Takes X W → PSs X s (rdS X.K CA W t)
end

theorem PE.of {X : Cx} {e : Expr} {t t' : TE} (h : PE X e t) (i : ∀ σ H Q, t' σ H Q → t σ H Q) : PE X e t' := ⟨fun pins s σ H Q I w => h.run pins s σ H Q I (i σ H Q w)⟩
theorem PT.of {X : Cx} {e : Expr} {t t' : TT} (h : PT X e t) (i : ∀ σ H Q, t' σ H Q → t σ H Q) : PT X e t' := ⟨fun pins s σ H Q I w => h.run pins s σ H Q I (i σ H Q w)⟩
theorem PW.of {X : Cx} {e : Expr} {t t' : TT} (h : PW X e t) (i : ∀ σ H Q, t' σ H Q → t σ H Q) : PW X e t' := ⟨fun wh pins s σ H Q I w => h.run wh pins s σ H Q I (i σ H Q w)⟩
theorem PA.of {X : Cx} {es : List Expr} {t t' : TA} (h : PA X es t) (i : ∀ σ H Q, t' σ H Q → t σ H Q) : PA X es t' := ⟨fun p pins s σ H Q I w => h.run p pins s σ H Q I (i σ H Q w)⟩
theorem PS.of {X : Cx} {st : Stmt} {t t' : TS} (h : PS X st t) (i : ∀ D σ H, t' D σ H → t D σ H) : PS X st t' := ⟨fun pins s σ H D I w => h.run pins s σ H D I (i D σ H w)⟩
theorem PSs.of {X : Cx} {st : List Stmt} {t t' : TS} (h : PSs X st t) (i : ∀ D σ H, t' D σ H → t D σ H) : PSs X st t' := ⟨fun pins s σ H D I w => h.run pins s σ H D I (i D σ H w)⟩

/-! ### names, constants -/
def onSlot (o : Option (Option D)) (p : D → Prop) : Prop :=
  match o with
  | some (some d) => p d
  | _ => False
def wVar (i : Nat) : wE := fun env h Q _ => onSlot env[i]? fun d => Q d h
def wC (d : D) : wE := fun _ h Q _ => Q d h
section
variable {X : Cx} {CA : Nat → Addr} {pos : Pos}
theorem se_var (i : Nat) {x : Str} (hN : X.N[i]? = some x := by rfl) (hv : Vis X.env.scope x := by first | exact Or.inl rfl | exact Or.inr (Or.inl rfl) | exact Or.inr (Or.inr rfl))
    (hd : (x == ("__debug__" : Str)) = false := by decide) (hcd : (x == ("__classdict__" : Str)) = false := by decide) : SE X CA (.Name x pos) (wVar i) := ⟨fun W tk => PE.of (pe_var hN hv hd hcd) (by
  rintro σ H Q ⟨ρ, F, env, h, Qd, Ed, G, E, w, gq, gx⟩
  unfold wVar onSlot at w
  split at w
  · rename_i d e
    obtain ⟨v, e1, r⟩ := E.2 i d e
    exact ⟨v, e1, gq d h ρ F v H w (Ext.refl G) G r⟩
  · exact w.elim)⟩
theorem se_of {e : Expr} {d : D} {v : V} (h : PE X e (tC v)) (r : ∀ ρ F, Rep X.K CA ρ F d v) : SE X CA e (wC d) := ⟨fun W tk => PE.of h (by
  rintro σ H Q ⟨ρ, F, env, h, Qd, Ed, G, E, w, gq, gx⟩
  exact gq d h ρ F v H w (Ext.refl G) G (r ρ F))⟩
theorem se_int {i j} : SE X CA (.Constant (.int i) j pos) (wC (.int i)) := se_of pe_int fun _ _ => rfl
theorem se_bl {b j} : SE X CA (.Constant (.bool b) j pos) (wC (.bl b)) := se_of pe_bl fun _ _ => rfl
theorem se_non {j} : SE X CA (.Constant .none j pos) (wC .non) := se_of pe_non fun _ _ => rfl
theorem se_str {x j} : SE X CA (.Constant (.str x) j pos) (wC (.str x)) := se_of pe_str fun _ _ => rfl
/-- a constant of the module -/
structure GlobD (K : PySem.W.Frag) (CA : Nat → Addr) (mg : Str → Option Value) (x : Str) (d : D) : Prop where
  ex : ∃ u v, mg x = some u ∧ RelV v u ∧ ∀ ρ F, Rep K CA ρ F d v
theorem se_glob {x : Str} {d : D} (g : GlobD X.K CA X.mg x d) (hg : Gl X x := by rfl) (hd : (x == ("__debug__" : Str)) = false := by decide) : SE X CA (.Name x pos) (wC d) := by
  obtain ⟨u, v, hm, r, k⟩ := g.ex
  exact se_of (C8.pe_gc hg ⟨u, hm, r⟩ hd) k
theorem se_nox {e : Expr} {t : wE} (h : SE X.nox CA e t) (K1 : X.nox.K = X.K := by rfl) : SE X CA e (fun env h Q _ => t env h Q (fun _ _ => False)) := ⟨fun W tk => PE.of (PE.nox (h.run (fun _ _ _ _ => False) (by
  intro u s' x
  obtain ⟨_, _, _, _, _, _, _, _, _, _, _, _, _, _, _, _, z⟩ := x
  exact z.elim))) (by
  rintro σ H Q ⟨ρ, F, env, h, Qd, Ed, G, E, w, gq, gx⟩
  exact ⟨ρ, F, env, h, Qd, _, G, E, w, gq, fun _ _ _ _ _ _ _ z => z.elim⟩)⟩

/-! ### operators on values -/
/-- what a two-place rule does on data -/
abbrev fO := D → D → Hs → PQ → Prop
abbrev fU := D → Hs → PQ → Prop
abbrev fL := List D → Hs → PQ → Prop
def OpD (K : PySem.W.Frag) (CA : Nat → Addr) (f : fO) (r : R2) : Prop := ∀ ρ F h H x y v u Qd Q, GRel K CA ρ F h H → Rep K CA ρ F x v → Rep K CA ρ F y u → f x y h Qd → Go K CA ρ F H Qd Q → r v u H Q
def UnD (K : PySem.W.Frag) (CA : Nat → Addr) (f : fU) (r : V → Hp → VK → Prop) : Prop := ∀ ρ F h H x v Qd Q, GRel K CA ρ F h H → Rep K CA ρ F x v → f x h Qd → Go K CA ρ F H Qd Q → r v H Q
def LiD (K : PySem.W.Frag) (CA : Nat → Addr) (f : fL) (r : List V → Hp → VK → Prop) : Prop := ∀ ρ F h H xs vs Qd Q, GRel K CA ρ F h H → Reps K CA ρ F xs vs → f xs h Qd → Go K CA ρ F H Qd Q → r vs H Q
/-- a method of a built-in: the object, the arguments -/
def MtD (K : PySem.W.Frag) (CA : Nat → Addr) (f : D → List D → Hs → PQ → Prop) (r : V → List V → Hp → VK → Prop) : Prop := ∀ ρ F h H x v xs vs Qd Q, GRel K CA ρ F h H → Rep K CA ρ F x v → Reps K CA ρ F xs vs → f x xs h Qd → Go K CA ρ F H Qd Q → r v vs H Q
def wOp (f : fO) (ta tb : wE) : wE := fun env h Q E => ta env h (fun x h1 => tb env h1 (fun y h2 => f x y h2 Q) E) E
def wUn (f : fU) (ta : wE) : wE := fun env h Q E => ta env h (fun x h1 => f x h1 Q) E
def wLi (f : fL) (ta : wL) : wE := fun env h Q E => ta env h (fun x h1 => f x h1 Q) E
theorem opD_imp {K : PySem.W.Frag} {W : WX} {f : fO} {r : R2} (hf : OpD K CA f r) {ta tb : wE} : ∀ σ H Q, rd K CA W (wOp f ta tb) σ H Q → tOp r (rd K CA W ta) (rd K CA W tb) σ H Q := by
  rintro σ H Q ⟨ρ, F, env, h, Qd, Ed, G, E, w, gq, gx⟩
  refine ⟨ρ, F, env, h, _, Ed, G, E, w, ?_, gx⟩
  intro x h1 ρ1 F1 v H1 hq X1 G1 R1
  refine ⟨ρ1, F1, env, h1, _, Ed, G1, E.ext X1, hq, ?_, gx.on X1⟩
  intro y h2 ρ2 F2 u H2 hq2 X2 G2 R2
  exact hf _ _ _ _ _ _ _ _ _ _ G2 (R1.ext X2) R2 hq2 ((gq.on X1).on X2)
theorem unD_imp {K : PySem.W.Frag} {W : WX} {f : fU} {r : V → Hp → VK → Prop} (hf : UnD K CA f r) {ta : wE} : ∀ σ H Q, rd K CA W (wUn f ta) σ H Q → tUn r (rd K CA W ta) σ H Q := by
  rintro σ H Q ⟨ρ, F, env, h, Qd, Ed, G, E, w, gq, gx⟩
  refine ⟨ρ, F, env, h, _, Ed, G, E, w, ?_, gx⟩
  intro x h1 ρ1 F1 v H1 hq X1 G1 R1
  exact hf _ _ _ _ _ _ _ _ G1 R1 hq (gq.on X1)
theorem liD_imp {K : PySem.W.Frag} {W : WX} {f : fL} {r : List V → Hp → VK → Prop} (hf : LiD K CA f r) {ta : wL} : ∀ σ H Q, rd K CA W (wLi f ta) σ H Q → tCB r (rdL K CA W ta) σ H Q := by
  rintro σ H Q ⟨ρ, F, env, h, Qd, Ed, G, E, w, gq, gx⟩
  refine ⟨ρ, F, env, h, _, Ed, G, E, w, ?_, gx⟩
  intro x h1 ρ1 F1 v H1 hq X1 G1 R1
  exact hf _ _ _ _ _ _ _ _ G1 R1 hq (gq.on X1)
theorem se_op {op : Operator} {a b : Expr} {ta tb : wE} {f : fO} {r : R2} (ho : OpR X (binaryOp op) r) (hf : OpD X.K CA f r) (ha : SE X CA a ta) (hb : SE X CA b tb) : SE X CA (.BinOp a op b pos) (wOp f ta tb) :=
  ⟨fun W tk => PE.of (pe_op ho (ha.run W tk) (hb.run W tk)) (opD_imp hf)⟩
theorem se_un {op : UnaryOp} {a : Expr} {ta : wE} {f : fU} {r : V → Hp → VK → Prop} (ho : UnR X (unaryOp op) r) (hf : UnD X.K CA f r) (ha : SE X CA a ta) : SE X CA (.UnaryOp op a pos) (wUn f ta) :=
  ⟨fun W tk => PE.of (pe_un ho (ha.run W tk)) (unD_imp hf)⟩
theorem se_cmp {op : CmpOp} {a b : Expr} {ta tb : wE} {f : fO} {r : R2} (ho : OpR X (compareOp op) r) (hf : OpD X.K CA f r) (ha : SE X CA a ta) (hb : SE X CA b tb) (hm : behindInMarks op b = false) : SE X CA (.Compare a [op] [b] pos) (wOp f ta tb) :=
  ⟨fun W tk => PE.of (pe_cmpR ho (ha.run W tk) (hb.run W tk) hm) (opD_imp hf)⟩
theorem se_ix {a b : Expr} {ta tb : wE} {f : fO} {r : R2} (ho : IxR X r) (hf : OpD X.K CA f r) (ha : SE X CA a ta) (hb : SE X CA b tb) (hs : PlainIx b := by exact fun _ _ => rfl) : SE X CA (.Subscript a b pos) (wOp f ta tb) :=
  ⟨fun W tk => PE.of (pe_ix ho (ha.run W tk) (hb.run W tk) hs) (opD_imp hf)⟩

/-! ### arguments -/
def wNil : wL := fun _ h Q _ => Q [] h
def wCons (ta : wE) (tr : wL) : wL := fun env h Q E => ta env h (fun x h1 => tr env h1 (fun xs h2 => Q (x :: xs) h2) E) E
theorem sa_nil : SA X CA [] wNil := ⟨fun W tk => PA.of pa_nil (by
  rintro σ H Q ⟨ρ, F, env, h, Qd, Ed, G, E, w, gq, gx⟩
  exact gq [] h ρ F [] H w (Ext.refl G) G Reps.nil)⟩
theorem sa_cons {e : Expr} {es : List Expr} {te : wE} {t : wL} (ha : SE X CA e te) (hr : SA X CA es t) (hs : starEach (e :: es) X.env = (false, eval e X.env) :: starEach es X.env := by rfl) : SA X CA (e :: es) (wCons te t) := ⟨fun W tk => PA.of (pa_cons (ha.run W tk) (hr.run W tk) hs) (by
  rintro σ H Q ⟨ρ, F, env, h, Qd, Ed, G, E, w, gq, gx⟩
  refine ⟨ρ, F, env, h, _, Ed, G, E, w, ?_, gx⟩
  intro x h1 ρ1 F1 v H1 hq X1 G1 R1
  refine ⟨ρ1, F1, env, h1, _, Ed, G1, E.ext X1, hq, ?_, gx.on X1⟩
  intro y h2 ρ2 F2 u H2 hq2 X2 G2 R2
  exact gq (x :: y) h2 ρ2 F2 (v :: u) H2 hq2 (X1.trans X2) G2 (Reps.cons (R1.ext X2) R2))⟩
theorem len_line {n : Nat} (h : n ≤ 16777216) : n ≤ sizeLine := by
  rw [sizeLine_eq]
  exact h
def wTup (ta : wL) : wE := fun env h Q E => ta env h (fun ds h1 => ds.length ≤ 16777216 ∧ Q (.tup ds) h1) E
def wLst (ta : wL) : wE := fun env h Q E => ta env h (fun ds h1 => ds.length ≤ 16777216 ∧ Q (.lst ds) h1) E
/-- a display that is a cell -/
def wLstC (ta : wL) : wE := fun env h Q E => ta env h (fun ds h1 => ds.length ≤ 16777216 ∧ Q (.ref h1.length) (h1 ++ [.lst ds])) E
theorem se_tup {es : List Expr} {t : wL} {x1} (ha : SA X CA es t) : SE X CA (.Tuple es x1 pos) (wTup t) := ⟨fun W tk => PE.of (pe_tup (ha.run W tk)) (by
  rintro σ H Q ⟨ρ, F, env, h, Qd, Ed, G, E, w, gq, gx⟩
  refine ⟨ρ, F, env, h, _, Ed, G, E, w, ?_, gx⟩
  rintro ds h1 ρ1 F1 vs H1 ⟨hl, hq⟩ X1 G1 R1
  refine ⟨by rw [← R1.length]; exact len_line hl, fun p hp => ?_⟩
  obtain ⟨G2, X2⟩ := G1.frozen hp (.tup vs)
  exact gq _ h1 ρ1 _ _ _ hq (X1.trans X2) G2 ⟨p, vs, rfl, SqT.of upd_same, R1.ext X2⟩)⟩
theorem se_lst {es : List Expr} {t : wL} (ha : SA X CA es t) : SE X CA (.List es pos) (wLst t) := ⟨fun W tk => PE.of (pe_lst (ha.run W tk)) (by
  rintro σ H Q ⟨ρ, F, env, h, Qd, Ed, G, E, w, gq, gx⟩
  refine ⟨ρ, F, env, h, _, Ed, G, E, w, ?_, gx⟩
  rintro ds h1 ρ1 F1 vs H1 ⟨hl, hq⟩ X1 G1 R1
  refine ⟨by rw [← R1.length]; exact len_line hl, fun p hp => ?_⟩
  obtain ⟨G2, X2⟩ := G1.frozen hp (.lst vs)
  exact gq _ h1 ρ1 _ _ _ hq (X1.trans X2) G2 ⟨p, vs, rfl, upd_same, R1.ext X2⟩)⟩
theorem se_lstC {es : List Expr} {t : wL} (ha : SA X CA es t) : SE X CA (.List es pos) (wLstC t) := ⟨fun W tk => PE.of (pe_lst (ha.run W tk)) (by
  rintro σ H Q ⟨ρ, F, env, h, Qd, Ed, G, E, w, gq, gx⟩
  refine ⟨ρ, F, env, h, _, Ed, G, E, w, ?_, gx⟩
  rintro ds h1 ρ1 F1 vs H1 ⟨hl, hq⟩ X1 G1 R1
  refine ⟨by rw [← R1.length]; exact len_line hl, fun p hp => ?_⟩
  obtain ⟨G2, X2⟩ := G1.cellNew hp (.lst vs) (.lst ds) ⟨vs, upd_same, Reps.sub ⟨[p], rfl⟩ (fun _ _ e => e) _ _ R1⟩
  refine gq _ _ _ _ _ _ hq (X1.trans X2) G2 ⟨p, ?_, rfl⟩
  rw [← G1.len]
  simp)⟩

end
/-! ### calls of defs -/
/-- a def's promise from its contract -/
def spD (K : PySem.W.Frag) (CA : Nat → Addr) (n : Nat) (C : Ct) : Sp := fun vs H Q E => vs.length = n ∧ ∃ ρ F h ds Qd Ed, GRel K CA ρ F h H ∧ Reps K CA ρ F ds vs ∧ C ds h Qd Ed ∧ Go K CA ρ F H Qd Q ∧ GoX K CA ρ F H Ed E
/-- room, and no repr under way -/
structure Rm (k : Nat) (A : Around) : Prop where
  room : Room k A
  gd : A.guards = some []
theorem Rm.mono {j k : Nat} {A : Around} (r : Rm k A) (h : j ≤ k) : Rm j A := ⟨r.room.mono h, r.gd⟩
/-- the def at f keeps its promise, wherever no repr is under way -/
structure FnG (P : Program) (w : World) (K : PySem.W.Frag) (mg : Str → Option Value) (base : Heap) (CX : CXT) (k : Nat) (f : Addr) (fd : FuncData) (ps : List Str) (sp : Sp) : Prop where
  len : ∀ vs H Q E, sp vs H Q E → vs.length = ps.length
  run : ∀ (A : Around) (outer : List PySem.Env) (s : Shared) (H : Hp) (args : Args) (us : List Value) (vs : List V) (Q : VK) (E : XK), Rm k A → Env0 P w K mg base A outer s H → BindsTo s fd args (ps.zip us) → Vals vs us → sp vs H Q E →
    codeAny (model P w) A (.call (.ref f) args) (CR CX outer P w H s Q E) s
section
variable {P : Program} {w : World} {K : PySem.W.Frag} {mg : Str → Option Value} {base : Heap} {CX : CXT} {j k : Nat} {f : Addr} {fd : FuncData} {ps : List Str} {sp sp' : Sp}
theorem FnG.mono (F : FnG P w K mg base CX j f fd ps sp) (h : j ≤ k) : FnG P w K mg base CX k f fd ps sp := ⟨F.len, fun A outer s H args us vs Q E hr => F.run A outer s H args us vs Q E (hr.mono h)⟩
theorem FnG.imp (F : FnG P w K mg base CX k f fd ps sp) (h : ∀ vs H Q E, sp' vs H Q E → sp vs H Q E) : FnG P w K mg base CX k f fd ps sp' :=
  ⟨fun vs H Q E q => F.len vs H Q E (h _ _ _ _ q), fun A outer s H args us vs Q E hr he hb hv hs => F.run A outer s H args us vs Q E hr he hb hv (h _ _ _ _ hs)⟩
end
theorem run_fnG {X : Cx} {CX : CXT} {k : Nat} {f : Addr} {fd : FuncData} {ps : List Str} {sp : Sp} {dvs : List V} {ds : List Value} {E : XK} {pins : List (Addr × Obj)} {σ : L2.St} {H : Hp} {s : Shared} {Q : VK} {us : List Value} {vs : List V}
    (F : FnG X.prog X.w X.K X.mg X.base CX k f fd ps sp) (hr : Rm k X.A) (hb : Binds X.K fd ps ds) (hd : Vals dvs ds) (hx : PassesAt CX X σ E) (I : Inv X pins σ H s) (r : Vals vs us) (hs : sp (vs ++ dvs) H Q E) :
    wpAny (model X.prog X.w) X.A (call (.ref f) us) (EP X pins σ Q) X.xe s := by
  have rr : Vals (vs ++ dvs) (us ++ ds) := r.append hd
  have hl : (us ++ ds).length = ps.length := rr.length.symm.trans (F.len _ _ _ _ hs)
  refine wpAny_call (codeAny_mono (F.run X.A X.stack s H ⟨us, []⟩ (us ++ ds) (vs ++ dvs) Q E hr I.env0 (hb s us I.kIn hl) rr hs) fun res s' hq => ?_)
  match res, hq with
  | .error e, hq => exact hx pins H s e s' I hq
  | .ok (.ret u), hq => exact I.after hq
  | .ok .next, hq => exact hq.elim
  | .ok .brk, hq => exact hq.elim
  | .ok .cont, hq => exact hq.elim
/-- a def of the module that keeps a contract; dd: the defaults that such a call leaves to it -/
structure Callee (P : Program) (w : World) (K : PySem.W.Frag) (mg : Str → Option Value) (base : Heap) (CA : Nat → Addr) (k : Nat) (x : Str) (n : Nat) (dd : List D) (C : Ct) : Prop where
  ex : ∃ f fd ps ds dvs, mg x = some (.ref f) ∧ PySem.W.keepIn K (.ref f) = true ∧ ps.length = n ∧ Binds K fd ps ds ∧ Vals dvs ds ∧ (∀ ρ F, Reps K CA ρ F dd dvs) ∧ FnG P w K mg base (L2N.CX P w) k f fd ps (spD K CA n C)
def wCall (C : Ct) (n : Nat) (dd : List D) (ta : wL) : wE := fun env h Q E => ta env h (fun ds h1 => ds.length + dd.length = n ∧ C (ds ++ dd) h1 Q E) E
section
variable {X : Cx} {CA : Nat → Addr} {pos : Pos}
theorem se_call {k n : Nat} {x : Str} {dd : List D} {C : Ct} {p : Pos} {e : Expr} {es : List Expr} {t : wL} (c : Callee X.prog X.w X.K X.mg X.base CA k x n dd C) (hr : Rm k X.A) (ha : SA X CA (e :: es) t) (hg : Gl X x := by rfl) (hdb : (x == ("__debug__" : Str)) = false := by decide)
    (he : starEach (e :: es) X.env = (false, eval e X.env) :: starEach es X.env := by rfl) (hpl : (backTo pos (starEach es X.env)).any (·.1) = false := by rfl) :
    SE X CA (.Call (.Name x p) (e :: es) [] pos) (wCall C n dd t) := ⟨fun W tk => by
  obtain ⟨f, fd, ps, ds, dvs, hm, hk, hn, hb, hd, hrep, Fo⟩ := c.ex
  refine ⟨fun pins s σ H Q I hw => ?_⟩
  refine wpAny_Call_Name_kw (ld_glob I hg hm ?_ hdb)
  obtain ⟨ρ, F, env, h, Qd, Ed, G, E, w, gq, gx⟩ := hw
  refine PySem.W.callWith_K (h₀ := X.base) I.ok.mod.kin hk (thn ((ha.run W tk).run pos pins s σ H (fun vs H1 => spD X.K CA n C (vs ++ dvs) H1 Q (WE W σ)) I ⟨ρ, F, env, h, _, Ed, G, E, w, ?_, gx⟩) fun us s1 ⟨vs, H1, I1, r, q⟩ => ⟨I1.kIn, run_fnG Fo hr hb hd (L2N.passAt tk σ) I1 r q⟩) he hpl
  rintro as h1 ρ1 F1 vs H1 ⟨hl, hq⟩ X1 G1 R1
  refine ⟨?_, ρ1, F1, h1, as ++ dd, Qd, Ed, G1, Reps.append R1 (hrep _ _), hq, gq.on X1, gx.on X1⟩
  rw [List.length_append, ← R1.length, ← (hrep ρ1 F1).length]
  exact hl⟩
theorem se_call0 {k n : Nat} {x : Str} {dd : List D} {C : Ct} {p : Pos} (c : Callee X.prog X.w X.K X.mg X.base CA k x n dd C) (hr : Rm k X.A) (hg : Gl X x := by rfl) (hdb : (x == ("__debug__" : Str)) = false := by decide) :
    SE X CA (.Call (.Name x p) [] [] pos) (wCall C n dd wNil) := ⟨fun W tk => by
  obtain ⟨f, fd, ps, ds, dvs, hm, hk, hn, hb, hd, hrep, Fo⟩ := c.ex
  refine ⟨fun pins s σ H Q I hw => ?_⟩
  obtain ⟨ρ, F, env, h, Qd, Ed, G, E, w, gq, gx⟩ := hw
  refine wpAny_Call_Name_kw (ld_glob I hg hm ?_ hdb)
  refine PySem.W.callWith_K0 I.kIn hk (run_fnG (us := []) (E := WE W σ) Fo hr hb hd (L2N.passAt tk σ) I .nil ?_)
  refine ⟨?_, ρ, F, h, [] ++ dd, Qd, Ed, G, Reps.append Reps.nil (hrep _ _), w.2, gq, gx⟩
  have := w.1
  rw [List.nil_append, ← (hrep ρ F).length]
  simpa using this⟩
/-- calls of built-ins by name, of built-in classes -/
theorem se_callB {x : Str} {id : String} {f : fL} {r : List V → Hp → VK → Prop} {p : Pos} {e : Expr} {es : List Expr} {t : wL} (hc : CallR X (.builtin id) r) (hf : LiD X.K CA f r) (hm : X.mg x = none) (hv : bootBuiltins x = some (.builtin id)) (ha : SA X CA (e :: es) t) (hg : Gl X x := by rfl) (hn : x ≠ "__name__" := by decide) (hdb : (x == ("__debug__" : Str)) = false := by decide)
    (he : starEach (e :: es) X.env = (false, eval e X.env) :: starEach es X.env := by rfl) (hpl : (backTo pos (starEach es X.env)).any (·.1) = false := by rfl) :
    SE X CA (.Call (.Name x p) (e :: es) [] pos) (wLi f t) := ⟨fun W tk => PE.of (pe_callB hc hg hm hv (ha.run W tk) hn hdb he hpl) (liD_imp hf)⟩
theorem se_callTy {x : Str} {T : String} {f : fL} {r : List V → Hp → VK → Prop} {p : Pos} {e : Expr} {es : List Expr} {t : wL} (hc : CallR X (.type T) r) (hf : LiD X.K CA f r) (hm : X.mg x = none) (hv : bootBuiltins x = some (.type T)) (ha : SA X CA (e :: es) t) (hg : Gl X x := by rfl) (hn : x ≠ "__name__" := by decide) (hdb : (x == ("__debug__" : Str)) = false := by decide)
    (he : starEach (e :: es) X.env = (false, eval e X.env) :: starEach es X.env := by rfl) (hpl : (backTo pos (starEach es X.env)).any (·.1) = false := by rfl) :
    SE X CA (.Call (.Name x p) (e :: es) [] pos) (wLi f t) := ⟨fun W tk => PE.of (pe_callTy hc hg hm hv (ha.run W tk) hn hdb he hpl) (liD_imp hf)⟩
end
end DL
/-! DL2: tests, statements, loops, the rule for a def. -/
namespace DL
open PySem PySem.Spec PyProof.Rows L2

/-! ### tests -/
def asB (d : D) (p : Bool → Prop) : Prop := match d with
  | .bl b => p b
  | _ => False
def lstOf (h : Hs) : D → Option (List D)
  | .lst ds => some ds
  | .rol ds => some ds
  | .ref i => match h[i]? with
    | some (.lst ds) => some ds
    | _ => none
  | _ => none
/-- a datum's truth -/
def truD (h : Hs) (d : D) (p : Bool → Prop) : Prop := match d with
  | .non => p false
  | .bl b => p b
  | .int i => p (i != 0)
  | .str x => x.length ≤ 16777216 ∧ p ((x.length : Int) != 0)
  | .tup ds => p (!ds.isEmpty)
  | .dic ks _ => p (!ks.isEmpty)
  | .lst ds => p (!ds.isEmpty)
  | .rol ds => p (!ds.isEmpty)
  | .ref i => match h[i]? with
    | some (.lst ds) => p (!ds.isEmpty)
    | some (.dic ks _) => p (!ks.isEmpty)
    | _ => False
  | _ => False
def wB (te : wE) : wT := fun env h Q E => te env h (fun d h1 => asB d fun b => Q b h1) E
def wTru (te : wE) : wT := fun env h Q E => te env h (fun d h1 => truD h1 d fun b => Q b h1) E
def wAnd (a b : wT) : wT := fun env h Q E => a env h (fun c h1 => if c = true then b env h1 Q E else Q false h1) E
def wOr (a b : wT) : wT := fun env h Q E => a env h (fun c h1 => if c = true then Q true h1 else b env h1 Q E) E
def wNot (a : wT) : wT := fun env h Q E => a env h (fun c h1 => Q (!c) h1) E
section
variable {K : PySem.W.Frag} {CA : Nat → Addr} {ρ : List Addr} {F H : Hp} {h : Hs}
theorem isE_rep {ds : List D} {xs : List V} (r : Reps K CA ρ F ds xs) : (!ds.isEmpty) = !xs.isEmpty := by
  have := r.length
  cases ds <;> cases xs <;> simp at this ⊢
theorem lst_at {d : D} {v : V} {ds : List D} (G : GRel K CA ρ F h H) (r : Rep K CA ρ F d v) (e : lstOf h d = some ds) : ∃ a xs, v = .ref a ∧ SqL K H a xs ∧ Reps K CA ρ F ds xs := by
  cases d with
  | lst es =>
    cases e
    obtain ⟨a, xs, e, q, r⟩ := r
    exact ⟨a, xs, e, SqL.of (G.sub _ _ q), r⟩
  | rol es =>
    cases e
    obtain ⟨a, xs, e, q, r⟩ := r
    exact ⟨a, xs, e, G.sqL q, r⟩
  | ref i =>
    obtain ⟨a, ha, e2⟩ := r
    simp only [lstOf] at e
    split at e
    · rename_i ds' hc
      cases e
      obtain ⟨xs, q, r⟩ := G.cell i _ a hc ha
      exact ⟨a, xs, e2, SqL.of q, r⟩
    · cases e
  | _ => cases e
/-- a list that may be handed to a rule that wants a tracked one -/
def lstTr (h : Hs) : D → Option (List D)
  | .lst ds => some ds
  | .ref i => match h[i]? with
    | some (.lst ds) => some ds
    | _ => none
  | _ => none
theorem lst_tr {d : D} {v : V} {ds : List D} (G : GRel K CA ρ F h H) (r : Rep K CA ρ F d v) (e : lstTr h d = some ds) : ∃ a xs, v = .ref a ∧ H a = some (.lst xs) ∧ Reps K CA ρ F ds xs := by
  cases d with
  | lst es =>
    cases e
    obtain ⟨a, xs, e, q, r⟩ := r
    exact ⟨a, xs, e, G.sub _ _ q, r⟩
  | ref i =>
    obtain ⟨a, ha, e2⟩ := r
    simp only [lstTr] at e
    split at e
    · rename_i ds' hc
      cases e
      obtain ⟨xs, q, r⟩ := G.cell i _ a hc ha
      exact ⟨a, xs, e2, q, r⟩
    · cases e
  | _ => cases e
theorem tru_at {d : D} {v : V} {p : Bool → Prop} (G : GRel K CA ρ F h H) (r : Rep K CA ρ F d v) (e : truD h d p) : ∃ k, TruV K v H k ∧ p k := by
  cases d with
  | non =>
    cases (show v = .non from r)
    exact ⟨false, rfl, e⟩
  | bl b =>
    cases (show v = .bl b from r)
    exact ⟨b, rfl, e⟩
  | int i =>
    cases (show v = .int i from r)
    exact ⟨_, rfl, e⟩
  | str x =>
    cases (show v = .str x from r)
    exact ⟨_, ⟨len_line e.1, rfl⟩, e.2⟩
  | tup ds =>
    obtain ⟨a, xs, e1, q, r⟩ := r
    subst e1
    exact ⟨_, .inr (.inl ⟨xs, G.sqT q, isE_rep r⟩), e⟩
  | lst ds =>
    obtain ⟨a, xs, e1, q, r'⟩ := lst_at (d := .lst ds) G r rfl
    subst e1
    exact ⟨_, .inl ⟨xs, q, isE_rep r'⟩, e⟩
  | rol ds =>
    obtain ⟨a, xs, e1, q, r'⟩ := lst_at (d := .rol ds) G r rfl
    subst e1
    exact ⟨_, .inl ⟨xs, q, isE_rep r'⟩, e⟩
  | dic ks ds =>
    obtain ⟨a, xs, e1, q, l, r⟩ := r
    subst e1
    refine ⟨_, .inr (.inr ⟨_, G.sub _ _ q, ?_⟩), e⟩
    have := r.length
    cases ks <;> cases xs <;> simp_all
  | ref i =>
    simp only [truD] at e
    split at e
    · rename_i ds hc
      obtain ⟨a, ha, e2⟩ := r
      obtain ⟨xs, q, r⟩ := G.cell i _ a hc ha
      subst e2
      exact ⟨_, .inl ⟨xs, SqL.of q, isE_rep r⟩, e⟩
    · rename_i ks ds hc
      obtain ⟨a, ha, e2⟩ := r
      obtain ⟨xs, q, l, r⟩ := G.cell i _ a hc ha
      subst e2
      refine ⟨_, .inr (.inr ⟨_, q, ?_⟩), e⟩
      have := r.length
      cases ks <;> cases xs <;> simp_all
    · exact e.elim
  | _ => exact e.elim
end
section
variable {X : Cx} {CA : Nat → Addr} {pos : Pos} {a b c : Expr} {ta tb tc : wE} {tA tB tC : wT}
theorem asB_imp {K : PySem.W.Frag} {W : WX} {te : wE} : ∀ σ H Q, rdT K CA W (wB te) σ H Q → tTest (rd K CA W te) σ H Q := by
  rintro σ H Q ⟨ρ, F, env, h, Qd, Ed, G, E, w, gq, gx⟩
  refine ⟨ρ, F, env, h, _, Ed, G, E, w, ?_, gx⟩
  intro x h1 ρ1 F1 v H1 hq X1 G1 R1
  cases x with
  | bl k =>
    cases (show v = .bl k from R1)
    exact ⟨k, rfl, gq k h1 ρ1 F1 H1 hq X1 G1⟩
  | _ => exact (show False from hq).elim
theorem st_cmp {op : CmpOp} {f : fO} {r : R2} (ho : OpR X (compareOp op) r) (hf : OpD X.K CA f r) (ha : SE X CA a ta) (hb : SE X CA b tb) (hm : behindInMarks op b = false) : ST X CA (.Compare a [op] [b] pos) (wB (wOp f ta tb)) :=
  ⟨fun W tk => PT.of (pt_cmpR ho (ha.run W tk) (hb.run W tk) hm) fun σ H Q w => by
    obtain ⟨ρ, F, env, h, Qd, Ed, G, E, w, gq, gx⟩ := asB_imp σ H Q w
    exact opD_imp hf σ H _ ⟨ρ, F, env, h, Qd, Ed, G, E, w, gq, gx⟩⟩
/-- an expression's truth (names, calls, subscripts, attributes) -/
theorem st_tru {e : Expr} {te : wE} (he : SE X CA e te) (hi : ∀ whole, isTrue e X.env whole = (do let v ← whole; standAt e.pos; holding [v] (truthy v)) := by intro _; rfl) : ST X CA e (wTru te) :=
  ⟨fun W tk => PT.of (pt_truth (he.run W tk) hi) (by
    rintro σ H Q ⟨ρ, F, env, h, Qd, Ed, G, E, w, gq, gx⟩
    refine ⟨ρ, F, env, h, _, Ed, G, E, w, ?_, gx⟩
    intro x h1 ρ1 F1 v H1 hq X1 G1 R1
    obtain ⟨k, t, q⟩ := tru_at G1 R1 hq
    exact ⟨k, t, gq k h1 ρ1 F1 H1 q X1 G1⟩)⟩
theorem SW.st {e : Expr} {t : wT} (h : SW X CA e t) : ST X CA e t := ⟨fun W tk => (h.run W tk).pt⟩
theorem sw_and1 (ha : ST X CA a tA) : SW X CA (.BoolOp .And [a] pos) tA := ⟨fun W tk => pw_and1 (ha.run W tk)⟩
theorem sw_or1 (ha : ST X CA a tA) : SW X CA (.BoolOp .Or [a] pos) tA := ⟨fun W tk => pw_or1 (ha.run W tk)⟩
theorem sw_and {rest : List Expr} (ha : ST X CA a tA) (hb : SW X CA (.BoolOp .And (b :: rest) pos) tB) : SW X CA (.BoolOp .And (a :: b :: rest) pos) (wAnd tA tB) := ⟨fun W tk => PW.of (pw_and (ha.run W tk) (hb.run W tk)) (by
  rintro σ H Q ⟨ρ, F, env, h, Qd, Ed, G, E, w, gq, gx⟩
  refine ⟨ρ, F, env, h, _, Ed, G, E, w, ?_, gx⟩
  intro k h1 ρ1 F1 H1 hq X1 G1
  cases k with
  | true => exact ⟨ρ1, F1, env, h1, Qd, Ed, G1, E.ext X1, hq, gq.on X1, gx.on X1⟩
  | false => exact gq false h1 ρ1 F1 H1 hq X1 G1)⟩
theorem sw_or {rest : List Expr} (ha : ST X CA a tA) (hb : SW X CA (.BoolOp .Or (b :: rest) pos) tB) : SW X CA (.BoolOp .Or (a :: b :: rest) pos) (wOr tA tB) := ⟨fun W tk => PW.of (pw_or (ha.run W tk) (hb.run W tk)) (by
  rintro σ H Q ⟨ρ, F, env, h, Qd, Ed, G, E, w, gq, gx⟩
  refine ⟨ρ, F, env, h, _, Ed, G, E, w, ?_, gx⟩
  intro k h1 ρ1 F1 H1 hq X1 G1
  cases k with
  | false => exact ⟨ρ1, F1, env, h1, Qd, Ed, G1, E.ext X1, hq, gq.on X1, gx.on X1⟩
  | true => exact gq true h1 ρ1 F1 H1 hq X1 G1)⟩
theorem st_not (ha : ST X CA a tA) : ST X CA (.UnaryOp .Not a pos) (wNot tA) := ⟨fun W tk => PT.of (pt_not (ha.run W tk)) (by
  rintro σ H Q ⟨ρ, F, env, h, Qd, Ed, G, E, w, gq, gx⟩
  refine ⟨ρ, F, env, h, _, Ed, G, E, w, ?_, gx⟩
  intro k h1 ρ1 F1 H1 hq X1 G1
  exact gq (!k) h1 ρ1 F1 H1 hq X1 G1)⟩
def wIf (t : wT) (ta tb : wE) : wE := fun env h Q E => t env h (fun c h1 => if c = true then ta env h1 Q E else tb env h1 Q E) E
theorem se_if (hc : ST X CA c tC) (ha : SE X CA a ta) (hb : SE X CA b tb) : SE X CA (.IfExp c a b pos) (wIf tC ta tb) := ⟨fun W tk => PE.of (pe_ifExp (hc.run W tk) (ha.run W tk) (hb.run W tk)) (by
  rintro σ H Q ⟨ρ, F, env, h, Qd, Ed, G, E, w, gq, gx⟩
  refine ⟨ρ, F, env, h, _, Ed, G, E, w, ?_, gx⟩
  intro k h1 ρ1 F1 H1 hq X1 G1
  cases k with
  | true => exact ⟨ρ1, F1, env, h1, Qd, Ed, G1, E.ext X1, hq, gq.on X1, gx.on X1⟩
  | false => exact ⟨ρ1, F1, env, h1, Qd, Ed, G1, E.ext X1, hq, gq.on X1, gx.on X1⟩)⟩
/-- and, or, not as values; all but the last are True or False -/
def wAndV (ta tb : wE) : wE := fun env h Q E => ta env h (fun d h1 => asB d fun c => if c = true then tb env h1 Q E else Q (.bl false) h1) E
def wOrV (ta tb : wE) : wE := fun env h Q E => ta env h (fun d h1 => asB d fun c => if c = true then Q (.bl true) h1 else tb env h1 Q E) E
def wNotV (ta : wE) : wE := fun env h Q E => ta env h (fun d h1 => asB d fun c => Q (.bl (!c)) h1) E
theorem se_one {op : BoolOp} (ha : SE X CA a ta) : SE X CA (.BoolOp op [a] pos) ta := ⟨fun W tk => pe_one (ha.run W tk)⟩
theorem se_and {rest : List Expr} (ha : SE X CA a ta) (hb : SE X CA (.BoolOp .And (b :: rest) pos) tb) : SE X CA (.BoolOp .And (a :: b :: rest) pos) (wAndV ta tb) := ⟨fun W tk => PE.of (pe_and (ha.run W tk) (hb.run W tk)) (by
  rintro σ H Q ⟨ρ, F, env, h, Qd, Ed, G, E, w, gq, gx⟩
  refine ⟨ρ, F, env, h, _, Ed, G, E, w, ?_, gx⟩
  intro x h1 ρ1 F1 v H1 hq X1 G1 R1
  cases x with
  | bl k =>
    cases (show v = .bl k from R1)
    refine ⟨k, rfl, ?_⟩
    cases k with
    | true => exact ⟨ρ1, F1, env, h1, Qd, Ed, G1, E.ext X1, hq, gq.on X1, gx.on X1⟩
    | false => exact gq (.bl false) h1 ρ1 F1 _ H1 hq X1 G1 rfl
  | _ => exact (show False from hq).elim)⟩
theorem se_or {rest : List Expr} (ha : SE X CA a ta) (hb : SE X CA (.BoolOp .Or (b :: rest) pos) tb) : SE X CA (.BoolOp .Or (a :: b :: rest) pos) (wOrV ta tb) := ⟨fun W tk => PE.of (pe_or (ha.run W tk) (hb.run W tk)) (by
  rintro σ H Q ⟨ρ, F, env, h, Qd, Ed, G, E, w, gq, gx⟩
  refine ⟨ρ, F, env, h, _, Ed, G, E, w, ?_, gx⟩
  intro x h1 ρ1 F1 v H1 hq X1 G1 R1
  cases x with
  | bl k =>
    cases (show v = .bl k from R1)
    refine ⟨k, rfl, ?_⟩
    cases k with
    | false => exact ⟨ρ1, F1, env, h1, Qd, Ed, G1, E.ext X1, hq, gq.on X1, gx.on X1⟩
    | true => exact gq (.bl true) h1 ρ1 F1 _ H1 hq X1 G1 rfl
  | _ => exact (show False from hq).elim)⟩
theorem se_not (ha : SE X CA a ta) : SE X CA (.UnaryOp .Not a pos) (wNotV ta) := ⟨fun W tk => PE.of (pe_not (ha.run W tk)) (by
  rintro σ H Q ⟨ρ, F, env, h, Qd, Ed, G, E, w, gq, gx⟩
  refine ⟨ρ, F, env, h, _, Ed, G, E, w, ?_, gx⟩
  intro x h1 ρ1 F1 v H1 hq X1 G1 R1
  cases x with
  | bl k =>
    cases (show v = .bl k from R1)
    exact ⟨k, rfl, gq (.bl (!k)) h1 ρ1 F1 _ H1 hq X1 G1 rfl⟩
  | _ => exact (show False from hq).elim)⟩
/-- a < b < c -/
def wChain (f g : fO) (ta tb tc : wE) : wE := fun env h Q E => ta env h (fun x h1 => tb env h1 (fun y h2 => f x y h2 (fun z h3 => asB z fun k => if k = true then tc env h3 (fun w h4 => g y w h4 Q) E else Q (.bl false) h3)) E) E
theorem chain_imp {K : PySem.W.Frag} {W : WX} {f g : fO} {r r' : R2} (hf : OpD K CA f r) (hg : OpD K CA g r') : ∀ σ H Q, rd K CA W (wChain f g ta tb tc) σ H Q → tChain r r' (rd K CA W ta) (rd K CA W tb) (rd K CA W tc) σ H Q := by
  rintro σ H Q ⟨ρ, F, env, h, Qd, Ed, G, E, w, gq, gx⟩
  refine ⟨ρ, F, env, h, _, Ed, G, E, w, ?_, gx⟩
  intro x h1 ρ1 F1 v H1 hq X1 G1 R1
  refine ⟨ρ1, F1, env, h1, _, Ed, G1, E.ext X1, hq, ?_, gx.on X1⟩
  intro y h2 ρ2 F2 u H2 hq2 X2 G2 R2
  refine hf _ _ _ _ _ _ _ _ _ _ G2 (R1.ext X2) R2 hq2 ?_
  intro z h3 ρ3 F3 t H3 hq3 X3 G3 R3
  cases z with
  | bl k =>
    cases (show t = .bl k from R3)
    refine ⟨k, rfl, ?_⟩
    cases k with
    | false => exact gq (.bl false) h3 ρ3 F3 _ H3 hq3 ((X1.trans X2).trans X3) G3 rfl
    | true =>
      rw [if_pos rfl]
      refine ⟨ρ3, F3, env, h3, _, Ed, G3, E.ext ((X1.trans X2).trans X3), hq3, ?_, gx.on ((X1.trans X2).trans X3)⟩
      intro w' h4 ρ4 F4 t' H4 hq4 X4 G4 R4
      exact hg _ _ _ _ _ _ _ _ _ _ G4 ((R2.ext X3).ext X4) R4 hq4 (gq.on (((X1.trans X2).trans X3).trans X4))
  | _ => exact (show False from hq3).elim
theorem se_chain {op op' : CmpOp} {f g : fO} {r r' : R2} (ho : OpR X (compareOp op) r) (hf : OpD X.K CA f r) (ho' : OpR X (compareOp op') r') (hg : OpD X.K CA g r') (ha : SE X CA a ta) (hb : SE X CA b tb) (hc : SE X CA c tc)
    (hm : lastMarks [op, op'] [b, c] = false := by with_unfolding_all rfl) : SE X CA (.Compare a [op, op'] [b, c] pos) (wChain f g ta tb tc) :=
  ⟨fun W tk => PE.of (pe_chain ho ho' (ha.run W tk) (hb.run W tk) (hc.run W tk) hm) (chain_imp hf hg)⟩
theorem st_chain {op op' : CmpOp} {f g : fO} {r r' : R2} (ho : OpR X (compareOp op) r) (hf : OpD X.K CA f r) (ho' : OpR X (compareOp op') r') (hg : OpD X.K CA g r') (ha : SE X CA a ta) (hb : SE X CA b tb) (hc : SE X CA c tc)
    (hm : lastMarks [op, op'] [b, c] = false := by with_unfolding_all rfl) : ST X CA (.Compare a [op, op'] [b, c] pos) (wB (wChain f g ta tb tc)) :=
  ⟨fun W tk => PT.of (pt_chain ho ho' (ha.run W tk) (hb.run W tk) (hc.run W tk) hm) fun σ H Q w => by
    obtain ⟨ρ, F, env, h, Qd, Ed, G, E, w, gq, gx⟩ := asB_imp σ H Q w
    exact chain_imp hf hg σ H _ ⟨ρ, F, env, h, Qd, Ed, G, E, w, gq, gx⟩⟩
end

/-! ### statements -/
section
variable {X : Cx} {CA : Nat → Addr} {pos : Pos}
def wNext : wS := fun D env h => D.nx env h
def wSeq (t u : wS) : wS := fun D env h => t { D with nx := u D } env h
def wRet (te : wE) : wS := fun D env h => te env h D.rt (fun x h1 => D.ex x env h1)
def wRetN : wS := fun D _ h => D.rt .non h
def wAsg (i : Nat) (te : wE) : wS := fun D env h => te env h (fun d h1 => D.nx (env.set i (some d)) h1) (fun x h1 => D.ex x env h1)
def wDrop (te : wE) : wS := fun D env h => te env h (fun _ h1 => D.nx env h1) (fun x h1 => D.ex x env h1)
def wIfS (tt : wT) (t u : wS) : wS := fun D env h => tt env h (fun b h1 => if b = true then t D env h1 else u D env h1) (fun x h1 => D.ex x env h1)
theorem GoXS.atE {K : PySem.W.Frag} {ρ : List Addr} {F H : Hp} {env : Env} {σ : L2.St} {Ed : Exc → Env → Hs → Prop} {W : WX} (g : GoXS K CA ρ F H Ed W) (E : ERel K CA ρ F env σ) : GoX K CA ρ F H (fun x h1 => Ed x env h1) (WE W σ) := g.at E
theorem ERel.set {K : PySem.W.Frag} {ρ : List Addr} {F : Hp} {env : Env} {σ : L2.St} (E : ERel K CA ρ F env σ) {d : D} {v : V} (r : Rep K CA ρ F d v) (i : Nat) : ERel K CA ρ F (env.set i (some d)) (σ.set i (some v)) := by
  refine ⟨by rw [List.length_set, List.length_set]; exact E.1, fun k d' e => ?_⟩
  by_cases hk : i = k
  · subst hk
    have hl : i < env.length := by
      have := (List.getElem?_eq_some_iff.mp e).1
      rw [List.length_set] at this
      exact this
    rw [List.getElem?_set_self hl] at e
    cases e
    exact ⟨v, by rw [List.getElem?_set_self (by rw [← E.1]; exact hl)], r⟩
  · rw [List.getElem?_set_ne hk] at e
    rw [List.getElem?_set_ne hk]
    exact E.2 k d' e
theorem sss_nil : SSs X CA [] wNext := ⟨fun W tk => PSs.of pss_nil (by
  rintro D σ H ⟨ρ, F, env, h, Dd, G, E, w, g⟩
  exact g.nx env h ρ F σ H w (Ext.refl G) G E)⟩
theorem ss_pass : SS X CA (.Pass pos) wNext := ⟨fun W tk => PS.of ps_pass (by
  rintro D σ H ⟨ρ, F, env, h, Dd, G, E, w, g⟩
  exact g.nx env h ρ F σ H w (Ext.refl G) G E)⟩
theorem ss_doc {x : Str} {j : Nat} {p p' : Pos} : SS X CA (.Expr (.Constant (.str x) j p) p') wNext := ⟨fun W tk => PS.of ps_doc (by
  rintro D σ H ⟨ρ, F, env, h, Dd, G, E, w, g⟩
  exact g.nx env h ρ F σ H w (Ext.refl G) G E)⟩
def wBrk : wS := fun D env h => D.bk env h
def wCnt : wS := fun D env h => D.ct env h
theorem ss_break : SS X CA (.Break pos) wBrk := ⟨fun W tk => PS.of ps_break (by
  rintro D σ H ⟨ρ, F, env, h, Dd, G, E, w, g⟩
  exact g.bk env h ρ F σ H w (Ext.refl G) G E)⟩
theorem ss_continue : SS X CA (.Continue pos) wCnt := ⟨fun W tk => PS.of ps_continue (by
  rintro D σ H ⟨ρ, F, env, h, Dd, G, E, w, g⟩
  exact g.ct env h ρ F σ H w (Ext.refl G) G E)⟩
theorem seq_imp {K : PySem.W.Frag} {W : WX} {t u : wS} : ∀ D σ H, rdS K CA W (wSeq t u) D σ H → tSeq (rdS K CA W t) (rdS K CA W u) D σ H := by
  rintro D σ H ⟨ρ, F, env, h, Dd, G, E, w, g⟩
  refine ⟨ρ, F, env, h, { Dd with nx := u Dd }, G, E, w, ⟨?_, g.rt, g.bk, g.ct, g.ex⟩⟩
  intro env' h' ρ' F' σ' H' hq X1 G1 E1
  exact ⟨ρ', F', env', h', Dd, G1, E1, hq, g.on X1⟩
theorem sss_cons {s : Stmt} {ss : List Stmt} {t u : wS} (h1 : SS X CA s t) (h2 : SSs X CA ss u) : SSs X CA (s :: ss) (wSeq t u) := ⟨fun W tk => PSs.of (pss_cons (h1.run W tk) (h2.run W tk)) seq_imp⟩
theorem sss_one {s : Stmt} {t : wS} (h1 : SS X CA s t) : SSs X CA [s] t := ⟨fun W tk => pss_one (h1.run W tk)⟩
/-- a statement that is not reached -/
def wNever : wS := fun _ _ _ => False
theorem ss_never {s : Stmt} : SS X CA s wNever := ⟨fun W tk => PS.of ps_never (by
  rintro D σ H ⟨ρ, F, env, h, Dd, G, E, w, g⟩
  exact (show False from w).elim)⟩
theorem sss_never {s : List Stmt} : SSs X CA s wNever := ⟨fun W tk => PSs.of pss_never (by
  rintro D σ H ⟨ρ, F, env, h, Dd, G, E, w, g⟩
  exact (show False from w).elim)⟩
theorem ss_ret {e : Expr} {te : wE} (he : SE X CA e te) : SS X CA (.Return (some e) pos) (wRet te) := ⟨fun W tk => PS.of (ps_ret (he.run W tk)) (by
  rintro D σ H ⟨ρ, F, env, h, Dd, G, E, w, g⟩
  exact ⟨ρ, F, env, h, Dd.rt, _, G, E, w, g.rt, g.ex.at E⟩)⟩
theorem ss_retN : SS X CA (.Return none pos) wRetN := ⟨fun W tk => PS.of ps_retN (by
  rintro D σ H ⟨ρ, F, env, h, Dd, G, E, w, g⟩
  exact g.rt .non h ρ F .non H w (Ext.refl G) G rfl)⟩
theorem ss_set {i : Nat} {x : Str} {e : Expr} {te : wE} {pos' : Pos} (he : SE X CA e te) (hN : X.N.Nodup) (hi : X.N[i]? = some x := by rfl) (hx : Loc X.env.scope x := by first | exact Or.inl rfl | exact Or.inr rfl)
    (hs : swapsWith e (some (.Name x pos')) pos.line X.env = pure false := by rfl) (hf : X.fn x = true ∨ X.env.scope.names.lookup x = some .local := by first | exact .inl rfl | exact .inr rfl) : SS X CA (.Assign [.Name x pos'] e pos) (wAsg i te) :=
  ⟨fun W tk => PS.of (ps_set hN hi hx (he.run W tk) hs hf) (by
    rintro D σ H ⟨ρ, F, env, h, Dd, G, E, w, g⟩
    refine ⟨ρ, F, env, h, _, _, G, E, w, ?_, g.ex.at E⟩
    intro d h1 ρ1 F1 v H1 hq X1 G1 R1
    exact g.nx _ _ _ _ _ _ hq X1 G1 ((E.ext X1).set R1 i))⟩
theorem ss_expr {e : Expr} {te : wE} (he : SE X CA e te) (hs : swapsWith e none pos.line X.env = pure false := by rfl) : SS X CA (.Expr e pos) (wDrop te) := ⟨fun W tk => PS.of (ps_expr (he.run W tk) hs) (by
  rintro D σ H ⟨ρ, F, env, h, Dd, G, E, w, g⟩
  refine ⟨ρ, F, env, h, _, _, G, E, w, ?_, g.ex.at E⟩
  intro d h1 ρ1 F1 v H1 hq X1 G1 R1
  exact g.nx _ _ _ _ _ _ hq X1 G1 (E.ext X1))⟩
theorem ss_if {c : Expr} {a b : List Stmt} {tc : wT} {t u : wS} (hc : ST X CA c tc) (ha : SSs X CA a t) (hb : SSs X CA b u) : SS X CA (.If c a b pos) (wIfS tc t u) := ⟨fun W tk => PS.of (ps_if (hc.run W tk) (ha.run W tk) (hb.run W tk)) (by
  rintro D σ H ⟨ρ, F, env, h, Dd, G, E, w, g⟩
  refine ⟨ρ, F, env, h, _, _, G, E, w, ?_, g.ex.at E⟩
  intro k h1 ρ1 F1 H1 hq X1 G1
  cases k with
  | true => exact ⟨ρ1, F1, env, h1, Dd, G1, E.ext X1, hq, g.on X1⟩
  | false => exact ⟨ρ1, F1, env, h1, Dd, G1, E.ext X1, hq, g.on X1⟩)⟩
/-- a, b = e1, e2 | a, b, c = e1, e2, e3 -/
def wPar (i j : Nat) (ta : wL) : wS := fun D env h => ta env h (fun ds h1 => ∃ a b, ds = [a, b] ∧ D.nx ((env.set i (some a)).set j (some b)) h1) (fun x h1 => D.ex x env h1)
def wPar3 (i j l : Nat) (ta : wL) : wS := fun D env h => ta env h (fun ds h1 => ∃ a b c, ds = [a, b, c] ∧ D.nx (((env.set i (some a)).set j (some b)).set l (some c)) h1) (fun x h1 => D.ex x env h1)
theorem ss_par {i j : Nat} {x y : Str} {a b : Expr} {ta : wL} {px py pt : Pos} {kt k2 pt2} (ha : SA X CA [a, b] ta) (hN : X.N.Nodup) (hi : X.N[i]? = some x := by rfl) (hj : X.N[j]? = some y := by rfl) (hij : i ≠ j := by decide)
    (hx : X.env.scope.names.lookup x = some .local := by rfl) (hy : X.env.scope.names.lookup y = some .local := by rfl)
    (hw : swappedStores [.Tuple [.Name x px, .Name y py] kt pt] (.Tuple [a, b] k2 pt2) X.env = pure (some [x, y]) := by rfl)
    (hs : swapsWithSole [.Tuple [.Name x px, .Name y py] kt pt] (.Tuple [a, b] k2 pt2) pos.line X.env = pure false := by rfl) (hc : X.calm = true := by rfl) :
    SS X CA (.Assign [.Tuple [.Name x px, .Name y py] kt pt] (.Tuple [a, b] k2 pt2) pos) (wPar i j ta) := ⟨fun W tk => PS.of (ps_par hc hN hi hj hij hx hy (ha.run W tk) hw hs) (by
  rintro D σ H ⟨ρ, F, env, h, Dd, G, E, w, g⟩
  refine ⟨ρ, F, env, h, _, _, G, E, w, ?_, g.ex.at E⟩
  rintro ds h1 ρ1 F1 vs H1 ⟨d1, d2, rfl, hq⟩ X1 G1 R1
  obtain ⟨v1, r1, rfl, R1, v2, r2, rfl, R2, e⟩ := R1
  cases (show r2 = [] from e)
  exact ⟨v1, v2, rfl, g.nx _ _ _ _ _ _ hq X1 G1 (((E.ext X1).set R1 i).set R2 j)⟩)⟩
theorem ss_par3 {i j l : Nat} {x y z : Str} {a b c : Expr} {ta : wL} {px py pz pt : Pos} {kt k2 pt2} (ha : SA X CA [a, b, c] ta) (hN : X.N.Nodup) (hi : X.N[i]? = some x := by rfl) (hj : X.N[j]? = some y := by rfl) (hl : X.N[l]? = some z := by rfl) (hij : i ≠ j := by decide) (hil : i ≠ l := by decide) (hjl : j ≠ l := by decide)
    (hx : X.env.scope.names.lookup x = some .local := by rfl) (hy : X.env.scope.names.lookup y = some .local := by rfl) (hz : X.env.scope.names.lookup z = some .local := by rfl)
    (hw : swappedStores [.Tuple [.Name x px, .Name y py, .Name z pz] kt pt] (.Tuple [a, b, c] k2 pt2) X.env = pure (some [x, y, z]) := by rfl)
    (hs : swapsWithSole [.Tuple [.Name x px, .Name y py, .Name z pz] kt pt] (.Tuple [a, b, c] k2 pt2) pos.line X.env = pure false := by rfl) (hc : X.calm = true := by rfl) :
    SS X CA (.Assign [.Tuple [.Name x px, .Name y py, .Name z pz] kt pt] (.Tuple [a, b, c] k2 pt2) pos) (wPar3 i j l ta) := ⟨fun W tk => PS.of (ps_par3 hc hN hi hj hl hij hil hjl hx hy hz (ha.run W tk) hw hs) (by
  rintro D σ H ⟨ρ, F, env, h, Dd, G, E, w, g⟩
  refine ⟨ρ, F, env, h, _, _, G, E, w, ?_, g.ex.at E⟩
  rintro ds h1 ρ1 F1 vs H1 ⟨d1, d2, d3, rfl, hq⟩ X1 G1 R1
  obtain ⟨v1, r1, rfl, R1, v2, r2, rfl, R2, v3, r3, rfl, R3, e⟩ := R1
  cases (show r3 = [] from e)
  exact ⟨v1, v2, v3, rfl, g.nx _ _ _ _ _ _ hq X1 G1 ((((E.ext X1).set R1 i).set R2 j).set R3 l)⟩)⟩
/-- x op= e -/
def wAug (i : Nat) (te : wE) (f : fO) : wS := fun D env h => onSlot env[i]? fun d => te env h (fun e h1 => f d e h1 (fun r h2 => D.nx (env.set i (some r)) h2)) (fun x h1 => D.ex x env h1)
theorem ss_aug {i : Nat} {x : Str} {e : Expr} {te : wE} {op : Operator} {f : fO} {ti : TIp} {pos' : Pos} (ho : PIp X op ti) (hf : OpD X.K CA f ti) (he : SE X CA e te) (hN : X.N.Nodup) (hi : X.N[i]? = some x := by rfl) (hx : Loc X.env.scope x := by first | exact Or.inl rfl | exact Or.inr rfl)
    (hfn : X.fn x = true ∨ X.env.scope.names.lookup x = some .local := by first | exact .inl rfl | exact .inr rfl) : SS X CA (.AugAssign (.Name x pos') op e pos) (wAug i te f) := ⟨fun W tk => PS.of (ps_aug hN hi hx (he.run W tk) ho hfn) (by
  rintro D σ H ⟨ρ, F, env, h, Dd, G, E, w, g⟩
  unfold wAug onSlot at w
  split at w
  · rename_i d e1
    obtain ⟨v, e2, r⟩ := E.2 i d e1
    refine ⟨v, e2, ρ, F, env, h, _, _, G, E, w, ?_, g.ex.at E⟩
    intro d2 h1 ρ1 F1 v2 H1 hq X1 G1 R1
    refine hf _ _ _ _ _ _ _ _ _ _ G1 (r.ext X1) R1 hq ?_
    intro d3 h2 ρ2 F2 v3 H2 hq2 X2 G2 R2
    exact g.nx _ _ _ _ _ _ hq2 (X1.trans X2) G2 (((E.ext X1).ext X2).set R2 i)
  · exact w.elim)⟩
/-- o[i] = e, o a cell of a list -/
def setIxD (o i v : D) (h : Hs) (p : Hs → Prop) : Prop := match o, i with
  | .ref j, .int k => match h[j]? with
    | some (.lst ds) => match ixN ds.length k with
      | some n => p (h.set j (.lst (ds.set n v)))
      | none => False
    | _ => False
  | _, _ => False
def wSetIx (to ti te : wE) : wS := fun D env h => te env h (fun v h1 => to env h1 (fun o h2 => ti env h2 (fun i h3 => setIxD o i v h3 (fun h4 => D.nx env h4)) (fun x h1 => D.ex x env h1)) (fun x h1 => D.ex x env h1)) (fun x h1 => D.ex x env h1)
theorem ss_setIx {o i e : Expr} {to ti te : wE} {p : Pos} (he : SE X CA e te) (ho : SE X CA o to) (hi : SE X CA i ti) (hs : swapsWithSole [.Subscript o i p] e pos.line X.env = pure false := by rfl) (hw : swappedStores [.Subscript o i p] e X.env = pure none := by rfl)
    (h1 : (assignEach [.Subscript o i p] X.env).map (·.2) = [assign (.Subscript o i p) X.env] := by rfl)
    (ha : ∀ v, assign (.Subscript o i p) X.env v = (do
      let ov ← holding [v] (eval o X.env)
      let iv ← holding [v, ov] (eval i X.env)
      standAt p
      holding [v, ov, iv] (setItem ov iv v)
      release [v, ov, iv] []) := by intro _; rfl) : SS X CA (.Assign [.Subscript o i p] e pos) (wSetIx to ti te) := ⟨fun W tk => PS.of (ps_asg (he.run W tk) (pg_sub (ho.run W tk) (hi.run W tk) set_list ha) hs hw h1) (by
  rintro D σ H ⟨ρ, F, env, h, Dd, G, E, w, g⟩
  refine ⟨ρ, F, env, h, _, _, G, E, w, ?_, g.ex.at E⟩
  intro d h1 ρ1 F1 v H1 hq X1 G1 R1
  refine ⟨ρ1, F1, env, h1, _, _, G1, E.ext X1, hq, ?_, (g.ex.on X1).at (E.ext X1)⟩
  intro d2 h2 ρ2 F2 v2 H2 hq2 X2 G2 R2
  refine ⟨ρ2, F2, env, h2, _, _, G2, E.ext (X1.trans X2), hq2, ?_, (g.ex.on (X1.trans X2)).at (E.ext (X1.trans X2))⟩
  intro d3 h3 ρ3 F3 v3 H3 hq3 X3 G3 R3
  unfold setIxD at hq3
  split at hq3
  · rename_i j k
    split at hq3
    · rename_i ds hc
      split at hq3
      · rename_i n hn
        obtain ⟨a, ha, rfl⟩ := R2.ext X3
        cases (show v3 = .int k from R3)
        obtain ⟨xs, hx, r⟩ := G3.cell j _ a hc ha
        refine ⟨a, xs, k, n, rfl, rfl, hx, by rw [← r.length]; exact hn, ?_⟩
        have rv := (R1.ext X2).ext X3
        obtain ⟨G4, X4⟩ := G3.cellSet hc ha (.lst (xs.set n v)) (c := .lst (ds.set n d)) ⟨_, upd_same, Reps.set rv n r⟩
        exact g.nx _ _ _ _ _ _ hq3 (((X1.trans X2).trans X3).trans X4) G4 (E.ext (((X1.trans X2).trans X3).trans X4))
      · exact hq3.elim
    · exact hq3.elim
  · exact hq3.elim)⟩
end

/-! ### the rule for a def -/
section
variable {P : Program} {w : World} {K : PySem.W.Frag} {mg : Str → Option Value} {base : Heap} {CA : Nat → Addr}
def endsOf (Q : PQ) (E : PX) : Dn := { nx := fun _ h => Q .non h, rt := Q, ex := fun x _ h => E x h }
theorem erel_start {ρ : List Addr} {F : Hp} {N : List Str} {ds : List D} {vs : List V} (r : Reps K CA ρ F ds vs) : ERel K CA ρ F (ds.map some ++ List.replicate (N.length - ds.length) none) (L2.start N vs) := by
  refine ⟨?_, fun k d e => ?_⟩
  · unfold L2.start
    rw [List.length_append, List.length_append, List.length_map, List.length_map, r.length]
    simp
  · unfold L2.start
    by_cases hk : k < ds.length
    · rw [List.getElem?_append_left (by simpa using hk), List.getElem?_map] at e
      cases e2 : ds[k]? with
      | none =>
        rw [e2] at e
        cases e
      | some d2 =>
        rw [e2] at e
        cases e
        obtain ⟨v, h1, h2⟩ := r.get e2
        refine ⟨v, ?_, h2⟩
        rw [List.getElem?_append_left (by rw [List.length_map, ← r.length]; exact hk), List.getElem?_map, h1]
        rfl
    · rw [List.getElem?_append_right (by simpa using hk)] at e
      have := List.mem_of_getElem? e
      simp at this
theorem fnD {x qual : Str} {st : Stmt} {f : Addr} {fd : FuncData} {N ps : List Str} {k : Nat} {C : Ct} {t : wS} (Fo : Fun K x qual st f fd) (S : FnScope N ps (defScope st))
    (hb : ∀ cdv A outer s H E, Rm k (A.deeper (envOfC qual (defScope st) s.heap.objs.size f cdv)) → SSs (cxOf (L2N.CX P w) P w K mg base N qual (defScope st) f cdv A outer s H E) CA (defBody st) t)
    (vc : ∀ ds h Q E, ds.length = ps.length → C ds h Q E → t (endsOf Q E) (ds.map some ++ List.replicate (N.length - ds.length) none) h) :
    FnG P w K mg base (L2N.CX P w) (k + 1) f fd ps (spD K CA ps.length C) := by
  obtain ⟨oc, od, kV, doc, pm, an, cdv, ct, osl, rfl, lk, hcd⟩ := Fo.ex
  refine ⟨fun vs H Q E h => h.1, fun A outer s H args us vs Q E hr e0 hbd r hsp => ?_⟩
  have hl := hsp.1
  have KX : K.In s.heap := e0.mod.kin.keeps fun b o e => (e0.bs b o e).1
  have lim : s.heap.NoLimit := e0.mod.nolimit.keeps fun b o e => (e0.bs b o e).1
  have kinds : ∀ y ∈ ps.zip us, (defScope st).names.lookup y.1 = some .local ∨ ((defScope st).names.lookup y.1 = some .cell ∧ ((cellsFrom (s.heap.objs.size + 1) (defScope st).names []).lookup y.1).isSome = true) := fun y hy => by
    rcases S.par y.1 (List.of_mem_zip (a := y.1) (b := y.2) hy).1 with q | q
    · exact .inl q
    · exact .inr ⟨q, PySem.W.cellsFrom_some _ _ _ (.inl q)⟩
  refine codeAny_call_function hr.room.depth (KX _ _ lk) rfl S.co S.gen rfl (PySem.W.codeRec_of KX hcd) (hbd _ _ _ _ ?_)
  refine wpAny_newFunctionEnv_cells S.kind kinds fun env he s1 x => ?_
  subst he
  refine ⟨lim.keeps x.toInCall.keep, codeAny_func ?_⟩
  have I : Inv (cxOf (L2N.CX P w) P w K mg base N qual (defScope st) f cdv A outer s H E) [] (L2.start N vs) H s1 := inv_start S hr.room.hd e0 hl r x
  obtain ⟨_, ρ, F, h, ds, Qd, Ed, G, R, c, gq, gx⟩ := hsp
  have hq : rdS K CA (fun cls d _ H => E cls d H) t { nx := fun _ H' => Q .non H', rt := Q } (L2.start N vs) H := by
    refine ⟨ρ, F, _, h, endsOf Qd Ed, G, erel_start R, vc ds h Qd Ed (by rw [R.length]; exact hl) c, ?_⟩
    refine ⟨fun env' h' ρ' F' σ' H' hq X1 G1 E1 => gq .non h' ρ' F' .non H' hq X1 G1 rfl, gq, fun _ _ _ _ _ _ hq => hq.elim, fun _ _ _ _ _ _ hq => hq.elim, fun xx env' h' ρ' F' σ' H' cls dd hq X1 G1 E1 R1 => gx xx h' ρ' F' H' cls dd hq X1 G1 R1⟩
  have hrd : Rm k (A.deeper (envOfC qual (defScope st) s.heap.objs.size f cdv)) := ⟨hr.room.deeper _, hr.gd⟩
  refine wpAny_mono (((hb cdv A outer s H E hrd).run _ (L2N.takes_of rfl rfl rfl rfl)).run [] s1 (L2.start N vs) H _ I hq) (fun fl s' hs => ?_) fun e s' hs => hs
  have fin : ∀ {σ' : L2.St} {H' : Hp} {v : V} {u : Value}, Inv (cxOf (L2N.CX P w) P w K mg base N qual (defScope st) f cdv A outer s H E) [] σ' H' s' → RelV v u → Q v H' → CE outer P w H s Q u s' :=
    fun {σ' H' v u} J rv q => ⟨v, H', J.os, J.bare, J.base, J.hok, rv, q⟩
  match fl, hs with
  | .ret u, ⟨v, σ', H', J, rv, q⟩ => exact fin J rv q
  | .next, ⟨σ', H', J, q⟩ => exact fin (v := V.non) (u := Value.none) J rfl q
  | .brk, ⟨_, _, _, q⟩ => exact q.elim
  | .cont, ⟨_, _, _, q⟩ => exact q.elim
/-- a weaker contract -/
theorem Callee.imp {k n : Nat} {x : Str} {dd : List D} {C C' : Ct} (c : Callee P w K mg base CA k x n dd C) (i : ∀ ds h Q E, C' ds h Q E → C ds h Q E) : Callee P w K mg base CA k x n dd C' := by
  obtain ⟨f, fd, ps, ds, dvs, hm, hk, hn, hb, hd, hrep, Fo⟩ := c.ex
  exact ⟨f, fd, ps, ds, dvs, hm, hk, hn, hb, hd, hrep, Fo.imp fun vs H Q E ⟨l, ρ, F, h, es, Qd, Ed, G, R, q, r⟩ => ⟨l, ρ, F, h, es, Qd, Ed, G, R, i _ _ _ _ q, r⟩⟩
theorem Callee.mono {k k' n : Nat} {x : Str} {dd : List D} {C : Ct} (c : Callee P w K mg base CA k x n dd C) (i : k ≤ k') : Callee P w K mg base CA k' x n dd C := by
  obtain ⟨f, fd, ps, ds, dvs, hm, hk, hn, hb, hd, hrep, Fo⟩ := c.ex
  exact ⟨f, fd, ps, ds, dvs, hm, hk, hn, hb, hd, hrep, Fo.mono i⟩
theorem callee_mk {x : Str} {f : Addr} {fd : FuncData} {ps : List Str} {k : Nat} {C : Ct} (hm : mg x = some (.ref f)) (hk : PySem.W.keepIn K (.ref f) = true) (hb : Binds K fd ps []) (Fo : FnG P w K mg base (L2N.CX P w) k f fd ps (spD K CA ps.length C)) : Callee P w K mg base CA k x ps.length [] C :=
  ⟨f, fd, ps, [], [], hm, hk, rfl, hb, .nil, fun _ _ => Reps.nil, Fo⟩
end
end DL
/-! DL3: what a loop or a comprehension walks (IterD, SI), targets (SG), for, while, list comprehensions. -/
namespace DL
open PySem PySem.Spec PyProof.Rows L2

/-- J gives the data ds, one by one, at every later state -/
def IterD (K : PySem.W.Frag) (CA : Nat → Addr) (ρ : List Addr) (F H : Hp) (J : It) (ds : List D) : Prop :=
  ∀ ρ1 F1 h1 H1, Ext ρ F H ρ1 F1 H1 → GRel K CA ρ1 F1 h1 H1 → (∀ i, i < ds.length → J.go i H1) ∧ J.stop ds.length H1 ∧
    ∀ i x H2, i < ds.length → J.yld i H1 x H2 → ∃ F2 d, Ext ρ1 F1 H1 ρ1 F2 H2 ∧ GRel K CA ρ1 F2 h1 H2 ∧ ds[i]? = some d ∧ Rep K CA ρ1 F2 d x
def rdI (K : PySem.W.Frag) (CA : Nat → Addr) (W : WX) (t : wL) : TI := fun σ H R => ∃ ρ F env h Qd Ed, GRel K CA ρ F h H ∧ ERel K CA ρ F env σ ∧ t env h Qd Ed ∧
  (∀ ds h' ρ' F' H' J, Qd ds h' → Ext ρ F H ρ' F' H' → GRel K CA ρ' F' h' H' → IterD K CA ρ' F' H' J ds → R J H') ∧ GoX K CA ρ F H Ed (WE W σ)
structure SI (X : Cx) (CA : Nat → Addr) (tg iter : Expr) (t : wL) : Prop where
  run : ∀ W, L2N.Takes X W → PI X tg iter (rdI X.K CA W t)
/-- a target by data -/
abbrev wG := D → Env → (Env → Prop) → Prop
def rdG (K : PySem.W.Frag) (CA : Nat → Addr) (g : wG) : TG := fun v σ H Q => ∃ ρ F h env d Qd, GRel K CA ρ F h H ∧ ERel K CA ρ F env σ ∧ Rep K CA ρ F d v ∧ g d env Qd ∧ ∀ env' σ', Qd env' → ERel K CA ρ F env' σ' → Q σ' H
structure SG (X : Cx) (CA : Nat → Addr) (tg : Expr) (g : wG) : Prop where
  run : PG X tg (rdG X.K CA g)
abbrev wGs := List D → Env → (Env → Prop) → Prop
def rdGs (K : PySem.W.Frag) (CA : Nat → Addr) (g : wGs) : TGs := fun vs σ H Q => ∃ ρ F h env ds Qd, GRel K CA ρ F h H ∧ ERel K CA ρ F env σ ∧ Reps K CA ρ F ds vs ∧ g ds env Qd ∧ ∀ env' σ', Qd env' → ERel K CA ρ F env' σ' → Q σ' H
structure SGs (X : Cx) (CA : Nat → Addr) (tgs : List Expr) (g : wGs) : Prop where
  run : PGs X tgs (rdGs X.K CA g)
section
variable {X : Cx} {CA : Nat → Addr} {pos : Pos}
theorem PG.of {tg : Expr} {t t' : TG} (h : PG X tg t) (i : ∀ v σ H Q, t' v σ H Q → t v σ H Q) : PG X tg t' := ⟨fun pins s σ H v u Q I r w => h.run pins s σ H v u Q I r (i v σ H Q w)⟩
theorem PGs.of {tg : List Expr} {t t' : TGs} (h : PGs X tg t) (i : ∀ v σ H Q, t' v σ H Q → t v σ H Q) : PGs X tg t' := ⟨fun pins s σ H v u Q I r w => h.run pins s σ H v u Q I r (i v σ H Q w)⟩
def wGn (i : Nat) : wG := fun d env k => k (env.set i (some d))
def wGnil : wGs := fun ds env k => ds = [] ∧ k env
def wGcons (g : wG) (gs : wGs) : wGs := fun ds env k => match ds with
  | d :: r => g d env fun env' => gs r env' k
  | [] => False
def wGtup (n : Nat) (gs : wGs) : wG := fun d env k => match d with
  | .tup ds => ds.length = n ∧ gs ds env k
  | _ => False
theorem sg_name {i : Nat} {x : Str} (hN : X.N.Nodup) (hi : X.N[i]? = some x := by rfl) (hx : Loc X.env.scope x := by first | exact Or.inl rfl | exact Or.inr rfl) (hf : X.fn x = true ∨ X.env.scope.names.lookup x = some .local := by first | exact .inl rfl | exact .inr rfl) :
    SG X CA (.Name x pos) (wGn i) := ⟨PG.of (pg_name hN hi hx hf) (by
  rintro v σ H Q ⟨ρ, F, h, env, d, Qd, G, E, R, w, k⟩
  exact k _ _ w (E.set R i))⟩
theorem sgs_nil : SGs X CA [] wGnil := ⟨PGs.of pgs_nil (by
  rintro v σ H Q ⟨ρ, F, h, env, ds, Qd, G, E, R, w, k⟩
  obtain ⟨rfl, w⟩ := w
  exact ⟨R, k _ _ w E⟩)⟩
theorem sgs_cons {e : Expr} {es : List Expr} {g : wG} {gs : wGs} (h1 : SG X CA e g) (h2 : SGs X CA es gs) (hs : (assignEach (e :: es) X.env).map (·.2) = assign e X.env :: (assignEach es X.env).map (·.2) := by rfl) : SGs X CA (e :: es) (wGcons g gs) := ⟨PGs.of (pgs_cons h1.run h2.run hs) (by
  rintro v σ H Q ⟨ρ, F, h, env, ds, Qd, G, E, R, w, k⟩
  cases ds with
  | nil => exact (show False from w).elim
  | cons d r =>
    obtain ⟨v1, r1, rfl, R1, R2⟩ := R
    refine ⟨v1, r1, rfl, ρ, F, h, env, d, _, G, E, R1, w, ?_⟩
    intro env' σ' hq E'
    exact ⟨ρ, F, h, env', r, Qd, G, E', R2, hq, k⟩)⟩
theorem sg_tup {es : List Expr} {kk : Nat} {gs : wGs} {n : Nat} (hg : SGs X CA es gs) (hc : X.calm = true := by rfl) (hn : (assignEach es X.env).length = n := by rfl) (hst : (assignEach es X.env).findIdx? (·.1) = none := by rfl) : SG X CA (.Tuple es kk pos) (wGtup n gs) := ⟨PG.of (pg_tup hc hg.run hn hst) (by
  rintro v σ H Q ⟨ρ, F, h, env, d, Qd, G, E, R, w, k⟩
  cases d with
  | tup ds =>
    obtain ⟨a, xs, rfl, q, r⟩ := R
    exact ⟨a, xs, rfl, G.sqT q, by rw [← r.length]; exact w.1, ρ, F, h, env, ds, Qd, G, E, r, w.2, k⟩
  | _ => exact (show False from w).elim)⟩
/-- target = e -/
def wAsgG (te : wE) (g : wG) : wS := fun D env h => te env h (fun d h1 => g d env fun env' => D.nx env' h1) (fun x h1 => D.ex x env h1)
theorem ss_asg {tg e : Expr} {te : wE} {g : wG} (he : SE X CA e te) (hg : SG X CA tg g) (hs : swapsWithSole [tg] e pos.line X.env = pure false := by rfl) (hw : swappedStores [tg] e X.env = pure none := by rfl)
    (h1 : (assignEach [tg] X.env).map (·.2) = [assign tg X.env] := by rfl) : SS X CA (.Assign [tg] e pos) (wAsgG te g) := ⟨fun W tk => PS.of (ps_asg (he.run W tk) hg.run hs hw h1) (by
  rintro D σ H ⟨ρ, F, env, h, Dd, G, E, w, g⟩
  refine ⟨ρ, F, env, h, _, _, G, E, w, ?_, g.ex.at E⟩
  intro d h1 ρ1 F1 v H1 hq X1 G1 R1
  exact ⟨ρ1, F1, h1, env, d, _, G1, E.ext X1, R1, hq, fun env' σ' hq' E' => g.nx _ _ _ _ _ _ hq' X1 G1 E'⟩)⟩

/-! ### sources -/
theorem PI.of {tg iter : Expr} {t t' : TI} (h : PI X tg iter t) (i : ∀ σ H R, t' σ H R → t σ H R) : PI X tg iter t' := ⟨fun pins s σ H R I w => h.run pins s σ H R I (i σ H R w)⟩
/-- what a sequence's items are -/
def seqOf (h : Hs) : D → Option (List D)
  | .lst ds => some ds
  | .rol ds => some ds
  | .tup ds => some ds
  | .str x => some (x.cps.toList.map fun c => .str ⟨#[c]⟩)
  | _ => none
def wSeqI (te : wE) : wL := fun env h Q E => te env h (fun d h1 => match seqOf h1 d with
  | some ds => Q ds h1
  | none => False) E
theorem iterD_walk {K : PySem.W.Frag} {ρ : List Addr} {F H : Hp} {J : It} {ds : List D} {n : Nat} {Gd : Hp → Prop} {Y : Nat → Hp → V → Hp → Prop} (wk : Walk J n Gd Y) (hn : n = ds.length)
    (hG : ∀ ρ1 F1 h1 H1, Ext ρ F H ρ1 F1 H1 → GRel K CA ρ1 F1 h1 H1 → Gd H1)
    (hY : ∀ ρ1 F1 h1 H1, Ext ρ F H ρ1 F1 H1 → GRel K CA ρ1 F1 h1 H1 → ∀ i x H2, i < n → Y i H1 x H2 → ∃ F2 d, Ext ρ1 F1 H1 ρ1 F2 H2 ∧ GRel K CA ρ1 F2 h1 H2 ∧ ds[i]? = some d ∧ Rep K CA ρ1 F2 d x) : IterD K CA ρ F H J ds := by
  subst hn
  intro ρ1 F1 h1 H1 X1 G1
  have g := hG ρ1 F1 h1 H1 X1 G1
  exact ⟨fun i hi => wk.goes i H1 hi g, wk.stops H1 g, fun i x H2 hi y => hY ρ1 F1 h1 H1 X1 G1 i x H2 hi (wk.yields i H1 x H2 hi g y)⟩
theorem iterD_at {K : PySem.W.Frag} {ρ : List Addr} {F H : Hp} {J : It} {ds : List D} {xs : List V} {Gd : Hp → Prop} (wk : Walk J xs.length Gd (YAt xs)) (r : Reps K CA ρ F ds xs)
    (hG : ∀ ρ1 F1 h1 H1, Ext ρ F H ρ1 F1 H1 → GRel K CA ρ1 F1 h1 H1 → Gd H1) : IterD K CA ρ F H J ds := iterD_walk wk r.length.symm hG fun ρ1 F1 h1 H1 X1 G1 i x H2 hi y => by
  obtain ⟨rfl, y⟩ := y
  obtain ⟨d, e, q⟩ := (r.ext X1).get' y
  exact ⟨F1, d, Ext.refl G1, G1, e, q⟩
/-- a list, a tuple, a text -/
def iSeq (K : PySem.W.Frag) (tl : TE) : TI := fun σ H R => tl σ H fun x H1 => (∃ a, x = .ref a ∧ (∃ xs, SqL K H1 a xs) ∧ R (Itl K a) H1) ∨ (∃ a, x = .ref a ∧ (∃ xs, SqT K H1 a xs) ∧ R (Itt K a) H1) ∨ ∃ z, x = .str z ∧ R (Its z) H1
theorem pi_seq {tg l : Expr} {tl : TE} (hl : PE X l tl) : PI X tg l (iSeq X.K tl) := by
  refine ⟨fun pins s σ H R I hw => ?_⟩
  refine thn (hl.run pins s σ H _ I hw) fun v s1 ⟨x, H1, J1, rx, q1⟩ => ?_
  have fresh : ∀ b : Addr, b ∈ [s1.heap.objs.size] → FpOk X pins H1 b := fun b hb => by
    rw [List.mem_singleton.mp hb]
    exact J1.fpOk (Nat.le_refl _) (J1.hok.fresh (Nat.le_refl _))
  rcases q1 with ⟨a, e, ⟨xs, sq⟩, q⟩ | ⟨a, e, ⟨xs, sq⟩, q⟩ | ⟨z, e, q⟩
  · subst e
    cases rx
    obtain ⟨its, rv, pl, _⟩ := J1.list sq
    refine wpAny_pyIter_list pl.isList ⟨_, [s1.heap.objs.size], _, _, H1, rfl, J1.kept (t' := s1.toks) fun _ _ e => Heap.get?_push_of_some _ e, turn_list a _, ⟨_, Heap.get?_push_size _ rfl, rfl, rfl⟩, fresh, q⟩
  · subst e
    cases rx
    obtain ⟨its, rv, pl, _⟩ := J1.tuple sq
    refine wpAny_pyIter_tuple (show s1.heap.IsTuple a its.toArray from pl) ⟨_, [s1.heap.objs.size], _, _, H1, rfl, J1.kept (t' := s1.toks) fun _ _ e => Heap.get?_push_of_some _ e, turn_tuple a _, ⟨_, Heap.get?_push_size _ rfl, rfl, rfl⟩, fresh, q⟩
  · subst e
    obtain ⟨t, rfl⟩ := rx
    cases asc : z.cps.all (· < 128)
    · exact wpAny_pyIter_wide asc (pi_one (tk := s1.toks) J1 _ (turn_str _ z t "str_iterator" (.inr rfl)) ⟨_, Heap.get?_push_size _ rfl, rfl, rfl⟩ q)
    · exact wpAny_pyIter_ascii asc (pi_one (tk := s1.toks) J1 _ (turn_str _ z t "str_ascii_iterator" (.inl rfl)) ⟨_, Heap.get?_push_size _ rfl, rfl, rfl⟩ q)
theorem si_seq {tg e : Expr} {te : wE} (he : SE X CA e te) : SI X CA tg e (wSeqI te) := ⟨fun W tk => PI.of (pi_seq (he.run W tk)) (by
  rintro σ H R ⟨ρ, F, env, h, Qd, Ed, G, E, w, gq, gx⟩
  refine ⟨ρ, F, env, h, _, Ed, G, E, w, ?_, gx⟩
  intro d h1 ρ1 F1 v H1 hq X1 G1 R1
  cases d with
  | lst ds =>
    obtain ⟨a, xs, rfl, q, r⟩ := R1
    exact .inl ⟨a, rfl, ⟨xs, SqL.of (G1.sub _ _ q)⟩, gq _ _ _ _ _ _ hq X1 G1 (iterD_at walk_list r fun ρ2 F2 h2 H2 X2 G2 => SqL.of (G2.sub _ _ (X2.sub _ _ q)))⟩
  | rol ds =>
    obtain ⟨a, xs, rfl, q, r⟩ := R1
    exact .inl ⟨a, rfl, ⟨xs, G1.sqL q⟩, gq _ _ _ _ _ _ hq X1 G1 (iterD_at walk_list r fun ρ2 F2 h2 H2 X2 G2 => G2.sqL (SqL.sub X2.sub q))⟩
  | tup ds =>
    obtain ⟨a, xs, rfl, q, r⟩ := R1
    exact .inr (.inl ⟨a, rfl, ⟨xs, G1.sqT q⟩, gq _ _ _ _ _ _ hq X1 G1 (iterD_at walk_tup r fun ρ2 F2 h2 H2 X2 G2 => G2.sqT (SqT.sub X2.sub q))⟩)
  | str z =>
    cases (show v = .str z from R1)
    refine .inr (.inr ⟨z, rfl, gq _ _ _ _ _ _ hq X1 G1 (iterD_walk walk_str (by simp) (fun _ _ _ _ _ _ => trivial) ?_)⟩)
    rintro ρ2 F2 h2 H2 X2 G2 i x H3 hi ⟨rfl, c, e, rfl⟩
    refine ⟨F2, .str ⟨#[c]⟩, Ext.refl G2, G2, ?_, rfl⟩
    rw [List.getElem?_map, Array.getElem?_toList, e]
    rfl
  | _ => exact (show False from hq).elim)⟩
/-- range(a), range(a, b) -/
def rangeD (lo : Int) (n : Nat) : List D := (List.range n).map fun (i : Nat) => D.int (lo + i)
def wRng1 (ta : wL) : wL := fun env h Q E => ta env h (fun ds h1 => match ds with
  | [.int j] => (-(2 ^ 62) ≤ j ∧ j < 2 ^ 62) ∧ Q (rangeD 0 j.toNat) h1
  | _ => False) E
def wRng2 (ta : wL) : wL := fun env h Q E => ta env h (fun ds h1 => match ds with
  | [.int i, .int j] => (-(2 ^ 62) ≤ i ∧ i < 2 ^ 62 ∧ -(2 ^ 62) ≤ j ∧ j < 2 ^ 62) ∧ Q (rangeD i (j - i).toNat) h1
  | _ => False) E
theorem iterD_range {K : PySem.W.Frag} {ρ : List Addr} {F H : Hp} {lo : Int} {n : Nat} : IterD K CA ρ F H (Itr lo n) (rangeD lo n) := iterD_walk walk_range (by unfold rangeD; simp) (fun _ _ _ _ _ _ => trivial) (by
  rintro ρ2 F2 h2 H2 X2 G2 i x H3 hi ⟨rfl, rfl⟩
  refine ⟨F2, .int (lo + i), Ext.refl G2, G2, ?_, rfl⟩
  unfold rangeD
  simp [hi])
theorem si_range1 {tg a : Expr} {ta : wL} {p : Pos} (hm : X.mg "range" = none) (ha : SA X CA [a] ta) (hg : Gl X "range" := by rfl) (hs : starEach [a] X.env = [(false, eval a X.env)] := by rfl) : SI X CA tg (.Call (.Name "range" p) [a] [] pos) (wRng1 ta) := ⟨fun W tk => PI.of (pi_range1 hg hm (ha.run W tk) hs) (by
  rintro σ H R ⟨ρ, F, env, h, Qd, Ed, G, E, w, gq, gx⟩
  refine ⟨ρ, F, env, h, _, Ed, G, E, w, ?_, gx⟩
  intro ds h1 ρ1 F1 vs H1 hq X1 G1 R1
  split at hq
  · obtain ⟨v, r, rfl, e, e2⟩ := R1
    cases (show r = [] from e2)
    cases (show v = .int _ from e)
    exact ⟨_, rfl, hq.1.1, hq.1.2, gq _ _ _ _ _ _ hq.2 X1 G1 iterD_range⟩
  · exact hq.elim)⟩
theorem si_range2 {tg a b : Expr} {ta : wL} {p : Pos} (hm : X.mg "range" = none) (ha : SA X CA [a, b] ta) (hg : Gl X "range" := by rfl) (hs : starEach [a, b] X.env = [(false, eval a X.env), (false, eval b X.env)] := by rfl) (hs2 : starEach [b] X.env = [(false, eval b X.env)] := by rfl) : SI X CA tg (.Call (.Name "range" p) [a, b] [] pos) (wRng2 ta) := ⟨fun W tk => PI.of (pi_range2 hg hm (ha.run W tk) hs hs2) (by
  rintro σ H R ⟨ρ, F, env, h, Qd, Ed, G, E, w, gq, gx⟩
  refine ⟨ρ, F, env, h, _, Ed, G, E, w, ?_, gx⟩
  intro ds h1 ρ1 F1 vs H1 hq X1 G1 R1
  split at hq
  · obtain ⟨v, r, rfl, e, v2, r2, rfl, e2, e3⟩ := R1
    cases (show r2 = [] from e3)
    cases (show v = .int _ from e)
    cases (show v2 = .int _ from e2)
    exact ⟨_, _, rfl, hq.1, gq _ _ _ _ _ _ hq.2 X1 G1 iterD_range⟩
  · exact hq.elim)⟩

/-! ### for, while -/
def wForL (g : wG) (tb : wS) : List D → wS
  | [] => fun D env h => D.nx env h
  | d :: ds => fun D env h => g d env fun env' => tb { D with nx := wForL g tb ds D, ct := wForL g tb ds D, bk := D.nx } env' h
def wFor (ti : wL) (g : wG) (tb : wS) : wS := fun D env h => ti env h (fun ds h1 => wForL g tb ds D env h1) (fun x h1 => D.ex x env h1)
theorem ss_for {tg iter : Expr} {body : List Stmt} {ti : wL} {g : wG} {tb : wS} (hi : SI X CA tg iter ti) (hg : SG X CA tg g) (hb : SSs X CA body tb) (hp : PassesOwn (model X.prog X.w) X.A X.env X.xe) (hc : X.calm = true := by rfl)
    (hs : ∀ x, foldedSetIterable iter X.env x = pure x := by intro _; rfl) : SS X CA (.For tg iter body [] pos) (wFor ti g tb) := ⟨fun W tk => PS.of (ps_for hp hc (hi.run W tk) hg.run (hb.run W tk) hs) (by
  rintro D σ H ⟨ρ, F, env, h, Dd, G, E, w, gd⟩
  refine ⟨ρ, F, env, h, _, _, G, E, w, ?_, gd.ex.at E⟩
  intro ds h0 ρ0 F0 H0 J hq X0 G0 IT
  refine ⟨fun i m σ H => m = ds.length - i ∧ i ≤ ds.length ∧ ∃ ρ1 F1 env1 h1, Ext ρ0 F0 H0 ρ1 F1 H ∧ GRel X.K CA ρ1 F1 h1 H ∧ ERel X.K CA ρ1 F1 env1 σ ∧ wForL g tb (ds.drop i) Dd env1 h1, ⟨ds.length, by simp, Nat.zero_le _, ρ0, F0, env, h0, Ext.refl G0, G0, E.ext X0, by simpa using hq⟩, ?_⟩
  rintro i m σ1 H1 ⟨rfl, hi, ρ1, F1, env1, h1, X1, G1, E1, w1⟩
  obtain ⟨go, stop, yl⟩ := IT ρ1 F1 h1 H1 X1 G1
  by_cases hlt : i < ds.length
  · refine .inr ⟨go i hlt, fun σ' H' => i + 1 ≤ ds.length ∧ ∃ ρ2 F2 env2 h2, Ext ρ0 F0 H0 ρ2 F2 H' ∧ GRel X.K CA ρ2 F2 h2 H' ∧ ERel X.K CA ρ2 F2 env2 σ' ∧ wForL g tb (ds.drop (i + 1)) Dd env2 h2, fun σ' H' z => ⟨ds.length - (i + 1), by omega, rfl, z⟩, fun x H2 y => ?_⟩
    obtain ⟨F2, d, X2, G2, ed, R2⟩ := yl i x H2 hlt y
    have hd : ds.drop i = d :: ds.drop (i + 1) := by
      rw [List.drop_eq_getElem_cons hlt]
      congr 1
      rw [List.getElem?_eq_getElem hlt] at ed
      exact Option.some.inj ed
    rw [hd] at w1
    refine ⟨ρ1, F2, h1, env1, d, _, G2, E1.ext X2, R2, w1, ?_⟩
    intro env3 σ3 w3 E3
    have X02 := X1.trans X2
    refine ⟨ρ1, F2, env3, h1, _, G2, E3, w3, ⟨?_, (gd.on X0).rt.on X02, (gd.on X0).nx.on X02, ?_, (gd.on X0).ex.on X02⟩⟩
    · intro env4 h4 ρ4 F4 σ4 H4 w4 X4 G4 E4
      exact ⟨hlt, ρ4, F4, env4, h4, X02.trans X4, G4, E4, w4⟩
    · intro env4 h4 ρ4 F4 σ4 H4 w4 X4 G4 E4
      exact ⟨hlt, ρ4, F4, env4, h4, X02.trans X4, G4, E4, w4⟩
  · have e : i = ds.length := by omega
    subst e
    rw [List.drop_length] at w1
    exact .inl ⟨stop, (gd.on X0).nx _ _ _ _ _ _ w1 X1 G1 E1⟩)⟩
/-- while: some number of turns is enough -/
def wWhN (tt : wT) (tb : wS) : Nat → wS
  | 0 => fun _ _ _ => False
  | n + 1 => fun D env h => tt env h (fun b h1 => if b = true then tb { D with nx := wWhN tt tb n D, ct := wWhN tt tb n D, bk := D.nx } env h1 else D.nx env h1) (fun x h1 => D.ex x env h1)
def wWh (tt : wT) (tb : wS) : wS := fun D env h => ∃ n, wWhN tt tb n D env h
theorem ss_while {c : Expr} {body : List Stmt} {tc : wT} {tb : wS} (hc : ST X CA c tc) (hb : SSs X CA body tb) (hp : PassesOwn (model X.prog X.w) X.A X.env X.xe) : SS X CA (.While c body [] pos) (wWh tc tb) := ⟨fun W tk => PS.of (ps_while hp (hc.run W tk) (hb.run W tk)) (by
  rintro D σ H ⟨ρ, F, env, h, Dd, G, E, ⟨n0, w⟩, gd⟩
  refine ⟨fun m σ H => ∃ ρ1 F1 env1 h1, GRel X.K CA ρ1 F1 h1 H ∧ ERel X.K CA ρ1 F1 env1 σ ∧ GoD X.K CA W ρ1 F1 H Dd D ∧ wWhN tc tb m Dd env1 h1, ⟨n0, ρ, F, env, h, G, E, gd, w⟩, ?_⟩
  rintro m σ1 H1 ⟨ρ1, F1, env1, h1, G1, E1, gd1, w1⟩
  cases m with
  | zero => exact (show False from w1).elim
  | succ n =>
    refine ⟨ρ1, F1, env1, h1, _, _, G1, E1, w1, ?_, gd1.ex.at E1⟩
    intro b h2 ρ2 F2 H2 hq X2 G2
    cases b with
    | false =>
      rw [if_neg Bool.false_ne_true]
      exact gd1.nx _ _ _ _ _ _ hq X2 G2 (E1.ext X2)
    | true =>
      rw [if_pos rfl]
      refine ⟨fun σ' H' => ∃ ρ3 F3 env3 h3, GRel X.K CA ρ3 F3 h3 H' ∧ ERel X.K CA ρ3 F3 env3 σ' ∧ GoD X.K CA W ρ3 F3 H' Dd D ∧ wWhN tc tb n Dd env3 h3, fun σ' H' z => ⟨n, Nat.lt_succ_self n, z⟩, ρ2, F2, env1, h2, _, G2, E1.ext X2, hq, ⟨?_, gd1.rt.on X2, gd1.nx.on X2, ?_, gd1.ex.on X2⟩⟩
      · intro env4 h4 ρ4 F4 σ4 H4 w4 X4 G4 E4
        exact ⟨ρ4, F4, env4, h4, G4, E4, gd1.on (X2.trans X4), w4⟩
      · intro env4 h4 ρ4 F4 σ4 H4 w4 X4 G4 E4
        exact ⟨ρ4, F4, env4, h4, G4, E4, gd1.on (X2.trans X4), w4⟩)⟩

/-! ### list comprehensions -/
def wipeD (env : Env) : List Nat → Env
  | [] => env
  | v :: vs => (wipeD env vs).set v none
theorem ERel.unset {K : PySem.W.Frag} {ρ : List Addr} {F : Hp} {env : Env} {σ : L2.St} (E : ERel K CA ρ F env σ) (i : Nat) : ERel K CA ρ F (env.set i none) (σ.set i none) := by
  refine ⟨by rw [List.length_set, List.length_set]; exact E.1, fun k d' e => ?_⟩
  by_cases hk : i = k
  · subst hk
    by_cases hl : i < env.length
    · rw [List.getElem?_set_self hl] at e
      cases e
    · rw [List.getElem?_eq_none (by simpa using hl)] at e
      cases e
  · rw [List.getElem?_set_ne hk] at e
    rw [List.getElem?_set_ne hk]
    exact E.2 k d' e
theorem ERel.wipe {K : PySem.W.Frag} {ρ : List Addr} {F : Hp} {env : Env} {σ : L2.St} (E : ERel K CA ρ F env σ) : ∀ vs : List Nat, ERel K CA ρ F (wipeD env vs) (L2.wipe σ vs)
  | [] => E
  | v :: vs => (E.wipe vs).unset v
structure SP (X : Cx) (CA : Nat → Addr) (ifs : List Expr) (t : wT) : Prop where
  run : ∀ W, L2N.Takes X W → PTs X ifs (rdT X.K CA W t)
def wYes : wT := fun _ h Q _ => Q true h
theorem PTs.of {es : List Expr} {t t' : TT} (h : PTs X es t) (i : ∀ σ H Q, t' σ H Q → t σ H Q) : PTs X es t' := ⟨fun pins s σ H Q I w => h.run pins s σ H Q I (i σ H Q w)⟩
theorem sp_nil : SP X CA [] wYes := ⟨fun W tk => PTs.of pts_nil (by
  rintro σ H Q ⟨ρ, F, env, h, Qd, Ed, G, E, w, gq, gx⟩
  exact gq true h ρ F H w (Ext.refl G) G)⟩
theorem sp_one {c : Expr} {t : wT} (h : ST X CA c t) : SP X CA [c] t := ⟨fun W tk => pts_one (h.run W tk)⟩
/-- the items, one by one; acc: what is made so far -/
def wLcL (g : wG) (tt : wT) (te : wE) (env : Env) : List D → List D → Hs → PL → Prop
  | [], acc, h, Q => Q acc h
  | d :: ds, acc, h, Q => g d env fun env' => tt env' h (fun b h1 => if b = true then te env' h1 (fun y h2 => wLcL g tt te env ds (acc ++ [y]) h2 Q) (fun _ _ => False) else wLcL g tt te env ds acc h1 Q) (fun _ _ => False)
def wLc (vs : List Nat) (ti : wL) (g : wG) (tt : wT) (te : wE) : wE := fun env h Q E => ti env h (fun ds h1 => ds.length ≤ 16777216 ∧ wLcL g tt te (wipeD env vs) ds [] h1 (fun acc h2 => Q (.lst acc) h2)) E
/-- the block's context -/
abbrev Blk (X : Cx) (scope : Scope) (s : Shared) (H : Hp) (C : Addr) (cl : List (Str × Addr)) (fp : List Addr) : Cx := X.blk s H scope (compEnvC scope cl C X.env) fp
/-- the target stores to the block's own names alone -/
def OwnG (vs : List Nat) (g : TG) : Prop := ∀ v σ H Q, g v σ H Q → g v σ H fun σ' H' => L2.wipe σ' vs = L2.wipe σ vs ∧ Q σ' H'
theorem takes_no {Y : Cx} {W : WX} (hx : Y.xe = fun _ _ => False) : L2N.Takes { Y with xe := fun _ _ => False } (fun _ _ _ _ => False) := fun u s' x => by
  obtain ⟨_, _, _, _, _, _, _, _, _, _, _, _, _, _, _, _, z⟩ := x
  exact z
end
end DL
/-! DL4: the rule for list comprehensions. -/
namespace DL
open PySem PySem.Spec PyProof.Rows L2

section
variable {K : PySem.W.Frag} {CA : Nat → Addr} {ρ ρ1 : List Addr} {F F1 H H1 : Hp} {h : Hs} {p : Addr}
/-- an object that is no datum's yet -/
theorem GRel.aside (G : GRel K CA ρ F h H) (f0 : F p = none) (nr : p ∉ ρ) (o : HO) : GRel K CA ρ F h (upd H p o) := by
  have ne : ∀ b, b ∈ ρ → b ≠ p := fun b hb e => nr (e ▸ hb)
  refine ⟨fun b u e => ?_, G.len, G.nd, G.off, fun b hb => ?_, fun i c b hi hb => ?_⟩
  · rw [upd_ne (ne_of_none e f0)]
    exact G.sub _ _ e
  · rw [upd_ne (ne b hb)]
    exact G.there b hb
  · exact (G.cell i c b hi hb).sub ⟨[], by simp⟩ (fun _ _ e => e) (upd_ne (ne b (List.mem_of_getElem? hb)))
theorem Ext.aside (x : Ext ρ F H ρ1 F1 H1) (hp : H p = none) (o : HO) : Ext ρ F H ρ1 F1 (upd H1 p o) :=
  ⟨x.pre, x.sub, fun a u e n => by
    rw [upd_ne (ne_of_none e hp)]
    exact x.frame a u e n, x.newR, x.newF⟩
/-- .. becomes a datum's -/
theorem GRel.adopt (G : GRel K CA ρ F h H) (f0 : F p = none) (nr : p ∉ ρ) {o : HO} (hp : H p = some o) : GRel K CA ρ (upd F p o) h H := by
  have sub : ∀ b u, F b = some u → upd F p o b = some u := fun b u e => by
    rw [upd_ne (ne_of_none e f0)]
    exact e
  refine ⟨fun b u e => ?_, G.len, G.nd, fun i b hb z => ?_, G.there, fun i c b hi hb => (G.cell i c b hi hb).sub ⟨[], by simp⟩ sub rfl⟩
  · by_cases hb : b = p
    · subst hb
      rw [upd_same] at e
      cases e
      exact hp
    · rw [upd_ne hb] at e
      exact G.sub _ _ e
  · rw [upd_ne (fun e => nr (by rw [← e]; exact List.mem_of_getElem? hb))] at z
    exact G.off i b hb z
theorem Ext.adopt (x : Ext ρ F H ρ1 F1 H1) (hp : H p = none) (f0 : F1 p = none) (nr : p ∉ ρ1) (o : HO) : Ext ρ F H ρ1 (upd F1 p o) H1 :=
  ⟨x.pre, fun a u e => by
    have e1 := x.sub a u e
    rw [upd_ne (ne_of_none e1 f0)]
    exact e1, x.frame, x.newR, fun a z => by
    by_cases ha : a = p
    · subst ha
      exact .inr (.inr hp)
    · rw [upd_ne ha] at z
      exact x.newF a z⟩
theorem Ext.still (x : Ext ρ F H ρ1 F1 H1) {o : HO} (hp : H p = some o) (f0 : F p = none) (nr : p ∉ ρ) : F1 p = none ∧ p ∉ ρ1 ∧ H1 p = some o := by
  refine ⟨?_, fun z => ?_, x.frame p o hp nr⟩
  · cases e : F1 p with
    | none => rfl
    | some u =>
      rcases x.newF p (by rw [e]; intro q; cases q) with q | q | q
      · exact absurd f0 q
      · exact absurd q nr
      · rw [hp] at q
        cases q
  · rcases x.newR p z with q | q
    · exact nr q
    · rw [hp] at q
      cases q
end
theorem wipe_get (σ : L2.St) (k : Nat) : ∀ vs : List Nat, (L2.wipe σ vs)[k]? = if k ∈ vs then (σ[k]?).map (fun _ => none) else σ[k]?
  | [] => by simp [L2.wipe]
  | v :: vs => by
    show ((L2.wipe σ vs).set v none)[k]? = _
    have ih := wipe_get σ k vs
    by_cases hv : v = k
    · subst hv
      rw [if_pos (List.mem_cons_self ..)]
      by_cases hl : v < (L2.wipe σ vs).length
      · rw [List.getElem?_set_self hl]
        rw [L2.wipe_length] at hl
        rw [List.getElem?_eq_getElem hl]
        rfl
      · have hl2 : ¬ v < σ.length := by
          rw [L2.wipe_length] at hl
          exact hl
        rw [List.getElem?_eq_none (by rw [List.length_set]; omega), List.getElem?_eq_none (by omega)]
        rfl
    · rw [List.getElem?_set_ne hv, ih]
      by_cases hm : k ∈ vs
      · rw [if_pos hm, if_pos (List.mem_cons_of_mem _ hm)]
      · rw [if_neg hm, if_neg (by simp only [List.mem_cons, not_or]; exact ⟨fun e => hv e.symm, hm⟩)]
theorem wipe_set {σ : L2.St} {i : Nat} {x : Option V} {vs : List Nat} (h : i ∈ vs) : L2.wipe (σ.set i x) vs = L2.wipe σ vs := by
  apply List.ext_getElem?
  intro k
  rw [wipe_get, wipe_get]
  by_cases hk : i = k
  · subst hk
    rw [if_pos h, if_pos h]
    by_cases hl : i < σ.length
    · rw [List.getElem?_set_self hl, List.getElem?_eq_getElem hl]
      rfl
    · rw [List.getElem?_eq_none (by rw [List.length_set]; omega), List.getElem?_eq_none (by omega)]
  · rw [List.getElem?_set_ne hk]
theorem wipe_wipe {σ : L2.St} {vs : List Nat} : L2.wipe (L2.wipe σ vs) vs = L2.wipe σ vs := by
  apply List.ext_getElem?
  intro k
  rw [wipe_get, wipe_get]
  by_cases h : k ∈ vs
  · rw [if_pos h, if_pos h, Option.map_map]
    rfl
  · rw [if_neg h, if_neg h]

/-- a block's target: it stores to the block's own names alone -/
def rdGo (K : PySem.W.Frag) (CA : Nat → Addr) (vs : List Nat) (g : wG) : TG := fun v σ H Q => ∃ ρ F h env d Qd, GRel K CA ρ F h H ∧ ERel K CA ρ F env σ ∧ Rep K CA ρ F d v ∧ g d env Qd ∧ ∀ env' σ', Qd env' → ERel K CA ρ F env' σ' → L2.wipe σ' vs = L2.wipe σ vs → Q σ' H
def rdGso (K : PySem.W.Frag) (CA : Nat → Addr) (vs : List Nat) (g : wGs) : TGs := fun xs σ H Q => ∃ ρ F h env ds Qd, GRel K CA ρ F h H ∧ ERel K CA ρ F env σ ∧ Reps K CA ρ F ds xs ∧ g ds env Qd ∧ ∀ env' σ', Qd env' → ERel K CA ρ F env' σ' → L2.wipe σ' vs = L2.wipe σ vs → Q σ' H
structure SGo (X : Cx) (CA : Nat → Addr) (vs : List Nat) (tg : Expr) (g : wG) : Prop where
  run : PG X tg (rdGo X.K CA vs g)
structure SGso (X : Cx) (CA : Nat → Addr) (vs : List Nat) (tgs : List Expr) (g : wGs) : Prop where
  run : PGs X tgs (rdGso X.K CA vs g)
section
variable {X : Cx} {CA : Nat → Addr} {pos : Pos} {vs : List Nat}
theorem sgo_name {i : Nat} {x : Str} (hN : X.N.Nodup) (hi : X.N[i]? = some x := by rfl) (hx : Loc X.env.scope x := by first | exact Or.inl rfl | exact Or.inr rfl) (hf : X.fn x = true ∨ X.env.scope.names.lookup x = some .local := by first | exact .inl rfl | exact .inr rfl) (hv : i ∈ vs := by decide) :
    SGo X CA vs (.Name x pos) (wGn i) := ⟨PG.of (pg_name hN hi hx hf) (by
  rintro v σ H Q ⟨ρ, F, h, env, d, Qd, G, E, R, w, k⟩
  exact k _ _ w (E.set R i) (wipe_set hv))⟩
theorem sgso_nil : SGso X CA vs [] wGnil := ⟨PGs.of pgs_nil (by
  rintro v σ H Q ⟨ρ, F, h, env, ds, Qd, G, E, R, w, k⟩
  obtain ⟨rfl, w⟩ := w
  exact ⟨R, k _ _ w E rfl⟩)⟩
theorem sgso_cons {e : Expr} {es : List Expr} {g : wG} {gs : wGs} (h1 : SGo X CA vs e g) (h2 : SGso X CA vs es gs) (hs : (assignEach (e :: es) X.env).map (·.2) = assign e X.env :: (assignEach es X.env).map (·.2) := by rfl) : SGso X CA vs (e :: es) (wGcons g gs) := ⟨PGs.of (pgs_cons h1.run h2.run hs) (by
  rintro v σ H Q ⟨ρ, F, h, env, ds, Qd, G, E, R, w, k⟩
  cases ds with
  | nil => exact (show False from w).elim
  | cons d r =>
    obtain ⟨v1, r1, rfl, R1, R2⟩ := R
    refine ⟨v1, r1, rfl, ρ, F, h, env, d, _, G, E, R1, w, ?_⟩
    intro env' σ' hq E' e1
    exact ⟨ρ, F, h, env', r, Qd, G, E', R2, hq, fun env2 σ2 hq2 E2 e2 => k env2 σ2 hq2 E2 (e2.trans e1)⟩)⟩
theorem sgo_tup {es : List Expr} {kk : Nat} {gs : wGs} {n : Nat} (hg : SGso X CA vs es gs) (hc : X.calm = true := by rfl) (hn : (assignEach es X.env).length = n := by rfl) (hst : (assignEach es X.env).findIdx? (·.1) = none := by rfl) : SGo X CA vs (.Tuple es kk pos) (wGtup n gs) := ⟨PG.of (pg_tup hc hg.run hn hst) (by
  rintro v σ H Q ⟨ρ, F, h, env, d, Qd, G, E, R, w, k⟩
  cases d with
  | tup ds =>
    obtain ⟨a, xs, rfl, q, r⟩ := R
    exact ⟨a, xs, rfl, G.sqT q, by rw [← r.length]; exact w.1, ρ, F, h, env, ds, Qd, G, E, r, w.2, k⟩
  | _ => exact (show False from w).elim)⟩
theorem takes_blk {s : Shared} {H : Hp} {scope : Scope} {C : Addr} {cl : List (Str × Addr)} {fp : List Addr} : L2N.Takes (Blk X scope s H C cl fp) (fun _ _ _ _ => False) := fun u s' x => by
  obtain ⟨_, _, _, _, _, _, _, _, _, _, _, _, _, _, _, _, z⟩ := x
  exact z.elim
theorem goX_no {K : PySem.W.Frag} {ρ : List Addr} {F H : Hp} {E : XK} : GoX K CA ρ F H (fun _ _ => False) E := fun _ _ _ _ _ _ _ z => z.elim
theorem lc_imp {K : PySem.W.Frag} {W : WX} {ti : wL} {g : wG} {tt : wT} {te : wE} : ∀ σ H Q, rd K CA W (wLc vs ti g tt te) σ H Q → tLc (rdI K CA W ti) (rdGo K CA vs g) (rdT K CA (fun _ _ _ _ => False) tt) (rd K CA (fun _ _ _ _ => False) te) vs σ H Q := by
  rintro σ H Q ⟨ρ, F, env, h, Qd, Ed, G, E, w, gq, gx⟩
  refine ⟨ρ, F, env, h, _, Ed, G, E, w, ?_, gx⟩
  rintro ds h0 ρ0 F0 H0 J ⟨hlen, hq⟩ X0 G0 IT D hD
  obtain ⟨fD, nD⟩ := G0.free hD
  refine ⟨fun i m Hx => m = ds.length - i ∧ i ≤ ds.length ∧ ∃ ρ1 F1 h1 acc accV, Ext ρ0 F0 H0 ρ1 F1 Hx ∧ GRel K CA ρ1 F1 h1 Hx ∧ Hx D = some (.lst accV) ∧ Reps K CA ρ1 F1 acc accV ∧ acc.length ≤ i ∧ F1 D = none ∧ D ∉ ρ1 ∧ wLcL g tt te (wipeD env vs) (ds.drop i) acc h1 (fun acc h2 => Qd (.lst acc) h2),
    ⟨ds.length, by simp, Nat.zero_le _, ρ0, F0, h0, [], [], (Ext.refl G0).aside hD _, G0.aside fD nD _, upd_same, Reps.nil, Nat.le_refl _, fD, nD, by simpa using hq⟩, ?_⟩
  rintro i m H1 ⟨rfl, hi, ρ1, F1, h1, acc, accV, X1, G1, eD, RA, lA, f1, n1, w1⟩
  obtain ⟨go, stop, yl⟩ := IT ρ1 F1 h1 H1 X1 G1
  by_cases hlt : i < ds.length
  · refine .inr ⟨go i hlt, fun Hx => i + 1 ≤ ds.length ∧ ∃ ρ2 F2 h2 acc accV, Ext ρ0 F0 H0 ρ2 F2 Hx ∧ GRel K CA ρ2 F2 h2 Hx ∧ Hx D = some (.lst accV) ∧ Reps K CA ρ2 F2 acc accV ∧ acc.length ≤ i + 1 ∧ F2 D = none ∧ D ∉ ρ2 ∧ wLcL g tt te (wipeD env vs) (ds.drop (i + 1)) acc h2 (fun acc h2 => Qd (.lst acc) h2),
      fun Hx z => ⟨ds.length - (i + 1), by omega, rfl, z⟩, fun x H2 y => ?_⟩
    obtain ⟨F2, d, X2, G2, ed, R2⟩ := yl i x H2 hlt y
    have hd : ds.drop i = d :: ds.drop (i + 1) := by
      rw [List.drop_eq_getElem_cons hlt]
      congr 1
      rw [List.getElem?_eq_getElem hlt] at ed
      exact Option.some.inj ed
    rw [hd] at w1
    have X02 := X1.trans X2
    obtain ⟨f2, n2, eD2⟩ := X2.still eD f1 n1
    refine ⟨ρ1, F2, h1, wipeD env vs, d, _, G2, ((E.ext X0).ext X02).wipe vs, R2, w1, ?_⟩
    intro env3 σ3 w3 E3 es
    refine ⟨es.trans wipe_wipe, ρ1, F2, env3, h1, _, _, G2, E3, w3, ?_, goX_no⟩
    intro b h4 ρ4 F4 H4 w4 X4 G4
    obtain ⟨f4, n4, eD4⟩ := X4.still eD2 f2 n2
    have RA4 := (RA.ext X2).ext X4
    cases b with
    | false =>
      rw [if_neg Bool.false_ne_true]
      rw [if_neg Bool.false_ne_true] at w4
      exact ⟨hlt, ρ4, F4, h4, acc, accV, X02.trans X4, G4, eD4, RA4, by omega, f4, n4, w4⟩
    | true =>
      rw [if_pos rfl]
      rw [if_pos rfl] at w4
      refine ⟨ρ4, F4, env3, h4, _, _, G4, E3.ext X4, w4, ?_, goX_no⟩
      intro d5 h5 ρ5 F5 v5 H5 w5 X5 G5 R5
      obtain ⟨f5, n5, eD5⟩ := X5.still eD4 f4 n4
      refine ⟨accV, eD5, ?_, hlt, ρ5, F5, h5, acc ++ [d5], accV ++ [v5], ((X02.trans X4).trans X5).aside hD _, G5.aside f5 n5 _, upd_same, Reps.append (RA4.ext X5) (Reps.cons R5 Reps.nil), ?_, f5, n5, w5⟩
      · rw [← RA.length]
        exact Nat.lt_of_lt_of_le (Nat.lt_of_le_of_lt lA hlt) (len_line hlen)
      · rw [List.length_append, List.length_singleton]
        omega
  · have e : i = ds.length := by omega
    subst e
    rw [List.drop_length] at w1
    exact .inl ⟨stop, gq _ _ _ _ _ _ w1 (X0.trans (X1.adopt hD f1 n1 _)) (G1.adopt f1 n1 eD) ⟨D, accV, rfl, upd_same, Reps.sub ⟨[], by simp⟩ (fun b u e => by
      rw [upd_ne (ne_of_none e f1)]
      exact e) _ _ RA⟩⟩
theorem se_lc {elt tg iter : Expr} {ifs : List Expr} {scope : Scope} {ti : wL} {g : wG} {tt : wT} {te : wE} (N : List Str) (sc : Scope) (own : List (Str × Nat)) (hi : SI X CA tg iter ti) (ok : blkC N sc scope own = true)
    (hg : ∀ (s : Shared) (H : Hp) (C : Addr) (cl : List (Str × Addr)) (fp : List Addr), SGo (Blk X scope s H C cl fp) CA (own.map (·.2)) tg g) (ht : ∀ (s : Shared) (H : Hp) (C : Addr) (cl : List (Str × Addr)) (fp : List Addr), SP (Blk X scope s H C cl fp) CA ifs tt)
    (he : ∀ (s : Shared) (H : Hp) (C : Addr) (cl : List (Str × Addr)) (fp : List Addr), SE (Blk X scope s H C cl fp) CA elt te) (hN : X.N.Nodup) (e1 : X.N = N := by rfl) (e2 : X.env.scope = sc := by rfl) (hc : X.calm = true := by rfl) (hs : ∀ x, foldedSetIterable iter X.env x = pure x := by intro _; rfl) :
    SE X CA (.ListComp elt [⟨tg, iter, ifs, 0⟩] scope pos) (wLc (own.map (·.2)) ti g tt te) :=
  ⟨fun W tk => PE.of (pe_lc hc hN (hi.run W tk) (by subst e1 e2; exact blkOk_by ok) (fun s H C cl fp => (hg s H C cl fp).run) (fun s H C cl fp => (ht s H C cl fp).run _ takes_blk) (fun s H C cl fp => (he s H C cl fp).run _ takes_blk) hs) lc_imp⟩
/-- y = [..] on one line -/
theorem ss_setLc {i : Nat} {y : Str} {py spos : Pos} {elt tg iter : Expr} {ifs : List Expr} {scope : Scope} {ti : wL} {g : wG} {tt : wT} {te : wE} (N : List Str) (sc : Scope) (own : List (Str × Nat)) (hi : SI X CA tg iter ti) (ok : blkC N sc scope own = true)
    (hg : ∀ (s : Shared) (H : Hp) (C : Addr) (cl : List (Str × Addr)) (fp : List Addr), SGo (Blk X scope s H C cl fp) CA (own.map (·.2)) tg g) (ht : ∀ (s : Shared) (H : Hp) (C : Addr) (cl : List (Str × Addr)) (fp : List Addr), SP (Blk X scope s H C cl fp) CA ifs tt)
    (he : ∀ (s : Shared) (H : Hp) (C : Addr) (cl : List (Str × Addr)) (fp : List Addr), SE (Blk X scope s H C cl fp) CA elt te) (hN : X.N.Nodup) (e1 : X.N = N := by rfl) (e2 : X.env.scope = sc := by rfl) (hc : X.calm = true := by rfl)
    (hy : X.N[i]? = some y := by rfl) (hyl : X.env.scope.names.lookup y = some .local := by rfl)
    (hsw : swapsWith (.ListComp elt [⟨tg, iter, ifs, 0⟩] scope pos) (some (.Name y py)) spos.line X.env = pure true := by exact sw_true rfl rfl rfl (by decide +kernel)) (hs : ∀ x, foldedSetIterable iter X.env x = pure x := by intro _; rfl) :
    SS X CA (.Assign [.Name y py] (.ListComp elt [⟨tg, iter, ifs, 0⟩] scope pos) spos) (wAsg i (wLc (own.map (·.2)) ti g tt te)) :=
  ⟨fun W tk => PS.of (ps_setLc hc hN hy hyl hsw (hi.run W tk) (by subst e1 e2; exact blkOk_by ok) (fun s H C cl fp => (hg s H C cl fp).run) (fun s H C cl fp => (ht s H C cl fp).run _ takes_blk) (fun s H C cl fp => (he s H C cl fp).run _ takes_blk) hs) (by
    rintro D σ H ⟨ρ, F, env, h, Dd, G, E, w, gd⟩
    refine lc_imp σ H _ ⟨ρ, F, env, h, _, _, G, E, w, ?_, gd.ex.at E⟩
    intro d h1 ρ1 F1 v H1 hq X1 G1 R1
    exact gd.nx _ _ _ _ _ _ hq X1 G1 ((E.ext X1).set R1 i))⟩
end
end DL
/-! DL5: operators, subscripts, built-ins, methods on plain data. -/
namespace DL
open PySem PySem.Spec PyProof.Rows L2

section
variable {X : Cx} {CA : Nat → Addr}

/-! ### numbers -/
def addD : fO := fun x y h Q => match x, y with
  | .int i, .int j => Q (.int (i + j)) h
  | .str a, .str b => a.length + b.length ≤ 16777216 ∧ Q (.str (a ++ b)) h
  | .tup a, .tup b => a.length + b.length ≤ 16777216 ∧ Q (.tup (a ++ b)) h
  | x, y => match lstTr h x, lstTr h y with
    | some a, some b => a.length + b.length ≤ 16777216 ∧ Q (.lst (a ++ b)) h
    | _, _ => False
def rAddD (K : PySem.W.Frag) : R2 := fun x y H Q => (rI0 (fun i j => .int (i + j)) x y H Q) ∨ ((∃ i j, x = .str i ∧ y = .str j ∧ i.length + j.length ≤ sizeLine ∧ Q (.str (i ++ j)) H) ∨ (rCatA K x y H Q ∨ rCat x y H Q))
theorem op_addD : OpR X (binaryOp .Add) (rAddD X.K) := OpR.or op_add (OpR.or op_add_str (OpR.or op_catA op_cat))
theorem od_add {K : PySem.W.Frag} : OpD K CA addD (rAddD K) := by
  intro ρ F h H x y v u Qd Q G R1 R2 w g
  unfold addD at w
  split at w
  · cases (show v = .int _ from R1)
    cases (show u = .int _ from R2)
    exact .inl ⟨_, _, rfl, rfl, g _ _ _ _ _ _ w (Ext.refl G) G rfl⟩
  · cases (show v = .str _ from R1)
    cases (show u = .str _ from R2)
    exact .inr (.inl ⟨_, _, rfl, rfl, len_line w.1, g _ _ _ _ _ _ w.2 (Ext.refl G) G rfl⟩)
  · rename_i a b
    obtain ⟨p, xs, rfl, q1, r1⟩ := R1
    obtain ⟨p2, ys, rfl, q2, r2⟩ := R2
    refine .inr (.inr (.inl ⟨p, p2, xs, ys, rfl, rfl, G.sqT q1, G.sqT q2, by rw [← r1.length, ← r2.length]; exact len_line w.1, fun e => ?_, fun _ e => ?_, fun _ _ z hz => ?_⟩))
    · subst e
      have e0 : a = [] := List.eq_nil_of_length_eq_zero r1.length
      subst e0
      exact g _ _ _ _ _ _ w.2 (Ext.refl G) G ⟨p2, ys, rfl, q2, r2⟩
    · subst e
      have e0 : b = [] := List.eq_nil_of_length_eq_zero r2.length
      subst e0
      refine g _ _ _ _ _ _ w.2 (Ext.refl G) G ⟨p, xs, rfl, q1, ?_⟩
      rw [List.append_nil]
      exact r1
    · obtain ⟨G2, X2⟩ := G.frozen hz (.tup (xs ++ ys))
      exact g _ _ _ _ _ _ w.2 X2 G2 ⟨z, _, rfl, SqT.of upd_same, Reps.append (r1.ext X2) (r2.ext X2)⟩
  · split at w
    · rename_i a b e1 e2
      obtain ⟨p, xs, rfl, q1, r1⟩ := lst_tr G R1 e1
      obtain ⟨p2, ys, rfl, q2, r2⟩ := lst_tr G R2 e2
      refine .inr (.inr (.inr ⟨p, p2, xs, ys, rfl, rfl, q1, q2, by rw [← r1.length, ← r2.length]; exact len_line w.1, fun z hz => ?_⟩))
      obtain ⟨G2, X2⟩ := G.frozen hz (.lst (xs ++ ys))
      exact g _ _ _ _ _ _ w.2 X2 G2 ⟨z, _, rfl, upd_same, Reps.append (r1.ext X2) (r2.ext X2)⟩
    · exact w.elim
/-- two ints, a condition, a result -/
def intD (C : Int → Int → Prop) (f : Int → Int → D) : fO := fun x y h Q => match x, y with
  | .int i, .int j => C i j ∧ Q (f i j) h
  | _, _ => False
theorem od_int {K : PySem.W.Frag} {C : Int → Int → Prop} {f : Int → Int → D} {r : R2} (vv : Int → Int → V) (hr : ∀ i j H (Q : VK), C i j → Q (vv i j) H → r (.int i) (.int j) H Q) (hv : ∀ i j (ρ : List Addr) (F : Hp), Rep K CA ρ F (f i j) (vv i j)) : OpD K CA (intD C f) r := by
  intro ρ F h H x y v u Qd Q G R1 R2 w g
  unfold intD at w
  split at w
  · cases (show v = .int _ from R1)
    cases (show u = .int _ from R2)
    exact hr _ _ _ _ w.1 (g _ _ _ _ _ _ w.2 (Ext.refl G) G (hv _ _ _ _))
  · exact w.elim
def subD : fO := intD (fun _ _ => True) fun i j => .int (i - j)
def mulD : fO := intD (fun i j => CMul i j ∨ CMulW i j) fun i j => .int (i * j)
def fdivD : fO := intD CDivW fun i j => .int (i / j)
def modD : fO := intD (fun _ j => 0 < j) fun i j => .int (i % j)
def powD : fO := intD CPow fun i j => .int (i ^ j.toNat)
def ltD : fO := intD (fun _ _ => True) fun i j => .bl (decide (i < j))
def leD : fO := intD (fun _ _ => True) fun i j => .bl (decide (i ≤ j))
def gtD : fO := intD (fun _ _ => True) fun i j => .bl (decide (j < i))
def geD : fO := intD (fun _ _ => True) fun i j => .bl (decide (j ≤ i))
theorem op_mulD : OpR X (binaryOp .Mult) (fun x y H Q => rI CMul (fun i j => .int (i * j)) x y H Q ∨ rI CMulW (fun i j => .int (i * j)) x y H Q) := OpR.or op_mul op_mulW
theorem od_sub {K : PySem.W.Frag} : OpD K CA subD (rI0 fun i j => .int (i - j)) := od_int (fun i j => .int (i - j)) (fun i j H Q _ q => ⟨i, j, rfl, rfl, q⟩) fun _ _ _ _ => rfl
theorem od_mul {K : PySem.W.Frag} : OpD K CA mulD (fun x y H Q => rI CMul (fun i j => .int (i * j)) x y H Q ∨ rI CMulW (fun i j => .int (i * j)) x y H Q) := od_int (fun i j => .int (i * j)) (fun i j H Q c q => c.elim (fun c => .inl ⟨i, j, rfl, rfl, c, q⟩) fun c => .inr ⟨i, j, rfl, rfl, c, q⟩) fun _ _ _ _ => rfl
theorem od_fdiv {K : PySem.W.Frag} : OpD K CA fdivD (rI CDivW fun i j => .int (i / j)) := od_int (fun i j => .int (i / j)) (fun i j H Q c q => ⟨i, j, rfl, rfl, c, q⟩) fun _ _ _ _ => rfl
theorem od_mod {K : PySem.W.Frag} : OpD K CA modD (rI (fun _ j => 0 < j) fun i j => .int (i % j)) := od_int (fun i j => .int (i % j)) (fun i j H Q c q => ⟨i, j, rfl, rfl, c, q⟩) fun _ _ _ _ => rfl
theorem od_pow {K : PySem.W.Frag} : OpD K CA powD (rI CPow fun i j => .int (i ^ j.toNat)) := od_int (fun i j => .int (i ^ j.toNat)) (fun i j H Q c q => ⟨i, j, rfl, rfl, c, q⟩) fun _ _ _ _ => rfl
theorem od_lt {K : PySem.W.Frag} : OpD K CA ltD (rI0 fun i j => .bl (decide (i < j))) := od_int (fun i j => .bl (decide (i < j))) (fun i j H Q _ q => ⟨i, j, rfl, rfl, q⟩) fun _ _ _ _ => rfl
theorem od_le {K : PySem.W.Frag} : OpD K CA leD (rI0 fun i j => .bl (decide (i ≤ j))) := od_int (fun i j => .bl (decide (i ≤ j))) (fun i j H Q _ q => ⟨i, j, rfl, rfl, q⟩) fun _ _ _ _ => rfl
theorem od_gt {K : PySem.W.Frag} : OpD K CA gtD (rI0 fun i j => .bl (decide (j < i))) := od_int (fun i j => .bl (decide (j < i))) (fun i j H Q _ q => ⟨i, j, rfl, rfl, q⟩) fun _ _ _ _ => rfl
theorem od_ge {K : PySem.W.Frag} : OpD K CA geD (rI0 fun i j => .bl (decide (j ≤ i))) := od_int (fun i j => .bl (decide (j ≤ i))) (fun i j H Q _ q => ⟨i, j, rfl, rfl, q⟩) fun _ _ _ _ => rfl
def negD : fU := fun x h Q => match x with
  | .int i => Q (.int (-i)) h
  | _ => False
theorem ud_neg {K : PySem.W.Frag} : UnD K CA negD (rU fun i => .int (-i)) := by
  intro ρ F h H x v Qd Q G R1 w g
  unfold negD at w
  split at w
  · cases (show v = .int _ from R1)
    exact ⟨_, rfl, g _ _ _ _ _ _ w (Ext.refl G) G rfl⟩
  · exact w.elim

/-! ### data as a whole: ==, repr -/
mutual
def toP : D → Option PyData
  | .non => some .none
  | .bl b => some (.bool b)
  | .int i => some (.int i)
  | .str x => some (.str x)
  | .tup ds => (toPs ds).map .tuple
  | .lst ds => (toPs ds).map .list
  | .rol ds => (toPs ds).map .list
  | _ => none
def toPs : List D → Option (List PyData)
  | [] => some []
  | d :: ds => match toP d, toPs ds with
    | some p, some ps => some (p :: ps)
    | _, _ => none
end
def toPh (h : Hs) : D → Option PyData
  | .ref i => match h[i]? with
    | some (.lst ds) => (toPs ds).map .list
    | _ => none
  | d => toP d
section
variable {K : PySem.W.Frag} {ρ : List Addr} {F H : Hp} {h : Hs}
mutual
theorem dp_of (G : GRel K CA ρ F h H) : ∀ (d : D) (v : V) (p : PyData), Rep K CA ρ F d v → toP d = some p → Dp K H v p
  | .non, v, p, r, e => by
    cases e
    cases (show v = .non from r)
    exact .non
  | .bl b, v, p, r, e => by
    cases e
    cases (show v = .bl b from r)
    exact .bl b
  | .int b, v, p, r, e => by
    cases e
    cases (show v = .int b from r)
    exact .int b
  | .str b, v, p, r, e => by
    cases e
    cases (show v = .str b from r)
    exact .str b
  | .tup ds, v, p, ⟨a, xs, e1, q, r⟩, e => by
    subst e1
    rw [toP] at e
    cases e2 : toPs ds with
    | none =>
      rw [e2] at e
      cases e
    | some ps =>
      rw [e2] at e
      cases e
      exact .tup (G.sqT q) (dps_of G ds xs ps r e2)
  | .lst ds, v, p, ⟨a, xs, e1, q, r⟩, e => by
    subst e1
    rw [toP] at e
    cases e2 : toPs ds with
    | none =>
      rw [e2] at e
      cases e
    | some ps =>
      rw [e2] at e
      cases e
      exact .lst (SqL.of (G.sub _ _ q)) (dps_of G ds xs ps r e2)
  | .rol ds, v, p, ⟨a, xs, e1, q, r⟩, e => by
    subst e1
    rw [toP] at e
    cases e2 : toPs ds with
    | none =>
      rw [e2] at e
      cases e
    | some ps =>
      rw [e2] at e
      cases e
      exact .lst (G.sqL q) (dps_of G ds xs ps r e2)
  | .ty _, _, _, _, e => by cases e
  | .gl _, _, _, _, e => by cases e
  | .dic _ _, _, _, _, e => by cases e
  | .obj _ _ _, _, _, _, e => by cases e
  | .ref _, _, _, _, e => by cases e
theorem dps_of (G : GRel K CA ρ F h H) : ∀ (ds : List D) (xs : List V) (ps : List PyData), Reps K CA ρ F ds xs → toPs ds = some ps → DpAll K H xs ps
  | [], xs, ps, r, e => by
    cases e
    cases (show xs = [] from r)
    exact .nil
  | d :: ds, xs, ps, ⟨v, t, e1, q, r⟩, e => by
    subst e1
    rw [toPs] at e
    split at e
    · rename_i p ps' e2 e3
      cases e
      exact .cons (dp_of G d v p q e2) (dps_of G ds t ps' r e3)
    · cases e
end
theorem dph_of (G : GRel K CA ρ F h H) {d : D} {v : V} {p : PyData} (r : Rep K CA ρ F d v) (e : toPh h d = some p) : Dp K H v p := by
  cases d with
  | ref i =>
    obtain ⟨a, ha, e2⟩ := r
    simp only [toPh] at e
    split at e
    · rename_i ds hc
      obtain ⟨xs, q, r⟩ := G.cell i _ a hc ha
      subst e2
      cases e3 : toPs ds with
      | none =>
        rw [e3] at e
        cases e
      | some ps =>
        rw [e3] at e
        cases e
        exact .lst (SqL.of q) (dps_of G ds xs ps r e3)
    · cases e
  | _ => exact dp_of G _ _ _ r e
end
/-- == : scalars by value, else data as a whole; b: the answer is turned (!=) -/
def eqD (neg : Bool) : fO := fun x y h Q => match x, y with
  | .int i, .int j => Q (.bl (neg ^^ decide (i = j))) h
  | .str a, .str b => Q (.bl (neg ^^ decide (a = b))) h
  | .bl a, .bl b => Q (.bl (neg ^^ decide (a = b))) h
  | x, y => match toPh h x, toPh h y with
    | some p, some q => SeqAt.shaped p = true ∧ SeqAt.shaped q = true ∧ Q (.bl (neg ^^ PyData.eqv p q)) h
    | _, _ => False
theorem op_eqDD (hu : X.A.units + 64 < cLine) : OpR X (compareOp .Eq) (fun x y H Q => rEq x y H Q ∨ rEqD X.K x y H Q) := OpR.or op_eq (op_eqD hu)
theorem op_neDD (hu : X.A.units + 64 < cLine) : OpR X (compareOp .NotEq) (fun x y H Q => rNe x y H Q ∨ rNeD X.K x y H Q) := OpR.or op_ne (op_neD hu)
theorem decI {i j : Int} : decide (V.int i = V.int j) = decide (i = j) := by
  by_cases e : i = j
  · rw [e, decide_eq_true rfl, decide_eq_true rfl]
  · rw [decide_eq_false e, decide_eq_false (fun q => e (V.int.inj q))]
theorem decS {i j : Str} : decide (V.str i = V.str j) = decide (i = j) := by
  by_cases e : i = j
  · rw [e, decide_eq_true rfl, decide_eq_true rfl]
  · rw [decide_eq_false e, decide_eq_false (fun q => e (V.str.inj q))]
theorem decB {i j : Bool} : decide (V.bl i = V.bl j) = decide (i = j) := by
  by_cases e : i = j
  · rw [e, decide_eq_true rfl, decide_eq_true rfl]
  · rw [decide_eq_false e, decide_eq_false (fun q => e (V.bl.inj q))]
theorem od_eq {K : PySem.W.Frag} : OpD K CA (eqD false) (fun x y H Q => rEq x y H Q ∨ rEqD K x y H Q) := by
  intro ρ F h H x y v u Qd Q G R1 R2 w g
  unfold eqD at w
  split at w
  · cases (show v = .int _ from R1)
    cases (show u = .int _ from R2)
    exact .inl ⟨rfl, by
      rw [decI]
      exact g _ _ _ _ _ _ w (Ext.refl G) G (by rw [Bool.false_xor]; rfl)⟩
  · cases (show v = .str _ from R1)
    cases (show u = .str _ from R2)
    exact .inl ⟨rfl, by
      rw [decS]
      exact g _ _ _ _ _ _ w (Ext.refl G) G (by rw [Bool.false_xor]; rfl)⟩
  · cases (show v = .bl _ from R1)
    cases (show u = .bl _ from R2)
    exact .inl ⟨rfl, by
      rw [decB]
      exact g _ _ _ _ _ _ w (Ext.refl G) G (by rw [Bool.false_xor]; rfl)⟩
  · split at w
    · rename_i p q e1 e2
      exact .inr ⟨p, q, dph_of G R1 e1, dph_of G R2 e2, w.1, w.2.1, g _ _ _ _ _ _ w.2.2 (Ext.refl G) G (by rw [Bool.false_xor]; rfl)⟩
    · exact w.elim
theorem od_ne {K : PySem.W.Frag} : OpD K CA (eqD true) (fun x y H Q => rNe x y H Q ∨ rNeD K x y H Q) := by
  intro ρ F h H x y v u Qd Q G R1 R2 w g
  unfold eqD at w
  split at w
  · cases (show v = .int _ from R1)
    cases (show u = .int _ from R2)
    exact .inl ⟨rfl, by
      rw [decI]
      exact g _ _ _ _ _ _ w (Ext.refl G) G (by rw [Bool.true_xor]; rfl)⟩
  · cases (show v = .str _ from R1)
    cases (show u = .str _ from R2)
    exact .inl ⟨rfl, by
      rw [decS]
      exact g _ _ _ _ _ _ w (Ext.refl G) G (by rw [Bool.true_xor]; rfl)⟩
  · cases (show v = .bl _ from R1)
    cases (show u = .bl _ from R2)
    exact .inl ⟨rfl, by
      rw [decB]
      exact g _ _ _ _ _ _ w (Ext.refl G) G (by rw [Bool.true_xor]; rfl)⟩
  · split at w
    · rename_i p q e1 e2
      exact .inr ⟨p, q, dph_of G R1 e1, dph_of G R2 e2, w.1, w.2.1, g _ _ _ _ _ _ w.2.2 (Ext.refl G) G (by rw [Bool.true_xor]; rfl)⟩
    · exact w.elim
/-- repr of data -/
def rReprD (K : PySem.W.Frag) : List V → Hp → VK → Prop := fun xs H Q => ∃ x p, xs = [x] ∧ Dp K H x p ∧ p.showable = true ∧ p.hasDict = false ∧ p.depth ≤ 62 ∧ p.shown.length ≤ sizeLine ∧ Q (.str p.shown) H
theorem call_reprD (hu : X.A.units + 64 < cLine) (hg : X.A.guards = some []) : CallR X (.builtin "repr") (rReprD X.K) := by
  intro pins s σ H xs us Q I r hw
  obtain ⟨x, p, rfl, hp, hs, hd, hl, hz, q⟩ := hw
  obtain ⟨u, rfl, ru⟩ := vals1 r
  obtain ⟨as, rd⟩ := Dp.reads I p x u hp ru
  have fin : ∀ (h' : Heap) (t : Tok) (tk : Nat), (∀ b o, s.heap.get? b = some o → h'.get? b = some o) → EP X pins σ Q (.str p.shown t) { s with heap := h', toks := tk } := fun h' t tk k => ⟨.str p.shown, H, I.kept k, ⟨_, rfl⟩, q⟩
  cases hp with
  | non =>
    cases ru
    exact PySem.P.repr_of_none (fin s.heap _ _ fun _ _ e => e)
  | bl b =>
    cases ru
    refine PySem.P.repr_of_bool ?_
    have := fin s.heap s.toks (s.toks + 1) fun _ _ e => e
    rw [PyData.shown_bool] at this
    cases b <;> exact this
  | int i =>
    obtain ⟨t, rfl⟩ := ru
    refine PySem.P.repr_of_int ?_ ?_
    · simpa [PyData.showable] using hs
    · have := fin s.heap s.toks (s.toks + 1) fun _ _ e => e
      rw [PyData.shown_int] at this
      exact this
  | str z =>
    obtain ⟨t, rfl⟩ := ru
    refine PySem.P.repr_of_str ?_ (by rw [PyData.shown_str] at hz; exact hz)
    have := fin s.heap s.toks (s.toks + 1) fun _ _ e => e
    rw [PyData.shown_str] at this
    exact this
  | lst hq hall =>
    cases ru
    exact repr_of_reads' rd hs (PyData.noDict_hsm hd) hg (by omega) (fun _ _ e => e) (fun h' u tk k => fin h' u tk k) hz
  | tup hq hall =>
    cases ru
    exact repr_of_reads' rd hs (PyData.noDict_hsm hd) hg (by omega) (fun _ _ e => e) (fun h' u tk k => fin h' u tk k) hz
def reprD : fL := fun xs h Q => match xs with
  | [x] => match toPh h x with
    | some p => p.showable = true ∧ p.hasDict = false ∧ p.depth ≤ 62 ∧ p.shown.length ≤ 16777216 ∧ Q (.str p.shown) h
    | none => False
  | _ => False
theorem ld_repr {K : PySem.W.Frag} : LiD K CA reprD (rReprD K) := by
  intro ρ F h H xs vs Qd Q G R w g
  unfold reprD at w
  split at w
  · obtain ⟨v, r, rfl, R1, e⟩ := R
    cases (show r = [] from e)
    split at w
    · rename_i p e1
      exact ⟨v, p, rfl, dph_of G R1 e1, w.1, w.2.1, w.2.2.1, len_line w.2.2.2.1, g _ _ _ _ _ _ w.2.2.2.2 (Ext.refl G) G rfl⟩
    · exact w.elim
  · exact w.elim

/-! ### subscripts, slices -/
def ixD : fO := fun x y h Q => match y with
  | .int i => match x with
    | .str z => z.length ≤ 16777216 ∧ (match atI z.cps.toList i with
      | some c => Q (.str ⟨#[c]⟩) h
      | none => False)
    | .tup ds => (match atI ds i with
      | some d => Q d h
      | none => False)
    | x => match lstOf h x with
      | some ds => (match atI ds i with
        | some d => Q d h
        | none => False)
      | none => False
  | _ => False
theorem atI_rep {K : PySem.W.Frag} {ρ : List Addr} {F : Hp} {ds : List D} {xs : List V} {i : Int} {d : D} (r : Reps K CA ρ F ds xs) (e : atI ds i = some d) : ∃ v, atI xs i = some v ∧ Rep K CA ρ F d v := by
  unfold atI at e ⊢
  rw [← r.length]
  cases h : ixN ds.length i with
  | none =>
    rw [h] at e
    cases e
  | some j =>
    rw [h] at e
    exact r.get e
theorem od_ix {K : PySem.W.Frag} : OpD K CA ixD (rIx K) := by
  intro ρ F h H x y v u Qd Q G R1 R2 w g
  unfold ixD at w
  split at w
  · cases (show u = .int _ from R2)
    split at w
    · cases (show v = .str _ from R1)
      obtain ⟨hz, w⟩ := w
      split at w
      · rename_i c e
        exact .inr (.inr ⟨_, _, c, rfl, rfl, len_line hz, e, g _ _ _ _ _ _ w (Ext.refl G) G rfl⟩)
      · exact w.elim
    · obtain ⟨a, xs, rfl, q, r⟩ := R1
      split at w
      · rename_i d e
        obtain ⟨v, e2, r2⟩ := atI_rep r e
        exact .inr (.inl ⟨a, xs, _, v, rfl, rfl, G.sqT q, e2, g _ _ _ _ _ _ w (Ext.refl G) G r2⟩)
      · exact w.elim
    · split at w
      · rename_i ds e
        obtain ⟨a, xs, rfl, q, r⟩ := lst_at G R1 e
        split at w
        · rename_i d e1
          obtain ⟨v, e2, r2⟩ := atI_rep r e1
          exact .inl ⟨a, xs, _, v, rfl, rfl, q, e2, g _ _ _ _ _ _ w (Ext.refl G) G r2⟩
        · exact w.elim
      · exact w.elim
  · exact w.elim
abbrev wO := Env → Hs → (Option Int → Hs → Prop) → PX → Prop
def rdO (K : PySem.W.Frag) (CA : Nat → Addr) (W : WX) (t : wO) : TO := fun σ H Q => ∃ ρ F env h Qd Ed, GRel K CA ρ F h H ∧ ERel K CA ρ F env σ ∧ t env h Qd Ed ∧ (∀ o h' ρ' F' H', Qd o h' → Ext ρ F H ρ' F' H' → GRel K CA ρ' F' h' H' → Q o H') ∧ GoX K CA ρ F H Ed (WE W σ)
structure SO (X : Cx) (CA : Nat → Addr) (e : Option Expr) (t : wO) : Prop where
  run : ∀ W, L2N.Takes X W → PO X e (rdO X.K CA W t)
def wOn : wO := fun _ h Q _ => Q none h
def wOs (te : wE) : wO := fun env h Q E => te env h (fun d h1 => match d with
  | .int i => Q (some i) h1
  | _ => False) E
theorem PO.of {e : Option Expr} {t t' : TO} (h : PO X e t) (i : ∀ σ H Q, t' σ H Q → t σ H Q) : PO X e t' := ⟨fun pins s σ H Q I w => h.run pins s σ H Q I (i σ H Q w)⟩
theorem so_none : SO X CA none wOn := ⟨fun W tk => PO.of po_none (by
  rintro σ H Q ⟨ρ, F, env, h, Qd, Ed, G, E, w, gq, gx⟩
  exact gq none h ρ F H w (Ext.refl G) G)⟩
theorem so_some {e : Expr} {te : wE} (he : SE X CA e te) : SO X CA (some e) (wOs te) := ⟨fun W tk => PO.of (po_some (he.run W tk)) (by
  rintro σ H Q ⟨ρ, F, env, h, Qd, Ed, G, E, w, gq, gx⟩
  refine ⟨ρ, F, env, h, _, Ed, G, E, w, ?_, gx⟩
  intro d h1 ρ1 F1 v H1 hq X1 G1 R1
  split at hq
  · cases (show v = .int _ from R1)
    exact ⟨_, rfl, gq _ _ _ _ _ hq X1 G1⟩
  · exact hq.elim)⟩
/-- the items of xs[lo:hi] -/
def cutL {α : Type} (xs : List α) (lo hi : Option Int) : List α := (xs.drop (HT.sIx xs.length 0 lo)).take (HT.sIx xs.length xs.length hi - HT.sIx xs.length 0 lo)
theorem cut_rep {K : PySem.W.Frag} {ρ : List Addr} {F : Hp} {ds : List D} {xs : List V} {lo hi : Option Int} (r : Reps K CA ρ F ds xs) : Reps K CA ρ F (cutL ds lo hi) (cutV xs lo hi) := by
  unfold cutL cutV
  rw [← r.length]
  exact (r.drop _).take _
def slD (x : D) (lo hi : Option Int) (h : Hs) (Q : PQ) : Prop := match x with
  | .str z => z.length ≤ 16777216 ∧ Q (.str (cutS z lo hi)) h
  | .tup ds => Q (.tup (cutL ds lo hi)) h
  | x => match lstOf h x with
    | some ds => Q (.lst (cutL ds lo hi)) h
    | none => False
def wSl (te : wE) (tl th : wO) : wE := fun env h Q E => te env h (fun x h1 => tl env h1 (fun l h2 => th env h2 (fun u h3 => slD x l u h3 Q) E) E) E
def rSlD (K : PySem.W.Frag) : V → Option Int → Option Int → Hp → VK → Prop := fun x lo hi H Q => rSlS x lo hi H Q ∨ (rSlA K x lo hi H Q ∨ rSlL K x lo hi H Q)
theorem sl_any : SlR X (rSlD X.K) := SlR.or sl_str (SlR.or sl_tupA sl_list)
theorem se_slice {e : Expr} {lo hi : Option Expr} {te : wE} {tl th : wO} {p2 pos : Pos} (he : SE X CA e te) (hl : SO X CA lo tl) (hh : SO X CA hi th) : SE X CA (.Subscript e (.Slice lo hi none p2) pos) (wSl te tl th) := ⟨fun W tk => PE.of (pe_slice sl_any (he.run W tk) (hl.run W tk) (hh.run W tk)) (by
  rintro σ H Q ⟨ρ, F, env, h, Qd, Ed, G, E, w, gq, gx⟩
  refine ⟨ρ, F, env, h, _, Ed, G, E, w, ?_, gx⟩
  intro d h1 ρ1 F1 v H1 hq X1 G1 R1
  refine ⟨ρ1, F1, env, h1, _, Ed, G1, E.ext X1, hq, ?_, gx.on X1⟩
  intro l h2 ρ2 F2 H2 hq2 X2 G2
  refine ⟨ρ2, F2, env, h2, _, Ed, G2, E.ext (X1.trans X2), hq2, ?_, gx.on (X1.trans X2)⟩
  intro u h3 ρ3 F3 H3 hq3 X3 G3
  have X13 := (X1.trans X2).trans X3
  have R3 := (R1.ext X2).ext X3
  unfold slD at hq3
  split at hq3
  · cases (show v = .str _ from R3)
    exact .inl ⟨_, rfl, len_line hq3.1, gq _ _ _ _ _ _ hq3.2 X13 G3 rfl⟩
  · obtain ⟨a, xs, rfl, q, r⟩ := R3
    refine .inr (.inl ⟨a, xs, rfl, G3.sqT q, ?_⟩)
    refine ⟨fun e => ?_, fun _ p hp => ?_⟩
    · refine gq _ _ _ _ _ _ hq3 X13 G3 ⟨a, _, rfl, q, ?_⟩
      have e3 : cutV xs l u = xs := by
        unfold cutV
        rw [e.1, e.2, List.drop_zero, Nat.sub_zero, List.take_length]
      have c := cut_rep (lo := l) (hi := u) r
      rw [e3] at c
      exact c
    · obtain ⟨G4, X4⟩ := G3.frozen hp (.tup (cutV xs l u))
      exact gq _ _ _ _ _ _ hq3 (X13.trans X4) G4 ⟨p, _, rfl, SqT.of upd_same, (cut_rep r).ext X4⟩
  · split at hq3
    · rename_i ds e
      obtain ⟨a, xs, rfl, q, r⟩ := lst_at G3 R3 e
      refine .inr (.inr ⟨a, xs, rfl, q, fun p hp => ?_⟩)
      obtain ⟨G4, X4⟩ := G3.frozen hp (.lst (cutV xs l u))
      exact gq _ _ _ _ _ _ hq3 (X13.trans X4) G4 ⟨p, _, rfl, upd_same, (cut_rep r).ext X4⟩
    · exact hq3.elim)⟩

/-! ### is, in -/
def isNon : D → Bool
  | .non => true
  | _ => false
def isD (neg : Bool) : fO := fun x y h Q => match y with
  | .non => Q (.bl (neg ^^ isNon x)) h
  | .bl b => (match x with
    | .bl a => Q (.bl (neg ^^ decide (a = b))) h
    | _ => False)
  | _ => False
theorem isNon_rep {K : PySem.W.Frag} {ρ : List Addr} {F : Hp} {x : D} {v : V} (r : Rep K CA ρ F x v) : decide (v = .non) = isNon x := by
  cases x with
  | non =>
    cases (show v = .non from r)
    rfl
  | bl b =>
    cases (show v = .bl b from r)
    rfl
  | int b =>
    cases (show v = .int b from r)
    rfl
  | str b =>
    cases (show v = .str b from r)
    rfl
  | ty b =>
    cases (show v = .ty b from r)
    rfl
  | gl b =>
    cases (show v = .ref b from r)
    rfl
  | tup ds =>
    obtain ⟨a, xs, rfl, _⟩ := r
    rfl
  | lst ds =>
    obtain ⟨a, xs, rfl, _⟩ := r
    rfl
  | rol ds =>
    obtain ⟨a, xs, rfl, _⟩ := r
    rfl
  | dic ks ds =>
    obtain ⟨a, xs, rfl, _⟩ := r
    rfl
  | obj c ns ds =>
    obtain ⟨a, dx, xs, rfl, _⟩ := r
    rfl
  | ref i =>
    obtain ⟨a, _, rfl⟩ := r
    rfl
  | exc c ns ds =>
    obtain ⟨a, dd, rfl, _⟩ := r
    rfl
theorem op_isDD : OpR X (compareOp .Is) (fun x y H Q => (y = .non ∧ Q (.bl (decide (x = .non))) H) ∨ rIsB x y H Q) := OpR.or op_isN op_isBl
theorem op_notDD : OpR X (compareOp .IsNot) (fun x y H Q => (y = .non ∧ Q (.bl (!decide (x = .non))) H) ∨ rNotB x y H Q) := OpR.or op_notN op_notBl
theorem od_is {K : PySem.W.Frag} : OpD K CA (isD false) (fun x y H Q => (y = .non ∧ Q (.bl (decide (x = .non))) H) ∨ rIsB x y H Q) := by
  intro ρ F h H x y v u Qd Q G R1 R2 w g
  unfold isD at w
  split at w
  · refine .inl ⟨R2, g _ _ _ _ _ _ w (Ext.refl G) G ?_⟩
    rw [isNon_rep R1, Bool.false_xor]
    rfl
  · cases (show u = .bl _ from R2)
    split at w
    · cases (show v = .bl _ from R1)
      exact .inr ⟨_, _, rfl, rfl, g _ _ _ _ _ _ w (Ext.refl G) G (by rw [Bool.false_xor]; rfl)⟩
    · exact w.elim
  · exact w.elim
theorem od_isNot {K : PySem.W.Frag} : OpD K CA (isD true) (fun x y H Q => (y = .non ∧ Q (.bl (!decide (x = .non))) H) ∨ rNotB x y H Q) := by
  intro ρ F h H x y v u Qd Q G R1 R2 w g
  unfold isD at w
  split at w
  · refine .inl ⟨R2, g _ _ _ _ _ _ w (Ext.refl G) G ?_⟩
    rw [isNon_rep R1, Bool.true_xor]
    rfl
  · cases (show u = .bl _ from R2)
    split at w
    · cases (show v = .bl _ from R1)
      exact .inr ⟨_, _, rfl, rfl, g _ _ _ _ _ _ w (Ext.refl G) G (by rw [Bool.true_xor]; rfl)⟩
    · exact w.elim
  · exact w.elim
/-- a flat datum as a value -/
def flD : D → Option V
  | .non => some .non
  | .bl b => some (.bl b)
  | .int i => some (.int i)
  | .str x => some (.str x)
  | _ => none
def flDs : List D → Option (List V)
  | [] => some []
  | d :: ds => match flD d, flDs ds with
    | some v, some vs => some (v :: vs)
    | _, _ => none
theorem flD_rep {K : PySem.W.Frag} {ρ : List Addr} {F : Hp} {d : D} {v w : V} (r : Rep K CA ρ F d v) (e : flD d = some w) : v = w ∧ flatV v = true := by
  cases d with
  | non =>
    cases (show v = .non from r)
    cases e
    exact ⟨rfl, rfl⟩
  | bl b =>
    cases (show v = .bl b from r)
    cases e
    exact ⟨rfl, rfl⟩
  | int b =>
    cases (show v = .int b from r)
    cases e
    exact ⟨rfl, rfl⟩
  | str b =>
    cases (show v = .str b from r)
    cases e
    exact ⟨rfl, rfl⟩
  | _ => cases e
theorem flDs_rep {K : PySem.W.Frag} {ρ : List Addr} {F : Hp} : ∀ {ds : List D} {vs ws : List V}, Reps K CA ρ F ds vs → flDs ds = some ws → vs = ws ∧ vs.all flatV = true
  | [], vs, ws, r, e => by
    cases (show vs = [] from r)
    cases e
    exact ⟨rfl, rfl⟩
  | d :: ds, vs, ws, ⟨v, t, e1, q, r⟩, e => by
    subst e1
    rw [flDs] at e
    split at e
    · rename_i v' vs' e2 e3
      cases e
      obtain ⟨h1, h2⟩ := flD_rep q e2
      obtain ⟨h3, h4⟩ := flDs_rep r e3
      exact ⟨by rw [h1, h3], by rw [List.all_cons, h2, h4]; rfl⟩
    · cases e
/-- one sign in a text; a flat datum in a list or tuple of flat data -/
def inD (neg : Bool) : fO := fun x y h Q => match y with
  | .str z => (match x with
    | .str s => (match s.cps.toList with
      | [c] => Q (.bl (neg ^^ decide (c ∈ z.cps.toList))) h
      | _ => False)
    | _ => False)
  | .tup ds => (match flD x, flDs ds with
    | some v, some vs => Q (.bl (neg ^^ inV v vs)) h
    | _, _ => False)
  | y => match lstOf h y with
    | some ds => (match flD x, flDs ds with
      | some v, some vs => Q (.bl (neg ^^ inV v vs)) h
      | _, _ => False)
    | none => False
def rInD (K : PySem.W.Frag) : R2 := fun x y H Q => (∃ (c : Nat) (z : Str), x = .str ⟨#[c]⟩ ∧ y = .str z ∧ Q (.bl (decide (c ∈ z.cps.toList))) H) ∨ rIn K false x y H Q
def rNotInD (K : PySem.W.Frag) : R2 := fun x y H Q => (∃ (c : Nat) (z : Str), x = .str ⟨#[c]⟩ ∧ y = .str z ∧ Q (.bl (!decide (c ∈ z.cps.toList))) H) ∨ rIn K true x y H Q
theorem op_inDD : OpR X (compareOp .In) (rInD X.K) := OpR.or op_in_sign op_in_seq
theorem op_notInDD : OpR X (compareOp .NotIn) (rNotInD X.K) := OpR.or op_notIn_sign op_notIn_seq
theorem str_of_cps {s : Str} {c : Nat} (e : s.cps.toList = [c]) : s = ⟨#[c]⟩ := by
  obtain ⟨a⟩ := s
  have : a = #[c] := Array.toList_inj.mp e
  rw [this]
theorem od_in {K : PySem.W.Frag} : OpD K CA (inD false) (rInD K) := by
  intro ρ F h H x y v u Qd Q G R1 R2 w g
  unfold inD at w
  split at w
  · cases (show u = .str _ from R2)
    split at w
    · cases (show v = .str _ from R1)
      split at w
      · rename_i c e
        refine .inl ⟨c, _, by rw [str_of_cps e], rfl, g _ _ _ _ _ _ w (Ext.refl G) G (by rw [Bool.false_xor]; rfl)⟩
      · exact w.elim
    · exact w.elim
  · obtain ⟨a, xs, rfl, q, r⟩ := R2
    split at w
    · rename_i v' vs' e1 e2
      obtain ⟨h1, h2⟩ := flD_rep R1 e1
      obtain ⟨h3, h4⟩ := flDs_rep r e2
      subst h1 h3
      exact .inr ⟨a, _, rfl, .inr (G.sqT q), h2, h4, g _ _ _ _ _ _ w (Ext.refl G) G (by rw [Bool.false_xor]; rfl)⟩
    · exact w.elim
  · split at w
    · rename_i ds e
      obtain ⟨a, xs, rfl, q, r⟩ := lst_at G R2 e
      split at w
      · rename_i v' vs' e1 e2
        obtain ⟨h1, h2⟩ := flD_rep R1 e1
        obtain ⟨h3, h4⟩ := flDs_rep r e2
        subst h1 h3
        exact .inr ⟨a, _, rfl, .inl q, h2, h4, g _ _ _ _ _ _ w (Ext.refl G) G (by rw [Bool.false_xor]; rfl)⟩
      · exact w.elim
    · exact w.elim
theorem od_notIn {K : PySem.W.Frag} : OpD K CA (inD true) (rNotInD K) := by
  intro ρ F h H x y v u Qd Q G R1 R2 w g
  unfold inD at w
  split at w
  · cases (show u = .str _ from R2)
    split at w
    · cases (show v = .str _ from R1)
      split at w
      · rename_i c e
        refine .inl ⟨c, _, by rw [str_of_cps e], rfl, g _ _ _ _ _ _ w (Ext.refl G) G (by rw [Bool.true_xor]; rfl)⟩
      · exact w.elim
    · exact w.elim
  · obtain ⟨a, xs, rfl, q, r⟩ := R2
    split at w
    · rename_i v' vs' e1 e2
      obtain ⟨h1, h2⟩ := flD_rep R1 e1
      obtain ⟨h3, h4⟩ := flDs_rep r e2
      subst h1 h3
      exact .inr ⟨a, _, rfl, .inr (G.sqT q), h2, h4, g _ _ _ _ _ _ w (Ext.refl G) G (by rw [Bool.true_xor]; rfl)⟩
    · exact w.elim
  · split at w
    · rename_i ds e
      obtain ⟨a, xs, rfl, q, r⟩ := lst_at G R2 e
      split at w
      · rename_i v' vs' e1 e2
        obtain ⟨h1, h2⟩ := flD_rep R1 e1
        obtain ⟨h3, h4⟩ := flDs_rep r e2
        subst h1 h3
        exact .inr ⟨a, _, rfl, .inl q, h2, h4, g _ _ _ _ _ _ w (Ext.refl G) G (by rw [Bool.true_xor]; rfl)⟩
      · exact w.elim
    · exact w.elim
end
end DL
/-! DL6: built-in functions and methods on plain data. -/
namespace DL
open PySem PySem.Spec PyProof.Rows L2

section
variable {X : Cx} {CA : Nat → Addr} {K : PySem.W.Frag}
/-! ### one argument -/
theorem one_rep {ρ : List Addr} {F : Hp} {x : D} {vs : List V} (R : Reps K CA ρ F [x] vs) : ∃ v, vs = [v] ∧ Rep K CA ρ F x v := by
  obtain ⟨v, r, rfl, R1, e⟩ := R
  cases (show r = [] from e)
  exact ⟨v, rfl, R1⟩
theorem two_rep {ρ : List Addr} {F : Hp} {x y : D} {vs : List V} (R : Reps K CA ρ F [x, y] vs) : ∃ v w, vs = [v, w] ∧ Rep K CA ρ F x v ∧ Rep K CA ρ F y w := by
  obtain ⟨v, r, rfl, R1, w, r2, rfl, R2, e⟩ := R
  cases (show r2 = [] from e)
  exact ⟨v, w, rfl, R1, R2⟩
def lenD : fL := fun xs h Q => match xs with
  | [.str z] => z.length ≤ 16777216 ∧ Q (.int z.length) h
  | [.tup ds] => Q (.int ds.length) h
  | [x] => (match lstOf h x with
    | some ds => Q (.int ds.length) h
    | none => False)
  | _ => False
theorem ld_len : LiD K CA lenD (fun xs H Q => (∃ z, xs = [.str z] ∧ z.length ≤ sizeLine ∧ Q (.int z.length) H) ∨ ∃ p ys, xs = [.ref p] ∧ (SqL K H p ys ∨ SqT K H p ys) ∧ Q (.int ys.length) H) := by
  intro ρ F h H xs vs Qd Q G R w g
  unfold lenD at w
  split at w
  · obtain ⟨v, rfl, R1⟩ := one_rep R
    cases (show v = .str _ from R1)
    exact .inl ⟨_, rfl, len_line w.1, g _ _ _ _ _ _ w.2 (Ext.refl G) G rfl⟩
  · obtain ⟨v, rfl, a, ys, rfl, q, r⟩ := one_rep R
    exact .inr ⟨a, ys, rfl, .inr (G.sqT q), g _ _ _ _ _ _ w (Ext.refl G) G (by rw [r.length]; rfl)⟩
  · obtain ⟨v, rfl, R1⟩ := one_rep R
    split at w
    · rename_i ds e
      obtain ⟨a, ys, rfl, q, r⟩ := lst_at G R1 e
      exact .inr ⟨a, ys, rfl, .inl q, g _ _ _ _ _ _ w (Ext.refl G) G (by rw [r.length]; rfl)⟩
    · exact w.elim
  · exact w.elim
theorem call_lenDD : CallR X (.builtin "len") (fun xs H Q => (∃ z, xs = [.str z] ∧ z.length ≤ sizeLine ∧ Q (.int z.length) H) ∨ ∃ p ys, xs = [.ref p] ∧ (SqL X.K H p ys ∨ SqT X.K H p ys) ∧ Q (.int ys.length) H) := CallR.or call_len_str call_len_seq
/-- int(..) of an int or a bool -/
def toIntD : fL := fun xs h Q => match xs with
  | [.int i] => Q (.int i) h
  | [.bl k] => Q (.int (if k then 1 else 0)) h
  | _ => False
theorem ld_toInt : LiD K CA toIntD (fun xs H Q => (∃ i, xs = [.int i] ∧ Q (.int i) H) ∨ ∃ k, xs = [.bl k] ∧ Q (.int (if k then 1 else 0)) H) := by
  intro ρ F h H xs vs Qd Q G R w g
  unfold toIntD at w
  split at w
  · obtain ⟨v, rfl, R1⟩ := one_rep R
    cases (show v = .int _ from R1)
    exact .inl ⟨_, rfl, g _ _ _ _ _ _ w (Ext.refl G) G rfl⟩
  · obtain ⟨v, rfl, R1⟩ := one_rep R
    cases (show v = .bl _ from R1)
    exact .inr ⟨_, rfl, g _ _ _ _ _ _ w (Ext.refl G) G rfl⟩
  · exact w.elim
def absD : fL := fun xs h Q => match xs with
  | [.int i] => Q (.int (if i < 0 then -i else i)) h
  | _ => False
theorem ld_abs : LiD K CA absD (fun xs H Q => ∃ i, xs = [.int i] ∧ Q (.int (if i < 0 then -i else i)) H) := by
  intro ρ F h H xs vs Qd Q G R w g
  unfold absD at w
  split at w
  · obtain ⟨v, rfl, R1⟩ := one_rep R
    cases (show v = .int _ from R1)
    exact ⟨_, rfl, g _ _ _ _ _ _ w (Ext.refl G) G rfl⟩
  · exact w.elim
def max2D : fL := fun xs h Q => match xs with
  | [.int i, .int j] => Q (.int (if j > i then j else i)) h
  | _ => False
def min2D : fL := fun xs h Q => match xs with
  | [.int i, .int j] => Q (.int (if j < i then j else i)) h
  | _ => False
theorem ld_max2 : LiD K CA max2D (fun xs H Q => ∃ i j, xs = [.int i, .int j] ∧ Q (.int (if j > i then j else i)) H) := by
  intro ρ F h H xs vs Qd Q G R w g
  unfold max2D at w
  split at w
  · obtain ⟨v, v2, rfl, R1, R2⟩ := two_rep R
    cases (show v = .int _ from R1)
    cases (show v2 = .int _ from R2)
    exact ⟨_, _, rfl, g _ _ _ _ _ _ w (Ext.refl G) G rfl⟩
  · exact w.elim
theorem ld_min2 : LiD K CA min2D (fun xs H Q => ∃ i j, xs = [.int i, .int j] ∧ Q (.int (if j < i then j else i)) H) := by
  intro ρ F h H xs vs Qd Q G R w g
  unfold min2D at w
  split at w
  · obtain ⟨v, v2, rfl, R1, R2⟩ := two_rep R
    cases (show v = .int _ from R1)
    cases (show v2 = .int _ from R2)
    exact ⟨_, _, rfl, g _ _ _ _ _ _ w (Ext.refl G) G rfl⟩
  · exact w.elim
/-- a list of bools, numbers, texts as such -/
def blsL : List D → Option (List Bool)
  | [] => some []
  | .bl b :: r => (blsL r).map (b :: ·)
  | _ => none
def intsL : List D → Option (List Int)
  | [] => some []
  | .int b :: r => (intsL r).map (b :: ·)
  | _ => none
def strsL : List D → Option (List Str)
  | [] => some []
  | .str b :: r => (strsL r).map (b :: ·)
  | _ => none
theorem bls_rep {ρ : List Addr} {F : Hp} : ∀ {ds : List D} {vs : List V} {bs : List Bool}, Reps K CA ρ F ds vs → blsL ds = some bs → vs = bs.map V.bl
  | [], vs, bs, r, e => by
    cases (show vs = [] from r)
    cases e
    rfl
  | d :: ds, vs, bs, ⟨v, t, e1, q, r⟩, e => by
    subst e1
    cases d with
    | bl b =>
      rw [blsL] at e
      cases e2 : blsL ds with
      | none =>
        rw [e2] at e
        cases e
      | some cs =>
        rw [e2] at e
        cases e
        rw [bls_rep r e2, show v = .bl b from q]
        rfl
    | _ => cases e
theorem ints_rep {ρ : List Addr} {F : Hp} : ∀ {ds : List D} {vs : List V} {bs : List Int}, Reps K CA ρ F ds vs → intsL ds = some bs → vs = bs.map V.int
  | [], vs, bs, r, e => by
    cases (show vs = [] from r)
    cases e
    rfl
  | d :: ds, vs, bs, ⟨v, t, e1, q, r⟩, e => by
    subst e1
    cases d with
    | int b =>
      rw [intsL] at e
      cases e2 : intsL ds with
      | none =>
        rw [e2] at e
        cases e
      | some cs =>
        rw [e2] at e
        cases e
        rw [ints_rep r e2, show v = .int b from q]
        rfl
    | _ => cases e
theorem strs_rep {ρ : List Addr} {F : Hp} : ∀ {ds : List D} {vs : List V} {bs : List Str}, Reps K CA ρ F ds vs → strsL ds = some bs → vs = bs.map V.str
  | [], vs, bs, r, e => by
    cases (show vs = [] from r)
    cases e
    rfl
  | d :: ds, vs, bs, ⟨v, t, e1, q, r⟩, e => by
    subst e1
    cases d with
    | str b =>
      rw [strsL] at e
      cases e2 : strsL ds with
      | none =>
        rw [e2] at e
        cases e
      | some cs =>
        rw [e2] at e
        cases e
        rw [strs_rep r e2, show v = .str b from q]
        rfl
    | _ => cases e
theorem bls_map (bs : List Bool) : blsL (bs.map D.bl) = some bs := by
  induction bs with
  | nil => rfl
  | cons b r ih => rw [List.map_cons, blsL, ih]; rfl
theorem ints_map (bs : List Int) : intsL (bs.map D.int) = some bs := by
  induction bs with
  | nil => rfl
  | cons b r ih => rw [List.map_cons, intsL, ih]; rfl
theorem strs_map (bs : List Str) : strsL (bs.map D.str) = some bs := by
  induction bs with
  | nil => rfl
  | cons b r ih => rw [List.map_cons, strsL, ih]; rfl
def allD : fL := fun xs h Q => match xs with
  | [x] => (match (lstOf h x).bind blsL with
    | some bs => Q (.bl (bs.all id)) h
    | none => False)
  | _ => False
def anyD : fL := fun xs h Q => match xs with
  | [x] => (match (lstOf h x).bind blsL with
    | some bs => Q (.bl (bs.any id)) h
    | none => False)
  | _ => False
def sumD : fL := fun xs h Q => match xs with
  | [x] => (match (lstOf h x).bind intsL with
    | some bs => Q (.int bs.sum) h
    | none => False)
  | _ => False
theorem bind_some {α β : Type} {o : Option α} {f : α → Option β} {b : β} (e : o.bind f = some b) : ∃ a, o = some a ∧ f a = some b := by
  cases o with
  | none => cases e
  | some a => exact ⟨a, rfl, e⟩
theorem ld_all : LiD K CA allD (rAll K) := by
  intro ρ F h H xs vs Qd Q G R w g
  unfold allD at w
  split at w
  · obtain ⟨v, rfl, R1⟩ := one_rep R
    split at w
    · rename_i bs e
      obtain ⟨ds, e1, e2⟩ := bind_some e
      obtain ⟨a, ys, rfl, q, r⟩ := lst_at G R1 e1
      have := bls_rep r e2
      subst this
      exact ⟨a, bs, rfl, q, g _ _ _ _ _ _ w (Ext.refl G) G rfl⟩
    · exact w.elim
  · exact w.elim
theorem ld_any : LiD K CA anyD (rAny K) := by
  intro ρ F h H xs vs Qd Q G R w g
  unfold anyD at w
  split at w
  · obtain ⟨v, rfl, R1⟩ := one_rep R
    split at w
    · rename_i bs e
      obtain ⟨ds, e1, e2⟩ := bind_some e
      obtain ⟨a, ys, rfl, q, r⟩ := lst_at G R1 e1
      have := bls_rep r e2
      subst this
      exact ⟨a, bs, rfl, q, g _ _ _ _ _ _ w (Ext.refl G) G rfl⟩
    · exact w.elim
  · exact w.elim
theorem ld_sum : LiD K CA sumD (rSum K) := by
  intro ρ F h H xs vs Qd Q G R w g
  unfold sumD at w
  split at w
  · obtain ⟨v, rfl, R1⟩ := one_rep R
    split at w
    · rename_i bs e
      obtain ⟨ds, e1, e2⟩ := bind_some e
      obtain ⟨a, ys, rfl, q, r⟩ := lst_at G R1 e1
      have := ints_rep r e2
      subst this
      exact ⟨a, bs, rfl, q, g _ _ _ _ _ _ w (Ext.refl G) G rfl⟩
    · exact w.elim
  · exact w.elim
/-- tuple(..), list(..) of a list or tuple -/
def toTupD : fL := fun xs h Q => match xs with
  | [.tup ds] => Q (.tup ds) h
  | [x] => (match lstOf h x with
    | some ds => Q (.tup ds) h
    | none => False)
  | _ => False
def toLstD : fL := fun xs h Q => match xs with
  | [.tup ds] => Q (.lst ds) h
  | [x] => (match lstOf h x with
    | some ds => Q (.lst ds) h
    | none => False)
  | _ => False
theorem ld_toTup : LiD K CA toTupD (fun xs H Q => ∃ p ys, xs = [.ref p] ∧ ((SqL K H p ys ∧ ∀ l, H l = none → Q (.ref l) (upd H l (.tup ys))) ∨ (SqT K H p ys ∧ Q (.ref p) H))) := by
  intro ρ F h H xs vs Qd Q G R w g
  unfold toTupD at w
  split at w
  · obtain ⟨v, rfl, a, ys, rfl, q, r⟩ := one_rep R
    exact ⟨a, ys, rfl, .inr ⟨G.sqT q, g _ _ _ _ _ _ w (Ext.refl G) G ⟨a, ys, rfl, q, r⟩⟩⟩
  · obtain ⟨v, rfl, R1⟩ := one_rep R
    split at w
    · rename_i ds e
      obtain ⟨a, ys, rfl, q, r⟩ := lst_at G R1 e
      refine ⟨a, ys, rfl, .inl ⟨q, fun l hl => ?_⟩⟩
      obtain ⟨G2, X2⟩ := G.frozen hl (.tup ys)
      exact g _ _ _ _ _ _ w X2 G2 ⟨l, ys, rfl, SqT.of upd_same, r.ext X2⟩
    · exact w.elim
  · exact w.elim
theorem ld_toLst : LiD K CA toLstD (fun xs H Q => ∃ p ys, xs = [.ref p] ∧ (SqL K H p ys ∨ SqT K H p ys) ∧ ∀ l, H l = none → Q (.ref l) (upd H l (.lst ys))) := by
  intro ρ F h H xs vs Qd Q G R w g
  unfold toLstD at w
  split at w
  · obtain ⟨v, rfl, a, ys, rfl, q, r⟩ := one_rep R
    refine ⟨a, ys, rfl, .inr (G.sqT q), fun l hl => ?_⟩
    obtain ⟨G2, X2⟩ := G.frozen hl (.lst ys)
    exact g _ _ _ _ _ _ w X2 G2 ⟨l, ys, rfl, upd_same, r.ext X2⟩
  · obtain ⟨v, rfl, R1⟩ := one_rep R
    split at w
    · rename_i ds e
      obtain ⟨a, ys, rfl, q, r⟩ := lst_at G R1 e
      refine ⟨a, ys, rfl, .inl q, fun l hl => ?_⟩
      obtain ⟨G2, X2⟩ := G.frozen hl (.lst ys)
      exact g _ _ _ _ _ _ w X2 G2 ⟨l, ys, rfl, upd_same, r.ext X2⟩
    · exact w.elim
  · exact w.elim
/-- str(..) of an int -/
def strIntD : fL := fun xs h Q => match xs with
  | [.int i] => i.natAbs.log2 < 1920 ∧ Q (.str (toString i)) h
  | _ => False
theorem ld_strInt : LiD K CA strIntD (fun xs H Q => ∃ i, xs = [.int i] ∧ i.natAbs.log2 < 1920 ∧ Q (.str (toString i)) H) := by
  intro ρ F h H xs vs Qd Q G R w g
  unfold strIntD at w
  split at w
  · obtain ⟨v, rfl, R1⟩ := one_rep R
    cases (show v = .int _ from R1)
    exact ⟨_, rfl, w.1, g _ _ _ _ _ _ w.2 (Ext.refl G) G rfl⟩
  · exact w.elim

/-! ### isinstance of a built-in class -/
def tyN (h : Hs) : D → Option String
  | .non => some "NoneType"
  | .bl _ => some "bool"
  | .int _ => some "int"
  | .str _ => some "str"
  | .tup _ => some "tuple"
  | .lst _ => some "list"
  | .dic _ _ => some "dict"
  | .ref i => match h[i]? with
    | some (.lst _) => some "list"
    | some (.dic _ _) => some "dict"
    | _ => none
  | _ => none
theorem tyN_rep {ρ : List Addr} {F H : Hp} {h : Hs} {d : D} {v : V} {n : String} (G : GRel K CA ρ F h H) (r : Rep K CA ρ F d v) (e : tyN h d = some n) : TyX K H v (.type n) := by
  cases d with
  | non =>
    cases e
    cases (show v = .non from r)
    exact .base .non
  | bl b =>
    cases e
    cases (show v = .bl b from r)
    exact .base (.bl b)
  | int b =>
    cases e
    cases (show v = .int b from r)
    exact .base (.int b)
  | str b =>
    cases e
    cases (show v = .str b from r)
    exact .base (.str b)
  | tup ds =>
    cases e
    obtain ⟨a, xs, rfl, q, r⟩ := r
    rcases G.sqT q with (q | ⟨o, q⟩) | ⟨o, its, n, hk, hc, _⟩
    · exact .base (.tup q)
    · exact .fTuple q
    · exact .kTuple hk hc
  | lst ds =>
    cases e
    obtain ⟨a, xs, rfl, q, r⟩ := r
    exact .base (.lst (G.sub _ _ q))
  | dic ks ds =>
    cases e
    obtain ⟨a, xs, rfl, q, r⟩ := r
    exact .base (.dK (G.sub _ _ q))
  | ref i =>
    obtain ⟨a, ha, rfl⟩ := r
    simp only [tyN] at e
    split at e
    · rename_i ds hc
      cases e
      obtain ⟨xs, q, r⟩ := G.cell i _ a hc ha
      exact .base (.lst q)
    · rename_i ks ds hc
      cases e
      obtain ⟨xs, q, r⟩ := G.cell i _ a hc ha
      exact .base (.dK q)
    · cases e
  | _ => cases e
def isiD : fL := fun xs h Q => match xs with
  | [x, .ty b] => (match tyN h x with
    | some a => (match kitB a b with
      | some r => Q (.bl r) h
      | none => False)
    | none => False)
  | _ => False
theorem ld_isi : LiD K CA isiD (rIsi K) := by
  intro ρ F h H xs vs Qd Q G R w g
  unfold isiD at w
  split at w
  · obtain ⟨v, v2, rfl, R1, R2⟩ := two_rep R
    cases (show v2 = .ty _ from R2)
    split at w
    · rename_i a e
      split at w
      · rename_i r e2
        exact ⟨v, _, _, _, r, rfl, .ty _, tyN_rep G R1 e, kit_ty e2, g _ _ _ _ _ _ w (Ext.refl G) G rfl⟩
      · exact w.elim
    · exact w.elim
  · exact w.elim
/-- the name of a built-in class as a value -/
theorem se_ty {x : Str} {n : String} {pos : Pos} (hm : X.mg x = none) (hv : bootBuiltins x = some (.type n)) (hg : Gl X x := by rfl) (hn : x ≠ "__name__" := by decide) (hdb : (x == ("__debug__" : Str)) = false := by decide) : SE X CA (.Name x pos) (wC (.ty n)) :=
  se_of (pe_bltn hg hm hv (v := .ty n) rfl hn hdb) fun _ _ => rfl

/-! ### methods -/
def tyM (T : String) (h : Hs) (x : D) : Prop := match x with
  | .str _ => T = "str"
  | .lst _ => T = "list"
  | .rol _ => T = "list"
  | .dic _ _ => T = "dict"
  | .ref i => match h[i]? with
    | some (.lst _) => T = "list"
    | some (.dic _ _) => T = "dict"
    | _ => False
  | _ => False
theorem tyM_rep {ρ : List Addr} {F H : Hp} {h : Hs} {d : D} {v : V} {T : String} (G : GRel K CA ρ F h H) (r : Rep K CA ρ F d v) (e : tyM T h d) : tyV K T v H := by
  cases d with
  | str b =>
    cases (show v = .str b from r)
    exact e
  | lst ds =>
    obtain ⟨a, xs, rfl, q, r⟩ := r
    exact .inl ⟨e, xs, SqL.of (G.sub _ _ q)⟩
  | rol ds =>
    obtain ⟨a, xs, rfl, q, r⟩ := r
    exact .inl ⟨e, xs, G.sqL q⟩
  | dic ks ds =>
    obtain ⟨a, xs, rfl, q, r⟩ := r
    exact .inr (.inr (.inl ⟨e, .inl ⟨_, G.sub _ _ q⟩⟩))
  | ref i =>
    obtain ⟨a, ha, rfl⟩ := r
    simp only [tyM] at e
    split at e
    · rename_i ds hc
      obtain ⟨xs, q, r⟩ := G.cell i _ a hc ha
      exact .inl ⟨e, xs, SqL.of q⟩
    · rename_i ks ds hc
      obtain ⟨xs, q, r⟩ := G.cell i _ a hc ha
      exact .inr (.inr (.inl ⟨e, .inl ⟨_, q⟩⟩))
    · exact e.elim
  | _ => exact (show False from e).elim
abbrev fM := D → List D → Hs → PQ → Prop
def wBM0 (T : String) (f : fM) (to : wE) : wE := fun env h Q E => to env h (fun x h1 => tyM T h1 x ∧ f x [] h1 Q) E
def wBM (T : String) (f : fM) (to : wE) (ta : wL) : wE := fun env h Q E => to env h (fun x h1 => tyM T h1 x ∧ ta env h1 (fun xs h2 => f x xs h2 Q) E) E
theorem se_bm0 {o : Expr} {to : wE} {name : Str} {apos pos : Pos} {T id : String} {f : fM} {r : V → List V → Hp → VK → Prop} (pa : PlainAttrs T) (slot : Slot T name id) (hty : typeOf (.builtin id) = pure (.type "method_descriptor")) (hm : MtR X id r) (hf : MtD X.K CA f r) (ho : SE X CA o to)
    (hbase : attributeBase o name X.env (eval o X.env) = eval o X.env := by rfl) (hline : (apos.endLine == pos.line) = true := by rfl) : SE X CA (.Call (.Attribute o name apos) [] [] pos) (wBM0 T f to) := ⟨fun W tk => PE.of (pe_bm0 pa slot hty hm (ho.run W tk) hbase hline) (by
  rintro σ H Q ⟨ρ, F, env, h, Qd, Ed, G, E, w, gq, gx⟩
  refine ⟨ρ, F, env, h, _, Ed, G, E, w, ?_, gx⟩
  rintro x h1 ρ1 F1 v H1 ⟨ht, hq⟩ X1 G1 R1
  exact ⟨tyM_rep G1 R1 ht, hf _ _ _ _ _ _ _ _ _ _ G1 R1 Reps.nil hq (gq.on X1)⟩)⟩
theorem se_bm {o e : Expr} {es : List Expr} {to : wE} {ta : wL} {name : Str} {apos pos : Pos} {T id : String} {f : fM} {r : V → List V → Hp → VK → Prop} (pa : PlainAttrs T) (slot : Slot T name id) (hty : typeOf (.builtin id) = pure (.type "method_descriptor")) (hm : MtR X id r) (hf : MtD X.K CA f r) (ho : SE X CA o to) (ha : SA X CA (e :: es) ta)
    (hbase : attributeBase o name X.env (eval o X.env) = eval o X.env := by rfl)
    (hfew : ((backTo pos (starEach (e :: es) X.env)).all (fun x => !x.1) && (backToKw pos (keywordEach [] X.env)).all (fun x => x.1.isSome)
      && decide ((e :: es).length + ([] : List Keyword).length + (if ([] : List Keyword).isEmpty then 0 else 1) < 30)) = true := by rfl)
    (hline : (apos.endLine == pos.line) = true := by rfl) (hs : starEach (e :: es) X.env = (false, eval e X.env) :: starEach es X.env := by rfl) (hplain : (backTo pos (starEach es X.env)).any (·.1) = false := by rfl) :
    SE X CA (.Call (.Attribute o name apos) (e :: es) [] pos) (wBM T f to ta) := ⟨fun W tk => PE.of (pe_bm pa slot hty hm (ho.run W tk) (ha.run W tk) hbase hfew hline hs hplain) (by
  rintro σ H Q ⟨ρ, F, env, h, Qd, Ed, G, E, w, gq, gx⟩
  refine ⟨ρ, F, env, h, _, Ed, G, E, w, ?_, gx⟩
  rintro x h1 ρ1 F1 v H1 ⟨ht, hq⟩ X1 G1 R1
  refine ⟨tyM_rep G1 R1 ht, ρ1, F1, env, h1, _, Ed, G1, E.ext X1, hq, ?_, gx.on X1⟩
  intro xs h2 ρ2 F2 vs H2 hq2 X2 G2 R2
  exact hf _ _ _ _ _ _ _ _ _ _ G2 (R1.ext X2) R2 hq2 ((gq.on X1).on X2))⟩
def joinD : fM := fun x xs h Q => match x, xs with
  | .str a, [y] => (match (lstOf h y).bind strsL with
    | some ys => (ys.map (·.length)).sum + ys.length * a.length ≤ 16777216 ∧ Q (.str (Txt.join a ys)) h
    | none => match y with
      | .tup ds => (match strsL ds with
        | some ys => (ys.map (·.length)).sum + ys.length * a.length ≤ 16777216 ∧ Q (.str (Txt.join a ys)) h
        | none => False)
      | _ => False)
  | _, _ => False
theorem md_join : MtD K CA joinD (fun x xs H Q => ∃ a p, ∃ ys : List Str, x = .str a ∧ xs = [.ref p] ∧ (SqL K H p (ys.map V.str) ∨ SqT K H p (ys.map V.str)) ∧ (ys.map (·.length)).sum + ys.length * a.length ≤ 16777216 ∧ Q (.str (Txt.join a ys)) H) := by
  intro ρ F h H x v xs vs Qd Q G R1 R2 w g
  unfold joinD at w
  split at w
  · cases (show v = .str _ from R1)
    obtain ⟨v, rfl, R3⟩ := one_rep R2
    split at w
    · rename_i ys e
      obtain ⟨ds, e1, e2⟩ := bind_some e
      obtain ⟨a, zs, rfl, q, r⟩ := lst_at G R3 e1
      have := strs_rep r e2
      subst this
      exact ⟨_, a, ys, rfl, rfl, .inl q, w.1, g _ _ _ _ _ _ w.2 (Ext.refl G) G rfl⟩
    · split at w
      · split at w
        · rename_i ds ys e
          obtain ⟨a, zs, rfl, q, r⟩ := R3
          have := strs_rep r e
          subst this
          exact ⟨_, a, ys, rfl, rfl, .inr (G.sqT q), w.1, g _ _ _ _ _ _ w.2 (Ext.refl G) G rfl⟩
        · exact w.elim
      · exact w.elim
  · exact w.elim
def str1D (C : Str → Prop) (f : Str → D) : fM := fun x xs h Q => match x, xs with
  | .str a, [] => C a ∧ Q (f a) h
  | _, _ => False
theorem md_upper : MtD K CA (str1D (fun a => a.length ≤ 5592405) fun a => .str (Txt.upper a)) (fun x xs H Q => ∃ a, x = .str a ∧ xs = [] ∧ a.length ≤ 5592405 ∧ Q (.str (Txt.upper a)) H) := by
  intro ρ F h H x v xs vs Qd Q G R1 R2 w g
  unfold str1D at w
  split at w
  · cases (show v = .str _ from R1)
    cases (show vs = [] from R2)
    exact ⟨_, rfl, rfl, w.1, g _ _ _ _ _ _ w.2 (Ext.refl G) G rfl⟩
  · exact w.elim
/-- xs.append(e), xs a cell -/
def appD : fM := fun x xs h Q => match x, xs with
  | .ref i, [y] => (match h[i]? with
    | some (.lst ds) => ds.length < 16777216 ∧ Q .non (h.set i (.lst (ds ++ [y])))
    | _ => False)
  | _, _ => False
theorem md_app : MtD K CA appD rAppend := by
  intro ρ F h H x v xs vs Qd Q G R1 R2 w g
  unfold appD at w
  split at w
  · rename_i i y
    obtain ⟨u, rfl, R3⟩ := one_rep R2
    split at w
    · rename_i ds hc
      obtain ⟨a, ha, rfl⟩ := R1
      obtain ⟨zs, q, r⟩ := G.cell i _ a hc ha
      refine ⟨a, zs, u, rfl, rfl, q, by rw [← r.length, sizeLine_eq]; exact w.1, ?_⟩
      obtain ⟨G2, X2⟩ := G.cellSet hc ha (.lst (zs ++ [u])) (c := .lst (ds ++ [y])) ⟨_, upd_same, Reps.append r (Reps.cons R3 Reps.nil)⟩
      exact g _ _ _ _ _ _ w.2 X2 G2 rfl
    · exact w.elim
  · exact w.elim
end
end DL
/-! DL7: calls by name, dict displays, == of dicts. -/
namespace DL
open PySem PySem.Spec PyProof.Rows L2

/-! ### keywords -/
structure SK (X : Cx) (CA : Nat → Addr) (kws : List Keyword) (t : wL) : Prop where
  run : ∀ W, L2N.Takes X W → PK X kws (rdL X.K CA W t)
theorem PK.of {X : Cx} {kws : List Keyword} {t t' : TA} (h : PK X kws t) (i : ∀ σ H Q, t' σ H Q → t σ H Q) : PK X kws t' := ⟨fun p pins s σ H Q I w => h.run p pins s σ H Q I (i σ H Q w)⟩
section
variable {X : Cx} {CA : Nat → Addr} {pos : Pos}
theorem sk_nil : SK X CA [] wNil := ⟨fun W tk => PK.of pk_nil (by
  rintro σ H Q ⟨ρ, F, env, h, Qd, Ed, G, E, w, gq, gx⟩
  exact gq [] h ρ F [] H w (Ext.refl G) G Reps.nil)⟩
theorem sk_cons {e : Expr} {te : wE} {t : wL} {kws : List Keyword} {nm : Option Str} {kpos : Pos} (ha : SE X CA e te) (hr : SK X CA kws t) : SK X CA (⟨nm, e, kpos⟩ :: kws) (wCons te t) := ⟨fun W tk => PK.of (pk_cons (ha.run W tk) (hr.run W tk)) (by
  rintro σ H Q ⟨ρ, F, env, h, Qd, Ed, G, E, w, gq, gx⟩
  refine ⟨ρ, F, env, h, _, Ed, G, E, w, ?_, gx⟩
  intro x h1 ρ1 F1 v H1 hq X1 G1 R1
  refine ⟨ρ1, F1, env, h1, _, Ed, G1, E.ext X1, hq, ?_, gx.on X1⟩
  intro y h2 ρ2 F2 u H2 hq2 X2 G2 R2
  exact gq (x :: y) h2 ρ2 F2 (v :: u) H2 hq2 (X1.trans X2) G2 (Reps.cons (R1.ext X2) R2))⟩
/-- the parameters out of the positional arguments (inl) and the keywords' (inr) -/
def selA {α : Type} : List (Nat ⊕ Nat) → List α → List α → List α
  | [], _, _ => []
  | .inl i :: r, us, ws => (match us[i]? with
    | some u => u :: selA r us ws
    | none => selA r us ws)
  | .inr i :: r, us, ws => (match ws[i]? with
    | some u => u :: selA r us ws
    | none => selA r us ws)
theorem sel_vals {vs zs : List V} {us ws : List Value} (r1 : Vals vs us) (r2 : Vals zs ws) : ∀ sel : List (Nat ⊕ Nat), Vals (selA sel vs zs) (selA sel us ws)
  | [] => .nil
  | .inl i :: r => by
    have ih := sel_vals r1 r2 r
    unfold selA
    cases e : vs[i]? with
    | none => rw [Vals.none_of r1 e]; exact ih
    | some v =>
      obtain ⟨u, e2, q⟩ := r1.get e
      rw [e2]
      exact .cons q ih
  | .inr i :: r => by
    have ih := sel_vals r1 r2 r
    unfold selA
    cases e : zs[i]? with
    | none => rw [Vals.none_of r2 e]; exact ih
    | some v =>
      obtain ⟨u, e2, q⟩ := r2.get e
      rw [e2]
      exact .cons q ih
theorem sel_reps {K : PySem.W.Frag} {ρ : List Addr} {F : Hp} {ds es : List D} {vs zs : List V} (r1 : Reps K CA ρ F ds vs) (r2 : Reps K CA ρ F es zs) : ∀ sel : List (Nat ⊕ Nat), Reps K CA ρ F (selA sel ds es) (selA sel vs zs)
  | [] => Reps.nil
  | .inl i :: r => by
    have ih := sel_reps r1 r2 r
    unfold selA
    cases e : ds[i]? with
    | none =>
      have e2 : vs[i]? = none := by
        rw [List.getElem?_eq_none_iff] at e ⊢
        rw [← r1.length]
        exact e
      rw [e2]
      exact ih
    | some v =>
      obtain ⟨u, e2, q⟩ := r1.get e
      rw [e2]
      exact Reps.cons q ih
  | .inr i :: r => by
    have ih := sel_reps r1 r2 r
    unfold selA
    cases e : es[i]? with
    | none =>
      have e2 : zs[i]? = none := by
        rw [List.getElem?_eq_none_iff] at e ⊢
        rw [← r2.length]
        exact e
      rw [e2]
      exact ih
    | some v =>
      obtain ⟨u, e2, q⟩ := r2.get e
      rw [e2]
      exact Reps.cons q ih
/-- a def called with a positional arguments and the keywords ks -/
structure CalleeK (P : Program) (w : World) (K : PySem.W.Frag) (mg : Str → Option Value) (base : Heap) (CA : Nat → Addr) (k : Nat) (x : Str) (n a : Nat) (ks : List Str) (sel : List (Nat ⊕ Nat)) (C : Ct) : Prop where
  ex : ∃ f fd ps, mg x = some (.ref f) ∧ PySem.W.keepIn K (.ref f) = true ∧ ps.length = n ∧ (∀ (s : Shared) (us ws : List Value), us.length = a → ws.length = ks.length → BindsTo s fd ⟨us, ks.zip ws⟩ (ps.zip (selA sel us ws))) ∧ FnG P w K mg base (L2N.CX P w) k f fd ps (spD K CA n C)
theorem run_fnGK {CX : CXT} {k : Nat} {f : Addr} {fd : FuncData} {ps ks : List Str} {sel : List (Nat ⊕ Nat)} {sp : Sp} {E : XK} {pins : List (Addr × Obj)} {σ : L2.St} {H : Hp} {s : Shared} {Q : VK} {us ws : List Value} {vs zs : List V}
    (F : FnG X.prog X.w X.K X.mg X.base CX k f fd ps sp) (hr : Rm k X.A) (hb : BindsTo s fd ⟨us, ks.zip ws⟩ (ps.zip (selA sel us ws))) (hx : PassesAt CX X σ E) (I : Inv X pins σ H s) (r : Vals vs us) (rz : Vals zs ws) (hs : sp (selA sel vs zs) H Q E) :
    wpAny (model X.prog X.w) X.A (call (.ref f) us (ks.zip ws)) (EP X pins σ Q) X.xe s := by
  refine wpAny_call (codeAny_mono (F.run X.A X.stack s H ⟨us, ks.zip ws⟩ (selA sel us ws) (selA sel vs zs) Q E hr I.env0 hb (sel_vals r rz sel) hs) fun res s' hq => ?_)
  match res, hq with
  | .error e, hq => exact hx pins H s e s' I hq
  | .ok (.ret u), hq => exact I.after hq
  | .ok .next, hq => exact hq.elim
  | .ok .brk, hq => exact hq.elim
  | .ok .cont, hq => exact hq.elim
def wCallK (C : Ct) (n a : Nat) (ks : List Str) (sel : List (Nat ⊕ Nat)) (ta tk : wL) : wE := fun env h Q E => ta env h (fun ds h1 => tk env h1 (fun es h2 => ds.length = a ∧ es.length = ks.length ∧ (selA sel ds es).length = n ∧ C (selA sel ds es) h2 Q E) E) E
theorem callK_imp {K : PySem.W.Frag} {W : WX} {C : Ct} {n a : Nat} {ks : List Str} {sel : List (Nat ⊕ Nat)} {ta tk : wL} : ∀ σ H Q, rd K CA W (wCallK C n a ks sel ta tk) σ H Q → rdL K CA W ta σ H fun vs H1 => rdL K CA W tk σ H1 fun zs H2 => vs.length = a ∧ zs.length = ks.length ∧ spD K CA n C (selA sel vs zs) H2 Q (WE W σ) := by
  rintro σ H Q ⟨ρ, F, env, h, Qd, Ed, G, E, w, gq, gx⟩
  refine ⟨ρ, F, env, h, _, Ed, G, E, w, ?_, gx⟩
  intro ds h1 ρ1 F1 vs H1 hq X1 G1 R1
  refine ⟨ρ1, F1, env, h1, _, Ed, G1, E.ext X1, hq, ?_, gx.on X1⟩
  rintro es h2 ρ2 F2 zs H2 ⟨hl1, hl2, hl3, hq2⟩ X2 G2 R2
  have RR := sel_reps (R1.ext X2) R2 sel
  exact ⟨by rw [← R1.length]; exact hl1, by rw [← R2.length]; exact hl2, by rw [← RR.length]; exact hl3, ρ2, F2, h2, _, Qd, Ed, G2, RR, hq2, (gq.on X1).on X2, (gx.on X1).on X2⟩
theorem se_callK {k n a : Nat} {x : Str} {ks : List Str} {sel : List (Nat ⊕ Nat)} {C : Ct} {p : Pos} {e : Expr} {es : List Expr} {kws : List Keyword} {t tk : wL} (c : CalleeK X.prog X.w X.K X.mg X.base CA k x n a ks sel C) (hr : Rm k X.A) (ha : SA X CA (e :: es) t) (hkw : SK X CA kws tk) (hg : Gl X x := by rfl)
    (hall : (backToKw pos (keywordEach kws X.env)).all (·.1.isSome) = true := by rfl) (hks : (backToKw pos (keywordEach kws X.env)).filterMap (·.1) = ks := by rfl) (hdb : (x == ("__debug__" : Str)) = false := by decide)
    (he : starEach (e :: es) X.env = (false, eval e X.env) :: starEach es X.env := by rfl) (hpl : ((backTo pos (starEach (e :: es) X.env)).any (·.1) || (backToKw pos (keywordEach kws X.env)).any (·.1.isNone)) = false := by rfl) :
    SE X CA (.Call (.Name x p) (e :: es) kws pos) (wCallK C n a ks sel t tk) := ⟨fun W tkx => by
  obtain ⟨f, fd, ps, hm, hk, hn, hb, Fo⟩ := c.ex
  refine ⟨fun pins s σ H Q I hw => ?_⟩
  refine wpAny_Call_Name_kw (ld_glob I hg hm ?_ hdb)
  refine PySem.W.callWith_KW (h₀ := X.base) I.ok.mod.kin hk hall (thn ((ha.run W tkx).run pos pins s σ H _ I (callK_imp σ H Q hw)) fun us s1 ⟨vs, H1, I1, r, q⟩ => ?_) hpl he
  refine thn ((hkw.run W tkx).run pos pins s1 σ H1 _ I1 q) fun ws s2 ⟨zs, H2, I2, rz, l1, l2, q2⟩ => ⟨I2.kIn, ?_⟩
  rw [hks]
  exact run_fnGK Fo hr (hb s2 us ws (r.length.symm.trans l1) (rz.length.symm.trans l2)) (L2N.passAt tkx σ) I2 r rz q2⟩
theorem se_callK0 {k n : Nat} {x : Str} {ks : List Str} {sel : List (Nat ⊕ Nat)} {C : Ct} {p : Pos} {kws : List Keyword} {tk : wL} (c : CalleeK X.prog X.w X.K X.mg X.base CA k x n 0 ks sel C) (hr : Rm k X.A) (hkw : SK X CA kws tk) (hg : Gl X x := by rfl)
    (hall : (backToKw pos (keywordEach kws X.env)).all (·.1.isSome) = true := by rfl) (hks : (backToKw pos (keywordEach kws X.env)).filterMap (·.1) = ks := by rfl) (hdb : (x == ("__debug__" : Str)) = false := by decide)
    (hpl : ((backTo pos (starEach [] X.env)).any (·.1) || (backToKw pos (keywordEach kws X.env)).any (·.1.isNone)) = false := by rfl) :
    SE X CA (.Call (.Name x p) [] kws pos) (wCallK C n 0 ks sel wNil tk) := ⟨fun W tkx => by
  obtain ⟨f, fd, ps, hm, hk, hn, hb, Fo⟩ := c.ex
  refine ⟨fun pins s σ H Q I hw => ?_⟩
  refine wpAny_Call_Name_kw (ld_glob I hg hm ?_ hdb)
  obtain ⟨ρ, F, env, h, Qd, Ed, G, E, w, gq, gx⟩ := hw
  have hw2 : rdL X.K CA W tk σ H fun zs H2 => zs.length = ks.length ∧ spD X.K CA n C (selA sel [] zs) H2 Q (WE W σ) := by
    refine ⟨ρ, F, env, h, _, Ed, G, E, w, ?_, gx⟩
    rintro es h2 ρ2 F2 zs H2 ⟨hl1, hl2, hl3, hq2⟩ X2 G2 R2
    have RR := sel_reps (CA := CA) (K := X.K) (ρ := ρ2) (F := F2) (ds := []) (vs := []) Reps.nil R2 sel
    exact ⟨by rw [← R2.length]; exact hl2, by rw [← RR.length]; exact hl3, ρ2, F2, h2, _, Qd, Ed, G2, RR, hq2, gq.on X2, gx.on X2⟩
  refine PySem.W.callWith_KW0 (h₀ := X.base) I.ok.mod.kin hk hall (thn ((hkw.run W tkx).run pos pins s σ H _ I hw2) fun ws s2 ⟨zs, H2, I2, rz, l2, q2⟩ => ⟨I2.kIn, ?_⟩) hpl
  rw [hks]
  exact run_fnGK (us := []) Fo hr (hb s2 [] ws rfl (rz.length.symm.trans l2)) (L2N.passAt tkx σ) I2 .nil rz q2⟩

/-! ### dict displays -/
def wDic0 : wE := fun _ h Q _ => Q (.dic [] []) h
theorem se_dic0 : SE X CA (.Dict [] [] pos) wDic0 := ⟨fun W tk => PE.of pe_dnewK (by
  rintro σ H Q ⟨ρ, F, env, h, Qd, Ed, G, E, w, gq, gx⟩
  intro p hp
  obtain ⟨G2, X2⟩ := G.frozen hp (.dK [])
  exact gq _ _ _ _ _ _ w X2 G2 ⟨p, [], rfl, upd_same, rfl, rfl⟩)⟩
def keyD : D → Option Key
  | .int i => some (.inl i)
  | .str x => some (.inr x)
  | _ => none
theorem keyD_rep {K : PySem.W.Frag} {ρ : List Addr} {F : Hp} {d : D} {v : V} {k : Key} (r : Rep K CA ρ F d v) (e : keyD d = some k) : v = kV k := by
  cases d with
  | int i =>
    cases e
    exact r
  | str i =>
    cases e
    exact r
  | _ => cases e
/-- {k: v}, one pair -/
def wDic1 (tk tv : wE) : wE := fun env h Q E => tk env h (fun x h1 => tv env h1 (fun y h2 => match keyD x with
  | some k => Q (.dic [k] [y]) h2
  | none => False) (fun _ _ => False)) (fun _ _ => False)
theorem se_dic1 {k v : Expr} {tk tv : wE} (hk : SE X CA k tk) (hv : SE X CA v tv) : SE X CA (.Dict [some k] [v] pos) (wDic1 tk tv) := ⟨fun W tkx => PE.of (pe_disp (pps_cons (hk.run W tkx) (hv.run W tkx) pps_nil) rfl rfl (by simp) (by simp)) (by
  rintro σ H Q ⟨ρ, F, env, h, Qd, Ed, G, E, w, gq, gx⟩
  intro p hp
  obtain ⟨fp, np⟩ := G.free hp
  have Xa : Ext ρ F H ρ F (upd H p (.dK [])) := (Ext.refl G).aside hp _
  have Ga := G.aside fp np (.dK [])
  refine ⟨ρ, F, env, h, _, _, Ga, E, w, ?_, goX_no⟩
  intro x h1 ρ1 F1 v1 H1 hq X1 G1 R1
  refine ⟨ρ1, F1, env, h1, _, _, G1, E.ext (Xa.trans X1), hq, ?_, goX_no⟩
  intro y h2 ρ2 F2 v2 H2 hq2 X2 G2 R2
  obtain ⟨f1, n1, e1⟩ := X1.still (upd_same (H := H) (a := p) (o := HO.dK [])) fp np
  obtain ⟨f2, n2, e2⟩ := X2.still e1 f1 n1
  split at hq2
  · rename_i k' ek
    have e3 := keyD_rep (R1.ext X2) ek
    subst e3
    refine ⟨e2, [(k', v2)], rfl, by simp, ?_⟩
    have e4 : mergeK [] [(k', v2)] = [(k', v2)] := rfl
    rw [e4]
    have XX := ((Xa.trans X1).trans X2).aside hp (HO.dK [(k', v2)])
    have GG := G2.aside f2 n2 (HO.dK [(k', v2)])
    refine gq _ _ _ _ _ _ hq2 (XX.adopt hp f2 n2 (HO.dK [(k', v2)])) (GG.adopt f2 n2 upd_same) ⟨p, [v2], rfl, upd_same, rfl, ?_⟩
    exact Reps.cons (Rep.sub ⟨[], by simp⟩ (fun b u e => by
      rw [upd_ne (ne_of_none e f2)]
      exact e) _ _ R2) Reps.nil
  · exact hq2.elim)⟩
/-- == of two dicts that hold the same -/
def eqDicD : fO := fun x y h Q => match x, y with
  | .dic ks ds, .dic ks' ds' => ks = ks' ∧ ks.Nodup ∧ ∃ vs, flDs ds = some vs ∧ flDs ds' = some vs ∧ Q (.bl true) h
  | _, _ => False
theorem flat_flatB {v : V} (h : flatV v = true) : flatB v = true := by
  cases v <;> first | rfl | cases h
theorem od_eqDic {K : PySem.W.Frag} : OpD K CA eqDicD (fun x y H Q => ∃ a b kvs, x = .ref a ∧ y = .ref b ∧ H a = some (.dK kvs) ∧ H b = some (.dK kvs) ∧ (kvs.map (·.1)).Nodup ∧ (∀ p ∈ kvs, flatB p.2 = true) ∧ Q (.bl true) H) := by
  intro ρ F h H x y v u Qd Q G R1 R2 w g
  unfold eqDicD at w
  split at w
  · rename_i ks ds ks' ds'
    obtain ⟨rfl, nd, vs, e1, e2, w⟩ := w
    obtain ⟨a, xs, rfl, q1, l1, r1⟩ := R1
    obtain ⟨b, ys, rfl, q2, l2, r2⟩ := R2
    obtain ⟨z1, fl⟩ := flDs_rep r1 e1
    obtain ⟨z2, _⟩ := flDs_rep r2 e2
    have q3 : F b = some (.dK (ks.zip xs)) := by rw [z1, ← z2]; exact q2
    have lz : ks.length = xs.length := l1.trans r1.length
    refine ⟨a, b, ks.zip xs, rfl, rfl, G.sub _ _ q1, G.sub _ _ q3, ?_, ?_, g _ _ _ _ _ _ w (Ext.refl G) G rfl⟩
    · rw [List.map_fst_zip (Nat.le_of_eq lz)]
      exact nd
    · intro p hp
      have := (List.of_mem_zip (a := p.1) (b := p.2) hp).2
      exact flat_flatB (List.all_eq_true.mp fl _ this)
  · exact w.elim
end
end DL
/-! DL8: what the readings' helpers are at each kind of datum. -/
namespace DL
open PySem PySem.Spec PyProof.Rows L2
theorem lstOf_non {h : Hs} : lstOf h .non = none := rfl
theorem lstTr_non {h : Hs} : lstTr h .non = none := rfl
theorem tyN_non {h : Hs} : tyN h .non = some "NoneType" := rfl
theorem isNon_non : DL.isNon .non = true := rfl
theorem flD_non : flD .non = some .non := rfl
theorem keyD_non : keyD .non = none := rfl
theorem tyM_non {T : String} {h : Hs} : tyM T h .non = (False) := rfl
theorem lstOf_bl {h : Hs} {b : Bool} : lstOf h (.bl b) = none := rfl
theorem lstTr_bl {h : Hs} {b : Bool} : lstTr h (.bl b) = none := rfl
theorem tyN_bl {h : Hs} {b : Bool} : tyN h (.bl b) = some "bool" := rfl
theorem isNon_bl {b : Bool} : DL.isNon (.bl b) = false := rfl
theorem flD_bl {b : Bool} : flD (.bl b) = some (.bl b) := rfl
theorem keyD_bl {b : Bool} : keyD (.bl b) = none := rfl
theorem tyM_bl {T : String} {h : Hs} {b : Bool} : tyM T h (.bl b) = (False) := rfl
theorem lstOf_int {h : Hs} {i : Int} : lstOf h (.int i) = none := rfl
theorem lstTr_int {h : Hs} {i : Int} : lstTr h (.int i) = none := rfl
theorem tyN_int {h : Hs} {i : Int} : tyN h (.int i) = some "int" := rfl
theorem isNon_int {i : Int} : DL.isNon (.int i) = false := rfl
theorem flD_int {i : Int} : flD (.int i) = some (.int i) := rfl
theorem keyD_int {i : Int} : keyD (.int i) = some (.inl i) := rfl
theorem tyM_int {T : String} {h : Hs} {i : Int} : tyM T h (.int i) = (False) := rfl
theorem lstOf_str {h : Hs} {x : Str} : lstOf h (.str x) = none := rfl
theorem lstTr_str {h : Hs} {x : Str} : lstTr h (.str x) = none := rfl
theorem tyN_str {h : Hs} {x : Str} : tyN h (.str x) = some "str" := rfl
theorem isNon_str {x : Str} : DL.isNon (.str x) = false := rfl
theorem flD_str {x : Str} : flD (.str x) = some (.str x) := rfl
theorem keyD_str {x : Str} : keyD (.str x) = some (.inr x) := rfl
theorem tyM_str {T : String} {h : Hs} {x : Str} : tyM T h (.str x) = (T = "str") := rfl
theorem lstOf_ty {h : Hs} {n : String} : lstOf h (.ty n) = none := rfl
theorem lstTr_ty {h : Hs} {n : String} : lstTr h (.ty n) = none := rfl
theorem tyN_ty {h : Hs} {n : String} : tyN h (.ty n) = none := rfl
theorem isNon_ty {n : String} : DL.isNon (.ty n) = false := rfl
theorem flD_ty {n : String} : flD (.ty n) = none := rfl
theorem keyD_ty {n : String} : keyD (.ty n) = none := rfl
theorem tyM_ty {T : String} {h : Hs} {n : String} : tyM T h (.ty n) = (False) := rfl
theorem lstOf_gl {h : Hs} {a : Addr} : lstOf h (.gl a) = none := rfl
theorem lstTr_gl {h : Hs} {a : Addr} : lstTr h (.gl a) = none := rfl
theorem tyN_gl {h : Hs} {a : Addr} : tyN h (.gl a) = none := rfl
theorem isNon_gl {a : Addr} : DL.isNon (.gl a) = false := rfl
theorem flD_gl {a : Addr} : flD (.gl a) = none := rfl
theorem keyD_gl {a : Addr} : keyD (.gl a) = none := rfl
theorem tyM_gl {T : String} {h : Hs} {a : Addr} : tyM T h (.gl a) = (False) := rfl
theorem lstOf_tup {h : Hs} {ds : List D} : lstOf h (.tup ds) = none := rfl
theorem lstTr_tup {h : Hs} {ds : List D} : lstTr h (.tup ds) = none := rfl
theorem tyN_tup {h : Hs} {ds : List D} : tyN h (.tup ds) = some "tuple" := rfl
theorem isNon_tup {ds : List D} : DL.isNon (.tup ds) = false := rfl
theorem flD_tup {ds : List D} : flD (.tup ds) = none := rfl
theorem keyD_tup {ds : List D} : keyD (.tup ds) = none := rfl
theorem tyM_tup {T : String} {h : Hs} {ds : List D} : tyM T h (.tup ds) = (False) := rfl
theorem lstOf_lst {h : Hs} {ds : List D} : lstOf h (.lst ds) = some ds := rfl
theorem lstTr_lst {h : Hs} {ds : List D} : lstTr h (.lst ds) = some ds := rfl
theorem tyN_lst {h : Hs} {ds : List D} : tyN h (.lst ds) = some "list" := rfl
theorem isNon_lst {ds : List D} : DL.isNon (.lst ds) = false := rfl
theorem flD_lst {ds : List D} : flD (.lst ds) = none := rfl
theorem keyD_lst {ds : List D} : keyD (.lst ds) = none := rfl
theorem tyM_lst {T : String} {h : Hs} {ds : List D} : tyM T h (.lst ds) = (T = "list") := rfl
theorem lstOf_rol {h : Hs} {ds : List D} : lstOf h (.rol ds) = some ds := rfl
theorem lstTr_rol {h : Hs} {ds : List D} : lstTr h (.rol ds) = none := rfl
theorem tyN_rol {h : Hs} {ds : List D} : tyN h (.rol ds) = none := rfl
theorem isNon_rol {ds : List D} : DL.isNon (.rol ds) = false := rfl
theorem flD_rol {ds : List D} : flD (.rol ds) = none := rfl
theorem keyD_rol {ds : List D} : keyD (.rol ds) = none := rfl
theorem tyM_rol {T : String} {h : Hs} {ds : List D} : tyM T h (.rol ds) = (T = "list") := rfl
theorem lstOf_dic {h : Hs} {ks : List Key} {ds : List D} : lstOf h (.dic ks ds) = none := rfl
theorem lstTr_dic {h : Hs} {ks : List Key} {ds : List D} : lstTr h (.dic ks ds) = none := rfl
theorem tyN_dic {h : Hs} {ks : List Key} {ds : List D} : tyN h (.dic ks ds) = some "dict" := rfl
theorem isNon_dic {ks : List Key} {ds : List D} : DL.isNon (.dic ks ds) = false := rfl
theorem flD_dic {ks : List Key} {ds : List D} : flD (.dic ks ds) = none := rfl
theorem keyD_dic {ks : List Key} {ds : List D} : keyD (.dic ks ds) = none := rfl
theorem tyM_dic {T : String} {h : Hs} {ks : List Key} {ds : List D} : tyM T h (.dic ks ds) = (T = "dict") := rfl
theorem lstOf_obj {h : Hs} {c : Nat} {ns : List Str} {ds : List D} : lstOf h (.obj c ns ds) = none := rfl
theorem lstTr_obj {h : Hs} {c : Nat} {ns : List Str} {ds : List D} : lstTr h (.obj c ns ds) = none := rfl
theorem tyN_obj {h : Hs} {c : Nat} {ns : List Str} {ds : List D} : tyN h (.obj c ns ds) = none := rfl
theorem isNon_obj {c : Nat} {ns : List Str} {ds : List D} : DL.isNon (.obj c ns ds) = false := rfl
theorem flD_obj {c : Nat} {ns : List Str} {ds : List D} : flD (.obj c ns ds) = none := rfl
theorem keyD_obj {c : Nat} {ns : List Str} {ds : List D} : keyD (.obj c ns ds) = none := rfl
theorem tyM_obj {T : String} {h : Hs} {c : Nat} {ns : List Str} {ds : List D} : tyM T h (.obj c ns ds) = (False) := rfl
theorem lstOf_ref {h : Hs} {i : Nat} {ds : List D} (e : h[i]? = some (.lst ds)) : lstOf h (.ref i) = some ds := by simp only [lstOf, e]
theorem lstTr_ref {h : Hs} {i : Nat} {ds : List D} (e : h[i]? = some (.lst ds)) : lstTr h (.ref i) = some ds := by simp only [lstTr, e]
theorem tyN_refl {h : Hs} {i : Nat} {ds : List D} (e : h[i]? = some (.lst ds)) : tyN h (.ref i) = some "list" := by simp only [tyN, e]
theorem tyM_refl {T : String} {h : Hs} {i : Nat} {ds : List D} (e : h[i]? = some (.lst ds)) : tyM T h (.ref i) = (T = "list") := by simp only [tyM, e]
theorem kib_int_int : kitB "int" "int" = some true := by decide +kernel
theorem kib_bool_int : kitB "bool" "int" = some true := by decide +kernel
theorem kib_bool_bool : kitB "bool" "bool" = some true := by decide +kernel
theorem kib_int_bool : kitB "int" "bool" = some false := by decide +kernel
theorem kib_NoneType_int : kitB "NoneType" "int" = some false := by decide +kernel
theorem kib_str_int : kitB "str" "int" = some false := by decide +kernel
theorem kib_tuple_int : kitB "tuple" "int" = some false := by decide +kernel
theorem kib_list_int : kitB "list" "int" = some false := by decide +kernel
theorem kib_dict_int : kitB "dict" "int" = some false := by decide +kernel
theorem kib_NoneType_str : kitB "NoneType" "str" = some false := by decide +kernel
theorem kib_bool_str : kitB "bool" "str" = some false := by decide +kernel
theorem kib_int_str : kitB "int" "str" = some false := by decide +kernel
theorem kib_str_str : kitB "str" "str" = some true := by decide +kernel
theorem kib_tuple_str : kitB "tuple" "str" = some false := by decide +kernel
theorem kib_list_str : kitB "list" "str" = some false := by decide +kernel
theorem kib_dict_str : kitB "dict" "str" = some false := by decide +kernel
theorem kib_NoneType_tuple : kitB "NoneType" "tuple" = some false := by decide +kernel
theorem kib_bool_tuple : kitB "bool" "tuple" = some false := by decide +kernel
theorem kib_int_tuple : kitB "int" "tuple" = some false := by decide +kernel
theorem kib_str_tuple : kitB "str" "tuple" = some false := by decide +kernel
theorem kib_tuple_tuple : kitB "tuple" "tuple" = some true := by decide +kernel
theorem kib_list_tuple : kitB "list" "tuple" = some false := by decide +kernel
theorem kib_dict_tuple : kitB "dict" "tuple" = some false := by decide +kernel
theorem kib_NoneType_dict : kitB "NoneType" "dict" = some false := by decide +kernel
theorem kib_bool_dict : kitB "bool" "dict" = some false := by decide +kernel
theorem kib_int_dict : kitB "int" "dict" = some false := by decide +kernel
theorem kib_str_dict : kitB "str" "dict" = some false := by decide +kernel
theorem kib_tuple_dict : kitB "tuple" "dict" = some false := by decide +kernel
theorem kib_list_dict : kitB "list" "dict" = some false := by decide +kernel
theorem kib_dict_dict : kitB "dict" "dict" = some true := by decide +kernel
end DL
/-! DL9: comprehensions and lists of known data. -/
namespace DL
open PySem PySem.Spec PyProof.Rows L2
theorem lc_map {k : Nat} {te : wE} {env : Env} (f : D → D) : ∀ (ds acc : List D) (h : Hs) (Q : PL), (∀ d ∈ ds, ∀ (Q' : PQ) (E' : PX), Q' (f d) h → te (env.set k (some d)) h Q' E') → Q (acc ++ ds.map f) h → wLcL (wGn k) wYes te env ds acc h Q
  | [], acc, h, Q, _, q => by
    rw [List.map_nil, List.append_nil] at q
    exact q
  | d :: ds, acc, h, Q, hf, q => by
    show te (env.set k (some d)) h (fun y h2 => wLcL (wGn k) wYes te env ds (acc ++ [y]) h2 Q) (fun _ _ => False)
    refine hf d (List.mem_cons_self ..) _ _ ?_
    refine lc_map f ds (acc ++ [f d]) h Q (fun e he => hf e (List.mem_cons_of_mem _ he)) ?_
    rw [List.append_assoc]
    exact q
theorem lc_filt {k : Nat} {tt : wT} {te : wE} {env : Env} (p : D → Bool) (f : D → D) : ∀ (ds acc : List D) (h : Hs) (Q : PL), (∀ d ∈ ds, ∀ (Q' : Bool → Hs → Prop) (E' : PX), Q' (p d) h → tt (env.set k (some d)) h Q' E') → (∀ d ∈ ds, p d = true → ∀ (Q' : PQ) (E' : PX), Q' (f d) h → te (env.set k (some d)) h Q' E') →
    Q (acc ++ (ds.filter p).map f) h → wLcL (wGn k) tt te env ds acc h Q
  | [], acc, h, Q, _, _, q => by
    rw [List.filter_nil, List.map_nil, List.append_nil] at q
    exact q
  | d :: ds, acc, h, Q, hp, hf, q => by
    refine hp d (List.mem_cons_self ..) _ _ ?_
    cases e : p d with
    | false =>
      rw [if_neg Bool.false_ne_true]
      rw [List.filter_cons_of_neg (by rw [e]; exact Bool.false_ne_true)] at q
      exact lc_filt p f ds acc h Q (fun e he => hp e (List.mem_cons_of_mem _ he)) (fun e he => hf e (List.mem_cons_of_mem _ he)) q
    | true =>
      rw [if_pos rfl]
      rw [List.filter_cons_of_pos e, List.map_cons] at q
      refine hf d (List.mem_cons_self ..) e _ _ ?_
      refine lc_filt p f ds (acc ++ [f d]) h Q (fun e he => hp e (List.mem_cons_of_mem _ he)) (fun e he => hf e (List.mem_cons_of_mem _ he)) ?_
      rw [List.append_assoc]
      exact q
theorem blsL_f {α : Type} (p : α → Bool) : ∀ l : List α, blsL (l.map fun a => D.bl (p a)) = some (l.map p)
  | [] => rfl
  | a :: l => by rw [List.map_cons, blsL, blsL_f p l]; rfl
theorem intsL_f {α : Type} (p : α → Int) : ∀ l : List α, intsL (l.map fun a => D.int (p a)) = some (l.map p)
  | [] => rfl
  | a :: l => by rw [List.map_cons, intsL, intsL_f p l]; rfl
theorem strsL_f {α : Type} (p : α → Str) : ∀ l : List α, strsL (l.map fun a => D.str (p a)) = some (l.map p)
  | [] => rfl
  | a :: l => by rw [List.map_cons, strsL, strsL_f p l]; rfl
/-- an item at an index that lies within -/
theorem atI_of {α : Type} {xs : List α} {i : Int} (h0 : 0 ≤ i) (h1 : i < xs.length) : ∃ x, atI xs i = some x ∧ x ∈ xs := by
  unfold atI ixN
  rw [if_pos h0, if_pos h1]
  have : i.toNat < xs.length := by omega
  exact ⟨xs[i.toNat], by simp [this], List.getElem_mem _⟩
theorem atI_nn {α : Type} {xs : List α} {i : Nat} : atI xs (i : Int) = xs[i]? := by
  unfold atI ixN
  rw [if_pos (by omega)]
  by_cases h : (i : Int) < xs.length
  · rw [if_pos h]
    rfl
  · rw [if_neg h, List.getElem?_eq_none (by omega)]
    rfl
theorem atI_0 {α : Type} {x : α} {xs : List α} : atI (x :: xs) 0 = some x := atI_nn (i := 0)
theorem atI_1 {α : Type} {x y : α} {xs : List α} : atI (x :: y :: xs) 1 = some y := atI_nn (i := 1)
theorem atI_2 {α : Type} {x y z : α} {xs : List α} : atI (x :: y :: z :: xs) 2 = some z := atI_nn (i := 2)
theorem ixN_0 {n : Nat} (h : 0 < n) : ixN n 0 = some 0 := by
  unfold ixN
  rw [if_pos (Int.le_refl 0), if_pos (by omega)]
  rfl
theorem ixN_1 {n : Nat} (h : 1 < n) : ixN n 1 = some 1 := by
  unfold ixN
  rw [if_pos (by decide), if_pos (by omega)]
  rfl
theorem ixN_2 {n : Nat} (h : 2 < n) : ixN n 2 = some 2 := by
  unfold ixN
  rw [if_pos (by decide), if_pos (by omega)]
  rfl
end DL
/-! DL10: rules for loops and comprehensions by an invariant; texts as lists of signs. -/
namespace DL
open PySem PySem.Spec PyProof.Rows L2
theorem cmR {i j : Int} (h : (-(2 ^ 64) < j ∧ j < 2 ^ 64)) : CMul i j ∨ CMulW i j := .inl (.inr h)
theorem cmL {i j : Int} (h : (-(2 ^ 64) < i ∧ i < 2 ^ 64)) : CMul i j ∨ CMulW i j := .inl (.inl h)
theorem cutL_mem {α : Type} {xs : List α} {lo hi : Option Int} {x : α} (h : x ∈ cutL xs lo hi) : x ∈ xs := List.mem_of_mem_drop (List.mem_of_mem_take h)
theorem cps_app (a b : Str) : (a ++ b).cps.toList = a.cps.toList ++ b.cps.toList := by
  show (a.cps ++ b.cps).toList = _
  simp
theorem len_cps (a : Str) : a.length = a.cps.toList.length := rfl
theorem len_app (a b : Str) : (a ++ b).length = a.length + b.length := by rw [len_cps, cps_app, List.length_append]; rfl
theorem cps_one (c : Nat) : (⟨#[c]⟩ : Str).cps.toList = [c] := rfl
theorem len_one (c : Nat) : (⟨#[c]⟩ : Str).length = 1 := rfl
theorem cutS_le (z : Str) (lo hi : Option Int) : (cutS z lo hi).length ≤ z.length := by
  rw [len_cps, len_cps]
  unfold cutS
  simp only [List.length_take, List.length_drop]
  omega
theorem cutS_len (z : Str) (lo hi : Option Int) : (cutS z lo hi).length = min (HT.sIx z.length z.length hi - HT.sIx z.length 0 lo) (z.length - HT.sIx z.length 0 lo) := by
  rw [len_cps]
  unfold cutS
  simp only [List.length_take, List.length_drop, len_cps]
/-- a comprehension by an invariant -/
theorem lc_inv {k : Nat} {te : wE} {env : Env} {Q : PL} (I : List D → Hs → Prop) : ∀ (ds acc : List D) (h : Hs), I acc h → (∀ d ∈ ds, ∀ acc h, I acc h → ∀ (Q' : PQ) (E' : PX), (∀ y h', I (acc ++ [y]) h' → Q' y h') → te (env.set k (some d)) h Q' E') → (∀ acc' h', acc'.length = acc.length + ds.length → I acc' h' → Q acc' h') → wLcL (wGn k) wYes te env ds acc h Q
  | [], acc, h, i, _, q => q _ _ rfl i
  | d :: ds, acc, h, i, hf, q => by
    show te (env.set k (some d)) h (fun y h2 => wLcL (wGn k) wYes te env ds (acc ++ [y]) h2 Q) (fun _ _ => False)
    exact hf d (List.mem_cons_self ..) acc h i _ _ fun y h' i' => lc_inv I ds (acc ++ [y]) h' i' (fun e he => hf e (List.mem_cons_of_mem _ he)) fun acc' h2 e => q acc' h2 (by rw [e, List.length_append, List.length_cons, List.length_cons, List.length_nil]; omega)
/-- a for loop by an invariant -/
theorem for_inv {g : wG} {tb : wS} {D : Dn} (J : List DL.D → Env → Hs → Prop)
    (hstep : ∀ d ds env h, J (d :: ds) env h → ∀ D' : Dn, D'.rt = D.rt → D'.bk = D.nx → D'.ex = D.ex → (∀ env' h', J ds env' h' → D'.nx env' h') → (∀ env' h', J ds env' h' → D'.ct env' h') → g d env fun env' => tb D' env' h)
    (hend : ∀ env h, J [] env h → D.nx env h) : ∀ ds env h, J ds env h → wForL g tb ds D env h
  | [], env, h, j => hend env h j
  | d :: ds, env, h, j => hstep d ds env h j _ rfl rfl rfl (fun env' h' j' => for_inv J hstep hend ds env' h' j') (fun env' h' j' => for_inv J hstep hend ds env' h' j')
theorem rangeD_len (lo : Int) (n : Nat) : (rangeD lo n).length = n := by unfold rangeD; simp
theorem rangeD_mem {lo : Int} {n : Nat} {d : D} (h : d ∈ rangeD lo n) : ∃ i : Int, d = .int i ∧ lo ≤ i ∧ i < lo + n := by
  unfold rangeD at h
  obtain ⟨i, hi, rfl⟩ := List.mem_map.mp h
  rw [List.mem_range] at hi
  exact ⟨_, rfl, by omega, by omega⟩
theorem strsL_app {a b : List D} {x y : List Str} (h1 : strsL a = some x) (h2 : strsL b = some y) : strsL (a ++ b) = some (x ++ y) := by
  induction a generalizing x with
  | nil => cases h1; exact h2
  | cons d a ih =>
    cases d with
    | str z =>
      rw [List.cons_append]
      simp only [strsL] at h1 ⊢
      cases e : strsL a with
      | none => rw [e] at h1; cases h1
      | some w =>
        rw [e] at h1
        cases h1
        rw [ih e]
        rfl
    | _ => cases h1
theorem blsL_app {a b : List D} {x y : List Bool} (h1 : blsL a = some x) (h2 : blsL b = some y) : blsL (a ++ b) = some (x ++ y) := by
  induction a generalizing x with
  | nil => cases h1; exact h2
  | cons d a ih =>
    cases d with
    | bl z =>
      rw [List.cons_append]
      simp only [blsL] at h1 ⊢
      cases e : blsL a with
      | none => rw [e] at h1; cases h1
      | some w =>
        rw [e] at h1
        cases h1
        rw [ih e]
        rfl
    | _ => cases h1
theorem join_le (sep : Str) (xs : List Str) : (Txt.join sep xs).length ≤ (xs.map (·.length)).sum + xs.length * sep.length := by
  show (Builtin.Str.glued sep xs).length ≤ _
  rw [StrLaws.glued_eq_join]
  exact StrLaws.join_length_le sep xs
theorem sum_le {b : Nat} : ∀ {xs : List Str}, (∀ x ∈ xs, x.length ≤ b) → (xs.map (·.length)).sum ≤ xs.length * b
  | [], _ => Nat.zero_le _
  | x :: xs, h => by
    have h1 := h x (List.mem_cons_self ..)
    have h2 := sum_le (xs := xs) fun y hy => h y (List.mem_cons_of_mem _ hy)
    rw [List.map_cons, List.sum_cons, List.length_cons, Nat.succ_mul]
    omega
/-- a contract for every element of a comprehension that is always true -/
theorem lc_true {k : Nat} {te : wE} {env : Env} {Q : PL} (I : Hs → Prop) (ds : List D) (h : Hs) (i : I h) (hf : ∀ d ∈ ds, ∀ h, I h → ∀ (Q' : PQ) (E' : PX), (∀ h', I h' → Q' (.bl true) h') → te (env.set k (some d)) h Q' E') (q : ∀ n h', I h' → Q (List.replicate n (.bl true)) h') : wLcL (wGn k) wYes te env ds [] h Q := by
  refine lc_inv (fun acc h => I h ∧ ∃ n, acc = List.replicate n (.bl true)) ds [] h ⟨i, 0, rfl⟩ ?_ ?_
  · rintro d hd acc h ⟨i1, n, rfl⟩ Q' E' q'
    exact hf d hd h i1 Q' E' fun h' i2 => q' _ _ ⟨i2, n + 1, List.replicate_succ'.symm⟩
  · rintro acc h' - ⟨i1, n, rfl⟩
    exact q n h' i1
theorem blsL_rep : ∀ n : Nat, blsL (List.replicate n (.bl true)) = some (List.replicate n true)
  | 0 => rfl
  | n + 1 => by rw [List.replicate_succ, blsL, blsL_rep n]; rfl
theorem all_rep : ∀ n : Nat, (List.replicate n true).all id = true
  | 0 => rfl
  | n + 1 => by rw [List.replicate_succ, List.all_cons, all_rep n]; rfl
end DL
/-! DL11: the end of a law over data contracts. -/
namespace DL
open PySem PySem.Spec PyProof.Rows L2
theorem reps_ints {K : PySem.W.Frag} {CA : Nat → Addr} {ρ : List Addr} {F : Hp} : ∀ ns : List Int, Reps K CA ρ F (ns.map D.int) (ns.map V.int)
  | [] => Reps.nil
  | _ :: ns => Reps.cons rfl (reps_ints ns)
/-- what the law's def says of one script: it gives True -/
def Says (C : Ct) (n : Nat) : Prop := ∀ ns : List Int, ns.length ≤ n → (∀ z ∈ ns, Builtin.Int.intBits z ≤ 1048576) → ∀ Q E, (∀ h', Q (.bl true) h') → C [.rol (ns.map .int)] [] Q E
theorem law_end {P : Program} {w : World} {K : PySem.W.Frag} {mg mb : Str → Option Value} {k n : Nat} {fa a : Addr} {fd : FuncData} {x : Str} {C : Ct} {CA : Nat → Addr} {s : Shared} {vs : List Value} {ns : List Int}
    (KX : K.In s.heap) (g1 : s.heap.Ns mainGlobals mg) (g2 : s.heap.Ns builtinsNs mb) (g3 : ∀ x : Str, x ≠ "__name__" → mb x = bootBuiltins x) (g4 : s.heap.NoLimit) (g5 : s.gens = #[])
    (o1 : s.heap.get? a = some { cls := .type "list", data := .seq vs.toArray }) (iv : IntsAre vs ns) (hl : ns.length ≤ n) (hn : n ≤ sizeLine) (hbits : ∀ z ∈ ns, Builtin.Int.intBits z ≤ 1048576) (hr : Rm k callerA)
    (F : ∀ base : Heap, K.In base → base.Ns mainGlobals mg → FnG P w K mg base (L2N.CX P w) k fa fd [x] (spD K CA 1 C)) (hbind : ∀ (s : Shared) (u : Value), BindsTo s fd ⟨[u], []⟩ [(x, u)]) (hC : Says C n) :
    codeAny (model P w) callerA (.call (.ref fa) ⟨[.ref a], []⟩) (fun r s' => r = .ok (.ret (.bool true)) ∧ OldK s.heap s'.heap ∧ s'.os = s.os ∧ AllBare s'.gens) s := by
  -- what is tracked: the script, unless the module itself holds it
  obtain ⟨H, hH⟩ : ∃ H : Hp, ∀ b, H b = if b = a ∧ K.lookup a = none then some (.frz { cls := .type "list", data := .seq vs.toArray } (.lst (ns.map V.int))) else none := ⟨_, fun _ => rfl⟩
  have only : ∀ b u, H b = some u → b = a ∧ K.lookup a = none ∧ u = .frz { cls := .type "list", data := .seq vs.toArray } (.lst (ns.map V.int)) := fun b u e => by
    rw [hH] at e
    split at e
    · rename_i c
      cases e
      exact ⟨c.1, c.2, rfl⟩
    · cases e
  have lv := iv.length
  have rv := vals_ints iv
  have sq : SqL K H a (ns.map V.int) := by
    cases e : K.lookup a with
    | none => exact .inl (.inr ⟨_, (hH a).trans (if_pos ⟨rfl, e⟩)⟩)
    | some ob =>
      have e2 := KX a ob e
      rw [o1] at e2
      cases e2
      exact .inr ⟨_, vs.toArray, _, e, rfl, rfl, rfl, by rw [List.size_toArray, lv]; exact Nat.le_trans hl hn, by simpa using rv⟩
  have hok : HOk P w H s.heap := fun b u e => by
    obtain ⟨rfl, _, rfl⟩ := only b u e
    exact ⟨o1, by rw [List.length_map]; exact Nat.le_trans hl hn, vs, _, rv, o1⟩
  have free : ∀ {b : Addr} {o : Obj}, s.heap.get? b = some o → (H b ≠ none → False) → (hidT s.heap H).get? b = some o := fun {b o} e z => hidT_get e (by
    cases q : H b with
    | none => rfl
    | some u => exact (z (by rw [q]; simp)).elim)
  have names : ∀ {b : Addr} {m : Str → Option Value}, s.heap.Ns b m → (hidT s.heap H).Ns b m := fun {b m} ⟨o, es, ep, e, d, r⟩ => ⟨o, es, ep, free e (fun z => by
    cases q : H b with
    | none => exact z q
    | some u =>
      obtain ⟨rfl, _, _⟩ := only b u q
      rw [o1] at e
      cases e
      cases (show Data.seq vs.toArray _ = Data.dict es ep from d)), d, r⟩
  have inB : K.In (hidT s.heap H) := fun b o e => free (KX b o e) fun z => by
    cases q : H b with
    | none => exact z q
    | some u =>
      obtain ⟨rfl, e2, _⟩ := only b u q
      rw [e2] at e
      cases e
  have e0 : Env0 P w K mg (hidT s.heap H) callerA [] s H := ⟨rfl, ⟨inB, names g1, ⟨mb, names g2, g3⟩, let ⟨mc, h1, h2⟩ := g4; ⟨mc, names h1, h2⟩⟩, fun b o e => of_hidT e, Nat.le_of_eq (hidT_size _ _), trivial, fun b hb => (List.not_mem_nil hb).elim, hok, .of_eq g5⟩
  have G0 : GRel K CA [] (fun b => H b) [] H := ⟨fun _ _ e => e, rfl, List.nodup_nil, fun i b e _ => by simp at e, fun _ z => (List.not_mem_nil z).elim, fun i c b e _ => by simp at e⟩
  have sp0 : spD K CA 1 C [.ref a] H (fun v _ => v = .bl true) (fun _ _ _ => False) := by
    refine ⟨rfl, [], _, [], [.rol (ns.map .int)], fun d _ => d = .bl true, fun _ _ => False, G0, Reps.cons ⟨a, _, rfl, sq, reps_ints ns⟩ Reps.nil, hC ns hl hbits _ _ (fun _ => rfl), ?_, ?_⟩
    · intro d h1 ρ1 F1 v H1 hq X1 G1 R1
      subst hq
      exact R1
    · intro x h1 ρ1 F1 cls d H1 hq
      exact hq.elim
  refine codeAny_mono ((F _ inB (names g1)).run callerA [] s H ⟨[.ref a], []⟩ [.ref a] [.ref a] _ _ hr e0 (hbind s (.ref a)) (.cons rfl .nil) sp0) fun r s' z => ?_
  match r, z with
  | .error e, z =>
    obtain ⟨_, _, _, _, _, _, _, _, _, _, _, _, z⟩ := z
    exact z.elim
  | .ok (.ret u), z =>
    obtain ⟨v, H', os, bare, un, hok', r', q⟩ := z
    cases (show v = .bl true from q)
    cases (show u = Value.bool true from r')
    refine ⟨rfl, OldK.of_keep fun b o e => ?_, os, bare⟩
    cases q : H b with
    | none => exact un.keep b o e q (fun z => (List.not_mem_nil (show b ∈ ([] : List Addr) from z)).elim) (by simp)
    | some u =>
      obtain ⟨rfl, _, rfl⟩ := only b u q
      obtain ⟨e2, _⟩ := hok' b _ (un.frzs b _ _ q)
      rw [o1] at e
      cases e
      exact e2
/-- the classes' addresses by number -/
def caf (l : List Addr) : Nat → Addr := fun i => l.getD i 0
theorem walk {l : PySem.W.OpenLaw} {n k : Nat} {q : Program} {loose : List Str} {XP : (Str → Option Value) → Heap → Prop} {YP : World → Heap → Prop} {d : DefRec} {K : Params → PySem.W.Frag} {C : Ct} {x : Str}
    (hn : l.most = some n) (hn2 : n ≤ sizeLine) (hdf : d.params.defaults = []) (hr : Rm k callerA) (hY : ∀ (w : World) (h : Heap), YP w h → (K w.params).In h)
    (F : ∀ (w : World) (mg : Str → Option Value) (fa : Addr) (h : Heap), (K w.params).In h → h.Ns mainGlobals mg → mg d.name = some (.ref fa) →
      ∃ (CA : Nat → Addr) (fd : FuncData), (∀ (s : Shared) (u : Value), BindsTo s fd ⟨[u], []⟩ [(x, u)]) ∧ ∀ base : Heap, (K w.params).In base → base.Ns mainGlobals mg → FnG l.prog w (K w.params) mg base (L2N.CX l.prog w) k fa fd [x] (spD (K w.params) CA 1 C))
    (hC : Says C n) : PySem.W.WalkO q loose XP YP l.row.toRowW d [] (fun f vs => PySem.call f vs) := by
  refine Att.attach_callB hn hdf fun w s₀ s₁ mg mb fa o pm cd doc a vs ns G Y ho hd hcd hmg hobj hints hlen hbits hg => ?_
  obtain ⟨CA, fd, hb, hF⟩ := F w mg fa _ (hY w _ Y) G.T.g hmg
  exact law_end (hY w _ Y) G.T.g G.T.b G.T.builtins G.T.nolimit hg hobj hints hlen hn2 hbits hr hF hb hC
end DL
/-! DL12: cells that nobody keeps are frozen or dropped (clean). -/
namespace DL
open PySem PySem.Spec PyProof.Rows L2
mutual
/-- no reference to a cell from n on -/
def lowR (n : Nat) : D → Bool
  | .ref i => decide (i < n)
  | .tup ds => lowRs n ds
  | .lst ds => lowRs n ds
  | .rol ds => lowRs n ds
  | .dic _ ds => lowRs n ds
  | .obj _ _ ds => lowRs n ds
  | .exc _ _ ds => lowRs n ds
  | .non => true
  | .bl _ => true
  | .int _ => true
  | .str _ => true
  | .ty _ => true
  | .gl _ => true
def lowRs (n : Nat) : List D → Bool
  | [] => true
  | d :: ds => lowR n d && lowRs n ds
end
def lowC (n : Nat) : Cell → Bool
  | .lst ds => lowRs n ds
  | .ins _ _ ds => lowRs n ds
  | .dic _ ds => lowRs n ds
  | .dead => true
theorem lowRs_mem {n : Nat} : ∀ {ds : List D}, lowRs n ds = true ↔ ∀ d ∈ ds, lowR n d = true
  | [] => by simp [lowRs]
  | d :: ds => by rw [lowRs, Bool.and_eq_true, lowRs_mem (ds := ds)]; simp
def mapO (f : D → Option D) : List D → Option (List D)
  | [] => some []
  | d :: ds => match f d, mapO f ds with
    | some x, some xs => some (x :: xs)
    | _, _ => none
/-- the datum without references to cells from n on: these are read as they stand -/
def clnD (h : Hs) (n : Nat) : Nat → D → Option D
  | 0, d => if lowR n d = true then some d else none
  | k + 1, d => if lowR n d = true then some d else match d with
    | .ref i => (match h[i]? with
      | some (.lst ds) => (mapO (clnD h n k) ds).map .lst
      | some (.ins c ns ds) => (mapO (clnD h n k) ds).map (.obj c ns)
      | some (.dic ks ds) => (mapO (clnD h n k) ds).map (.dic ks)
      | _ => none)
    | .tup ds => (mapO (clnD h n k) ds).map .tup
    | .lst ds => (mapO (clnD h n k) ds).map .lst
    | .dic ks ds => (mapO (clnD h n k) ds).map (.dic ks)
    | .obj c ns ds => (mapO (clnD h n k) ds).map (.obj c ns)
    | .exc c ns ds => (mapO (clnD h n k) ds).map (.exc c ns)
    | _ => none
section
variable {K : PySem.W.Frag} {CA : Nat → Addr} {ρ ρ2 : List Addr} {F F2 F3 H H2 : Hp} {h h2 : Hs}
mutual
theorem Rep.low {n : Nat} (s : ∀ a o, F2 a = some o → F3 a = some o) : ∀ (d : D) (v : V), lowR n d = true → Rep K CA ρ2 F2 d v → Rep K CA (ρ2.take n) F3 d v
  | .non, _, _, r => r
  | .bl _, _, _, r => r
  | .int _, _, _, r => r
  | .str _, _, _, r => r
  | .ty _, _, _, r => r
  | .gl _, _, _, r => r
  | .tup ds, v, l, ⟨a, xs, e, q, r⟩ => ⟨a, xs, e, SqT.sub s q, Reps.low s ds xs l r⟩
  | .lst ds, v, l, ⟨a, xs, e, q, r⟩ => ⟨a, xs, e, s _ _ q, Reps.low s ds xs l r⟩
  | .rol ds, v, l, ⟨a, xs, e, q, r⟩ => ⟨a, xs, e, SqL.sub s q, Reps.low s ds xs l r⟩
  | .dic ks ds, v, l, ⟨a, xs, e, q, z, r⟩ => ⟨a, xs, e, s _ _ q, z, Reps.low s ds xs l r⟩
  | .obj c ns ds, v, l, ⟨a, dx, xs, e, q, z, r⟩ => ⟨a, dx, xs, e, s _ _ q, z, Reps.low s ds xs l r⟩
  | .exc c ns ds, v, l, ⟨a, dd, e, q, r⟩ => ⟨a, dd, e, s _ _ q, by
      rcases r with r | ⟨d, xs, e1, e2, z, r⟩
      · exact .inl r
      · exact .inr ⟨d, xs, e1, s _ _ e2, z, Reps.low s ds xs l r⟩⟩
  | .ref i, v, l, ⟨a, e, r⟩ => ⟨a, by
      rw [List.getElem?_take_of_lt (of_decide_eq_true l)]
      exact e, r⟩
theorem Reps.low {n : Nat} (s : ∀ a o, F2 a = some o → F3 a = some o) : ∀ (ds : List D) (xs : List V), lowRs n ds = true → Reps K CA ρ2 F2 ds xs → Reps K CA (ρ2.take n) F3 ds xs
  | [], _, _, r => r
  | d :: ds, xs, l, ⟨v, r, e, q, t⟩ => by
    rw [lowRs, Bool.and_eq_true] at l
    exact ⟨v, r, e, Rep.low s d v l.1 q, Reps.low s ds r l.2 t⟩
end
theorem Reps.mapO {f : D → Option D} (hf : ∀ d d' v, f d = some d' → Rep K CA ρ2 F2 d v → Rep K CA ρ F3 d' v) : ∀ (ds ds' : List D) (xs : List V), mapO f ds = some ds' → Reps K CA ρ2 F2 ds xs → Reps K CA ρ F3 ds' xs
  | [], ds', xs, e, r => by cases e; exact r
  | d :: ds, ds', xs, e, ⟨v, r, ev, q, t⟩ => by
    simp only [DL.mapO] at e
    split at e
    · rename_i x xs' e1 e2
      cases e
      exact ⟨v, r, ev, hf d x v e1 q, Reps.mapO hf ds xs' r e2 t⟩
    · cases e
theorem mapO_len {f : D → Option D} : ∀ (ds ds' : List D), mapO f ds = some ds' → ds'.length = ds.length
  | [], ds', e => by cases e; rfl
  | d :: ds, ds', e => by
    simp only [mapO] at e
    split at e
    · rename_i x xs' e1 e2
      cases e
      rw [List.length_cons, List.length_cons, mapO_len ds xs' e2]
    · cases e
/-- what is frozen: the cells from n on -/
def frzF (ρ2 : List Addr) (n : Nat) (F2 H2 : Hp) : Hp := fun a => if a ∈ ρ2.drop n then H2 a else F2 a
theorem frzF_sub (G2 : GRel K CA ρ2 F2 h2 H2) {n : Nat} : ∀ a o, F2 a = some o → frzF ρ2 n F2 H2 a = some o := fun a o e => by
  unfold frzF
  split
  · exact G2.sub a o e
  · exact e
theorem cln_rep (G2 : GRel K CA ρ2 F2 h2 H2) {n : Nat} : ∀ (k : Nat) (d d' : D) (v : V), clnD h2 n k d = some d' → Rep K CA ρ2 F2 d v → Rep K CA (ρ2.take n) (frzF ρ2 n F2 H2) d' v
  | 0, d, d', v, e, r => by
    unfold clnD at e
    split at e
    · cases e
      rename_i l
      exact Rep.low (frzF_sub G2) d v l r
    · cases e
  | k + 1, d, d', v, e, r => by
    unfold clnD at e
    split at e
    · cases e
      rename_i l
      exact Rep.low (frzF_sub G2) d v l r
    · rename_i nl
      have ih := fun ds ds' xs => Reps.mapO (f := clnD h2 n k) (ρ := ρ2.take n) (F3 := frzF ρ2 n F2 H2) (K := K) (CA := CA) (fun d d' v => cln_rep (n := n) G2 k d d' v) ds ds' xs
      cases d with
      | ref i =>
        obtain ⟨a, ea, rfl⟩ := r
        have hn : n ≤ i := by
          rcases Nat.lt_or_ge i n with z | z
          · exact absurd (decide_eq_true z) nl
          · exact z
        have hd : a ∈ ρ2.drop n := by
          refine List.mem_of_getElem? (i := i - n) ?_
          rw [List.getElem?_drop, Nat.add_sub_cancel' hn]
          exact ea
        have hF : frzF ρ2 n F2 H2 a = H2 a := if_pos hd
        simp only at e
        split at e
        · rename_i ds ei
          obtain ⟨ds', e2, rfl⟩ := Option.map_eq_some_iff.mp e
          obtain ⟨xs, e3, r3⟩ := G2.cell i _ a ei ea
          exact ⟨a, xs, rfl, hF.trans e3, ih ds ds' xs e2 r3⟩
        · rename_i c ns ds ei
          obtain ⟨ds', e2, rfl⟩ := Option.map_eq_some_iff.mp e
          obtain ⟨dx, xs, e3, e4, l4, r3⟩ := G2.cell i _ a ei ea
          exact ⟨a, dx, xs, rfl, hF.trans e3, by rw [mapO_len _ _ e2]; exact l4, ih ds ds' xs e2 r3⟩
        · rename_i ks ds ei
          obtain ⟨ds', e2, rfl⟩ := Option.map_eq_some_iff.mp e
          obtain ⟨xs, e3, l4, r3⟩ := G2.cell i _ a ei ea
          exact ⟨a, xs, rfl, hF.trans e3, by rw [mapO_len _ _ e2]; exact l4, ih ds ds' xs e2 r3⟩
        · cases e
      | tup ds =>
        obtain ⟨a, xs, rfl, q, r⟩ := r
        obtain ⟨ds', e2, rfl⟩ := Option.map_eq_some_iff.mp e
        exact ⟨a, xs, rfl, SqT.sub (frzF_sub G2) q, ih ds ds' xs e2 r⟩
      | lst ds =>
        obtain ⟨a, xs, rfl, q, r⟩ := r
        obtain ⟨ds', e2, rfl⟩ := Option.map_eq_some_iff.mp e
        exact ⟨a, xs, rfl, frzF_sub G2 _ _ q, ih ds ds' xs e2 r⟩
      | dic ks ds =>
        obtain ⟨a, xs, rfl, q, z, r⟩ := r
        obtain ⟨ds', e2, rfl⟩ := Option.map_eq_some_iff.mp e
        exact ⟨a, xs, rfl, frzF_sub G2 _ _ q, by rw [mapO_len _ _ e2]; exact z, ih ds ds' xs e2 r⟩
      | obj c ns ds =>
        obtain ⟨a, dx, xs, rfl, q, z, r⟩ := r
        obtain ⟨ds', e2, rfl⟩ := Option.map_eq_some_iff.mp e
        exact ⟨a, dx, xs, rfl, frzF_sub G2 _ _ q, by rw [mapO_len _ _ e2]; exact z, ih ds ds' xs e2 r⟩
      | exc c ns ds =>
        obtain ⟨a, dd, rfl, q, r⟩ := r
        obtain ⟨ds', e2, rfl⟩ := Option.map_eq_some_iff.mp e
        refine ⟨a, dd, rfl, frzF_sub G2 _ _ q, ?_⟩
        rcases r with ⟨z1, z2, z3⟩ | ⟨d, xs, z1, z2, z3, r⟩
        · subst z3
          cases e2
          exact .inl ⟨z1, z2, rfl⟩
        · exact .inr ⟨d, xs, z1, frzF_sub G2 _ _ z2, by rw [mapO_len _ _ e2]; exact z3, ih ds ds' xs e2 r⟩
      | _ => cases e
/-- the older cells hold nothing of what goes -/
def oldOk (h h2 : Hs) : Prop := h.length ≤ h2.length ∧ ∀ (i : Nat) (c : Cell), i < h.length → h2[i]? = some c → h[i]? = some c ∨ lowC h.length c = true
mutual
theorem Rep.lows : ∀ (d : D) (v : V), Rep K CA ρ F d v → lowR ρ.length d = true
  | .non, _, _ => rfl
  | .bl _, _, _ => rfl
  | .int _, _, _ => rfl
  | .str _, _, _ => rfl
  | .ty _, _, _ => rfl
  | .gl _, _, _ => rfl
  | .tup ds, v, ⟨a, xs, e, q, r⟩ => Reps.lows ds xs r
  | .lst ds, v, ⟨a, xs, e, q, r⟩ => Reps.lows ds xs r
  | .rol ds, v, ⟨a, xs, e, q, r⟩ => Reps.lows ds xs r
  | .dic ks ds, v, ⟨a, xs, e, q, z, r⟩ => Reps.lows ds xs r
  | .obj c ns ds, v, ⟨a, dx, xs, e, q, z, r⟩ => Reps.lows ds xs r
  | .exc c ns ds, v, ⟨a, dd, e, q, r⟩ => by
    rcases r with ⟨_, _, z⟩ | ⟨d, xs, _, _, _, r⟩
    · subst z
      rfl
    · exact Reps.lows ds xs r
  | .ref i, v, ⟨a, e, r⟩ => decide_eq_true (List.getElem?_eq_some_iff.mp e).1
theorem Reps.lows : ∀ (ds : List D) (xs : List V), Reps K CA ρ F ds xs → lowRs ρ.length ds = true
  | [], _, _ => rfl
  | d :: ds, xs, ⟨v, r, e, q, t⟩ => by
    rw [lowRs, Bool.and_eq_true]
    exact ⟨Rep.lows d v q, Reps.lows ds r t⟩
end
theorem CellOk.lows {c : Cell} {a : Addr} (r : CellOk K CA ρ F a H c) : lowC ρ.length c = true := by
  cases c with
  | lst ds => obtain ⟨xs, e, q⟩ := r; exact Reps.lows _ _ q
  | ins c ns ds => obtain ⟨dx, xs, e, d, l, q⟩ := r; exact Reps.lows _ _ q
  | dic ks ds => obtain ⟨xs, e, l, q⟩ := r; exact Reps.lows _ _ q
  | dead => rfl
/-- what is behind n goes: the cells of it are frozen -/
theorem GRel.clean (G : GRel K CA ρ F h H) (X : Ext ρ F H ρ2 F2 H2) (G2 : GRel K CA ρ2 F2 h2 H2) (ho : oldOk h h2) :
    Ext ρ F H ρ (frzF ρ2 h.length F2 H2) H2 ∧ GRel K CA ρ (frzF ρ2 h.length F2 H2) (h2.take h.length) H2 ∧ ρ2.take h.length = ρ := by
  obtain ⟨l, rfl⟩ := X.pre
  have hl := G.len
  have t1 : (ρ ++ l).take h.length = ρ := List.take_left' hl
  have t2 : (ρ ++ l).drop h.length = l := List.drop_left' hl
  have sub := frzF_sub G2 (n := h.length)
  have off : ∀ (i : Nat) (a : Addr), ρ[i]? = some a → frzF (ρ ++ l) h.length F2 H2 a ≠ none → (h2.take h.length)[i]? = some .dead := fun i a ha z => by
    have hi : i < ρ.length := (List.getElem?_eq_some_iff.mp ha).1
    unfold frzF at z
    rw [t2, if_neg fun q => (List.nodup_append.mp G2.nd).2.2 a (List.mem_of_getElem? ha) a q rfl] at z
    rw [List.getElem?_take_of_lt (by omega)]
    exact G2.off i a (by rw [List.getElem?_append_left hi]; exact ha) z
  refine ⟨⟨⟨[], by simp⟩, fun a o e => sub a o (X.sub a o e), X.frame, fun a z => .inl z, fun a z => ?_⟩, ⟨fun a o e => ?_, ?_, (List.nodup_append.mp G2.nd).1, off, fun a ha => G2.there a (List.mem_append_left _ ha), fun i c a hi hb => ?_⟩, t1⟩
  · unfold frzF at z
    rw [t2] at z
    by_cases q : a ∈ l
    · exact .inr (X.newR a (List.mem_append_right _ q))
    · rw [if_neg q] at z
      exact X.newF a z
  · unfold frzF at e
    split at e
    · exact e
    · exact G2.sub a o e
  · rw [List.length_take, hl]
    have := ho.1
    omega
  · have hi2 : i < h.length := by
      have := (List.getElem?_eq_some_iff.mp hi).1
      rw [List.length_take] at this
      omega
    rw [List.getElem?_take_of_lt hi2] at hi
    have hb2 : (ρ ++ l)[i]? = some a := by
      rw [List.getElem?_append_left (by omega)]
      exact hb
    have c2 := G2.cell i c a hi hb2
    have lc : lowC h.length c = true := by
      rcases ho.2 i c hi2 hi with z | z
      · have := (G.cell i c a z hb).lows
        rw [hl] at this
        exact this
      · exact z
    have low := fun ds xs (q : lowRs h.length ds = true) (r : Reps K CA (ρ ++ l) F2 ds xs) => Reps.low (n := h.length) sub ds xs q r
    rw [t1] at low
    cases c with
    | lst ds => obtain ⟨xs, e, q⟩ := c2; exact ⟨xs, e, low _ _ lc q⟩
    | ins c ns ds => obtain ⟨dx, xs, e, d, l', q⟩ := c2; exact ⟨dx, xs, e, sub _ _ d, l', low _ _ lc q⟩
    | dic ks ds => obtain ⟨xs, e, l', q⟩ := c2; exact ⟨xs, e, l', low _ _ lc q⟩
    | dead => trivial
end
/-- a datum as it is when the cells behind h have gone -/
def cleanK (h h2 : Hs) (d : D) (Q : PQ) : Prop := oldOk h h2 ∧ ∃ d', clnD h2 h.length 8 d = some d' ∧ Q d' (h2.take h.length)
/-- an exception so -/
def cleanX (h h2 : Hs) (x : Exc) (E : PX) : Prop := oldOk h h2 ∧ ∃ ds', mapO (clnD h2 h.length 8) x.ds = some ds' ∧ E { x with ds := ds' } (h2.take h.length)
end DL
/-! DL13: defs whose cells go behind them; attributes, methods, new instances, isinstance and == of own classes. -/
namespace DL
open PySem PySem.Spec PyProof.Rows L2

/-! ### a def whose own cells go -/
def endsC (h : Hs) (Q : PQ) (E : PX) : Dn := { nx := fun _ h2 => cleanK h h2 .non Q, rt := fun d h2 => cleanK h h2 d Q, ex := fun x _ h2 => cleanX h h2 x E }
theorem endsC_nx {h : Hs} {Q : PQ} {E : PX} : (endsC h Q E).nx = fun _ h2 => cleanK h h2 .non Q := rfl
theorem endsC_rt {h : Hs} {Q : PQ} {E : PX} : (endsC h Q E).rt = fun d h2 => cleanK h h2 d Q := rfl
theorem endsC_ex {h : Hs} {Q : PQ} {E : PX} : (endsC h Q E).ex = fun x _ h2 => cleanX h h2 x E := rfl
theorem endsC_bk {h : Hs} {Q : PQ} {E : PX} : (endsC h Q E).bk = fun _ _ => False := rfl
theorem endsC_ct {h : Hs} {Q : PQ} {E : PX} : (endsC h Q E).ct = fun _ _ => False := rfl
section
variable {P : Program} {w : World} {K : PySem.W.Frag} {mg : Str → Option Value} {base : Heap} {CA : Nat → Addr}
theorem fnC {x qual : Str} {st : Stmt} {f : Addr} {fd : FuncData} {N ps : List Str} {k : Nat} {C : Ct} {t : wS} (Fo : Fun K x qual st f fd) (S : FnScope N ps (defScope st))
    (hb : ∀ cdv A outer s H E, Rm k (A.deeper (envOfC qual (defScope st) s.heap.objs.size f cdv)) → SSs (cxOf (L2N.CX P w) P w K mg base N qual (defScope st) f cdv A outer s H E) CA (defBody st) t)
    (vc : ∀ ds h Q E, ds.length = ps.length → C ds h Q E → t (endsC h Q E) (ds.map some ++ List.replicate (N.length - ds.length) none) h) :
    FnG P w K mg base (L2N.CX P w) (k + 1) f fd ps (spD K CA ps.length C) := by
  refine (fnD (C := fun ds h Q' E' => ∃ Q E, C ds h Q E ∧ Q' = (fun d h2 => cleanK h h2 d Q) ∧ E' = fun x h2 => cleanX h h2 x E) Fo S hb ?_).imp ?_
  · rintro ds h Q' E' hl ⟨Q, E, c, rfl, rfl⟩
    exact vc ds h Q E hl c
  · rintro vs H Q E ⟨hl, ρ, F, h, ds, Qd, Ed, G, R, c, gq, gx⟩
    refine ⟨hl, ρ, F, h, ds, _, _, G, R, ⟨Qd, Ed, c, rfl, rfl⟩, ?_, ?_⟩
    · rintro d h2 ρ2 F2 v H2 ⟨ho, d', e, hq⟩ X2 G2 r2
      obtain ⟨X3, G3, t⟩ := G.clean X2 G2 ho
      exact gq d' _ ρ _ v H2 hq X3 G3 (t ▸ cln_rep G2 8 d d' v e r2)
    · rintro x h2 ρ2 F2 H2 cls dd ⟨ho, ds', e, hq⟩ X2 G2 r2
      obtain ⟨X3, G3, t⟩ := G.clean X2 G2 ho
      refine gx _ _ ρ _ H2 cls dd hq X3 G3 ⟨r2.1, ?_⟩
      rcases r2.2 with ⟨z0, z1, z2⟩ | ⟨d, xs, z1, z2, z3, z4⟩
      · left
        rw [z2] at e
        cases e
        exact ⟨z0, z1, rfl⟩
      · right
        have := Reps.mapO (f := clnD h2 h.length 8) (ρ := ρ2.take h.length) (F3 := frzF ρ2 h.length F2 H2) (K := K) (CA := CA) (fun d d' v => cln_rep (n := h.length) G2 8 d d' v) _ _ _ e z4
        rw [t] at this
        exact ⟨d, xs, z1, frzF_sub G2 _ _ z2, by rw [mapO_len _ _ e]; exact z3, this⟩
end

/-! ### classes -/
/-- what is asked of a class of one's own -/
structure ClsD (K : PySem.W.Frag) (CA : Nat → Addr) (c : Nat) : Prop where
  cl : Cls K (CA c)
  ha : PySem.W.findIn K (.ref (CA c)) "__class__" = some (some (.builtin "object.__class__"))
  hn : PySem.W.specialIn K (.builtin "object.__class__") "__get__" = some (some (.builtin "getset_descriptor.__get__"))
  htk : PySem.W.takesIn K (.builtin "object.__class__") = some true
  hm : PySem.W.mroIn K (CA c) (.type "object") = some true
/-- an instance: its class, the names and values of its attributes -/
def insOf (h : Hs) : D → Option (Nat × List Str × List D)
  | .obj c ns ds => some (c, ns, ds)
  | .ref i => match h[i]? with
    | some (.ins c ns ds) => some (c, ns, ds)
    | _ => none
  | _ => none
theorem insOf_rep {K : PySem.W.Frag} {CA : Nat → Addr} {ρ : List Addr} {F H : Hp} {h : Hs} {d : D} {v : V} {c : Nat} {ns : List Str} {ds : List D} (G : GRel K CA ρ F h H) (r : Rep K CA ρ F d v) (e : insOf h d = some (c, ns, ds)) :
    ∃ a dx xs, v = .ref a ∧ H a = some (.ins (CA c) dx (ns.zip xs)) ∧ ns.length = ds.length ∧ Reps K CA ρ F ds xs := by
  unfold insOf at e
  split at e
  · cases e
    obtain ⟨a, dx, xs, rfl, q, l, r⟩ := r
    exact ⟨a, dx, xs, rfl, G.sub _ _ q, l, r⟩
  · obtain ⟨a, ea, rfl⟩ := r
    split at e
    · rename_i c' ns' ds' ec
      cases e
      obtain ⟨dx, xs, q, _, l, r⟩ := G.cell _ _ a ec ea
      exact ⟨a, dx, xs, rfl, q, l, r⟩
    · cases e
  · cases e
theorem lookup_rep {K : PySem.W.Frag} {CA : Nat → Addr} {ρ : List Addr} {F : Hp} {f : Str} {d : D} : ∀ {ns : List Str} {ds : List D} {xs : List V}, Reps K CA ρ F ds xs → (ns.zip ds).lookup f = some d → ∃ v, (ns.zip xs).lookup f = some v ∧ Rep K CA ρ F d v
  | [], _, _, _, e => by simp at e
  | _ :: _, [], _, _, e => by simp at e
  | n :: ns, x :: ds, _, ⟨v, r, ev, q, t⟩, e => by
    subst ev
    rw [List.zip_cons_cons, List.lookup_cons] at e ⊢
    cases hb : f == n with
    | true =>
      rw [hb] at e
      cases e
      exact ⟨v, rfl, q⟩
    | false =>
      rw [hb] at e
      exact lookup_rep t e
theorem lookup_no {α : Type} {f : Str} : ∀ {ns : List Str} {xs : List α}, f ∉ ns → (ns.zip xs).lookup f = none
  | [], _, _ => by simp
  | _ :: _, [], _ => by simp
  | n :: ns, x :: xs, h => by
    rw [List.zip_cons_cons, List.lookup_cons]
    have h1 : (f == n) = false := by
      rw [beq_eq_false_iff_ne]
      exact fun e => h (e ▸ List.mem_cons_self ..)
    rw [h1]
    exact lookup_no fun z => h (List.mem_cons_of_mem _ z)
/-- a new or changed attribute: names, values -/
def nsP (f : Str) : List Str → List Str
  | [] => [f]
  | g :: r => if g = f then g :: r else g :: nsP f r
def dsP {α : Type} (f : Str) (v : α) : List Str → List α → List α
  | g :: r, x :: xs => if g = f then v :: xs else x :: dsP f v r xs
  | _, _ => [v]
theorem putF_zip {f : Str} {v : V} : ∀ {ns : List Str} {xs : List V}, ns.length = xs.length → putF f v (ns.zip xs) = (nsP f ns).zip (dsP f v ns xs)
  | [], [], _ => rfl
  | [], _ :: _, e => by cases e
  | _ :: _, [], e => by cases e
  | n :: ns, x :: xs, e => by
    rw [List.zip_cons_cons]
    unfold putF nsP dsP
    split
    · rw [List.zip_cons_cons]
    · rw [List.zip_cons_cons, putF_zip (by simpa using e)]
theorem nsP_len {f : Str} {α : Type} {v : α} : ∀ {ns : List Str} {xs : List α}, ns.length = xs.length → (nsP f ns).length = (dsP f v ns xs).length
  | [], [], _ => rfl
  | [], _ :: _, e => by cases e
  | _ :: _, [], e => by cases e
  | n :: ns, x :: xs, e => by
    unfold nsP dsP
    split
    · simpa using e
    · rw [List.length_cons, List.length_cons, nsP_len (by simpa using e)]
theorem dsP_rep {K : PySem.W.Frag} {CA : Nat → Addr} {ρ : List Addr} {F : Hp} {f : Str} {d : D} {v : V} (q : Rep K CA ρ F d v) : ∀ {ns : List Str} {ds : List D} {xs : List V}, ns.length = ds.length → Reps K CA ρ F ds xs → Reps K CA ρ F (dsP f d ns ds) (dsP f v ns xs)
  | [], [], _, _, r => by
    cases (show _ = [] from r)
    exact Reps.cons q Reps.nil
  | [], _ :: _, _, e, _ => by cases e
  | _ :: _, [], _, e, _ => by cases e
  | n :: ns, x :: ds, _, e, ⟨y, r, ey, q1, t⟩ => by
    subst ey
    unfold dsP
    split
    · exact Reps.cons q t
    · exact Reps.cons q1 (dsP_rep q (by simpa using e) t)

/-! ### attributes -/
def wFld (cs : List Nat) (f : Str) (te : wE) : wE := fun env h Q E => te env h (fun d h1 => match insOf h1 d with
  | some (c, ns, ds) => c ∈ cs ∧ (match (ns.zip ds).lookup f with
    | some x => Q x h1
    | none => False)
  | none => False) E
section
variable {X : Cx} {CA : Nat → Addr} {pos : Pos}
theorem se_fld {cs : List Nat} {f : Str} {e : Expr} {te : wE} (he : SE X CA e te) (hc : ∀ c ∈ cs, Cls X.K (CA c) ∧ NoAttr X.K (CA c) f) (hb : attributeBase e f X.env (eval e X.env) = eval e X.env := by rfl) : SE X CA (.Attribute e f pos) (wFld cs f te) := ⟨fun W tk => PE.of (pe_fld (he.run W tk) hb) (by
  rintro σ H Q ⟨ρ, F, env, h, Qd, Ed, G, E, w, gq, gx⟩
  refine ⟨ρ, F, env, h, _, Ed, G, E, w, ?_, gx⟩
  intro d h1 ρ1 F1 v H1 hq X1 G1 R1
  split at hq
  · rename_i c ns ds e
    obtain ⟨hm, hq⟩ := hq
    split at hq
    · rename_i x e2
      obtain ⟨a, dx, xs, rfl, q, l, r⟩ := insOf_rep G1 R1 e
      obtain ⟨u, e3, r3⟩ := lookup_rep r e2
      exact ⟨a, _, dx, _, u, rfl, q, (hc c hm).1, (hc c hm).2, e3, gq _ _ _ _ _ _ hq X1 G1 r3⟩
    · exact hq.elim
  · exact hq.elim)⟩
def setFldD (cs : List Nat) (f : Str) (o v : D) (h : Hs) (p : Hs → Prop) : Prop := match o with
  | .ref i => match h[i]? with
    | some (.ins c ns ds) => c ∈ cs ∧ ns.length < 1000 ∧ p (h.set i (.ins c (nsP f ns) (dsP f v ns ds)))
    | _ => False
  | _ => False
def wSetFld (cs : List Nat) (f : Str) (to te : wE) : wS := fun D env h => te env h (fun v h1 => to env h1 (fun o h2 => setFldD cs f o v h2 (fun h3 => D.nx env h3)) (fun x h1 => D.ex x env h1)) (fun x h1 => D.ex x env h1)
theorem ss_fld {cs : List Nat} {f : Str} {o e : Expr} {to te : wE} {p : Pos} (he : SE X CA e te) (ho : SE X CA o to) (hc : ∀ c ∈ cs, Cls X.K (CA c) ∧ NoAttr X.K (CA c) f)
    (hs : swapsWith e (some (.Attribute o f p)) pos.line X.env = pure false := by rfl) : SS X CA (.Assign [.Attribute o f p] e pos) (wSetFld cs f to te) := ⟨fun W tk => PS.of (ps_fld (ho.run W tk) (he.run W tk) hs) (by
  rintro D σ H ⟨ρ, F, env, h, Dd, G, E, w, g⟩
  refine ⟨ρ, F, env, h, _, _, G, E, w, ?_, g.ex.at E⟩
  intro d h1 ρ1 F1 v H1 hq X1 G1 R1
  refine ⟨ρ1, F1, env, h1, _, _, G1, E.ext X1, hq, ?_, (g.ex.on X1).at (E.ext X1)⟩
  intro d2 h2 ρ2 F2 v2 H2 hq2 X2 G2 R2
  unfold setFldD at hq2
  split at hq2
  · rename_i i
    split at hq2
    · rename_i c ns ds ec
      obtain ⟨hm, hl, hq2⟩ := hq2
      obtain ⟨a, ea, rfl⟩ := R2
      obtain ⟨dx, xs, q, fo, l, r⟩ := G2.cell i _ a ec ea
      have lx : ns.length = xs.length := l.trans r.length
      refine ⟨a, _, dx, _, rfl, q, (hc c hm).1, (hc c hm).2, by rw [List.length_zip]; omega, ?_⟩
      rw [putF_zip lx]
      have r1 := R1.ext X2
      obtain ⟨G4, X4⟩ := G2.cellSet ec ea (.ins (CA c) dx ((nsP f ns).zip (dsP f v ns xs))) (c := .ins c (nsP f ns) (dsP f d ns ds)) ⟨dx, _, upd_same, fo, nsP_len l, dsP_rep r1 l r⟩
      exact g.nx _ _ _ _ _ _ hq2 ((X1.trans X2).trans X4) G4 (E.ext ((X1.trans X2).trans X4))
    · exact hq2.elim
  · exact hq2.elim)⟩
end

/-! ### methods -/
/-- the method m of the class c keeps a contract (the instance comes first) -/
structure CalleeM (P : Program) (w : World) (K : PySem.W.Frag) (mg : Str → Option Value) (base : Heap) (CA : Nat → Addr) (k : Nat) (c : Nat) (m : Str) (n : Nat) (dd : List D) (C : Ct) : Prop where
  ex : ∃ f fd ps ds dvs, Cls K (CA c) ∧ Meth K (CA c) m f ∧ ps.length = n ∧ Binds K fd ps ds ∧ Vals dvs ds ∧ (∀ ρ F, Reps K CA ρ F dd dvs) ∧ FnG P w K mg base (L2N.CX P w) k f fd ps (spD K CA n C)
/-- which class has which contract for a method -/
def wMeth (ms : List (Nat × Ct)) (m : Str) (n : Nat) (dd : List D) (to : wE) (ta : wL) : wE := fun env h Q E => to env h (fun o h1 => match insOf h1 o with
  | some (c, ns, _) => m ∉ ns ∧ (match ms.lookup c with
    | some C => ta env h1 (fun ds h2 => (1 + ds.length) + dd.length = n ∧ C (o :: (ds ++ dd)) h2 Q E) E
    | none => False)
  | none => False) E
section
variable {X : Cx} {CA : Nat → Addr} {pos : Pos}
theorem se_meth {k n : Nat} {m : Str} {dd : List D} {ms : List (Nat × Ct)} {o : Expr} {to : wE} {apos : Pos} {e : Expr} {es : List Expr} {t : wL} (hms : ∀ c C, ms.lookup c = some C → CalleeM X.prog X.w X.K X.mg X.base CA k c m n dd C) (hr : Rm k X.A) (ho : SE X CA o to) (ha : SA X CA (e :: es) t)
    (hst : starEach (e :: es) X.env = (false, eval e X.env) :: starEach es X.env := by rfl) (hpl : (backTo pos (starEach es X.env)).any (·.1) = false := by rfl) {pl : Sem Bool}
    (ht : eval (.Call (.Attribute o m apos) (e :: es) [] pos) X.env = (do
      let ov ← eval o X.env
      standAt apos.atName
      let (f, first) ← holding [ov] (getMethod ov m pl)
      callWith pos f first (backTo pos (starEach (e :: es) X.env)) (backToKw pos (keywordEach [] X.env))) := by rfl) :
    SE X CA (.Call (.Attribute o m apos) (e :: es) [] pos) (wMeth ms m n dd to t) := ⟨fun W tk => by
  refine ⟨fun pins s σ H Q I ⟨ρ, F, env, h, Qd, Ed, G, E, w, gq, gx⟩ => ?_⟩
  refine PySem.W.methodCall_KW (pl := pl) (thn ((ho.run W tk).run pins s σ H (fun x H1 => ∃ a f fd ps ds dvs, x = .ref a ∧ (∃ dx fs C, H1 a = some (.ins C dx fs) ∧ Cls X.K C ∧ Meth X.K C m f ∧ fs.lookup m = none) ∧ Binds X.K fd ps ds ∧ Vals dvs ds ∧ ∃ sp, FnG X.prog X.w X.K X.mg X.base (L2N.CX X.prog X.w) k f fd ps sp ∧
    rdL X.K CA W t σ H1 fun vs H2 => sp ((x :: vs) ++ dvs) H2 Q (WE W σ)) I ⟨ρ, F, env, h, _, Ed, G, E, w, ?_, gx⟩) fun u s1 ⟨x, H1, I1, rx, a, f, fd, ps, ds, dvs, ex, ⟨dx, fs, C, ea, cl, mt, lk⟩, hb, hd, sp, Fo, q⟩ => ?_) ht
  · intro d h1 ρ1 F1 v H1 hq X1 G1 R1
    split at hq
    · rename_i c ns ds0 e
      obtain ⟨nm, hq⟩ := hq
      split at hq
      · rename_i C e2
        obtain ⟨f, fd, ps, ds, dvs, cl, mt, hn, hb, hd, hrep, Fo⟩ := (hms c C e2).ex
        obtain ⟨a, dx, xs, rfl, q, l, r⟩ := insOf_rep G1 R1 e
        refine ⟨a, f, fd, ps, ds, dvs, rfl, ⟨dx, _, _, q, cl, mt, lookup_no nm⟩, hb, hd, _, Fo, ρ1, F1, env, h1, _, Ed, G1, E.ext X1, hq, ?_, gx.on X1⟩
        rintro as h2 ρ2 F2 vs H2 ⟨hl, hq2⟩ X2 G2 R2
        refine ⟨?_, ρ2, F2, h2, d :: (as ++ dd), Qd, Ed, G2, Reps.append (Reps.cons (R1.ext X2) R2) (hrep _ _), hq2, (gq.on X1).on X2, (gx.on X1).on X2⟩
        rw [List.length_append, List.length_cons, ← R2.length, ← (hrep ρ2 F2).length]
        omega
      · exact hq.elim
    · exact hq.elim
  · subst ex
    obtain rfl : u = Value.ref a := rx
    refine getmeth_ok I1 ea cl mt lk ?_
    refine PySem.W.callWith_K (first := [.ref a]) (h₀ := X.base) I.ok.mod.kin mt.kp (thn ((ha.run W tk).run pos pins s1 σ H1 _ I1 q) fun us s2 ⟨vs, H2, I2, r, q2⟩ => ⟨I2.kIn, ?_⟩) hst hpl
    exact run_fnG (us := .ref a :: us) (vs := .ref a :: vs) Fo hr hb hd (L2N.passAt tk σ) I2 (.cons rfl r) q2⟩
theorem se_meth0 {k n : Nat} {m : Str} {dd : List D} {ms : List (Nat × Ct)} {o : Expr} {to : wE} {apos : Pos} (hms : ∀ c C, ms.lookup c = some C → CalleeM X.prog X.w X.K X.mg X.base CA k c m n dd C) (hr : Rm k X.A) (ho : SE X CA o to) {pl : Sem Bool}
    (ht : eval (.Call (.Attribute o m apos) [] [] pos) X.env = (do
      let ov ← eval o X.env
      standAt apos.atName
      let (f, first) ← holding [ov] (getMethod ov m pl)
      callWith pos f first (backTo pos (starEach [] X.env)) (backToKw pos (keywordEach [] X.env))) := by rfl) :
    SE X CA (.Call (.Attribute o m apos) [] [] pos) (wMeth ms m n dd to wNil) := ⟨fun W tk => by
  refine ⟨fun pins s σ H Q I ⟨ρ, F, env, h, Qd, Ed, G, E, w, gq, gx⟩ => ?_⟩
  refine PySem.W.methodCall_KW (pl := pl) (thn ((ho.run W tk).run pins s σ H (fun x H1 => ∃ a f fd ps ds dvs, x = .ref a ∧ (∃ dx fs C, H1 a = some (.ins C dx fs) ∧ Cls X.K C ∧ Meth X.K C m f ∧ fs.lookup m = none) ∧ Binds X.K fd ps ds ∧ Vals dvs ds ∧ ∃ sp, FnG X.prog X.w X.K X.mg X.base (L2N.CX X.prog X.w) k f fd ps sp ∧
    sp ([x] ++ dvs) H1 Q (WE W σ)) I ⟨ρ, F, env, h, _, Ed, G, E, w, ?_, gx⟩) fun u s1 ⟨x, H1, I1, rx, a, f, fd, ps, ds, dvs, ex, ⟨dx, fs, C, ea, cl, mt, lk⟩, hb, hd, sp, Fo, q⟩ => ?_) ht
  · intro d h1 ρ1 F1 v H1 hq X1 G1 R1
    split at hq
    · rename_i c ns ds0 e
      obtain ⟨nm, hq⟩ := hq
      split at hq
      · rename_i C e2
        obtain ⟨f, fd, ps, ds, dvs, cl, mt, hn, hb, hd, hrep, Fo⟩ := (hms c C e2).ex
        obtain ⟨a, dx, xs, rfl, q, l, r⟩ := insOf_rep G1 R1 e
        refine ⟨a, f, fd, ps, ds, dvs, rfl, ⟨dx, _, _, q, cl, mt, lookup_no nm⟩, hb, hd, _, Fo, ?_⟩
        have hl := hq.1
        refine ⟨?_, ρ1, F1, h1, d :: ([] ++ dd), Qd, Ed, G1, Reps.append (Reps.cons R1 Reps.nil) (hrep _ _), hq.2, gq.on X1, gx.on X1⟩
        rw [List.length_append, ← (hrep ρ1 F1).length]
        simpa using hl
      · exact hq.elim
    · exact hq.elim
  · subst ex
    obtain rfl : u = Value.ref a := rx
    refine getmeth_ok I1 ea cl mt lk ?_
    exact PySem.W.callWith_K0 (first := [.ref a]) I1.kIn mt.kp (run_fnG (us := [.ref a]) (vs := [.ref a]) Fo hr hb hd (L2N.passAt tk σ) I1 (.cons rfl .nil) q)⟩
end
end DL
/-! DL14: new instances, isinstance and == of own classes. -/
namespace DL
open PySem PySem.Spec PyProof.Rows L2
/-- a new instance is laid: a cell without attributes -/
theorem GRel.made {K : PySem.W.Frag} {CA : Nat → Addr} {ρ : List Addr} {F H : Hp} {h : Hs} {x dx : Addr} (G : GRel K CA ρ F h H) (hx : H x = none) (hd : H dx = none) (ne : dx ≠ x) (c : Nat) :
    ∃ F', GRel K CA (ρ ++ [x]) F' (h ++ [.ins c [] []]) (upd (upd H dx (.own x)) x (.ins (CA c) dx [])) ∧ Ext ρ F H (ρ ++ [x]) F' (upd (upd H dx (.own x)) x (.ins (CA c) dx [])) := by
  obtain ⟨G1, X1⟩ := G.frozen hd (.own x)
  have hx1 : upd H dx (.own x) x = none := by rw [upd_ne (fun e => ne e.symm)]; exact hx
  obtain ⟨G2, X2⟩ := G1.cellNew hx1 (.ins (CA c) dx []) (.ins c [] []) ⟨dx, [], by rw [upd_same]; rfl, upd_same, rfl, Reps.nil⟩
  exact ⟨_, G2, X1.trans X2⟩
section
variable {P : Program} {w : World} {K : PySem.W.Frag} {mg : Str → Option Value} {base : Heap} {CA : Nat → Addr}
/-- a class that can be made, whose __init__ keeps a contract -/
structure Maker (P : Program) (w : World) (K : PySem.W.Frag) (mg : Str → Option Value) (base : Heap) (CA : Nat → Addr) (k : Nat) (x : Str) (c : Nat) (n : Nat) (dd : List D) (C : Ct) : Prop where
  ex : ∃ f fd ps ds dvs, mg x = some (.ref (CA c)) ∧ Mk K (CA c) f ∧ ps.length = n ∧ Binds K fd ps ds ∧ Vals dvs ds ∧ (∀ ρ F, Reps K CA ρ F dd dvs) ∧ FnG P w K mg base (L2N.CX P w) k f fd ps (spD K CA n C)
/-- the same called with keywords ks behind a positional arguments -/
structure MakerK (P : Program) (w : World) (K : PySem.W.Frag) (mg : Str → Option Value) (base : Heap) (CA : Nat → Addr) (k : Nat) (x : Str) (c : Nat) (n a : Nat) (ks : List Str) (sel : List (Nat ⊕ Nat)) (C : Ct) : Prop where
  ex : ∃ f fd ps, mg x = some (.ref (CA c)) ∧ Mk K (CA c) f ∧ ps.length = n ∧ (∀ (s : Shared) (us ws : List Value), us.length = a + 1 → ws.length = ks.length → BindsTo s fd ⟨us, ks.zip ws⟩ (ps.zip (selA sel us ws))) ∧ FnG P w K mg base (L2N.CX P w) k f fd ps (spD K CA n C)
end
/-- the new instance as what follows gets it: frozen (true), or as a cell -/
def newK (fz : Bool) (h h2 : Hs) (Q : PQ) : Prop := if fz = true then cleanK h h2 (.ref h.length) Q else Q (.ref h.length) h2
def wMake (fz : Bool) (c : Nat) (C : Ct) (n : Nat) (dd : List D) (ta : wL) : wE := fun env h Q E => ta env h (fun ds h1 => (1 + ds.length) + dd.length = n ∧ C (.ref h1.length :: (ds ++ dd)) (h1 ++ [.ins c [] []]) (fun v h2 => v = .non ∧ newK fz h1 h2 Q) (fun x h2 => cleanX h1 h2 x E)) E
def wMakeK (fz : Bool) (c : Nat) (C : Ct) (n a : Nat) (ks : List Str) (sel : List (Nat ⊕ Nat)) (ta tk : wL) : wE := fun env h Q E => ta env h (fun ds h0 => tk env h0 (fun es h1 => ds.length = a ∧ es.length = ks.length ∧ (selA sel (.ref h1.length :: ds) es).length = n ∧
  C (selA sel (.ref h1.length :: ds) es) (h1 ++ [.ins c [] []]) (fun v h2 => v = .non ∧ newK fz h1 h2 Q) (fun x h2 => cleanX h1 h2 x E)) E) E
section
variable {X : Cx} {CA : Nat → Addr} {pos : Pos}
theorem new_go {K : PySem.W.Frag} {ρ : List Addr} {F H : Hp} {h : Hs} {Qd : PQ} {Q : VK} {fz : Bool} {x : Addr} {F0 H0 : Hp} (G : GRel K CA ρ F h H) (gq : Go K CA ρ F H Qd Q) (X0 : Ext ρ F H (ρ ++ [x]) F0 H0) :
    Go K CA (ρ ++ [x]) F0 H0 (fun v h2 => v = .non ∧ newK fz h h2 Qd) (fun v H2 => v = .non ∧ Q (.ref x) H2) := by
  rintro d h2 ρ2 F2 v H2 ⟨rfl, hq⟩ X2 G2 R2
  refine ⟨R2, ?_⟩
  have X3 := X0.trans X2
  have rx : Rep K CA ρ2 F2 (.ref h.length) (.ref x) := by
    refine ⟨x, ?_, rfl⟩
    obtain ⟨l, rfl⟩ := X2.pre
    rw [← G.len, List.append_assoc, List.getElem?_append_right (Nat.le_refl _), Nat.sub_self]
    rfl
  unfold newK at hq
  split at hq
  · obtain ⟨ho, d', e, hq⟩ := hq
    obtain ⟨X4, G4, t⟩ := G.clean X3 G2 ho
    exact gq d' _ ρ _ _ H2 hq X4 G4 (t ▸ cln_rep G2 8 _ d' _ e rx)
  · exact gq _ h2 ρ2 F2 _ H2 hq X3 G2 rx
theorem cleanX_go {K : PySem.W.Frag} {ρ : List Addr} {F H : Hp} {h : Hs} {Ed : PX} {E : XK} {ρ0 : List Addr} {F0 H0 : Hp} (G : GRel K CA ρ F h H) (gx : GoX K CA ρ F H Ed E) (X0 : Ext ρ F H ρ0 F0 H0) : GoX K CA ρ0 F0 H0 (fun x h2 => cleanX h h2 x Ed) E := by
  rintro x h2 ρ2 F2 H2 cls dd ⟨ho, ds', e, hq⟩ X2 G2 r2
  obtain ⟨X3, G3, t⟩ := G.clean (X0.trans X2) G2 ho
  refine gx _ _ ρ _ H2 cls dd hq X3 G3 ⟨r2.1, ?_⟩
  rcases r2.2 with ⟨z0, z1, z2⟩ | ⟨d, xs, z1, z2, z3, z4⟩
  · left
    rw [z2] at e
    cases e
    exact ⟨z0, z1, rfl⟩
  · right
    have := Reps.mapO (f := clnD h2 h.length 8) (ρ := ρ2.take h.length) (F3 := frzF ρ2 h.length F2 H2) (K := K) (CA := CA) (fun d d' v => cln_rep (n := h.length) G2 8 d d' v) _ _ _ e z4
    rw [t] at this
    exact ⟨d, xs, z1, frzF_sub G2 _ _ z2, by rw [mapO_len _ _ e]; exact z3, this⟩
/-- the instance, its __init__ -/
theorem run_mk {C f : Addr} {fd : FuncData} {ps : List Str} {sp : Sp} {k : Nat} {E : XK} {pins : List (Addr × Obj)} {σ : L2.St} {H : Hp} {s : Shared} {Q : VK} {us al : List Value} {kw : List (Str × Value)} {vs : List V} (M : Mk X.K C f) (F : FnG X.prog X.w X.K X.mg X.base (L2N.CX X.prog X.w) k f fd ps sp) (hr : Rm (k + 1) X.A)
    (hx : PassesAt (L2N.CX X.prog X.w) X σ E) (I : Inv X pins σ H s)
    (hb : ∀ s' : Shared, X.K.In s'.heap → BindsTo s' fd ⟨Value.ref (s.heap.objs.size + 1) :: us, kw⟩ (ps.zip al)) (r : Vals vs al)
    (h : H (s.heap.objs.size + 1) = none → H s.heap.objs.size = none → s.heap.objs.size ≠ s.heap.objs.size + 1 → sp vs (upd (upd H s.heap.objs.size (.own (s.heap.objs.size + 1))) (s.heap.objs.size + 1) (.ins C s.heap.objs.size [])) (fun v H2 => v = .non ∧ Q (.ref (s.heap.objs.size + 1)) H2) E) :
    wpAny (model X.prog X.w) X.A (call (.ref C) us kw) (EP X pins σ Q) X.xe s := by
  have hq := h (I.hok.fresh (Nat.le_succ _)) (I.hok.fresh (Nat.le_refl _)) (Nat.ne_of_lt (Nat.lt_succ_self _))
  have I2 := Inv.made (C := C) I
  refine wpAny_call (make_map (f := f) I.kIn M.makes M.init (beq_iff_eq.mp M.fn) (codeAny_mono (F.run _ X.stack _ _ ⟨Value.ref (s.heap.objs.size + 1) :: us, kw⟩ al vs _ E ⟨hr.room.make C us kw, hr.gd⟩
    (I2.env0.make C us kw) (hb _ I2.kIn) r hq) fun res s' hq' => ?_))
  match res, hq' with
  | .error e, hq' => exact hx pins _ _ e s' I2 hq'
  | .ok (.ret u), hq' =>
    obtain ⟨v, H', I3, rv, ev, q3⟩ := I2.after hq'
    subst ev
    exact ⟨rv, ⟨V.ref (s.heap.objs.size + 1), H', I3, rfl, q3⟩⟩
  | .ok .next, hq' => exact hq'.elim
  | .ok .brk, hq' => exact hq'.elim
  | .ok .cont, hq' => exact hq'.elim
theorem se_make {k n c : Nat} {x : Str} {dd : List D} {C : Ct} {p : Pos} {e : Expr} {es : List Expr} {t : wL} (fz : Bool) (M : Maker X.prog X.w X.K X.mg X.base CA k x c n dd C) (hr : Rm (k + 1) X.A) (ha : SA X CA (e :: es) t) (hg : Gl X x := by rfl) (hdb : (x == ("__debug__" : Str)) = false := by decide)
    (he : starEach (e :: es) X.env = (false, eval e X.env) :: starEach es X.env := by rfl) (hpl : (backTo pos (starEach es X.env)).any (·.1) = false := by rfl) :
    SE X CA (.Call (.Name x p) (e :: es) [] pos) (wMake fz c C n dd t) := ⟨fun W tk => by
  obtain ⟨f, fd, ps, ds, dvs, hm, mk, hn, hb, hd, hrep, Fo⟩ := M.ex
  refine ⟨fun pins s σ H Q I hw => ?_⟩
  refine wpAny_Call_Name_kw (ld_glob I hg hm ?_ hdb)
  obtain ⟨ρ, F, env, h, Qd, Ed, G, E, w, gq, gx⟩ := hw
  refine PySem.W.callWith_K (h₀ := X.base) I.ok.mod.kin mk.kp (thn ((ha.run W tk).run pos pins s σ H (fun vs H1 => ∀ x dx, H1 x = none → H1 dx = none → dx ≠ x → spD X.K CA n C (.ref x :: (vs ++ dvs)) (upd (upd H1 dx (.own x)) x (.ins (CA c) dx [])) (fun v H2 => v = .non ∧ Q (.ref x) H2) (WE W σ)) I ⟨ρ, F, env, h, _, Ed, G, E, w, ?_, gx⟩) fun us s1 ⟨vs, H1, I1, r, q⟩ => ⟨I1.kIn, ?_⟩) he hpl
  · rintro as h1 ρ1 F1 vs H1 ⟨hl, hq⟩ X1 G1 R1 x dx hx hdx ne
    obtain ⟨F2, G2, X2⟩ := G1.made hx hdx ne c
    refine ⟨?_, ρ1 ++ [x], F2, _, _, _, _, G2, Reps.cons (d := .ref h1.length) ⟨x, ?_, rfl⟩ (Reps.append (R1.ext X2) (hrep _ _)), hq, new_go G1 (gq.on X1) X2, cleanX_go G1 (gx.on X1) X2⟩
    · rw [List.length_cons, List.length_append, ← R1.length, ← (hrep ρ F).length]
      omega
    · rw [← G1.len, List.getElem?_append_right (Nat.le_refl _), Nat.sub_self]
      rfl
  · have hq := q (s1.heap.objs.size + 1) s1.heap.objs.size (I1.hok.fresh (Nat.le_succ _)) (I1.hok.fresh (Nat.le_refl _)) (Nat.ne_of_lt (Nat.lt_succ_self _))
    have rr : Vals (V.ref (s1.heap.objs.size + 1) :: (vs ++ dvs)) (Value.ref (s1.heap.objs.size + 1) :: (us ++ ds)) := .cons rfl (r.append hd)
    refine run_mk (al := Value.ref (s1.heap.objs.size + 1) :: (us ++ ds)) mk Fo hr (L2N.passAt tk σ) I1 (fun s' K' => hb s' (Value.ref (s1.heap.objs.size + 1) :: us) K' ?_) rr (fun _ _ _ => hq)
    have e := rr.length
    rw [Fo.len _ _ _ _ hq] at e
    exact e.symm⟩
theorem se_makeK {k n a c : Nat} {x : Str} {ks : List Str} {sel : List (Nat ⊕ Nat)} {C : Ct} {p : Pos} {e : Expr} {es : List Expr} {kws : List Keyword} {t tk : wL} (fz : Bool) (M : MakerK X.prog X.w X.K X.mg X.base CA k x c n a ks sel C) (hr : Rm (k + 1) X.A) (ha : SA X CA (e :: es) t) (hkw : SK X CA kws tk) (hg : Gl X x := by rfl)
    (hall : (backToKw pos (keywordEach kws X.env)).all (·.1.isSome) = true := by rfl) (hks : (backToKw pos (keywordEach kws X.env)).filterMap (·.1) = ks := by rfl) (hdb : (x == ("__debug__" : Str)) = false := by decide)
    (he : starEach (e :: es) X.env = (false, eval e X.env) :: starEach es X.env := by rfl) (hpl : ((backTo pos (starEach (e :: es) X.env)).any (·.1) || (backToKw pos (keywordEach kws X.env)).any (·.1.isNone)) = false := by rfl) :
    SE X CA (.Call (.Name x p) (e :: es) kws pos) (wMakeK fz c C n a ks sel t tk) := ⟨fun W tkx => by
  obtain ⟨f, fd, ps, hm, mk, hn, hb, Fo⟩ := M.ex
  refine ⟨fun pins s σ H Q I hw => ?_⟩
  refine wpAny_Call_Name_kw (ld_glob I hg hm ?_ hdb)
  obtain ⟨ρ, F, env, h, Qd, Ed, G, E, w, gq, gx⟩ := hw
  refine PySem.W.callWith_KW (h₀ := X.base) I.ok.mod.kin mk.kp hall (thn ((ha.run W tkx).run pos pins s σ H (fun vs H1 => rdL X.K CA W tk σ H1 fun zs H2 => vs.length = a ∧ zs.length = ks.length ∧ ∀ x dx, H2 x = none → H2 dx = none → dx ≠ x → spD X.K CA n C (selA sel (.ref x :: vs) zs) (upd (upd H2 dx (.own x)) x (.ins (CA c) dx [])) (fun v H3 => v = .non ∧ Q (.ref x) H3) (WE W σ)) I ⟨ρ, F, env, h, _, Ed, G, E, w, ?_, gx⟩) fun us s1 ⟨vs, H1, I1, r, q⟩ => ?_) hpl he
  · intro as h1 ρ1 F1 vs H1 hq X1 G1 R1
    refine ⟨ρ1, F1, env, h1, _, Ed, G1, E.ext X1, hq, ?_, gx.on X1⟩
    rintro es h2 ρ2 F2 zs H2 ⟨hl1, hl2, hl3, hq2⟩ X2 G2 R2
    refine ⟨by rw [← R1.length]; exact hl1, by rw [← R2.length]; exact hl2, fun x dx hx hdx ne => ?_⟩
    obtain ⟨F3, G3, X3⟩ := G2.made hx hdx ne c
    have RR := sel_reps (Reps.cons (d := .ref h2.length) (v := .ref x) ⟨x, by
      rw [← G2.len, List.getElem?_append_right (Nat.le_refl _), Nat.sub_self]
      rfl, rfl⟩ ((R1.ext X2).ext X3)) (R2.ext X3) sel
    exact ⟨by rw [← RR.length]; exact hl3, ρ2 ++ [x], F3, _, _, _, _, G3, RR, hq2, new_go G2 ((gq.on X1).on X2) X3, cleanX_go G2 ((gx.on X1).on X2) X3⟩
  · refine thn ((hkw.run W tkx).run pos pins s1 σ H1 _ I1 q) fun ws s2 ⟨zs, H2, I2, rz, l1, l2, q2⟩ => ⟨I2.kIn, ?_⟩
    rw [hks]
    have hq := q2 (s2.heap.objs.size + 1) s2.heap.objs.size (I2.hok.fresh (Nat.le_succ _)) (I2.hok.fresh (Nat.le_refl _)) (Nat.ne_of_lt (Nat.lt_succ_self _))
    refine run_mk (al := selA sel (Value.ref (s2.heap.objs.size + 1) :: us) ws) mk Fo hr (L2N.passAt tkx σ) I2 (fun s' _ => hb s' (Value.ref (s2.heap.objs.size + 1) :: us) ws (by rw [List.length_cons, ← r.length, l1]) (rz.length.symm.trans l2)) (sel_vals (Paired.cons (F := L2.RelV) (a := V.ref (s2.heap.objs.size + 1)) (b := Value.ref (s2.heap.objs.size + 1)) rfl r) rz sel) (fun _ _ _ => hq)⟩
theorem se_makeK0 {k n c : Nat} {x : Str} {ks : List Str} {sel : List (Nat ⊕ Nat)} {C : Ct} {p : Pos} {kws : List Keyword} {tk : wL} (fz : Bool) (M : MakerK X.prog X.w X.K X.mg X.base CA k x c n 0 ks sel C) (hr : Rm (k + 1) X.A) (hkw : SK X CA kws tk) (hg : Gl X x := by rfl)
    (hall : (backToKw pos (keywordEach kws X.env)).all (·.1.isSome) = true := by rfl) (hks : (backToKw pos (keywordEach kws X.env)).filterMap (·.1) = ks := by rfl) (hdb : (x == ("__debug__" : Str)) = false := by decide)
    (hpl : ((backTo pos (starEach [] X.env)).any (·.1) || (backToKw pos (keywordEach kws X.env)).any (·.1.isNone)) = false := by rfl) :
    SE X CA (.Call (.Name x p) [] kws pos) (wMakeK fz c C n 0 ks sel wNil tk) := ⟨fun W tkx => by
  obtain ⟨f, fd, ps, hm, mk, hn, hb, Fo⟩ := M.ex
  refine ⟨fun pins s σ H Q I hw => ?_⟩
  refine wpAny_Call_Name_kw (ld_glob I hg hm ?_ hdb)
  obtain ⟨ρ, F, env, h, Qd, Ed, G, E, w, gq, gx⟩ := hw
  have hw2 : rdL X.K CA W tk σ H fun zs H2 => zs.length = ks.length ∧ ∀ x dx, H2 x = none → H2 dx = none → dx ≠ x → spD X.K CA n C (selA sel [.ref x] zs) (upd (upd H2 dx (.own x)) x (.ins (CA c) dx [])) (fun v H3 => v = .non ∧ Q (.ref x) H3) (WE W σ) := by
    refine ⟨ρ, F, env, h, _, Ed, G, E, w, ?_, gx⟩
    rintro es h2 ρ2 F2 zs H2 ⟨hl1, hl2, hl3, hq2⟩ X2 G2 R2
    refine ⟨by rw [← R2.length]; exact hl2, fun x dx hx hdx ne => ?_⟩
    obtain ⟨F3, G3, X3⟩ := G2.made hx hdx ne c
    have RR := sel_reps (Reps.cons (d := .ref h2.length) (v := .ref x) ⟨x, by
      rw [← G2.len, List.getElem?_append_right (Nat.le_refl _), Nat.sub_self]
      rfl, rfl⟩ (Reps.nil (K := X.K) (CA := CA) (F := F3))) (R2.ext X3) sel
    exact ⟨by rw [← RR.length]; exact hl3, ρ2 ++ [x], F3, _, _, _, _, G3, RR, hq2, new_go G2 (gq.on X2) X3, cleanX_go G2 (gx.on X2) X3⟩
  refine PySem.W.callWith_KW0 (h₀ := X.base) I.ok.mod.kin mk.kp hall (thn ((hkw.run W tkx).run pos pins s σ H _ I hw2) fun ws s2 ⟨zs, H2, I2, rz, l2, q2⟩ => ⟨I2.kIn, ?_⟩) hpl
  rw [hks]
  have hq := q2 (s2.heap.objs.size + 1) s2.heap.objs.size (I2.hok.fresh (Nat.le_succ _)) (I2.hok.fresh (Nat.le_refl _)) (Nat.ne_of_lt (Nat.lt_succ_self _))
  exact run_mk (us := []) (al := selA sel [Value.ref (s2.heap.objs.size + 1)] ws) mk Fo hr (L2N.passAt tkx σ) I2 (fun s' _ => hb s' [Value.ref (s2.heap.objs.size + 1)] ws rfl (rz.length.symm.trans l2)) (sel_vals (Paired.cons (F := L2.RelV) (a := V.ref (s2.heap.objs.size + 1)) (b := Value.ref (s2.heap.objs.size + 1)) rfl .nil) rz sel) (fun _ _ _ => hq)⟩
theorem se_make0 {k n c : Nat} {x : Str} {dd : List D} {C : Ct} {p : Pos} (fz : Bool) (M : Maker X.prog X.w X.K X.mg X.base CA k x c n dd C) (hr : Rm (k + 1) X.A) (hg : Gl X x := by rfl) (hdb : (x == ("__debug__" : Str)) = false := by decide) :
    SE X CA (.Call (.Name x p) [] [] pos) (wMake fz c C n dd wNil) := ⟨fun W tk => by
  obtain ⟨f, fd, ps, ds, dvs, hm, mk, hn, hb, hd, hrep, Fo⟩ := M.ex
  refine ⟨fun pins s σ H Q I hw => ?_⟩
  refine wpAny_Call_Name_kw (ld_glob I hg hm ?_ hdb)
  obtain ⟨ρ, F, env, h, Qd, Ed, G, E, w, gq, gx⟩ := hw
  refine PySem.W.callWith_K0 I.kIn mk.kp ?_
  have hq : spD X.K CA n C (.ref (s.heap.objs.size + 1) :: ([] ++ dvs)) (upd (upd H s.heap.objs.size (.own (s.heap.objs.size + 1))) (s.heap.objs.size + 1) (.ins (CA c) s.heap.objs.size [])) (fun v H2 => v = .non ∧ Q (.ref (s.heap.objs.size + 1)) H2) (WE W σ) := by
    obtain ⟨F2, G2, X2⟩ := G.made (I.hok.fresh (Nat.le_succ _)) (I.hok.fresh (Nat.le_refl _)) (Nat.ne_of_lt (Nat.lt_succ_self _)) c
    have w1 := w.1
    refine ⟨?_, ρ ++ [_], F2, _, _, _, _, G2, Reps.cons (d := .ref h.length) ⟨_, ?_, rfl⟩ (Reps.append Reps.nil (hrep _ _)), w.2, new_go G gq X2, cleanX_go G gx X2⟩
    · rw [List.length_cons, List.nil_append, ← (hrep ρ F).length]
      simp only [List.length_nil] at w1
      omega
    · rw [← G.len, List.getElem?_append_right (Nat.le_refl _), Nat.sub_self]
      rfl
  have rr : Vals (V.ref (s.heap.objs.size + 1) :: ([] ++ dvs)) ([Value.ref (s.heap.objs.size + 1)] ++ ds) := .cons rfl hd
  refine run_mk (us := []) (al := [Value.ref (s.heap.objs.size + 1)] ++ ds) mk Fo hr (L2N.passAt tk σ) I (fun s' K' => hb s' [Value.ref (s.heap.objs.size + 1)] K' ?_) rr (fun _ _ _ => hq)
  have e := rr.length
  rw [Fo.len _ _ _ _ hq] at e
  exact e.symm⟩
end
end DL
/-! DL15: isinstance, == and != of own classes. -/
namespace DL
open PySem PySem.Spec PyProof.Rows L2
theorem SE.imp {X : Cx} {CA : Nat → Addr} {e : Expr} {t t' : wE} (h : SE X CA e t) (i : ∀ env hs Q E, t' env hs Q E → t env hs Q E) : SE X CA e t' := ⟨fun W tk => PE.of (h.run W tk) (by
  rintro σ H Q ⟨ρ, F, env, h, Qd, Ed, G, E, w, gq, gx⟩
  exact ⟨ρ, F, env, h, Qd, Ed, G, E, i _ _ _ _ w, gq, gx⟩)⟩
def names7 : List String := ["NoneType", "bool", "int", "str", "tuple", "list", "dict"]
theorem tyN_in {h : Hs} {d : D} {n : String} (e : tyN h d = some n) : n ∈ names7 := by
  unfold names7
  cases d with
  | ref i =>
    simp only [tyN] at e
    split at e <;> cases e <;> simp
  | non => cases e; simp
  | bl => cases e; simp
  | int => cases e; simp
  | str => cases e; simp
  | tup => cases e; simp
  | lst => cases e; simp
  | dic => cases e; simp
  | _ => cases e
section
variable {K : PySem.W.Frag} {CA : Nat → Addr}
theorem insOf_ty {ρ : List Addr} {F H : Hp} {h : Hs} {d : D} {v : V} {c : Nat} {ns : List Str} {ds : List D} (cd : ClsD K CA c) (G : GRel K CA ρ F h H) (r : Rep K CA ρ F d v) (e : insOf h d = some (c, ns, ds)) : TyX K H v (.ref (CA c)) := by
  obtain ⟨a, dx, xs, rfl, q, _, _⟩ := insOf_rep G r e
  exact .base (.ins q cd.cl cd.ha cd.hn cd.htk cd.hm)
/-- isinstance(e, C): sub tells it of every known class -/
def wIso (sub : List (Nat × Bool)) (te : wE) : wE := fun env h Q E => te env h (fun d h1 => match insOf h1 d with
  | some (c, _, _) => (match sub.lookup c with
    | some b => Q (.bl b) h1
    | none => False)
  | none => (match tyN h1 d with
    | some _ => Q (.bl false) h1
    | none => False)) E
def isoF (CA : Nat → Addr) (C : Nat) (sub : List (Nat × Bool)) : fL := fun xs h Q => match xs with
  | [d, .gl a] => a = CA C ∧ (match insOf h d with
    | some (c, _, _) => (match sub.lookup c with
      | some b => Q (.bl b) h
      | none => False)
    | none => (match tyN h d with
      | some _ => Q (.bl false) h
      | none => False))
  | _ => False
/-- what isinstance(_, C) is asked -/
structure SubD (K : PySem.W.Frag) (CA : Nat → Addr) (C : Nat) (sub : List (Nat × Bool)) : Prop where
  own : ∀ c b, sub.lookup c = some b → ClsD K CA c ∧ PySem.W.kitOne K (.ref (CA c)) (.ref (CA C)) = some b
  ty : ∀ n ∈ names7, PySem.W.kitOne K (.type n) (.ref (CA C)) = some false
theorem ld_iso {C : Nat} {sub : List (Nat × Bool)} (S : SubD K CA C sub) : LiD K CA (isoF CA C sub) (rIsi K) := by
  intro ρ F h H xs vs Qd Q G R w g
  unfold isoF at w
  split at w
  · rename_i d a
    obtain ⟨v, v2, rfl, R1, R2⟩ := two_rep R
    cases (show v2 = .ref a from R2)
    obtain ⟨rfl, w⟩ := w
    split at w
    · rename_i c ns ds e
      split at w
      · rename_i b e2
        obtain ⟨cd, k⟩ := S.own c b e2
        exact ⟨v, _, _, _, b, rfl, .own _, insOf_ty cd G R1 e, k, g _ _ _ _ _ _ w (Ext.refl G) G rfl⟩
      · exact w.elim
    · split at w
      · rename_i n e
        exact ⟨v, _, _, _, false, rfl, .own _, tyN_rep G R1 e, S.ty n (tyN_in e), g _ _ _ _ _ _ w (Ext.refl G) G rfl⟩
      · exact w.elim
  · exact w.elim
end
section
variable {X : Cx} {CA : Nat → Addr} {pos : Pos}
theorem se_iso {C : Nat} {sub : List (Nat × Bool)} {cn : Str} {p q : Pos} {e : Expr} {te : wE} (S : SubD X.K CA C sub) (hm : X.mg "isinstance" = none) (hc : X.mg cn = some (.ref (CA C))) (he : SE X CA e te) (hg : Gl X "isinstance" := by rfl) (hgc : Gl X cn := by rfl) (hn : (cn == ("__debug__" : Str)) = false := by decide)
    (hst2 : starEach [.Name cn q] X.env = (false, eval (.Name cn q) X.env) :: starEach [] X.env := by rfl) (hst : starEach [e, .Name cn q] X.env = (false, eval e X.env) :: starEach [.Name cn q] X.env := by rfl) (hpl : (backTo pos (starEach [.Name cn q] X.env)).any (·.1) = false := by rfl) :
    SE X CA (.Call (.Name "isinstance" p) [e, .Name cn q] [] pos) (wIso sub te) := by
  have hcls : SE X CA (.Name cn q) (wC (.gl (CA C))) := se_of (pe_glob (v := V.ref (CA C)) hgc hc rfl hn) fun _ _ => rfl
  refine SE.imp (se_callB call_isi (ld_iso S) hm (by decide +kernel) (sa_cons he (sa_cons hcls sa_nil hst2) hst) hg (by decide) (by decide) hst hpl) ?_
  intro env h Q E w
  refine cast (congrArg (te env h · E) ?_) w
  funext d h1
  exact propext ⟨fun z => ⟨rfl, z⟩, fun z => z.2⟩
end
end DL
/-! DL16: == and != by an own __eq__. -/
namespace DL
open PySem PySem.Spec PyProof.Rows L2
structure EqOf (K : PySem.W.Frag) (C f : Addr) : Prop where
  eq : PySem.W.findIn K (.ref C) "__eq__" = some (some (.ref f))
  ne : PySem.W.findIn K (.ref C) "__ne__" = some (some (.builtin "object.__ne__"))
  fn : PySem.W.isFn K (.ref f) = true
  ob : PySem.W.mroIn K C (.type "object") = some true
section
variable {prog : Program} {w : World} {A : Around} {E : Value → Shared → Prop} {s : Shared} {K : PySem.W.Frag} {x C f : Addr} {ox : Obj} {od : Option Obj} {b : Value}
/-- object.__ne__ of an instance whose class has an own __eq__ -/
theorem try_ne (X : K.In s.heap) (I : PySem.W.InstAt s.heap x ox C od) (eo : EqOf K C f) (hu : A.units + 1 < cLine) {Q : Option Value → Shared → Prop}
    (h : wpAny (model prog w) A.in1 (call (.ref f) [.ref x, b]) (fun v s' => ∃ r, v = .bool r ∧ Q (some (.bool (!r))) s') E s) : wpAny (model prog w) A (tryCompare (.ref x) "__ne__" b) Q E s := by
  have S := F.cmp_object.ne
  have sub : PySem.W.Looks (model prog w) s.heap (isInstance (.ref x) (.type "object")) true := I.type.andThen (PySem.W.looks_mroIn X eo.ob)
  have hu' : A.in1.units < cLine := hu
  have body : wpAny (model prog w) A (call (.builtin "object.__ne__") [.ref x, b]) (fun v s' => ∃ r, v = .bool r ∧ Q (some (.bool r)) s') E s := by
    refine wpAny_call (codeAny_call_builtin S.plain F.cmpEntry_ne (PySem.W.check_slot F.cmpKind_ne F.cmpSplit_ne sub (F.cmpArgs_ne _ _) ?_))
    unfold Builtin.«object.__ne__»
    repeat (first
      | with_reducible refine wpAny_cRoomFor hu' ?_
      | (refine wpAny_bind (m := callSpecialIfBound? (.ref x) (Str.ofString "__eq__") [b]) (PySem.W.ifBound_K X I eo.eq eo.fn (wpAny_mono h (fun r s' hr => by
          obtain ⟨c, rfl, hq⟩ := hr
          repeat (first | exact ⟨_, rfl, hq⟩ | exact wpAny_pure ⟨_, rfl, hq⟩ | (refine wpAny_bind (m := truthy (.bool _)) (wpAny_truthy_bool ?_)) | wp_step)) fun _ _ e => e)))
      | wp_step)
  unfold tryCompare
  refine wpAny_bind ?_
  simp only [callSpecialIfBound?, bindSpecialIfBound?]
  refine wpAny_holding (wpAny_bind (wpAny_bind (wpAny_bind (I.type.here ((PySem.W.looks_findIn X eo.ne).here ?_)))))
  simp only [S.bind]
  refine wpAny_bind (wpAny_askSetting (wpAny_ite ?_))
  have fin : wpAny (model prog w) A (call (.builtin "object.__ne__") ([.ref x] ++ [b]) >>= fun v => pure (some v)) (fun r s' => ∃ c, r = some (.bool c) ∧ Q (some (.bool c)) s') E s :=
    wpAny_bind (wpAny_mono body (fun v s' z => by
      obtain ⟨r, rfl, q⟩ := z
      exact wpAny_pure ⟨r, rfl, q⟩) fun _ _ e => e)
  have done : ∀ r s', (∃ c, r = some (Value.bool c) ∧ Q (some (.bool c)) s') → wpAny (model prog w) A (match r with | some .notImplemented | none => pure none | some v => pure (some v)) Q E s' := by
    rintro r s' ⟨c, rfl, q⟩
    exact wpAny_pure q
  split
  · exact wpAny_bind (wpAny_pure (wpAny_pure (wpAny_mono fin done fun _ _ e => e)))
  · exact wpAny_tryCatch (wpAny_bind (wpAny_pure (wpAny_pure (wpAny_mono fin done fun _ _ e => e))))
theorem rich_ne {tb : Value} (X : K.In s.heap) (I : PySem.W.InstAt s.heap x ox C od) (eo : EqOf K C f) (hb : PySem.W.Looks (model prog w) s.heap (typeOf b) tb) (hn : PySem.W.notFirst K C tb = true) (hu : A.units + 1 < cLine) {Q : Value → Shared → Prop}
    (h : wpAny (model prog w) A.in1 (call (.ref f) [.ref x, b]) (fun v s' => ∃ r, v = .bool r ∧ Q (.bool (!r)) s') E s) : wpAny (model prog w) A (richCompare .NotEq (.ref x) b) Q E s := by
  have one : wpAny (model prog w) A (tryCompare (.ref x) "__ne__" b) (fun r s' => ∃ v, r = some v ∧ Q v s') E s :=
    try_ne X I eo hu (wpAny_mono h (fun v s' z => by
      obtain ⟨r, rfl, q⟩ := z
      exact ⟨r, rfl, _, rfl, q⟩) fun _ _ e => e)
  unfold richCompare
  simp only [oneThing_ref]
  refine wpAny_holding (wpAny_bind (wpAny_cRoomFor (Nat.lt_of_succ_lt hu) ?_))
  refine wpAny_bind (I.type.here (wpAny_bind (hb.here ?_)))
  split
  · rename_i q
    have e : PySem.W.subIn K tb (.ref C) = some false := by
      rcases Bool.or_eq_true_iff.mp hn with e | e
      · rw [beq_iff_eq.mp e] at q; simp at q
      · exact beq_iff_eq.mp e
    refine wpAny_bind ((PySem.W.looks_subIn X e).here ?_)
    simp only [Bool.false_eq_true, if_false]
    exact wpAny_bind (wpAny_mono one (fun r s' z => by
      obtain ⟨v, rfl, q⟩ := z
      exact wpAny_pure q) fun _ _ e => e)
  · refine wpAny_bind (wpAny_pure ?_)
    simp only [Bool.false_eq_true, if_false]
    exact wpAny_bind (wpAny_mono one (fun r s' z => by
      obtain ⟨v, rfl, q⟩ := z
      exact wpAny_pure q) fun _ _ e => e)
end
/-- == / != of an instance by its own __eq__ -/
def rOwn (X : Cx) (k : Nat) (neg : Bool) : R2 := fun x y H Q => ∃ a C dx fs t f fd ps sp, x = .ref a ∧ H a = some (.ins C dx fs) ∧ EqOf X.K C f ∧ TyX X.K H y t ∧ PySem.W.notFirst X.K C t = true ∧ Binds X.K fd ps [] ∧
  FnG X.prog X.w X.K X.mg X.base (L2N.CX X.prog X.w) k f fd ps sp ∧ sp [x, y] H (fun r H' => ∃ b, r = .bl b ∧ Q (.bl (neg ^^ b)) H') fun _ _ _ => False
section
variable {X : Cx} {k : Nat}
theorem run_at {A : Around} {f : Addr} {fd : FuncData} {ps : List Str} {sp : Sp} {pins : List (Addr × Obj)} {σ : L2.St} {H : Hp} {s : Shared} {Q : VK} {us : List Value} {vs : List V} {P : Value → Shared → Prop} (F : FnG X.prog X.w X.K X.mg X.base (L2N.CX X.prog X.w) k f fd ps sp) (hr : Rm k A) (hf : A.frames = X.A.frames) (hb : Binds X.K fd ps []) (I : Inv X pins σ H s) (r : Vals vs us)
    (hs : sp vs H Q fun _ _ _ => False) (hP : ∀ u s', EP X pins σ Q u s' → P u s') : wpAny (model X.prog X.w) A (call (.ref f) us) P X.xe s := by
  have hl : us.length = ps.length := r.length.symm.trans (F.len _ _ _ _ hs)
  have e := I.env0
  have e0 : Env0 X.prog X.w X.K X.mg X.base A X.stack s H := ⟨by rw [hf]; exact e.frames, e.mod, e.bs, e.bsz, e.funs, e.frf, e.hok, e.bare⟩
  refine wpAny_call (codeAny_mono (F.run A X.stack s H ⟨us, []⟩ us vs Q _ hr e0 (by
    have := hb s us I.kIn (by simpa using hl)
    simpa using this) r hs) fun res s' hq => ?_)
  match res, hq with
  | .error e, hq =>
    obtain ⟨_, _, _, _, _, _, _, _, _, _, _, _, z⟩ := hq
    exact z.elim
  | .ok (.ret u), hq => exact hP u s' (I.after hq)
  | .ok .next, hq => exact hq.elim
  | .ok .brk, hq => exact hq.elim
  | .ok .cont, hq => exact hq.elim
theorem op_own_eq (hr : Rm k X.A) : OpR X (compareOp .Eq) (rOwn X k false) := by
  rintro pins s σ H x y v u Q I rx ry ⟨a, C, dx, fs, t, f, fd, ps, sp, rfl, ha, eo, ty, nf, hb, Fo, hq⟩
  cases (show v = Value.ref a from rx)
  obtain ⟨mA, J, _⟩ := ins_get I.hok ha
  obtain ⟨od, J, _⟩ := J.look
  obtain ⟨P, Z, p, _⟩ := kit_of I ry ty
  obtain ⟨m, hF⟩ := I.fr
  refine PySem.W.cmp_K (op := .Eq) (tb := t) hr.room.units0 hF I.ok.mod.kin J (Z.ty _ _ I.kIn p) nf eo.eq eo.fn ?_
  refine run_at Fo hr rfl hb I (Paired.cons (F := L2.RelV) (a := V.ref a) rfl (.cons ry .nil)) hq ?_
  rintro w s' ⟨z, H', I', rz, b, rfl, q⟩
  cases (show w = Value.bool b from rz)
  refine ⟨.bl b, H', I', rfl, ?_⟩
  rw [Bool.false_xor] at q
  exact q
theorem op_own_ne (hr : Rm (k + 1) X.A) : OpR X (compareOp .NotEq) (rOwn X k true) := by
  rintro pins s σ H x y v u Q I rx ry ⟨a, C, dx, fs, t, f, fd, ps, sp, rfl, ha, eo, ty, nf, hb, Fo, hq⟩
  cases (show v = Value.ref a from rx)
  obtain ⟨mA, J, _⟩ := ins_get I.hok ha
  obtain ⟨od, J, _⟩ := J.look
  obtain ⟨P, Z, p, _⟩ := kit_of I ry ty
  show wpAny (model X.prog X.w) X.A (richCompare .NotEq (.ref a) u) (EP X pins σ Q) X.xe s
  have hu : X.A.units + 1 < cLine := by have := hr.room.un; omega
  refine rich_ne I.kIn J eo (Z.ty _ _ I.kIn p) nf hu ?_
  refine run_at Fo ⟨hr.room.in1, hr.gd⟩ rfl hb I (Paired.cons (F := L2.RelV) (a := V.ref a) rfl (.cons ry .nil)) hq ?_
  rintro w s' ⟨z, H', I', rz, b, rfl, q⟩
  cases (show w = Value.bool b from rz)
  refine ⟨b, rfl, .bl (!b), H', I', rfl, ?_⟩
  rw [Bool.true_xor] at q
  exact q
end
/-- a class with an own == whose def keeps a contract; what may stand on the right: data, instances of the classes ok -/
structure EqD (P : Program) (w : World) (K : PySem.W.Frag) (mg : Str → Option Value) (base : Heap) (CA : Nat → Addr) (k : Nat) (c : Nat) (ok : List Nat) (C : Ct) : Prop where
  ex : ∃ f fd ps, EqOf K (CA c) f ∧ ps.length = 2 ∧ Binds K fd ps [] ∧ FnG P w K mg base (L2N.CX P w) k f fd ps (spD K CA 2 C)
  ty : ∀ n ∈ names7, PySem.W.notFirst K (CA c) (.type n) = true
  own : ∀ c2 ∈ ok, ClsD K CA c2 ∧ PySem.W.notFirst K (CA c) (.ref (CA c2)) = true
def rhsOk (ok : List Nat) (h : Hs) (y : D) : Prop := match insOf h y with
  | some (c2, _, _) => c2 ∈ ok
  | none => (tyN h y).isSome = true
def eqO (es : List (Nat × (List Nat × Ct))) (neg : Bool) : fO := fun x y h Q => match insOf h x with
  | some (c, _, _) => (match es.lookup c with
    | some (ok, C) => rhsOk ok h y ∧ C [x, y] h (fun r h' => asB r fun b => Q (.bl (neg ^^ b)) h') (fun _ _ => False)
    | none => False)
  | none => eqD neg x y h Q
theorem od_own {X : Cx} {CA : Nat → Addr} {k : Nat} {neg : Bool} {es : List (Nat × (List Nat × Ct))} {r0 : R2} (hes : ∀ c a, es.lookup c = some a → EqD X.prog X.w X.K X.mg X.base CA k c a.1 a.2) (h0 : OpD X.K CA (eqD neg) r0) : OpD X.K CA (eqO es neg) (fun x y H Q => rOwn X k neg x y H Q ∨ r0 x y H Q) := by
  intro ρ F h H x y v u Qd Q G R1 R2 w g
  unfold eqO at w
  split at w
  · rename_i c ns ds e
    split at w
    · rename_i ok C e2
      have E := hes c (ok, C) e2
      obtain ⟨f, fd, ps, eo, hl, hb, Fo⟩ := E.ex
      obtain ⟨hk, w⟩ := w
      obtain ⟨a, dx, xs, rfl, q, _, _⟩ := insOf_rep G R1 e
      have ty : ∃ t, TyX X.K H u t ∧ PySem.W.notFirst X.K (CA c) t = true := by
        unfold rhsOk at hk
        split at hk
        · rename_i c2 ns2 ds2 e3
          obtain ⟨cd, nf⟩ := E.own c2 hk
          exact ⟨_, insOf_ty cd G R2 e3, nf⟩
        · cases e4 : tyN h y with
          | none => rw [e4] at hk; cases hk
          | some n => exact ⟨_, tyN_rep G R2 e4, E.ty n (tyN_in e4)⟩
      obtain ⟨t, t1, t2⟩ := ty
      refine .inl ⟨a, CA c, dx, _, t, f, fd, ps, _, rfl, q, eo, t1, t2, hb, Fo, rfl, ρ, F, h, [x, y], _, _, G, Reps.cons R1 (Reps.cons R2 Reps.nil), w, ?_, ?_⟩
      · intro d h1 ρ1 F1 z H1 hq X1 G1 R3
        unfold asB at hq
        split at hq
        · rename_i b
          cases (show z = .bl b from R3)
          exact ⟨b, rfl, g _ _ _ _ _ _ hq X1 G1 rfl⟩
        · exact hq.elim
      · intro _ _ _ _ _ _ _ hq
        exact hq.elim
    · exact w.elim
  · exact .inr (h0 _ _ _ _ _ _ _ _ _ _ G R1 R2 w g)
end DL
/-! DL17: enumerate over tuples and lists; divmod; a pair stored into an item and a name; methods with keywords. -/
namespace PySem
open Sem (wp)
open AutoSeq1 (wpAny_loadPart')
/-- enumerate(v): its two new objects -/
theorem meets_enum1 {v : Value} {o : Obj} {H : Heap → Prop} (B : Begins v o H) :
    Meets (Builtin.«enumerate.__new__» ⟨[.type "enumerate", v], []⟩) (fun _ R s => H s.heap ∧
      R (.ok (.ret (.ref (s.heap.push o).objs.size))) { s with heap := (s.heap.push o).push { cls := .type "enumerate", data := .fields #[.none, .bool false, .ref s.heap.objs.size, rawInt 0, .none, .none] } }) :=
  .of_wp fun prog w A R s h => by
    obtain ⟨hp, g, d, tk, os⟩ := s; obtain ⟨h1, h⟩ := h
    have hsub := sub_enumerate
    have q1 : ∀ {A' : Around} {E : Value → Shared → Prop} {Q : Value → Shared → Prop}, Q (.ref hp.objs.size) ⟨hp.push o, g, d, tk, os⟩ → wpAny (model prog w) A' (pyIter v) Q E ⟨hp, g, d, tk, os⟩ :=
      fun q => B.iter prog w _ _ ⟨hp, g, d, tk, os⟩ _ h1 q
    wp_walk using q1
    refine wpAny_stack_any fun st => wpAny_pure ?_
    split
    · rename_i c _ _ _ _ _
      cases (c == Value.type "enumerate")
      · wp_walk using q1
        exact ⟨_, rfl, h⟩
      · wp_walk using q1
        exact ⟨_, rfl, h⟩
    · wp_walk using q1
      exact ⟨_, rfl, h⟩
theorem enum1_begins {prog : Program} {w : World} {A : Around} {E : Value → Shared → Prop} {s : Shared} {v : Value} {o : Obj} {H : Heap → Prop} {Q : Value → Shared → Prop} (B : Begins v o H) (h1 : H s.heap)
    (h : ∀ h', IsEnum h' (s.heap.objs.size + 1) s.heap.objs.size 0 .none → h'.get? s.heap.objs.size = some o → h'.objs.size = s.heap.objs.size + 2 →
      (∀ b o, s.heap.get? b = some o → h'.get? b = some o) → Q (.ref (s.heap.objs.size + 1)) { s with heap := h' }) :
    wpAny (model prog w) A (call (.type "enumerate") [v]) Q E s := by
  refine callType_new F.called_enumerate (by decide) (F.typeCall_enumerate_1 _) (F.newCall_enumerate_1 _) (fun obj => F.args_object_init_2 obj _) F.entry_enumerate_new
    (meets_enum1 B) ⟨h1, ?_⟩
  have hz : (s.heap.push o).objs.size = s.heap.objs.size + 1 := Heap.size_push ..
  show _ ∧ _
  rw [hz]
  have he : IsEnum ((s.heap.push o).push { cls := .type "enumerate", data := .fields #[.none, .bool false, .ref s.heap.objs.size, rawInt 0, .none, .none] }) (s.heap.objs.size + 1) s.heap.objs.size 0 .none := by
    have := Heap.get?_push_size (s.heap.push o) (o := { cls := .type "enumerate", data := .fields #[.none, .bool false, .ref s.heap.objs.size, rawInt 0, .none, .none] }) rfl
    rw [hz] at this; exact this
  refine ⟨⟨_, he, rfl⟩, h _ he (Heap.get?_push_of_some _ (Heap.get?_push_size _ B.free)) (by rw [Heap.size_push, hz]) fun b o x => Heap.get?_push_of_some _ (Heap.get?_push_of_some _ x)⟩
end PySem
namespace DL
open PySem PySem.Spec PyProof.Rows L2
/-- the tuple at a, each item in a new pair -/
def ItT (K : PySem.W.Frag) (a : Addr) : It :=
  ⟨fun i H => ∃ (xs : List V) (x : V), SqT K H a xs ∧ xs[i]? = some x, fun i H v H' => ∃ T x, v = .ref T ∧ H T = none ∧ H' = upd H T (.tup [.int (i : Nat), x]) ∧ ∀ xs, SqT K H a xs → xs[i]? = some x, fun i H => ∃ xs : List V, SqT K H a xs ∧ xs.length = i⟩
theorem turn_enumT {P : Program} {w : World} {K : PySem.W.Frag} {elts : List Expr} {kk : Nat} {tpos : Pos} (a e it : Addr) :
    Turn P w K (.Tuple elts kk tpos) (ItT K a) [e, it] e (fun i h => (∃ old, IsEnum h e it ((i : Nat) : Int) old) ∧ h.IsTupleIter it a i ∧ e ≠ it) where
  mem := by simp
  obj := fun i h st b hb => by
    obtain ⟨⟨old, he⟩, ⟨o, ho, hc, hd⟩, _⟩ := st
    have e' : b = e ∨ b = it := by simpa using hb
    rcases e' with z | z
    · rw [z]; exact ⟨_, he, fun v q => nomatch q⟩
    · rw [z]; exact ⟨o, ho, fun v q => by rw [hd] at q; cases q⟩
  keep := fun i h h' st k => let ⟨⟨old, he⟩, hi, hne⟩ := st; ⟨⟨old, k e (by simp) _ he⟩, hi.at fun o q => k it (by simp) o q, hne⟩
  item := by
    intro X hP hw hK hc i pins s σ H E I hf st hg
    subst hP hw hK
    obtain ⟨⟨old, he⟩, hit, hne⟩ := st
    obtain ⟨xs, x, hq, hx⟩ := hg
    obtain ⟨its, rv, p, hz⟩ := I.tuple hq
    obtain ⟨u, hu, ru⟩ := rv.get hx
    have hel : e < s.heap.objs.size := Heap.lt_size he
    have hil : it < s.heap.objs.size := by obtain ⟨_, q, _⟩ := hit; exact Heap.lt_size q
    have hti : a ≠ it := fun z => by
      obtain ⟨o1, e1, c1, _⟩ := p
      obtain ⟨o2, e2, c2, _⟩ := hit
      rw [z, e2] at e1
      cases e1
      have q := c1.symm.trans c2
      injection q with q
      exact absurd q (by decide)
    have hte : e ≠ a := fun z => by
      obtain ⟨o1, e1, c1, _⟩ := p
      rw [← z] at e1
      have he2 : s.heap.get? e = _ := he
      rw [he2] at e1
      cases e1
      have q : Value.type "enumerate" = Value.type "tuple" := c1
      injection q with q
      exact absurd q (by decide)
    have hlt : i < its.toArray.size := by
      have := (List.getElem?_eq_some_iff.mp hu).1
      simpa using this
    refine wpAny_pyNext_enum_itemD (Draws.tuple (A := X.A.in1) (I.ok.hd hc) it a hti its.toArray) he ⟨hit, p⟩ hlt hne (by simp [hne, hte]) fun x' h' tk hx' ho hst' hT hsz hk => ?_
    have hx2 : its.toArray[i]? = some u := by simpa using hu
    cases (hx2.symm.trans hx')
    refine ⟨_, rfl, wpAny_letOwnedTupleGo_enum (s := { s with heap := h', toks := tk + 1 }) ho fun h'' he' sb => ?_⟩
    have hT2 : h''.get? s.heap.objs.size = some { cls := .type "tuple", data := .seq #[.int i tk, u] } := (sb.2 _ (Nat.ne_of_gt hel)).trans hT
    have new : ObjOk X.prog X.w (upd H s.heap.objs.size (.tup [.int (i : Nat), x])) h'' s.heap.objs.size (.tup [.int (i : Nat), x]) :=
      ⟨by show 2 ≤ sizeLine; decide, [.int i tk, u], .cons ⟨_, rfl⟩ (.cons ru .nil), ⟨_, hT2, rfl, _, rfl⟩⟩
    have I1 : Inv X pins σ (upd H s.heap.objs.size (.tup [.int (i : Nat), x])) { s with heap := h'', toks := tk + 1 } :=
      I.turnedNew (ch := [e, it]) (fun b ob hb q => (sb.2 b (fun z => hb (by simp [z]))).trans (hk b ob (fun z => hb (by simp [z])) (fun z => hb (by simp [z])) q)) hf (Nat.le_refl _) new
    refine ⟨.ref s.heap.objs.size, _, I1, rfl, ⟨_, x, rfl, I.hok.fresh (Nat.le_refl _), rfl, fun ys hy => by rw [I.tuple_inj hy hq]; exact hx⟩, ⟨⟨u, ?_⟩, hst'.1.at fun o q => (sb.2 it (Ne.symm hne)).trans q, hne⟩, fun b hb => ?_⟩
    · have e1 : ((i + 1 : Nat) : Int) = (i : Int) + 1 := by omega
      rw [e1]; exact he'
    · have hb' : b < s.heap.objs.size := by
        have e' : b = e ∨ b = it := by simpa using hb
        rcases e' with z | z
        · rw [z]; exact hel
        · rw [z]; exact hil
      rw [upd_ne (Nat.ne_of_lt hb')]
      exact (hf b hb).1
  done := by
    intro X hP hw hK hc i pins s σ H E I hf st hg
    subst hP hw hK
    obtain ⟨⟨old, he⟩, hit, hne⟩ := st
    obtain ⟨xs, hq, hx⟩ := hg
    obtain ⟨its, rv, p, hz⟩ := I.tuple hq
    obtain ⟨f0, f1, f2, f3, f4, f5⟩ := hf it (by simp)
    have hl := rv.length
    have hti : a ≠ it := fun z => by
      obtain ⟨o1, e1, c1, _⟩ := p
      obtain ⟨o2, e2, c2, _⟩ := hit
      rw [z, e2] at e1
      cases e1
      have q := c1.symm.trans c2
      injection q with q
      exact absurd q (by decide)
    have hit2 : s.heap.IsTupleIter it a its.toArray.size := by
      have : i = its.toArray.size := by simp; omega
      rw [← this]
      exact hit
    exact wpAny_pyNext_enum_endD (Draws.tuple (A := X.A.in1) (I.ok.hd hc) it a hti its.toArray) he ⟨hit2, p⟩ fun h' eb => ⟨rfl, I.turned (t' := s.toks) (fun b o hb q => eb b o hb q) f0 f1 f3 f4 f5⟩
  self := fun A i s Q E st h => let ⟨⟨_, he⟩, _⟩ := st; wpAny_pyIter_enum he h
/-- enumerate(e), e a tuple or a list -/
def iEnum2 (K : PySem.W.Frag) (ta : TA) : TI := fun σ H R => ta σ H fun vs H1 => ∃ a, vs = [.ref a] ∧ ((∃ xs, SqT K H1 a xs ∧ R (ItT K a) H1) ∨ ∃ xs, SqL K H1 a xs ∧ R (Ite K a) H1)
theorem pi_enum2 {X : Cx} {e : Expr} {ta : TA} {p pos tpos : Pos} {elts : List Expr} {kk : Nat} (hg : Gl X "enumerate") (hm : X.mg "enumerate" = none) (ha : PA X [e] ta) (hs : starEach [e] X.env = [(false, eval e X.env)] := by rfl) :
    PI X (.Tuple elts kk tpos) (.Call (.Name "enumerate" p) [e] [] pos) (iEnum2 X.K ta) := by
  refine ⟨fun pins s σ H R I h => ?_⟩
  refine Call_ (ld_blt I hg hm boot_enumerate (PyProof.Rows.callWith_type1 (thn (ha.run pos pins s σ H _ I h) fun us s1 ⟨vs, H1, I1, r1, q1⟩ => ?_) hs rfl))
  obtain ⟨a, ex, q⟩ := q1
  subst ex
  have fp : ∀ b ∈ [s1.heap.objs.size + 1, s1.heap.objs.size], FpOk X pins H1 b := fun b hb => by
    have e' : b = s1.heap.objs.size + 1 ∨ b = s1.heap.objs.size := by simpa using hb
    have hle : s1.heap.objs.size ≤ b := by omega
    exact I1.fpOk hle (I1.hok.fresh hle)
  cases r1 with
  | cons r rr =>
    cases rr
    cases r
    rcases q with ⟨xs, hq, q⟩ | ⟨xs, hq, q⟩
    · obtain ⟨its, rv, p', hz⟩ := I1.tuple hq
      refine enum1_begins (begins_tuple a its.toArray) p' fun h' he hit hsz hk => wpAny_pyIter_enum he ?_
      have I2 : Inv X pins σ H1 { s1 with heap := h' } := I1.kept (t' := s1.toks) hk
      exact ⟨s1.heap.objs.size + 1, [s1.heap.objs.size + 1, s1.heap.objs.size], _, _, H1, rfl, I2, turn_enumT a (s1.heap.objs.size + 1) s1.heap.objs.size, ⟨⟨.none, he⟩, ⟨_, hit, rfl, rfl⟩, Nat.succ_ne_self _⟩, fp, q⟩
    · obtain ⟨its, rv, p', hz⟩ := I1.list hq
      refine call_enumerate_list p'.isList fun h' he hit hsz hk => wpAny_pyIter_enum he ?_
      have I2 : Inv X pins σ H1 { s1 with heap := h' } := I1.kept (t' := s1.toks) hk
      exact ⟨s1.heap.objs.size + 1, [s1.heap.objs.size + 1, s1.heap.objs.size], _, _, H1, rfl, I2, turn_enum a (s1.heap.objs.size + 1) s1.heap.objs.size, ⟨⟨.none, he⟩, hit, Nat.succ_ne_self _⟩, fp, q⟩
/-- the items with their numbers -/
def enumL (ds : List D) : List D := (List.range ds.length).map fun i => .tup [.int (i : Nat), ds.getD i .non]
def wEnum (te : wE) : wL := fun env h Q E => te env h (fun d h1 => match d with
  | .tup ds => Q (enumL ds) h1
  | .lst ds => Q (enumL ds) h1
  | .rol ds => Q (enumL ds) h1
  | _ => False) E
theorem enumL_len (ds : List D) : (enumL ds).length = ds.length := by unfold enumL; simp
theorem enumL_get {ds : List D} {i : Nat} {d : D} (e : ds[i]? = some d) : (enumL ds)[i]? = some (.tup [.int (i : Nat), d]) := by
  unfold enumL
  have := (List.getElem?_eq_some_iff.mp e).1
  rw [List.getElem?_map, List.getElem?_range this, Option.map_some, List.getD_eq_getElem?_getD, e]
  rfl
theorem enum_pair {K : PySem.W.Frag} {CA : Nat → Addr} {ρ : List Addr} {F H : Hp} {h : Hs} {ds : List D} {xs : List V} {i : Nat} {T : Addr} {x : V} (G : GRel K CA ρ F h H) (r : Reps K CA ρ F ds xs) (hT : H T = none) (hx : xs[i]? = some x) :
    ∃ F2 d, Ext ρ F H ρ F2 (upd H T (.tup [.int (i : Nat), x])) ∧ GRel K CA ρ F2 h (upd H T (.tup [.int (i : Nat), x])) ∧ (enumL ds)[i]? = some d ∧ Rep K CA ρ F2 d (.ref T) := by
  obtain ⟨d, e, q⟩ := r.get' hx
  obtain ⟨G2, X2⟩ := G.frozen hT (.tup [.int (i : Nat), x])
  exact ⟨_, _, X2, G2, enumL_get e, T, _, rfl, SqT.of upd_same, Reps.cons rfl (Reps.cons (q.ext X2) Reps.nil)⟩
section
variable {X : Cx} {CA : Nat → Addr} {pos : Pos}
theorem si_enum {e : Expr} {te : wE} {p tpos : Pos} {elts : List Expr} {kk : Nat} (hm : X.mg "enumerate" = none) (he : SE X CA e te) (hg : Gl X "enumerate" := by rfl) (hs : starEach [e] X.env = [(false, eval e X.env)] := by rfl) :
    SI X CA (.Tuple elts kk tpos) (.Call (.Name "enumerate" p) [e] [] pos) (wEnum te) := ⟨fun W tk => PI.of (pi_enum2 hg hm ((sa_cons he sa_nil hs).run W tk) hs) (by
  rintro σ H R ⟨ρ, F, env, h, Qd, Ed, G, E, w, gq, gx⟩
  refine ⟨ρ, F, env, h, _, Ed, G, E, (show wCons te wNil env h (fun ds h1 => ∃ d, ds = [d] ∧ (match d with
    | .tup ds => Qd (enumL ds) h1
    | .lst ds => Qd (enumL ds) h1
    | .rol ds => Qd (enumL ds) h1
    | _ => False)) Ed from cast (congrArg (te env h · Ed) (funext fun d => funext fun h1 => propext ⟨fun z => ⟨d, rfl, z⟩, fun ⟨d', e, z⟩ => by cases e; exact z⟩)) w), ?_, gx⟩
  rintro ds h1 ρ1 F1 vs H1 ⟨d, rfl, hq⟩ X1 G1 R1
  obtain ⟨v, rfl, R2⟩ := one_rep R1
  clear R1
  have lst : ∀ (ds : List D) a xs, SqL X.K F1 a xs → Reps X.K CA ρ1 F1 ds xs → IterD X.K CA ρ1 F1 H1 (Ite X.K a) (enumL ds) := fun ds a xs q r ρ2 F2 h2 H2 X2 G2 => by
    have q2 := G2.sqL (SqL.sub X2.sub q)
    refine ⟨fun i hi => ?_, ⟨xs, q2, by rw [enumL_len, r.length]; exact Nat.le_refl _⟩, ?_⟩
    · rw [enumL_len, r.length] at hi
      exact ⟨xs, xs[i], q2, List.getElem?_eq_getElem hi⟩
    · rintro i x H3 hi ⟨T, y, rfl, hT, rfl, hy⟩
      exact enum_pair G2 (r.ext X2) hT (hy xs q2)
  split at hq
  · obtain ⟨a, xs, rfl, q, r⟩ := R2
    refine ⟨a, rfl, .inl ⟨xs, G1.sqT q, gq _ _ _ _ _ _ hq X1 G1 ?_⟩⟩
    intro ρ2 F2 h2 H2 X2 G2
    have q2 := G2.sqT (SqT.sub X2.sub q)
    refine ⟨fun i hi => ?_, ⟨xs, q2, by rw [enumL_len, r.length]⟩, ?_⟩
    · rw [enumL_len, r.length] at hi
      exact ⟨xs, xs[i], q2, List.getElem?_eq_getElem hi⟩
    · rintro i x H3 hi ⟨T, y, rfl, hT, rfl, hy⟩
      exact enum_pair G2 (r.ext X2) hT (hy xs q2)
  · obtain ⟨a, xs, rfl, q, r⟩ := R2
    exact ⟨a, rfl, .inr ⟨xs, SqL.of (G1.sub _ _ q), gq _ _ _ _ _ _ hq X1 G1 (lst _ a xs (SqL.of q) r)⟩⟩
  · obtain ⟨a, xs, rfl, q, r⟩ := R2
    exact ⟨a, rfl, .inr ⟨xs, G1.sqL q, gq _ _ _ _ _ _ hq X1 G1 (lst _ a xs q r)⟩⟩
  · exact hq.elim)⟩
/-- o[i], x = e -/
def wPairIx (to ti : wE) (j : Nat) (te : wE) : wS := fun D env h => te env h (fun d h1 => ∃ p q, d = .tup [p, q] ∧ to env h1 (fun o h2 => ti env h2 (fun i h3 => setIxD o i p h3 (fun h4 => D.nx (env.set j (some q)) h4)) (fun x h2 => D.ex x env h2)) (fun x h2 => D.ex x env h2)) (fun x h1 => D.ex x env h1)
theorem ss_pairIx {o i e : Expr} {to ti te : wE} {p p2 p3 : Pos} {kk j : Nat} {x : Str} (he : SE X CA e te) (ho : SE X CA o to) (hi : SE X CA i ti) (hN : X.N.Nodup) (hj : X.N[j]? = some x := by rfl) (hx : Loc X.env.scope x := by first | exact Or.inl rfl | exact Or.inr rfl) (hf : X.fn x = true ∨ X.env.scope.names.lookup x = some .local := by first | exact .inl rfl | exact .inr rfl)
    (hs : swapsWithSole [.Tuple [.Subscript o i p, .Name x p2] kk p3] e pos.line X.env = pure false := by rfl) (hw : swappedStores [.Tuple [.Subscript o i p, .Name x p2] kk p3] e X.env = pure none := by rfl)
    (h1 : (assignEach [.Tuple [.Subscript o i p, .Name x p2] kk p3] X.env).map (·.2) = [assign (.Tuple [.Subscript o i p, .Name x p2] kk p3) X.env] := by rfl)
    (hn : (assignEach [.Subscript o i p, .Name x p2] X.env).length = 2 := by rfl) (hst : (assignEach [.Subscript o i p, .Name x p2] X.env).findIdx? (·.1) = none := by rfl) (hc : X.calm = true := by rfl)
    (h2 : (assignEach [.Subscript o i p, .Name x p2] X.env).map (·.2) = assign (.Subscript o i p) X.env :: (assignEach [.Name x p2] X.env).map (·.2) := by rfl) (h3 : (assignEach [.Name x p2] X.env).map (·.2) = assign (.Name x p2) X.env :: (assignEach [] X.env).map (·.2) := by rfl)
    (ha : ∀ v, assign (.Subscript o i p) X.env v = (do
      let ov ← holding [v] (eval o X.env)
      let iv ← holding [v, ov] (eval i X.env)
      standAt p
      holding [v, ov, iv] (setItem ov iv v)
      release [v, ov, iv] []) := by intro _; rfl) : SS X CA (.Assign [.Tuple [.Subscript o i p, .Name x p2] kk p3] e pos) (wPairIx to ti j te) := ⟨fun W tk => PS.of (ps_asg (he.run W tk) (pg_tup hc (pgs_cons (pg_sub (ho.run W tk) (hi.run W tk) set_list ha) (pgs_cons (pg_name hN hj hx hf) pgs_nil h3) h2) hn hst) hs hw h1) (by
  rintro D σ H ⟨ρ, F, env, h, Dd, G, E, w, g⟩
  refine ⟨ρ, F, env, h, _, _, G, E, w, ?_, g.ex.at E⟩
  rintro d h1 ρ1 F1 v H1 ⟨a, b, rfl, hq⟩ X1 G1 R1
  obtain ⟨T, xs, rfl, q, r⟩ := R1
  obtain ⟨v1, r1, rfl, Ra, r⟩ := r
  obtain ⟨v2, r2, rfl, Rb, r⟩ := r
  cases (show r2 = [] from r)
  refine ⟨T, [v1, v2], rfl, G1.sqT q, rfl, v1, [v2], rfl, ?_⟩
  refine ⟨ρ1, F1, env, h1, _, _, G1, E.ext X1, hq, ?_, (g.ex.on X1).at (E.ext X1)⟩
  intro d2 h2 ρ2 F2 v2' H2 hq2 X2 G2 R2
  refine ⟨ρ2, F2, env, h2, _, _, G2, E.ext (X1.trans X2), hq2, ?_, (g.ex.on (X1.trans X2)).at (E.ext (X1.trans X2))⟩
  intro d3 h3 ρ3 F3 v3 H3 hq3 X3 G3 R3
  unfold setIxD at hq3
  split at hq3
  · rename_i j k
    split at hq3
    · rename_i ds hcell
      split at hq3
      · rename_i n hn
        obtain ⟨a, ha, rfl⟩ := R2.ext X3
        cases (show v3 = .int k from R3)
        obtain ⟨xs, hx, r⟩ := G3.cell j _ a hcell ha
        have X13 := (X1.trans X2).trans X3
        have rv := (Ra.ext X2).ext X3
        obtain ⟨G4, X4⟩ := G3.cellSet hcell ha (.lst (xs.set n v1)) (c := .lst (ds.set n _)) ⟨_, upd_same, Reps.set rv n r⟩
        refine ⟨a, xs, k, n, rfl, rfl, hx, by rw [← r.length]; exact hn, v2, [], rfl, rfl, ?_⟩
        exact g.nx _ _ _ _ _ _ hq3 (X13.trans X4) G4 ((E.ext (X13.trans X4)).set (((Rb.ext X2).ext X3).ext X4) _)
      · exact hq3.elim
    · exact hq3.elim
  · exact hq3.elim)⟩
/-- divmod -/
def divmodD : fL := fun xs h Q => match xs with
  | [.int i, .int j] => CDivW i j ∧ Q (.tup [.int (i / j), .int (i % j)]) h
  | _ => False
end
end DL
/-! DL18: divmod, methods with keywords, loops over a list that is a cell. -/
namespace DL
open PySem PySem.Spec PyProof.Rows L2
section
variable {K : PySem.W.Frag} {CA : Nat → Addr}
theorem divP {i j : Int} (h : CDivW i j) : CDivP i j := by
  refine ⟨h.1, ?_⟩
  have h2 := h.2
  unfold Builtin.divisionGoesByPylong
  simp only [Bool.and_eq_false_iff, decide_eq_false_iff_not]
  left
  split <;> omega
theorem ld_divmod : LiD K CA divmodD (fun xs H Q => ∃ i j, xs = [.int i, .int j] ∧ CDivP i j ∧ ∀ p, H p = none → Q (.ref p) (upd H p (.tup [.int (i / j), .int (i % j)]))) := by
  intro ρ F h H xs vs Qd Q G R w g
  unfold divmodD at w
  split at w
  · obtain ⟨v, v2, rfl, R1, R2⟩ := two_rep R
    cases (show v = .int _ from R1)
    cases (show v2 = .int _ from R2)
    refine ⟨_, _, rfl, divP w.1, fun p hp => ?_⟩
    obtain ⟨G2, X2⟩ := G.frozen hp (.tup [.int _, .int _])
    exact g _ _ _ _ _ _ w.2 X2 G2 ⟨p, _, rfl, SqT.of upd_same, Reps.cons rfl (Reps.cons rfl Reps.nil)⟩
  · exact w.elim
end
section
variable {P : Program} {w : World} {K : PySem.W.Frag} {mg : Str → Option Value} {base : Heap} {CA : Nat → Addr}
/-- a method called with a positional arguments and the keywords ks -/
structure CalleeMK (P : Program) (w : World) (K : PySem.W.Frag) (mg : Str → Option Value) (base : Heap) (CA : Nat → Addr) (k : Nat) (c : Nat) (m : Str) (n a : Nat) (ks : List Str) (sel : List (Nat ⊕ Nat)) (C : Ct) : Prop where
  ex : ∃ f fd ps, Cls K (CA c) ∧ Meth K (CA c) m f ∧ ps.length = n ∧ (∀ (s : Shared) (us ws : List Value), us.length = a + 1 → ws.length = ks.length → BindsTo s fd ⟨us, ks.zip ws⟩ (ps.zip (selA sel us ws))) ∧ FnG P w K mg base (L2N.CX P w) k f fd ps (spD K CA n C)
end
def wMethK (ms : List (Nat × Ct)) (m : Str) (n : Nat) (ks : List Str) (sel : List (Nat ⊕ Nat)) (to : wE) (tk : wL) : wE := fun env h Q E => to env h (fun o h1 => match insOf h1 o with
  | some (c, ns, _) => m ∉ ns ∧ (match ms.lookup c with
    | some C => tk env h1 (fun es h2 => es.length = ks.length ∧ (selA sel [o] es).length = n ∧ C (selA sel [o] es) h2 Q E) E
    | none => False)
  | none => False) E
section
variable {X : Cx} {CA : Nat → Addr} {pos : Pos}
theorem se_methK0 {k n : Nat} {m : Str} {ks : List Str} {sel : List (Nat ⊕ Nat)} {ms : List (Nat × Ct)} {o : Expr} {to : wE} {apos : Pos} {kws : List Keyword} {tk : wL} (hms : ∀ c C, ms.lookup c = some C → CalleeMK X.prog X.w X.K X.mg X.base CA k c m n 0 ks sel C) (hr : Rm k X.A) (ho : SE X CA o to) (hkw : SK X CA kws tk)
    (hall : (backToKw pos (keywordEach kws X.env)).all (·.1.isSome) = true := by rfl) (hks : (backToKw pos (keywordEach kws X.env)).filterMap (·.1) = ks := by rfl)
    (hpl : ((backTo pos (starEach [] X.env)).any (·.1) || (backToKw pos (keywordEach kws X.env)).any (·.1.isNone)) = false := by rfl) {pl : Sem Bool}
    (ht : eval (.Call (.Attribute o m apos) [] kws pos) X.env = (do
      let ov ← eval o X.env
      standAt apos.atName
      let (f, first) ← holding [ov] (getMethod ov m pl)
      callWith pos f first (backTo pos (starEach [] X.env)) (backToKw pos (keywordEach kws X.env))) := by rfl) :
    SE X CA (.Call (.Attribute o m apos) [] kws pos) (wMethK ms m n ks sel to tk) := ⟨fun W tkx => by
  refine ⟨fun pins s σ H Q I ⟨ρ, F, env, h, Qd, Ed, G, E, w, gq, gx⟩ => ?_⟩
  refine PySem.W.methodCall_KW (pl := pl) (thn ((ho.run W tkx).run pins s σ H (fun x H1 => ∃ a f fd ps sp, x = .ref a ∧ (∃ dx fs C, H1 a = some (.ins C dx fs) ∧ Cls X.K C ∧ Meth X.K C m f ∧ fs.lookup m = none) ∧ (∀ (s : Shared) (us ws : List Value), us.length = 0 + 1 → ws.length = ks.length → BindsTo s fd ⟨us, ks.zip ws⟩ (ps.zip (selA sel us ws))) ∧ FnG X.prog X.w X.K X.mg X.base (L2N.CX X.prog X.w) k f fd ps sp ∧
    rdL X.K CA W tk σ H1 fun zs H2 => zs.length = ks.length ∧ sp (selA sel [x] zs) H2 Q (WE W σ)) I ⟨ρ, F, env, h, _, Ed, G, E, w, ?_, gx⟩) fun u s1 ⟨x, H1, I1, rx, a, f, fd, ps, sp, ex, ⟨dx, fs, C, ea, cl, mt, lk⟩, hb, Fo, q⟩ => ?_) ht
  · intro d h1 ρ1 F1 v H1 hq X1 G1 R1
    split at hq
    · rename_i c ns ds0 e
      obtain ⟨nm, hq⟩ := hq
      split at hq
      · rename_i C e2
        obtain ⟨f, fd, ps, cl, mt, hn, hb, Fo⟩ := (hms c C e2).ex
        obtain ⟨a, dx, xs, rfl, q, l, r⟩ := insOf_rep G1 R1 e
        refine ⟨a, f, fd, ps, _, rfl, ⟨dx, _, _, q, cl, mt, lookup_no nm⟩, hb, Fo, ρ1, F1, env, h1, _, Ed, G1, E.ext X1, hq, ?_, gx.on X1⟩
        rintro as h2 ρ2 F2 vs H2 ⟨hl1, hl2, hq2⟩ X2 G2 R2
        have RR := sel_reps (Reps.cons (R1.ext X2) (Reps.nil (K := X.K) (CA := CA) (ρ := ρ2) (F := F2))) R2 sel
        exact ⟨by rw [← R2.length]; exact hl1, by rw [← RR.length]; exact hl2, ρ2, F2, h2, _, Qd, Ed, G2, RR, hq2, (gq.on X1).on X2, (gx.on X1).on X2⟩
      · exact hq.elim
    · exact hq.elim
  · subst ex
    obtain rfl : u = Value.ref a := rx
    refine getmeth_ok I1 ea cl mt lk ?_
    refine PySem.W.callWith_KW0 (first := [.ref a]) (h₀ := X.base) I.ok.mod.kin mt.kp hall (thn ((hkw.run W tkx).run pos pins s1 σ H1 _ I1 q) fun ws s2 ⟨zs, H2, I2, rz, l2, q2⟩ => ⟨I2.kIn, ?_⟩) hpl
    rw [hks]
    exact run_fnGK (us := [.ref a]) (vs := [.ref a]) Fo hr (hb s2 [.ref a] ws rfl (rz.length.symm.trans l2)) (L2N.passAt tkx σ) I2 (.cons rfl .nil) rz q2⟩

/-! ### cells that change no more become data that stay -/
/-- a cell becomes a datum; the slots that named it name the datum -/
inductive Thaws : Env → Hs → Env → Hs → Prop where
  | refl (env : Env) (h : Hs) : Thaws env h env h
  | step {env env1 env2 : Env} {h h2 : Hs} (i : Nat) (c : Cell) (d : D) (hi : h[i]? = some c) (hf : frzD c = some d) (hl : env1.length = env.length)
      (he : ∀ (k : Nat) (e : D), env1[k]? = some (some e) → env[k]? = some (some e) ∨ (env[k]? = some (some (.ref i)) ∧ e = d)) (t : Thaws env1 (h.set i .dead) env2 h2) : Thaws env h env2 h2
theorem Thaws.rel {K : PySem.W.Frag} {CA : Nat → Addr} {ρ : List Addr} {H : Hp} {σ : L2.St} {env env2 : Env} {h h2 : Hs} (t : Thaws env h env2 h2) : ∀ {F : Hp}, GRel K CA ρ F h H → ERel K CA ρ F env σ → ∃ F2, GRel K CA ρ F2 h2 H ∧ ERel K CA ρ F2 env2 σ ∧ Ext ρ F H ρ F2 H := by
  induction t with
  | refl env h => exact fun {F} G E => ⟨F, G, E, Ext.refl G⟩
  | @step env env1 env2 h h2 i c d hi hf hl he t ih =>
    intro F G E
    have hlt : i < ρ.length := by rw [G.len]; exact (List.getElem?_eq_some_iff.mp hi).1
    obtain ⟨F1, G1, X1, R1⟩ := G.freeze hi (List.getElem?_eq_getElem hlt) hf
    have E1 : ERel K CA ρ F1 env1 σ := by
      refine ⟨hl.trans E.1, fun k e hk => ?_⟩
      rcases he k e hk with z | ⟨z, rfl⟩
      · obtain ⟨v, e1, r⟩ := E.2 k e z
        exact ⟨v, e1, r.ext X1⟩
      · obtain ⟨v, e1, a, ea, rfl⟩ := E.2 k _ z
        rw [List.getElem?_eq_getElem hlt] at ea
        cases ea
        exact ⟨_, e1, R1⟩
    obtain ⟨F2, G2, E2, X2⟩ := ih G1 E1
    exact ⟨F2, G2, E2, X1.trans X2⟩
def wFz (t : wS) : wS := fun D env h => ∃ env2 h2, Thaws env h env2 h2 ∧ t D env2 h2
theorem sss_fz {ss : List Stmt} {t : wS} (h : SSs X CA ss t) : SSs X CA ss (wFz t) := ⟨fun W tk => PSs.of (h.run W tk) (by
  rintro D σ H ⟨ρ, F, env, h, Dd, G, E, ⟨env2, h2, th, w⟩, g⟩
  obtain ⟨F2, G2, E2, X2⟩ := th.rel G E
  exact ⟨ρ, F2, env2, h2, Dd, G2, E2, w, g.on X2⟩)⟩
end
/-! ### lists of facts -/
theorem fc_nil {p : Nat → Prop} : ∀ c ∈ ([] : List Nat), p c := fun c h => (List.not_mem_nil h).elim
theorem fc_cons {p : Nat → Prop} {c0 : Nat} {cs : List Nat} (h : p c0) (t : ∀ c ∈ cs, p c) : ∀ c ∈ c0 :: cs, p c := fun c hc => by
  rcases List.mem_cons.mp hc with rfl | hc
  · exact h
  · exact t c hc
theorem lk_nil {α : Type} {p : Nat → α → Prop} : ∀ c a, ([] : List (Nat × α)).lookup c = some a → p c a := fun c a h => by simp at h
theorem lk_cons {α : Type} {p : Nat → α → Prop} {c0 : Nat} {a0 : α} {ms : List (Nat × α)} (h : p c0 a0) (t : ∀ c a, ms.lookup c = some a → p c a) : ∀ c a, ((c0, a0) :: ms).lookup c = some a → p c a := fun c a e => by
  rw [List.lookup_cons] at e
  cases hb : c == c0 with
  | true =>
    rw [hb] at e
    cases e
    rw [beq_iff_eq.mp hb]
    exact h
  | false =>
    rw [hb] at e
    exact t c a e
end DL
/-! DL19: rules for simp (instances), small data (repr), heaps of cells. -/
namespace DL
open PySem PySem.Spec PyProof.Rows L2
theorem insOf_non {h : Hs} : insOf h .non = none := rfl
theorem insOf_bl {h : Hs} {b : Bool} : insOf h (.bl b) = none := rfl
theorem insOf_int {h : Hs} {b : Int} : insOf h (.int b) = none := rfl
theorem insOf_str {h : Hs} {b : Str} : insOf h (.str b) = none := rfl
theorem insOf_tyy {h : Hs} {b : String} : insOf h (.ty b) = none := rfl
theorem insOf_gl {h : Hs} {b : Addr} : insOf h (.gl b) = none := rfl
theorem insOf_tup {h : Hs} {b : List D} : insOf h (.tup b) = none := rfl
theorem insOf_lst {h : Hs} {b : List D} : insOf h (.lst b) = none := rfl
theorem insOf_rol {h : Hs} {b : List D} : insOf h (.rol b) = none := rfl
theorem insOf_dic {h : Hs} {a : List Key} {b : List D} : insOf h (.dic a b) = none := rfl
theorem insOf_obj {h : Hs} {c : Nat} {a : List Str} {b : List D} : insOf h (.obj c a b) = some (c, a, b) := rfl
theorem lk_hd {α : Type} {c : Nat} {a : α} {r : List (Nat × α)} : ((c, a) :: r).lookup c = some a := by
  rw [List.lookup_cons, beq_self_eq_true]
theorem lk_tl {α : Type} {c d : Nat} {a : α} {r : List (Nat × α)} (h : (c == d) = false) : ((d, a) :: r).lookup c = r.lookup c := by
  rw [List.lookup_cons, h]

/-! ### small data: fit for repr -/
structure Small (n dep : Nat) (p : PyData) : Prop where
  ly : p.canLay0 = true
  sh : p.showable = true
  nd : p.hasDict = false
  dp : p.depth ≤ dep
  ln : p.shown.length ≤ n
structure Smalls (n dep : Nat) (ps : List PyData) : Prop where
  ly : PyData.canLayAll0 ps = true
  sh : PyData.showableAll ps = true
  nd : PyData.hasDictAll ps = false
  dp : PyData.depthAll ps ≤ dep
  ln : ((PyData.shownAll ps).map (·.length)).sum ≤ ps.length * n
theorem Small.mono {n m d e : Nat} {p : PyData} (s : Small n d p) (h1 : n ≤ m) (h2 : d ≤ e) : Small m e p := ⟨s.ly, s.sh, s.nd, Nat.le_trans s.dp h2, Nat.le_trans s.ln h1⟩
theorem small_int {i : Int} (h : i.natAbs.log2 < 1920) : Small 1921 0 (.int i) := by
  refine ⟨rfl, decide_eq_true h, rfl, Nat.le_refl _, ?_⟩
  show (Str.ofString (toString i)).length ≤ 1921
  have := int_text_length_le (a := i) (k := 1920) (by decide) h
  rw [PySem.ofString_length]
  exact this
theorem small_str {x : Str} {n : Nat} (h : x.length ≤ n) (hx : ∀ c ∈ x.cps.toList, c < 128) : Small (10 * n + 2) 0 (.str x) := by
  refine ⟨?_, rfl, rfl, Nat.le_refl _, ?_⟩
  · show PyData.strOk x = true
    unfold PyData.strOk
    rw [Array.all_eq_true']
    intro c hc
    exact decide_eq_true (Nat.lt_trans (hx c (Array.mem_toList_iff.mpr hc)) (by decide))
  have := StrLaws.reprText_len x fun c hc => Nat.lt_trans (hx c hc) (by decide)
  show (reprText x).length ≤ _
  omega
theorem smalls_nil {n d : Nat} : Smalls n d [] := ⟨rfl, rfl, rfl, Nat.zero_le _, Nat.zero_le _⟩
theorem smalls_cons {n d : Nat} {p : PyData} {ps : List PyData} (h : Small n d p) (t : Smalls n d ps) : Smalls n d (p :: ps) := by
  refine ⟨?_, ?_, ?_, ?_, ?_⟩
  · simp only [PyData.canLayAll0, h.ly, t.ly, Bool.and_self]
  · simp only [PyData.showableAll, h.sh, t.sh, Bool.and_self]
  · simp only [PyData.hasDictAll, h.nd, t.nd, Bool.or_self]
  · simp only [PyData.depthAll]
    exact Nat.max_le.mpr ⟨h.dp, t.dp⟩
  · simp only [PyData.shownAll, List.map_cons, List.sum_cons, List.length_cons, Nat.succ_mul]
    have := h.ln
    have := t.ln
    omega
theorem Smalls.list {n d : Nat} {ps : List PyData} (s : Smalls n d ps) : Small (ps.length * n + 2 * ps.length + 3) (d + 1) (.list ps) := by
  refine ⟨s.ly, s.sh, s.nd, ?_, ?_⟩
  · simp only [PyData.depth]
    have := s.dp
    omega
  · have h2 := listText_len_le (PyData.shownAll ps)
    have h3 := PyData.shownAll_length ps
    have h4 := s.ln
    show (listText (PyData.shownAll ps)).length ≤ _
    rw [h3] at h2
    omega
theorem Smalls.tuple {n d : Nat} {ps : List PyData} (s : Smalls n d ps) : Small (ps.length * n + 2 * ps.length + 3) (d + 1) (.tuple ps) := by
  refine ⟨s.ly, s.sh, s.nd, ?_, ?_⟩
  · simp only [PyData.depth]
    have := s.dp
    omega
  · have h2 := tupleText_len_le (PyData.shownAll ps)
    have h3 := PyData.shownAll_length ps
    have h4 := s.ln
    show (tupleText (PyData.shownAll ps)).length ≤ _
    rw [h3] at h2
    omega
theorem Small.shaped {n d : Nat} {p : PyData} (s : Small n d p) (h : d ≤ 60) : SeqAt.shaped p = true := by
  have := s.dp
  simp [SeqAt.shaped, s.ly]
  omega
theorem small_none : Small 4 0 .none := ⟨rfl, rfl, rfl, Nat.le_refl _, by decide⟩
theorem small_bool {b : Bool} : Small 5 0 (.bool b) := ⟨rfl, rfl, rfl, Nat.le_refl _, by cases b <;> decide⟩
theorem smalls_of {n d : Nat} : ∀ {ps : List PyData}, (∀ p ∈ ps, Small n d p) → Smalls n d ps
  | [], _ => smalls_nil
  | p :: ps, h => smalls_cons (h p (List.mem_cons_self ..)) (smalls_of fun q hq => h q (List.mem_cons_of_mem _ hq))
/-- repr of a datum, as its reading asks -/
theorem small_repr {n d : Nat} {p : PyData} {R : Prop} (s : Small n d p) (h1 : n ≤ 16777216) (h2 : d ≤ 62) (r : R) : p.showable = true ∧ p.hasDict = false ∧ p.depth ≤ 62 ∧ p.shown.length ≤ 16777216 ∧ R :=
  ⟨s.sh, s.nd, Nat.le_trans s.dp h2, Nat.le_trans s.ln h1, r⟩
theorem toPs_map {α : Type} {f : α → D} {g : α → PyData} (h : ∀ a, toP (f a) = some (g a)) : ∀ l : List α, toPs (l.map f) = some (l.map g)
  | [] => rfl
  | a :: l => by
    rw [List.map_cons, toPs, h a, toPs_map h l]
    rfl

/-! ### cells -/
theorem cell_last {h : Hs} {c : Cell} : (h ++ [c])[h.length]? = some c := by simp
theorem set_last {h : Hs} {c d : Cell} : (h ++ [c]).set h.length d = h ++ [d] := by simp
theorem take_last {h : Hs} {c : Cell} : (h ++ [c]).take h.length = h := by simp
theorem oldOk_app {h : Hs} {g : Hs} : oldOk h (h ++ g) := by
  refine ⟨by simp, fun i c hi e => .inl ?_⟩
  rw [List.getElem?_append_left hi] at e
  exact e
theorem oldOk_refl {h : Hs} : oldOk h h := ⟨Nat.le_refl _, fun i c hi e => .inl e⟩
end DL
/-! DL20: enumerate, slices, in: what they are on lists. -/
namespace DL
open PySem PySem.Spec PyProof.Rows L2
theorem enumL_mem {ds : List D} {d : D} (h : d ∈ enumL ds) : ∃ (i : Nat) (x : D), d = .tup [.int i, x] ∧ ds[i]? = some x := by
  unfold enumL at h
  obtain ⟨i, hi, rfl⟩ := List.mem_map.mp h
  rw [List.mem_range] at hi
  exact ⟨i, ds[i], by rw [List.getD_eq_getElem?_getD, List.getElem?_eq_getElem hi]; rfl, List.getElem?_eq_getElem hi⟩
theorem cutL_take {α : Type} {xs : List α} {i : Nat} (h : i ≤ xs.length) : cutL xs none (some (i : Int)) = xs.take i := by
  unfold cutL
  rw [HT.sIx_none, HT.sIx_nat, List.drop_zero, Nat.sub_zero, Nat.min_eq_left h]
theorem cutL_take' {α : Type} {xs : List α} {i : Nat} : cutL xs none (some (i : Int)) = xs.take i := by
  unfold cutL
  rw [HT.sIx_none, HT.sIx_nat, List.drop_zero, Nat.sub_zero]
  by_cases h : i ≤ xs.length
  · rw [Nat.min_eq_left h]
  · rw [Nat.min_eq_right (by omega), List.take_of_length_le (Nat.le_refl _), List.take_of_length_le (by omega)]
theorem cutL_drop {α : Type} {xs : List α} {i : Nat} : cutL xs (some (i : Int)) none = xs.drop i := by
  unfold cutL
  rw [HT.sIx_none, HT.sIx_nat]
  by_cases h : i ≤ xs.length
  · rw [Nat.min_eq_left h, List.take_of_length_le (by rw [List.length_drop]; exact Nat.le_refl _)]
  · rw [Nat.min_eq_right (by omega), List.drop_of_length_le (Nat.le_refl _), List.drop_of_length_le (by omega)]
    simp
theorem flDs_ints : ∀ l : List Int, flDs (l.map D.int) = some (l.map V.int)
  | [] => rfl
  | a :: l => by rw [List.map_cons, flDs, flDs_ints l]; rfl
theorem flDs_strs : ∀ l : List Str, flDs (l.map D.str) = some (l.map V.str)
  | [] => rfl
  | a :: l => by rw [List.map_cons, flDs, flDs_strs l]; rfl
theorem inV_ints {a : Int} : ∀ l : List Int, inV (V.int a) (l.map V.int) = decide (a ∈ l)
  | [] => by simp [inV]
  | b :: l => by
    have := inV_ints (a := a) l
    unfold inV at this ⊢
    rw [List.map_cons, List.any_cons, this]
    have e : eqV (V.int b) (V.int a) = decide (b = a) := rfl
    rw [e, Bool.eq_iff_iff]
    simp only [Bool.or_eq_true, decide_eq_true_eq, List.mem_cons]
    exact ⟨fun z => z.elim (fun z => .inl z.symm) .inr, fun z => z.elim (fun z => .inl z.symm) .inr⟩
end DL
/-! DL21: what clean does with data without references. -/
namespace DL
open PySem PySem.Spec PyProof.Rows L2
theorem clnD_low {h : Hs} {n k : Nat} {d : D} (l : lowR n d = true) : clnD h n k d = some d := by
  cases k <;> (unfold clnD; rw [if_pos l])
theorem mapO_low {h : Hs} {n k : Nat} : ∀ {ds : List D}, lowRs n ds = true → mapO (clnD h n k) ds = some ds
  | [], _ => rfl
  | d :: ds, l => by
    rw [lowRs, Bool.and_eq_true] at l
    simp only [mapO, clnD_low l.1, mapO_low l.2]
/-- a new instance whose attributes are data: frozen -/
theorem clean_obj {h : Hs} {c : Nat} {ns : List Str} {ds : List D} {Q : PQ} (l : lowRs h.length ds = true) (q : Q (.obj c ns ds) h) : cleanK h (h ++ [.ins c ns ds]) (.ref h.length) Q := by
  refine ⟨oldOk_app, .obj c ns ds, ?_, by rw [take_last]; exact q⟩
  unfold clnD
  have : lowR h.length (.ref h.length) = false := by simp [lowR]
  rw [this, if_neg (by decide)]
  simp only [cell_last, mapO_low l, Option.map_some]
/-- a new list: frozen -/
theorem clean_lst {h : Hs} {ds : List D} {Q : PQ} (l : lowRs h.length ds = true) (q : Q (.lst ds) h) : cleanK h (h ++ [.lst ds]) (.ref h.length) Q := by
  refine ⟨oldOk_app, .lst ds, ?_, by rw [take_last]; exact q⟩
  unfold clnD
  have : lowR h.length (.ref h.length) = false := by simp [lowR]
  rw [this, if_neg (by decide)]
  simp only [cell_last, mapO_low l, Option.map_some]
/-- data without references -/
theorem clean_low {h h2 : Hs} {d : D} {Q : PQ} (o : oldOk h h2) (l : lowR h.length d = true) (q : Q d (h2.take h.length)) : cleanK h h2 d Q := ⟨o, d, clnD_low l, q⟩
theorem low_map {α : Type} {n : Nat} {f : α → D} (h : ∀ a, lowR n (f a) = true) (l : List α) : lowRs n (l.map f) = true := by
  rw [lowRs_mem]
  intro d hd
  obtain ⟨a, _, rfl⟩ := List.mem_map.mp hd
  exact h a
theorem n7_nil {p : String → Prop} : ∀ n ∈ ([] : List String), p n := fun n h => (List.not_mem_nil h).elim
theorem n7_cons {p : String → Prop} {c0 : String} {cs : List String} (h : p c0) (t : ∀ c ∈ cs, p c) : ∀ c ∈ c0 :: cs, p c := fun c hc => by
  rcases List.mem_cons.mp hc with rfl | hc
  · exact h
  · exact t c hc
/-- a tuple of the module's -/
theorem glob_tup {K : PySem.W.Frag} {CA : Nat → Addr} {mg : Str → Option Value} {x : Str} {a : Addr} {od : Option Addr} {its : List Value} {n : Nat} {sl : Array (Option Value)} {ds : List D} {vs : List V} (hm : mg x = some (.ref a)) (hk : K.lookup a = some ⟨.type "tuple", od, .seq its.toArray n, sl⟩)
    (hl : its.length ≤ sizeLine) (rv : Vals vs its) (rd : ∀ ρ F, Reps K CA ρ F ds vs) : GlobD K CA mg x (.tup ds) := by
  refine ⟨_, .ref a, hm, rfl, fun ρ F => ⟨a, vs, rfl, .inr ⟨_, its.toArray, _, hk, rfl, rfl, by rw [List.size_toArray]; exact hl, by simpa using rv⟩, rd ρ F⟩⟩
end DL
/-! DL22: an own exception class whose __init__ says super().__init__(..) and stores its arguments: what a call of it makes, over the heap alone. -/
namespace DLX
open PySem PySem.W PySem.Calls PyProof.Rows PySem.Spec
/-- what is asked of the class; B: its built-in base -/
structure XCls (K : Frag) (C : Addr) (B newId initId : String) (bmB : List Value) : Prop where
  FB : ExcBaseFacts B newId initId bmB
  SF : StoreFacts B bmB "object.__setattr__" "object"
  KF : KxsFacts B initId
  q : excInitIn K C bmB newId = true
  ov : excOver K C bmB = true
  hs : findIn K (.ref C) "__setattr__" = some (some (.builtin "object.__setattr__"))
  hh : hasDictIn K C = true
  hB : subIn K (.ref C) (.type B) = some true
  opq : nsIn K cStatics "thirdparty.any" = some none
/-- what is new behind such a call -/
def XNew (C : Addr) (fs : List Str) (us : List Value) (h h' : Heap) (e : Addr) (dd : Option Addr) : Prop :=
  (∀ b o, h.get? b = some o → h'.get? b = some o) ∧ h.get? e = none ∧ (∃ t, h'.get? e = some (excObj C t dd .none)) ∧
    (match dd with
      | none => fs = []
      | some dx => h.get? dx = none ∧ dx ≠ e ∧ ∃ m, h'.Ns1 dx m ∧ ∀ y, m y = (fs.zip us).lookup y)
/-- a class that makes such exceptions -/
structure XMk (P : Program) (w : World) (K : Frag) (mg : Str → Option Value) (C : Addr) (fs : List Str) : Prop where
  run : ∀ (A : Around) (s : Shared) (us : List Value) (Q : Value → Shared → Prop) (E : Value → Shared → Prop), A.depth + 1 < recursionLimit → K.In s.heap → s.heap.Ns mainGlobals mg → (∃ mb, s.heap.Ns builtinsNs mb ∧ ∀ x : Str, x ≠ "__name__" → mb x = bootBuiltins x) → s.heap.NoLimit →
    us.length = fs.length → (∀ e dd h' tk, XNew C fs us s.heap h' e dd → Q (.ref e) { s with heap := h', toks := tk }) → wpAny (model P w) A (call (.ref C) us) Q E s
section
open Builtin Builtin.ObjectAttr
variable {prog : Program} {w : World} {A : Around} {E : Value → Shared → Prop} {K : Frag} {C x t : Addr} {hp : Heap} {g : Array GenState} {d : Drawn} {tk : Nat} {os : OsState} {B newId initId : String} {bmB : List Value} {name : Str} {v : Value} {Q : Unit → Shared → Prop}
theorem xset0 (T : XCls K C B newId initId bmB) (X : K.In hp) (hx : hp.get? x = some (excObj C t none .none)) (hno : takerIn K C name = some none)
    (hq : ∀ h' tk' dx, (∀ b o, b ≠ x → hp.get? b = some o → h'.get? b = some o) → hp.objs.size ≤ dx → dx ≠ x → h'.get? x = some (excObj C t (some dx) .none) → h'.Ns1 dx (fun y => if y = name then some v else none) → Q () ⟨h', g, d, tk', os⟩) :
    wpAny (model prog w) A (setAttr (.ref x) name v) Q E ⟨hp, g, d, tk, os⟩ := by
  have I : InstAt hp x (excObj C t none .none) C none := ⟨hx, rfl, rfl, trivial⟩
  refine set_plain (od := none) X I T.hs (osa_openX (od := none) T.SF X I T.ov hno fun b => ?_)
  obtain ⟨cd, hc, hd'⟩ := any_some T.hh
  have hxs : x ≠ hp.objs.size := Nat.ne_of_lt (Heap.lt_size hx)
  refine wpAny_bind (wpAny_pure (wpAny_bind (instanceDict_exc hx (looks_clsIn X hc) hd' ?_)))
  show wpAny _ _ (storeInDict hp.objs.size (.str name tk) name v) _ _ _
  refine HandSPX.store_in_new ?_ ?_
  · exact ⟨_, #[], _, (Heap.get?_update_ne _ _ _ _ hxs.symm).trans (Heap.get?_push_at rfl rfl), rfl, fun e he => absurd he (by simp), fun _ => rfl⟩
  · intro h' tk' hn' hs
    have hx₁ : (hp.push (dictOf [] 0)).get? x = some (excObj C t none .none) := Heap.get?_push_of_some _ hx
    refine hq h' tk' hp.objs.size (fun b o hb ho => ?_) (Nat.le_refl _) hxs.symm ?_ hn'
    · exact (hs.2 b (Nat.ne_of_lt (Heap.lt_size ho))).trans ((Heap.get?_update_ne _ _ _ _ hb).trans (Heap.get?_push_of_some _ ho))
    · exact (hs.2 x hxs).trans (Heap.get?_update_self _ hx₁ rfl)
theorem xset1 {dx : Addr} {m0 : Str → Option Value} {nl : List Str} (T : XCls K C B newId initId bmB) (X : K.In hp) (hx : hp.get? x = some (excObj C t (some dx) .none)) (hns : hp.Ns1 dx m0) (hw : Within m0 nl) (hz : nl.length ≤ 1000) (hno : takerIn K C name = some none)
    (hq : ∀ h' tk', (∀ b o, b ≠ dx → hp.get? b = some o → h'.get? b = some o) → h'.Ns1 dx (fun y => if y = name then some v else m0 y) → Q () ⟨h', g, d, tk', os⟩) :
    wpAny (model prog w) A (setAttr (.ref x) name v) Q E ⟨hp, g, d, tk, os⟩ := by
  obtain ⟨oD, esD, epD, hoD, hdD, _⟩ := hns.count hw
  have I : InstAt hp x (excObj C t (some dx) .none) C (some oD) := ⟨hx, rfl, rfl, hoD⟩
  refine set_plain (od := some oD) X I T.hs (osa_openX (od := some oD) T.SF X I T.ov hno fun b => ?_)
  obtain ⟨cd, hc, hd'⟩ := any_some T.hh
  refine wpAny_bind (wpAny_pure (wpAny_bind (wpAny_bind (wpAny_loadPart hx (wpAny_bind ((looks_clsIn X hc).here ?_))))))
  rw [hd']
  refine wpAny_pure (a := some dx) ?_
  exact PySem.OEX.store_in_old hns hw hz fun h' tk' hn hs => hq h' tk' (fun b o hb ho => (hs.2 b hb).trans ho) hn
end
/-- no __init__ of its own, nothing passed -/
theorem xmk0 {P : Program} {w : World} {K : Frag} {mg : Str → Option Value} {C : Addr} {B newId initId : String} {bmB : List Value} (T : XCls K C B newId initId bmB) (hi : findIn K (.ref C) "__init__" = some (some (.builtin initId))) : XMk P w K mg C [] := ⟨by
  intro A s us Q E hd X hg hb hl hu h
  have eu : us = [] := List.length_eq_zero_iff.mp hu
  subst eu
  obtain ⟨nm, N', qn, bs, bm, hdct, sn, sub, ab, col, dd, k0, k1, k2, k3, k5, hC, hT⟩ := excInit_of X T.q
  obtain ⟨hh, g, d, tk, os⟩ := s
  refine call_B T.FB hT hC (looks_findIn X hi) (by simp) fun h' k he ht => ?_
  exact h _ none h' tk ⟨k, Heap.get?_none_of_le (Nat.le_succ _), ⟨_, he⟩, rfl⟩⟩
/-- super().__init__(x, ..); self.f = x, .. -/
abbrev xSuper (es : List Expr) (p0 p1 p2 p4 p5 : Pos) : Stmt := .Expr (.Call (.Attribute (.Call (.Name "super" p0) [] [] p1) "__init__" p2) es [] p4) p5
abbrev xStore (f : Str) (p6 p7 p8 p9 : Pos) : Stmt := .Assign [.Attribute (.Name "self" p6) f p7] (.Name f p8) p9
/-- the written parts that such an __init__ is made of -/
structure XFn (P : Program) (K : Frag) (mg : Str → Option Value) (C : Addr) (fs : List Str) (body : List Stmt) (fI : Addr) (fd : FuncData) (qual : Str) (scope : Scope) (cda cc : Addr) : Prop where
  hi : findIn K (.ref C) "__init__" = some (some (.ref fI))
  lk : ∃ oc od osl, K.lookup fI = some ⟨oc, od, .func fd, osl⟩ ∧ oc = .type "function"
  fd1 : fd.body = .stmts body
  fd2 : fd.scope = scope
  fd3 : fd.code = .ref cda
  fd4 : fd.qualname = qual
  env : ∀ L, callEnv fd L fI = ksEnv qual scope L fI (.ref cda) cc
  hcd : codeIn K (.ref cda) qual = true
  hp : ∃ ar, (fd.params.posonlyargs ++ fd.params.args).head? = some ar ∧ ar.arg = "self"
  hbind : ∀ (s : Shared) (u : Value) (us : List Value), us.length = fs.length → BindsTo s fd ⟨u :: us, []⟩ ((("self" : Str) :: fs).zip (u :: us))
  code : ∃ ccl cdd vs ccs file tf, K.lookup cda = some ⟨ccl, cdd, .fields vs, ccs⟩ ∧ vs[2]? = some (.str file tf) ∧ ((P.main.file : Str) == file) = true
  cell : ∃ cl cld csl, K.lookup cc = some ⟨cl, cld, .cell (some (.ref C)), csl⟩
  sub : mroIn K C (.ref C) = some true
  sup : mg "super" = none
  top : (P.main.scope.names.lookup ("super" : Str)).isSome = false
  ks : scope.names.lookup ("super" : Str) = some .globalImplicit
  kc : scope.names.lookup ("__class__" : Str) = some .free
  ka : ∀ y ∈ (("self" : Str) :: fs), scope.names.lookup y = some .local ∧ (y == ("__debug__" : Str)) = false
  nc : ∀ y ∈ scope.names, y.2 ≠ .cell
  k1 : scope.kind = .function
  k2 : scope.isCoroutine = false
  k3 : scope.isGenerator = false
  tak : ∀ f ∈ fs, takerIn K C f = some none
  nd : (("self" : Str) :: fs).Nodup

section
variable {P : Program} {w : World} {A : Around} {E : Value → Shared → Prop} {K : Frag} {mg : Str → Option Value} {C fI cda cc L e t : Addr} {fs : List Str} {body : List Stmt} {fd : FuncData} {qual : Str} {scope : Scope} {B newId initId : String} {bmB : List Value} {g : Heap} {s : Shared} {m : Str → Option Value} {us : List Value} {p0 p1 p2 p4 p5 p6 p7 p8 p9 : Pos}

theorem ev_meth {o : Expr} {name : Str} {apos pos : Pos} {env : Env} {es : List Expr} (hln : (apos.endLine == pos.line) = true) (hf : methodCallForm (es.length + 0) (backTo pos (starEach es env)) [] = true) :
    eval (.Call (.Attribute o name apos) es [] pos) env = (do
      let ov ← attributeBase o name env (eval o env)
      standAt apos.atName
      let (f, first) ← holding [ov] (getMethod ov name (do return (← importBound o env).getD true))
      callWith pos f first (backTo pos (starEach es env)) []) := by
  have e1 : methodCallPos true o env apos pos = pure pos := by
    unfold methodCallPos
    rw [hln]
    rfl
  have e2 : ∀ ov, methodCall o name apos pos env ov (es.length + 0) (backTo pos (starEach es env)) [] = (do
      let (f, first) ← holding [ov] (getMethod ov name (do return (← importBound o env).getD true))
      callWith pos f first (backTo pos (starEach es env)) []) := fun ov => by
    unfold methodCall
    rw [hf, e1]
    rfl
  show (do
    let ov ← attributeBase o name env (eval o env)
    standAt apos.atName
    methodCall o name apos pos env ov (es.length + 0) (backTo pos (starEach es env)) []) = _
  simp only [e2]
theorem xsup {e0 : Expr} {rest : List Expr} {Q : Flow → Shared → Prop} (T : XCls K C B newId initId bmB) (Y : XFn P K mg C fs body fI fd qual scope cda cc) (hsu : ks_superIn K C C "__init__" = some (some (.builtin initId)))
    (F : Fr g L s.heap m) (X₀ : K.In g) (N : News g L s.heap [(e, excObj C t none .none), (t, excTup us)]) (hself : m "self" = some (.ref e)) (G1 : g.Ns mainGlobals mg) (G2 : ∃ mb, g.Ns builtinsNs mb ∧ ∀ x : Str, x ≠ "__name__" → mb x = bootBuiltins x) (hz : us.length ≤ sizeLine) (hte : t ≠ e)
    (hspl : ∀ (s1 : Shared) (Q1 : List Value → Shared → Prop), s1.heap.Ns L m → Q1 us s1 → wpAny (model P w) A (spliced (backTo p4 (starEach (e0 :: rest) (ksEnv qual scope L fI (.ref cda) cc)))) Q1 E s1)
    (h : ∀ t' h' tk, Fr g L h' m → h'.get? e = some (excObj C t' none .none) → Q .next { s with heap := h', toks := tk })
    (hs : swapsWith (.Call (.Attribute (.Call (.Name "super" p0) [] [] p1) "__init__" p2) (e0 :: rest) [] p4) none p5.line (ksEnv qual scope L fI (.ref cda) cc) = pure false := by rfl)
    (hln : (p2.endLine == p4.line) = true) (hmf : methodCallForm ((e0 :: rest).length + 0) (backTo p4 (starEach (e0 :: rest) (ksEnv qual scope L fI (.ref cda) cc))) [] = true := by rfl)
    (he : starEach (e0 :: rest) (ksEnv qual scope L fI (.ref cda) cc) = (false, eval e0 (ksEnv qual scope L fI (.ref cda) cc)) :: starEach rest (ksEnv qual scope L fI (.ref cda) cc) := by rfl) (hpl : (backTo p4 (starEach rest (ksEnv qual scope L fI (.ref cda) cc))).any (·.1) = false := by rfl) :
    _root_.PySem.wpAt (model P w) A (.func body (ksEnv qual scope L fI (.ref cda) cc)) (exec (xSuper (e0 :: rest) p0 p1 p2 p4 p5) (ksEnv qual scope L fI (.ref cda) cc)) Q E s := by
  obtain ⟨ar, hp, har⟩ := Y.hp
  obtain ⟨oc, od, osl, lk, loc⟩ := Y.lk
  obtain ⟨ccl, cdd, vs, ccs, file, tf, hcode, hvs, hfile⟩ := Y.code
  obtain ⟨cl, cld, csl, hcell⟩ := Y.cell
  obtain ⟨cdD, hcD, hdD⟩ := any_some T.hh
  have X : K.In s.heap := X₀.keeps F.keep
  obtain ⟨mb, G2, G3⟩ := G2
  refine ks_wpAt_Expr_any (ks_wpAt_MethodCall ?_ (ev_meth hln hmf)) (by simp [interactive, Y.k1]) hs
  have I : InstAt s.heap e (excObj C t none .none) C none := ⟨(N (e, excObj C t none .none) (by simp)).1, rfl, rfl, trivial⟩
  obtain ⟨hh, gg, d, tk, os⟩ := s
  obtain ⟨oD, hD1, hD2⟩ : ∃ oD, hh.get? C = some oD ∧ oD.data = .cls cdD := by
    unfold clsIn at hcD
    split at hcD
    · rename_i c d cd' sl ho
      cases hcD
      exact ⟨_, X _ _ ho, rfl⟩
    · cases hcD
  refine ks_wpAt_super_base (env := ksEnv qual scope L fI (.ref cda) cc) (ar := ar) Y.ks Y.kc (by decide) rfl (X _ _ lk) rfl hp rfl (X _ _ hcode) rfl hvs hfile Y.top ?_
  refine ks_loadName_global Y.k1 Y.ks (loadGlobal_builtin (env := ksEnv qual scope L fI (.ref cda) cc) (G1.keeps F.keep) Y.sup (G2.keeps F.keep) ((G3 _ (by decide +kernel)).trans (by first | boot_by_name | rfl | kernel_rfl)) ⟨rfl, ?_⟩)
  refine wpAny_loadName_free Y.k1 Y.kc rfl ⟨_, X _ _ hcell, rfl⟩ ?_
  rw [har]
  refine wpAny_loadName_local Y.k1 (Y.ka _ (by simp)).1 F.ns hself ?_
  refine ks_wpAny_isType_cls hD1 hD2 ⟨rfl, ?_⟩
  refine ks_wpAny_call_super hD1 hD2 I.at_ I.cls (fun c z => by cases z) (looks_mroIn X Y.sub) (fun h' z k => ?_)
  obtain ⟨F1, N1, l1⟩ := ks_newsPush (s := ⟨hh, gg, d, tk, os⟩) F N rfl z k
  have I1 : InstAt h' e (excObj C t none .none) C none := ⟨(N1 (e, excObj C t none .none) (by simp)).1, rfl, rfl, trivial⟩
  refine kxs_method T.KF F1 X₀ N1 (by simp) I1 T.opq hsu T.hB (by decide) (fun q h2 F2 N2 l2 => ?_)
  refine kxs_callWith1 (i := initId) (x := e) (u := q) N2 (by simp) ?_ he hpl
  refine hspl _ _ F2.ns ⟨kxs_at N2 (by simp), ?_⟩
  refine kxs_call (s := ⟨h2, gg, d, tk + 1, os⟩) F2 X₀ N2 T.FB T.q (by simp) (dv := none) (c2 := .none) (t := t) (x := e) (nw := fun o => [(q, kxs_mw initId e), (hh.objs.size, ks_superObj C e C), (e, o), (t, excTup us)]) ?_ hz (fun t' h3 F3 N3 l3 => ?_)
  · have a1 : e < hh.objs.size := l1 (e, excObj C t none .none) (by simp)
    have a2 : e < q := l2 (e, excObj C t none .none) (by simp)
    exact .tail (Nat.ne_of_gt a2) (.tail (Nat.ne_of_gt a1) (.head (fun p hp => by
      rw [List.mem_singleton.mp hp]
      exact hte)))
  · exact h t' h3 _ F3 (N3 (e, excObj C t' none .none) (by simp)).1

/-- from the call of the class to its __init__'s body -/
theorem xmk_of {fs : List Str} {body : List Stmt} (T : XCls K C B newId initId bmB) (Y : XFn P K mg C fs body fI fd qual scope cda cc)
    (hbody : ∀ (A : Around) (E : Value → Shared → Prop) (g : Heap) (L e t : Addr) (us : List Value) (s : Shared) (Q : Shared → Prop), us.length = fs.length → us.length ≤ sizeLine → t ≠ e → e < L →
      Fr g L s.heap (fun y => ((("self" : Str) :: fs).zip (Value.ref e :: us)).reverse.lookup y) → K.In g → News g L s.heap [(e, excObj C t none .none), (t, excTup us)] → g.Ns mainGlobals mg → (∃ mb, g.Ns builtinsNs mb ∧ ∀ x : Str, x ≠ "__name__" → mb x = bootBuiltins x) →
      (∀ t' h' tk dx m, (∀ b o, g.get? b = some o → h'.get? b = some o) → h'.get? e = some (excObj C t' (some dx) .none) → g.get? dx = none → dx ≠ e → h'.Ns1 dx m → (∀ y, m y = (fs.zip us).lookup y) → Q { s with heap := h', toks := tk }) →
      _root_.PySem.wpAt (model P w) A (.func body (ksEnv qual scope L fI (.ref cda) cc)) (execs body (ksEnv qual scope L fI (.ref cda) cc)) (fun fl s' => fl = .next ∧ Q s') E s) (hfs : fs.length ≤ 100) : XMk P w K mg C fs := ⟨by
  intro A s us Q E hd X hg hb hl hu h
  obtain ⟨nm, N', qn, bs, bm, hdct, sn, sub, ab, col, dd, k0, k1, k2, k3, k5, hC, hT⟩ := excInit_of X T.q
  obtain ⟨oc, od, osl, lk, loc⟩ := Y.lk
  have hz : us.length ≤ sizeLine := by rw [hu, sizeLine_eq]; omega
  obtain ⟨hh, g, d, tk, os⟩ := s
  have kk : ∀ b o, hh.get? b = some o → ((hh.push (PySem.W.kdv_tup us)).push (excObj C hh.objs.size none .none)).get? b = some o := fun b o z => Heap.get?_push_of_some _ (Heap.get?_push_of_some _ z)
  have hge : ((hh.push (PySem.W.kdv_tup us)).push (excObj C hh.objs.size none .none)).get? (hh.objs.size + 1) = some (excObj C hh.objs.size none .none) := by heap_get
  have hgt : ((hh.push (PySem.W.kdv_tup us)).push (excObj C hh.objs.size none .none)).get? hh.objs.size = some (excTup us) := by
    refine Heap.get?_push_of_some _ ?_
    exact Heap.get?_push_at rfl rfl
  have X2 : K.In ((hh.push (PySem.W.kdv_tup us)).push (excObj C hh.objs.size none .none)) := X.keeps kk
  have hsz : ((hh.push (PySem.W.kdv_tup us)).push (excObj C hh.objs.size none .none)).objs.size = hh.objs.size + 2 := by rw [Heap.size_push, Heap.size_push]
  have hne : hh.get? (hh.objs.size + 1) = none := Heap.get?_none_of_le (Nat.le_succ _)
  have hnt : hh.get? hh.objs.size = none := Heap.get?_none_of_le (Nat.le_refl _)
  refine wpAny_call (PX.call_own T.FB hT hC (looks_findIn X Y.hi) (fun self => exc_bind (X _ _ lk) loc self) hz ?_)
  refine ks_codeAny_call_defAt (fd := fd) (body := body) (binds := ((("self" : Str) :: fs).zip (Value.ref (hh.objs.size + 1) :: us))) ?_ (X2 _ _ lk) rfl (hl.keeps kk) (by rw [Y.fd3, Y.fd4]; exact codeRec_of X2 Y.hcd) Y.fd1 (Y.hbind _ _ us hu) (by rw [Y.fd2]; exact Y.nc) (fun y hy => ?_) (fun h₁ hns hk₁ => ?_) (by rw [Y.fd2]; exact Y.k2) (by rw [Y.fd2]; exact Y.k3) (by rw [Y.fd2]; exact Y.k1)
  · rw [L2.make_depth]; exact hd
  · rw [Y.fd2]
    exact (Y.ka _ (List.of_mem_zip hy).1).1
  rw [Y.env]
  have gk : ∀ b o, hh.get? b = some o → (hideAll ((hh.push (PySem.W.kdv_tup us)).push (excObj C hh.objs.size none .none)) [hh.objs.size + 1, hh.objs.size]).get? b = some o := fun b o z => hideAll_get _ (kk b o z) (fun hm => by
    rcases List.mem_cons.mp hm with q | q
    · rw [q, hne] at z; cases z
    · rw [List.mem_singleton.mp q, hnt] at z; cases z)
  obtain ⟨mb, hb1, hb2⟩ := hb
  refine ks_wpAt_mono (hbody _ _ (hideAll ((hh.push (PySem.W.kdv_tup us)).push (excObj C hh.objs.size none .none)) [hh.objs.size + 1, hh.objs.size]) _ (hh.objs.size + 1) hh.objs.size us _ (fun s' => Q (.ref (hh.objs.size + 1)) s') hu hz (Nat.ne_of_lt (Nat.lt_succ_self _)) (by show hh.objs.size + 1 < ((hh.push (PySem.W.kdv_tup us)).push (excObj C hh.objs.size none .none)).objs.size; rw [hsz]; exact Nat.lt_succ_self _)
    ⟨hns, fun b o z => hk₁ b o (of_hideAll _ z), Nat.le_of_eq (hideAll_size _ _)⟩ (X.keeps gk) (fun p hp => ?_) (hg.keeps gk) ⟨mb, hb1.keeps gk, hb2⟩ (fun t' h' tk' dx m k e1 e2 e3 e6 e7 => ?_)) (fun fl s' z => ?_) fun _ _ z => z
  · rcases List.mem_cons.mp hp with rfl | hp
    · exact ⟨hk₁ _ _ hge, Nat.ne_of_lt (Heap.lt_size hge), hideAll_none _ (by simp)⟩
    · rw [List.mem_singleton.mp hp]
      exact ⟨hk₁ _ _ hgt, Nat.ne_of_lt (Heap.lt_size hgt), hideAll_none _ (by simp)⟩
  · refine h (hh.objs.size + 1) (some dx) h' tk' ⟨fun b o z => k b o (gk b o z), hne, ⟨t', e1⟩, ?_, e3, m, e6, e7⟩
    cases q : hh.get? dx with
    | none => rfl
    | some o =>
      have := gk _ _ q
      rw [e2] at this
      cases this
  · obtain ⟨rfl, z⟩ := z
    exact ⟨rfl, z⟩⟩
theorem ld_arg {x : Str} {v : Value} {p : Pos} {Q : Value → Shared → Prop} (k1 : scope.kind = .function) (kl : scope.names.lookup x = some .local) (hd : (x == ("__debug__" : Str)) = false) (hn : s.heap.Ns L m) (hv : m x = some v) (h : Q v s) : wpAny (model P w) A (eval (.Name x p) (ksEnv qual scope L fI (.ref cda) cc)) Q E s :=
  wpAny_Name (wpAny_loadName_local k1 kl hn hv h) hd
theorem xmk1 {x : Str} {p3 : Pos} (hln : (p2.endLine == p4.line) = true) (T : XCls K C B newId initId bmB) (hsu : ks_superIn K C C "__init__" = some (some (.builtin initId))) (Y : XFn P K mg C [x] [xSuper [.Name x p3] p0 p1 p2 p4 p5, xStore x p6 p7 p8 p9] fI fd qual scope cda cc) : XMk P w K mg C [x] :=
  xmk_of T Y (by
    intro A E g L e t us s Q hu hz hte heL F X₀ N G1 G2 h
    obtain ⟨u, rfl⟩ : ∃ u, us = [u] := List.length_eq_one_iff.mp hu
    have nsx : (x == ("self" : Str)) = false := by
      have := Y.nd
      rw [List.nodup_cons] at this
      rw [beq_eq_false_iff_ne]
      exact fun z => this.1 (z ▸ List.mem_singleton.mpr rfl)
    have hself : (fun y => ((("self" : Str) :: [x]).zip (Value.ref e :: [u])).reverse.lookup y) "self" = some (.ref e) := by
      show List.lookup ("self" : Str) [(x, u), ("self", Value.ref e)] = _
      rw [List.lookup_cons]
      have : (("self" : Str) == x) = false := by
        rw [beq_eq_false_iff_ne] at nsx ⊢
        exact fun z => nsx z.symm
      rw [this]
      rfl
    have hx : (fun y => ((("self" : Str) :: [x]).zip (Value.ref e :: [u])).reverse.lookup y) x = some u := by
      show List.lookup x [(x, u), ("self", Value.ref e)] = _
      rw [List.lookup_cons, beq_self_eq_true]
    have kx := Y.ka x (by simp)
    have ks := Y.ka "self" (by simp)
    refine ks_wpAt_execs_cons (xsup T Y hsu F X₀ N hself G1 G2 hz hte (fun s1 Q1 n1 q1 => spliced_cons (ld_arg Y.k1 kx.1 kx.2 n1 hx (spliced_nil q1))) (fun t' h' tk F1 e1 => ?_) rfl hln)
    refine ks_wpAt_execs_cons (wpAt_of_wpAny ?_)
    refine plainObj_wpAny_Assign_Attribute (ld_arg Y.k1 kx.1 kx.2 F1.ns hx (ld_arg Y.k1 ks.1 ks.2 F1.ns hself ?_)) rfl
    obtain ⟨hh, gg, d, tk0, os⟩ := s
    refine xset0 T (X₀.keeps F1.keep) e1 (Y.tak x (by simp)) (fun h2 tk2 dx k2 l2 n2 e2 m2 => ?_)
    have nd : ∀ b o, h'.get? b = some o → b ≠ dx := fun b o z y => by
      rw [y] at z
      exact absurd (Heap.lt_size z) (Nat.not_lt.mpr l2)
    refine wpAt_of_wpAny (wpAny_execs_nil ⟨rfl, h t' h2 tk2 dx _ (fun b o z => ?_) e2 ?_ n2 m2 ?_⟩)
    · refine k2 b o (fun y => ?_) (F1.keep b o z)
      have := (N (e, excObj C t none .none) (by simp)).2.2
      rw [y, this] at z
      cases z
    · cases q : g.get? dx with
      | none => rfl
      | some o => exact absurd rfl (nd _ _ (F1.keep _ _ q))
    · intro y
      show _ = List.lookup y [(x, u)]
      rw [List.lookup_cons]
      by_cases hy : y = x
      · rw [if_pos hy, hy, beq_self_eq_true]
      · rw [if_neg hy, beq_eq_false_iff_ne.mpr hy]
        rfl) (by simp)
theorem xmk2 {x y : Str} {p3 q3 q6 q7 q8 q9 : Pos} (hln : (p2.endLine == p4.line) = true) (T : XCls K C B newId initId bmB) (hsu : ks_superIn K C C "__init__" = some (some (.builtin initId))) (Y : XFn P K mg C [x, y] [xSuper [.Name x p3, .Name y q3] p0 p1 p2 p4 p5, xStore x p6 p7 p8 p9, xStore y q6 q7 q8 q9] fI fd qual scope cda cc) : XMk P w K mg C [x, y] :=
  xmk_of T Y (by
    intro A E g L e t us s Q hu hz hte heL F X₀ N G1 G2 h
    obtain ⟨u, v, rfl⟩ : ∃ u v, us = [u, v] := by
      match us, hu with
      | [u, v], _ => exact ⟨u, v, rfl⟩
    obtain ⟨n1, n2, n3⟩ : (("self" : Str) ≠ x ∧ ("self" : Str) ≠ y) ∧ x ≠ y ∧ True := by
      have := Y.nd
      simp only [List.nodup_cons, List.mem_cons, List.not_mem_nil, or_false, not_or] at this
      exact ⟨this.1, this.2.1, trivial⟩
    have hself : (fun z => ((("self" : Str) :: [x, y]).zip (Value.ref e :: [u, v])).reverse.lookup z) "self" = some (.ref e) := by
      show List.lookup ("self" : Str) [(y, v), (x, u), ("self", Value.ref e)] = _
      rw [List.lookup_cons, beq_eq_false_iff_ne.mpr n1.2]
      show List.lookup ("self" : Str) [(x, u), ("self", Value.ref e)] = _
      rw [List.lookup_cons, beq_eq_false_iff_ne.mpr n1.1]
      rfl
    have hx : (fun z => ((("self" : Str) :: [x, y]).zip (Value.ref e :: [u, v])).reverse.lookup z) x = some u := by
      show List.lookup x [(y, v), (x, u), ("self", Value.ref e)] = _
      rw [List.lookup_cons, beq_eq_false_iff_ne.mpr n2]
      show List.lookup x [(x, u), ("self", Value.ref e)] = _
      rw [List.lookup_cons, beq_self_eq_true]
    have hy : (fun z => ((("self" : Str) :: [x, y]).zip (Value.ref e :: [u, v])).reverse.lookup z) y = some v := by
      show List.lookup y [(y, v), (x, u), ("self", Value.ref e)] = _
      rw [List.lookup_cons, beq_self_eq_true]
    have kx := Y.ka x (by simp)
    have ky := Y.ka y (by simp)
    have ks := Y.ka "self" (by simp)
    refine ks_wpAt_execs_cons (xsup T Y hsu F X₀ N hself G1 G2 hz hte (fun s1 Q1 n1 q1 => spliced_cons (ld_arg Y.k1 kx.1 kx.2 n1 hx (spliced_cons (ld_arg Y.k1 ky.1 ky.2 n1 hy (spliced_nil q1))))) (fun t' h' tk F1 e1 => ?_) rfl hln)
    refine ks_wpAt_execs_cons (wpAt_of_wpAny ?_)
    refine plainObj_wpAny_Assign_Attribute (ld_arg Y.k1 kx.1 kx.2 F1.ns hx (ld_arg Y.k1 ks.1 ks.2 F1.ns hself ?_)) rfl
    obtain ⟨hh, gg, d, tk0, os⟩ := s
    refine xset0 T (X₀.keeps F1.keep) e1 (Y.tak x (by simp)) (fun h2 tk2 dx k2 l2 ne2 e2 m2 => ?_)
    have nd : ∀ b o, h'.get? b = some o → b ≠ dx := fun b o z y => by
      rw [y] at z
      exact absurd (Heap.lt_size z) (Nat.not_lt.mpr l2)
    have gdx : g.get? dx = none := by
      cases q : g.get? dx with
      | none => rfl
      | some o => exact absurd rfl (nd _ _ (F1.keep _ _ q))
    have kg2 : ∀ b o, g.get? b = some o → h2.get? b = some o := fun b o z => by
      refine k2 b o (fun y => ?_) (F1.keep b o z)
      have := (N (e, excObj C t none .none) (by simp)).2.2
      rw [y, this] at z
      cases z
    have neL : L ≠ e := Nat.ne_of_gt heL
    obtain ⟨oL, esL, epL, hL, rL⟩ := id F1.ns
    have ns2 : h2.Ns L _ := ⟨oL, esL, epL, k2 _ _ neL hL, rL⟩
    have neLd : L ≠ dx := nd _ _ hL
    refine ks_wpAt_execs_cons (wpAt_of_wpAny ?_)
    refine plainObj_wpAny_Assign_Attribute (ld_arg Y.k1 ky.1 ky.2 ns2 hy (ld_arg Y.k1 ks.1 ks.2 ns2 hself ?_)) rfl
    refine xset1 T (X₀.keeps kg2) e2 m2 (nl := [x]) (fun z hz' => ?_) (by simp) (Y.tak y (by simp)) (fun h3 tk3 k3 m3 => ?_)
    · by_cases hzx : z = x
      · rw [hzx]; simp
      · rw [if_neg hzx] at hz'
        exact absurd rfl hz'
    refine wpAt_of_wpAny (wpAny_execs_nil ⟨rfl, h t' h3 tk3 dx _ (fun b o z => ?_) (k3 _ _ (fun z => ne2 z.symm) e2) gdx ne2 m3 ?_⟩)
    · refine k3 b o (fun y => ?_) (kg2 b o z)
      rw [y, gdx] at z
      cases z
    · intro z
      show _ = List.lookup z [(x, u), (y, v)]
      rw [List.lookup_cons]
      by_cases hzx : z = x
      · subst hzx
        rw [beq_self_eq_true]
        show (if z = y then _ else _) = _
        rw [if_neg n2, if_pos rfl]
      · rw [beq_eq_false_iff_ne.mpr hzx]
        show (if z = y then _ else (if z = x then _ else none)) = List.lookup z [(y, v)]
        rw [if_neg hzx, List.lookup_cons]
        by_cases hzy : z = y
        · rw [if_pos hzy, hzy, beq_self_eq_true]
        · rw [if_neg hzy, beq_eq_false_iff_ne.mpr hzy]
          rfl) (by simp)
end
end DLX
/-! DL23: own exceptions as values, raised; their fields; isinstance of them. -/
namespace DL
open PySem PySem.Spec PyProof.Rows L2 DLX L2H
section
variable {X : Cx} {pins : List (Addr × Obj)} {σ : L2.St} {H H' : Hp} {s : Shared}
/-- new objects, some of them tracked -/
theorem inv_grow {G : Heap} {t' : Nat} (I : Inv X pins σ H s) (k : ∀ b o, s.heap.get? b = some o → G.get? b = some o) (hs : ∀ b o, H b = some o → H' b = some o)
    (hn : ∀ b o, H' b = some o → H b = some o ∨ (s.heap.get? b = none ∧ ObjOk X.prog X.w H' G b o)) : Inv X pins σ H' { s with heap := G, toks := t' } := by
  refine I.un (t' := t') ⟨fun b o q _ _ _ => k b o q, fun b o q _ _ _ => ⟨o.slots, k b o q⟩, fun b o q n _ => ?_, fun b o q _ => ⟨o, k b o q⟩, fun b xs q => hs _ _ q, fun b o v q => hs _ _ q, fun b ps q => ⟨#[], by rw [hs _ _ q]; simp⟩⟩ fun b o q => ?_
  · cases e : H' b with
    | none => rfl
    | some u =>
      rcases hn b u e with z | ⟨z, _⟩
      · rw [n] at z; cases z
      · rw [q] at z; cases z
  · rcases hn b o q with z | ⟨_, z⟩
    · exact (I.hok b o z).stay (fun c v _ z => k c v z) (fun c hc => hs _ _ hc) (fun c xs hc => hs _ _ hc)
    · exact z
theorem exT_ok {P : Program} {w : World} {H : Hp} {h : Heap} {e C t : Addr} {dd : Option Addr} (he : h.get? e = some (PySem.W.excObj C t dd .none)) : ObjOk P w H h e (exT e C dd) :=
  ⟨⟨_, he, rfl, rfl, _, rfl, rfl⟩, ⟨_, he⟩, fun h1 h2 z k => by
    obtain ⟨oe, z1, z2⟩ := z
    exact ⟨oe, k _ z1, z2⟩⟩
theorem relO_zip : ∀ {fs : List Str} {vs : List V} {us : List Value}, Vals vs us → ∀ f, RelO ((fs.zip vs).lookup f) ((fs.zip us).lookup f)
  | [], _, _, _, _ => True.intro
  | _ :: _, _, _, .nil, _ => True.intro
  | g :: fs, _, _, .cons (a := v) (b := u) r t, f => by
    rw [List.zip_cons_cons, List.zip_cons_cons, List.lookup_cons, List.lookup_cons]
    cases hb : f == g with
    | true => exact r
    | false => exact relO_zip t f
theorem xd_ok {P : Program} {w : World} {H : Hp} {h : Heap} {dx : Addr} {fs : List Str} {vs : List V} {us : List Value} {m : Str → Option Value} (hn : h.Ns1 dx m) (hm : ∀ y, m y = (fs.zip us).lookup y) (r : Vals vs us) : ObjOk P w H h dx (.xd (fs.zip vs)) :=
  ⟨m, hn, fun f => by rw [hm]; exact relO_zip r f⟩
/-- a new exception, tracked with its dict -/
def hpX (H : Hp) (e C : Addr) (dd : Option Addr) (fs : List Str) (vs : List V) : Hp := match dd with
  | none => upd H e (exT e C none)
  | some dx => upd (upd H dx (.xd (fs.zip vs))) e (exT e C (some dx))
theorem inv_exc {C e : Addr} {dd : Option Addr} {fs : List Str} {us : List Value} {vs : List V} {h' : Heap} {t' : Nat} (I : Inv X pins σ H s) (N : XNew C fs us s.heap h' e dd) (r : Vals vs us) : Inv X pins σ (hpX H e C dd fs vs) { s with heap := h', toks := t' } := by
  obtain ⟨k, ne, ⟨t, he⟩, hd⟩ := N
  have hne : H e = none := I.hok.gone ne
  cases dd with
  | none =>
    refine inv_grow I k (fun b o q => ?_) fun b o q => ?_
    · show upd H e (exT e C none) b = some o
      rw [upd_ne (ne_of_none q hne)]
      exact q
    · have q : upd H e (exT e C none) b = some o := q
      by_cases hb : b = e
      · subst hb
        rw [upd_same] at q
        cases q
        exact .inr ⟨ne, exT_ok he⟩
      · rw [upd_ne hb] at q
        exact .inl q
  | some dx =>
    obtain ⟨nd, nde, m, hm, hl⟩ := hd
    have hnd : H dx = none := I.hok.gone nd
    have hnd' : upd H dx (.xd (fs.zip vs)) e = none := by rw [upd_ne (fun z => nde z.symm)]; exact hne
    refine inv_grow I k (fun b o q => ?_) fun b o q => ?_
    · show upd (upd H dx (.xd (fs.zip vs))) e (exT e C (some dx)) b = some o
      rw [upd_ne (ne_of_none q hne), upd_ne (ne_of_none q hnd)]
      exact q
    · have q : upd (upd H dx (.xd (fs.zip vs))) e (exT e C (some dx)) b = some o := q
      by_cases hb : b = e
      · subst hb
        rw [upd_same] at q
        cases q
        exact .inr ⟨ne, exT_ok he⟩
      · rw [upd_ne hb] at q
        by_cases hb2 : b = dx
        · subst hb2
          rw [upd_same] at q
          cases q
          exact .inr ⟨nd, xd_ok hm hl r⟩
        · rw [upd_ne hb2] at q
          exact .inl q
/-- the same let go: its dict alone is tracked -/
def hpR (H : Hp) (dd : Option Addr) (fs : List Str) (vs : List V) : Hp := match dd with
  | none => H
  | some dx => upd H dx (.xd (fs.zip vs))
theorem mkp_exc {C e : Addr} {dd : Option Addr} {fs : List Str} {us : List Value} {vs : List V} {h' : Heap} {t' : Nat} {Q : XK} (rs : Raises X (.ref C)) (I : Inv X pins σ H s) (N : XNew C fs us s.heap h' e dd) (r : Vals vs us) (q : Q (.ref C) dd (hpR H dd fs vs)) :
    L2N.MkP X pins σ Q (.ref e) { s with heap := h', toks := t' } := by
  obtain ⟨k, ne, ⟨t, he⟩, hd⟩ := N
  have hne : H e = none := I.hok.gone ne
  obtain ⟨G, g1, g2⟩ := restrict h' fun b => decide (b ≠ e)
  have gk : ∀ b, b ≠ e → G.get? b = h'.get? b := fun b hb => g1 b (decide_eq_true hb)
  have ge : G.get? e = none := g2 e (by simp)
  have kG : ∀ b o, s.heap.get? b = some o → G.get? b = some o := fun b o z => by
    rw [gk b (fun y => by rw [y, ne] at z; cases z)]
    exact k b o z
  have Gk : ∀ b o, G.get? b = some o → h'.get? b = some o := fun b o z => by
    by_cases hb : b = e
    · rw [hb, ge] at z; cases z
    · rw [← gk b hb]; exact z
  have fin : ∀ {H' : Hp}, H' = hpR H dd fs vs → Inv X pins σ H' { s with heap := G, toks := t' } → H' e = none → L2N.MkP X pins σ Q (.ref e) { s with heap := h', toks := t' } := fun {H'} eH J na =>
    ⟨e, _, _, { s with heap := G, toks := t' }, H', .ref C, dd, rfl, J, Gk, ge, he, ⟨rfl, rfl, fun vs z => by cases z; rfl⟩, rfl, rfl, na, rfl, I.bare, rs, eH ▸ q⟩
  cases dd with
  | none => exact fin rfl (inv_grow I kG (fun _ _ z => z) fun _ _ z => .inl z) hne
  | some dx =>
    obtain ⟨nd, nde, m, hm, hl⟩ := hd
    have hnd : H dx = none := I.hok.gone nd
    refine fin rfl (inv_grow I kG (fun b o z => ?_) fun b o z => ?_) ?_
    · show upd H dx (.xd (fs.zip vs)) b = some o
      rw [upd_ne (ne_of_none z hnd)]
      exact z
    · have z : upd H dx (.xd (fs.zip vs)) b = some o := z
      by_cases hb : b = dx
      · subst hb
        rw [upd_same] at z
        cases z
        exact .inr ⟨nd, xd_ok (hm.at fun o y => by rw [gk _ nde]; exact y) hl r⟩
      · rw [upd_ne hb] at z
        exact .inl z
    · show upd H dx (.xd (fs.zip vs)) e = none
      rw [upd_ne (fun z => nde z.symm)]
      exact hne
end
def ddN (H : Hp) (fs : List Str) (e : Addr) : Option Addr → Prop
  | none => fs = []
  | some dx => H dx = none ∧ dx ≠ e
def ddR (H : Hp) (fs : List Str) : Option Addr → Prop
  | none => fs = []
  | some dx => H dx = none
/-- an exception class that can be made by position -/
structure XMaker (P : Program) (w : World) (K : PySem.W.Frag) (mg : Str → Option Value) (CA : Nat → Addr) (x : Str) (c : Nat) (fs : List Str) : Prop where
  mks : XMk P w K mg (CA c) fs
  at_ : mg x = some (.ref (CA c))
  kp : PySem.W.keepIn K (.ref (CA c)) = true
  exC : PySem.W.subIn K (.ref (CA c)) (.type "BaseException") = some true
  tyC : PySem.W.typeIn K (.ref (CA c)) = some (.type "type")
def wExc (c : Nat) (fs : List Str) (ta : wL) : wE := fun env h Q E => ta env h (fun ds h1 => ds.length = fs.length ∧ Q (.exc c fs ds) h1) E
def wRaise (c : Nat) (fs : List Str) (ta : wL) : wS := fun D env h => ta env h (fun ds h1 => ds.length = fs.length ∧ D.ex ⟨.own c, fs, ds⟩ env h1) (fun x h1 => D.ex x env h1)
section
variable {X : Cx} {CA : Nat → Addr} {pos : Pos}
theorem exc_go {K : PySem.W.Frag} {ρ : List Addr} {F H : Hp} {h : Hs} {c : Nat} {fs : List Str} {ds : List D} {vs : List V} {e : Addr} {dd : Option Addr} {Qd : PQ} {Q : VK} (G : GRel K CA ρ F h H) (R : Reps K CA ρ F ds vs) (hl : ds.length = fs.length) (hq : Qd (.exc c fs ds) h) (gq : Go K CA ρ F H Qd Q)
    (he : H e = none) (hd : ddN H fs e dd) : Q (.ref e) (hpX H e (CA c) dd fs vs) := by
  cases dd with
  | none =>
    have hd : fs = [] := hd
    subst hd
    have ed : ds = [] := List.length_eq_zero_iff.mp hl
    subst ed
    obtain ⟨G2, X2⟩ := G.frozen he (exT e (CA c) none)
    exact gq _ h ρ _ (.ref e) _ hq X2 G2 ⟨e, none, rfl, upd_same, .inl ⟨rfl, rfl, rfl⟩⟩
  | some dx =>
    obtain ⟨hd1, hd2⟩ := hd
    obtain ⟨G1, X1⟩ := G.frozen hd1 (.xd (fs.zip vs))
    obtain ⟨G2, X2⟩ := G1.frozen (a := e) (by rw [upd_ne (fun z => hd2 z.symm)]; exact he) (exT e (CA c) (some dx))
    exact gq _ h ρ _ (.ref e) _ hq (X1.trans X2) G2 ⟨e, some dx, rfl, upd_same, .inr ⟨dx, vs, rfl, by rw [upd_ne hd2]; exact upd_same, hl.symm, (R.ext X1).ext X2⟩⟩
theorem excR_go {K : PySem.W.Frag} {ρ : List Addr} {F H : Hp} {h : Hs} {c : Nat} {fs : List Str} {ds : List D} {vs : List V} {dd : Option Addr} {Ed : PX} {E : XK} (G : GRel K CA ρ F h H) (R : Reps K CA ρ F ds vs) (hl : ds.length = fs.length) (hq : Ed ⟨.own c, fs, ds⟩ h) (gx : GoX K CA ρ F H Ed E)
    (hd : ddR H fs dd) : E (.ref (CA c)) dd (hpR H dd fs vs) := by
  cases dd with
  | none =>
    have hd : fs = [] := hd
    subst hd
    have ed : ds = [] := List.length_eq_zero_iff.mp hl
    subst ed
    exact gx _ h ρ F H _ none hq (Ext.refl G) G ⟨rfl, .inl ⟨rfl, rfl, rfl⟩⟩
  | some dx =>
    have hd : H dx = none := hd
    obtain ⟨G1, X1⟩ := G.frozen hd (.xd (fs.zip vs))
    exact gx _ h ρ _ _ _ (some dx) hq X1 G1 ⟨rfl, .inr ⟨dx, vs, rfl, upd_same, hl.symm, R.ext X1⟩⟩
theorem xnew_free {pins : List (Addr × Obj)} {σ : L2.St} {H : Hp} {s : Shared} {C e : Addr} {dd : Option Addr} {fs : List Str} {us : List Value} {h' : Heap} (I : Inv X pins σ H s) (N : XNew C fs us s.heap h' e dd) : H e = none ∧ ddN H fs e dd := by
  obtain ⟨_, ne, _, hd⟩ := N
  refine ⟨I.hok.gone ne, ?_⟩
  cases dd with
  | none => exact hd
  | some dx => exact ⟨I.hok.gone hd.1, hd.2.1⟩
theorem run_exc {fs : List Str} {C : Addr} {pins : List (Addr × Obj)} {σ : L2.St} {H : Hp} {s : Shared} {us : List Value} {k : Nat} {Q : Value → Shared → Prop} (M : XMk X.prog X.w X.K X.mg C fs) (hr : RoomH k X.A) (I : Inv X pins σ H s) (hu : us.length = fs.length)
    (h : ∀ e dd h' tk, XNew C fs us s.heap h' e dd → Q (.ref e) { s with heap := h', toks := tk }) : wpAny (model X.prog X.w) X.A (call (.ref C) us) Q X.xe s := by
  obtain ⟨mb, b1, b2⟩ := I.mod.blt
  exact M.run X.A s us Q X.xe (by have := hr.dp; omega) I.kIn (I.mod.glob.keeps I.bk) ⟨mb, b1.keeps I.bk, b2⟩ I.nolimit hu h
theorem se_exc {k c : Nat} {x : Str} {fs : List Str} {p : Pos} {e : Expr} {es : List Expr} {t : wL} (M : XMaker X.prog X.w X.K X.mg CA x c fs) (hr : RoomH k X.A) (ha : SA X CA (e :: es) t) (hg : Gl X x := by rfl) (hdb : (x == ("__debug__" : Str)) = false := by decide)
    (he : starEach (e :: es) X.env = (false, eval e X.env) :: starEach es X.env := by rfl) (hpl : (backTo pos (starEach es X.env)).any (·.1) = false := by rfl) :
    SE X CA (.Call (.Name x p) (e :: es) [] pos) (wExc c fs t) := ⟨fun W tk => by
  refine ⟨fun pins s σ H Q I hw => ?_⟩
  refine wpAny_Call_Name_kw (ld_glob I hg M.at_ ?_ hdb)
  obtain ⟨ρ, F, env, h, Qd, Ed, G, E, w, gq, gx⟩ := hw
  refine PySem.W.callWith_K (h₀ := X.base) I.ok.mod.kin M.kp (thn ((ha.run W tk).run pos pins s σ H (fun vs H1 => vs.length = fs.length ∧ ∀ e dd, H1 e = none → ddN H1 fs e dd → Q (.ref e) (hpX H1 e (CA c) dd fs vs)) I ⟨ρ, F, env, h, _, Ed, G, E, w, ?_, gx⟩) fun us s1 ⟨vs, H1, I1, r, hl, q⟩ => ⟨I1.kIn, ?_⟩) he hpl
  · rintro as h1 ρ1 F1 vs H1 ⟨hl, hq⟩ X1 G1 R1
    exact ⟨by rw [← R1.length]; exact hl, fun e dd h1 h2 => exc_go G1 R1 hl hq (gq.on X1) h1 h2⟩
  · refine run_exc M.mks hr I1 (r.length.symm.trans hl) fun e dd h' tk N => ?_
    obtain ⟨f1, f2⟩ := xnew_free I1 N
    exact ⟨V.ref e, _, inv_exc I1 N r, rfl, q e dd f1 f2⟩⟩
theorem se_exc0 {k c : Nat} {x : Str} {p : Pos} (M : XMaker X.prog X.w X.K X.mg CA x c []) (hr : RoomH k X.A) (hg : Gl X x := by rfl) (hdb : (x == ("__debug__" : Str)) = false := by decide) :
    SE X CA (.Call (.Name x p) [] [] pos) (wExc c [] wNil) := ⟨fun W tk => by
  refine ⟨fun pins s σ H Q I hw => ?_⟩
  refine wpAny_Call_Name_kw (ld_glob I hg M.at_ ?_ hdb)
  obtain ⟨ρ, F, env, h, Qd, Ed, G, E, w, gq, gx⟩ := hw
  refine PySem.W.callWith_K0 I.kIn M.kp (run_exc M.mks hr I rfl fun e dd h' tk N => ?_)
  obtain ⟨f1, f2⟩ := xnew_free I N
  exact ⟨V.ref e, _, inv_exc I N .nil, rfl, exc_go G Reps.nil rfl w.2 gq f1 f2⟩⟩
theorem pmk_exc {k c : Nat} {x : Str} {fs : List Str} {p : Pos} {e : Expr} {es : List Expr} {t : TA} (M : XMaker X.prog X.w X.K X.mg CA x c fs) (hr : RoomH k X.A) (ha : PA X (e :: es) t) (hg : Gl X x := by rfl) (hdb : (x == ("__debug__" : Str)) = false := by decide)
    (he : starEach (e :: es) X.env = (false, eval e X.env) :: starEach es X.env := by rfl) (hpl : (backTo pos (starEach es X.env)).any (·.1) = false := by rfl) :
    L2N.PMk X (.Call (.Name x p) (e :: es) [] pos) (fun σ H Q => t σ H fun vs H1 => vs.length = fs.length ∧ ∀ dd, ddR H1 fs dd → Q (.ref (CA c)) dd (hpR H1 dd fs vs)) := by
  intro pins s σ H Q I hw
  refine wpAny_Call_Name_kw (ld_glob I hg M.at_ ?_ hdb)
  refine PySem.W.callWith_K (h₀ := X.base) I.ok.mod.kin M.kp (thn (ha.run pos pins s σ H _ I hw) fun us s1 ⟨vs, H1, I1, r, hl, q⟩ => ⟨I1.kIn, ?_⟩) he hpl
  refine run_exc M.mks hr I1 (r.length.symm.trans hl) fun e dd h' tk N => ?_
  obtain ⟨f1, f2⟩ := xnew_free I1 N
  refine mkp_exc (raises_own M.exC M.tyC) I1 N r (q dd ?_)
  cases dd with
  | none => exact f2
  | some dx => exact f2.1
theorem pmk_exc0 {k c : Nat} {x : Str} {p : Pos} (M : XMaker X.prog X.w X.K X.mg CA x c []) (hr : RoomH k X.A) (hg : Gl X x := by rfl) (hdb : (x == ("__debug__" : Str)) = false := by decide) :
    L2N.PMk X (.Call (.Name x p) [] [] pos) (fun σ H Q => ∀ dd, ddR H [] dd → Q (.ref (CA c)) dd (hpR H dd [] [])) := by
  intro pins s σ H Q I q
  refine wpAny_Call_Name_kw (ld_glob I hg M.at_ ?_ hdb)
  refine PySem.W.callWith_K0 I.kIn M.kp (run_exc M.mks hr I rfl fun e dd h' tk N => ?_)
  obtain ⟨f1, f2⟩ := xnew_free I N
  refine mkp_exc (raises_own M.exC M.tyC) I N .nil (q dd ?_)
  cases dd with
  | none => exact f2
  | some dx => exact f2.1
theorem ss_raise {k c : Nat} {x : Str} {fs : List Str} {p pos' : Pos} {e : Expr} {es : List Expr} {t : wL} (M : XMaker X.prog X.w X.K X.mg CA x c fs) (hr : RoomH k X.A) (ha : SA X CA (e :: es) t) (hc : X.calm = true := by rfl) (hg : Gl X x := by rfl) (hdb : (x == ("__debug__" : Str)) = false := by decide)
    (he : starEach (e :: es) X.env = (false, eval e X.env) :: starEach es X.env := by rfl) (hpl : (backTo pos (starEach es X.env)).any (·.1) = false := by rfl) :
    SS X CA (.Raise (some (.Call (.Name x p) (e :: es) [] pos)) none pos') (wRaise c fs t) := ⟨fun W tk => PS.of (L2N.ps_raise hc tk (pmk_exc M hr (ha.run W tk) hg hdb he hpl)) (by
  rintro D σ H ⟨ρ, F, env, h, Dd, G, E, w, g⟩
  refine ⟨ρ, F, env, h, _, _, G, E, w, ?_, g.ex.at E⟩
  rintro ds h1 ρ1 F1 vs H1 ⟨hl, hq⟩ X1 G1 R1
  exact ⟨by rw [← R1.length]; exact hl, fun dd hd => excR_go (Ed := fun x h1 => Dd.ex x env h1) (E := WE W σ) G1 R1 hl hq ((g.ex.on X1).at (E.ext X1)) hd⟩)⟩
theorem ss_raise0 {k c : Nat} {x : Str} {p pos' : Pos} (M : XMaker X.prog X.w X.K X.mg CA x c []) (hr : RoomH k X.A) (hc : X.calm = true := by rfl) (hg : Gl X x := by rfl) (hdb : (x == ("__debug__" : Str)) = false := by decide) :
    SS X CA (.Raise (some (.Call (.Name x p) [] [] pos)) none pos') (wRaise c [] wNil) := ⟨fun W tk => PS.of (L2N.ps_raise hc tk (pmk_exc0 M hr hg hdb)) (by
  rintro D σ H ⟨ρ, F, env, h, Dd, G, E, w, g⟩
  exact fun dd hd => excR_go (Ed := fun x h1 => Dd.ex x env h1) (E := WE W σ) G Reps.nil rfl w.2 (g.ex.at E) hd)⟩
end
end DL
/-! DL24: fields and isinstance of own exceptions; a pair taken apart where an exception is handled. -/
namespace HotX
open PySem PySem.Spec PyProof.Rows
section
variable {prog : Program} {w : World} {A : Around} {E : Value → Shared → Prop} {s : Shared}
theorem pyNext_tuple_end_hot {it t x1 : Addr} {i : Nat} {items} {Q : Option Value → Shared → Prop} (hot : HotAt A x1 s.heap) (hx1 : x1 ≠ it)
    (hit : s.heap.IsTupleIter it t i) (ht : s.heap.IsTuple t items) (hx : items[i]? = none)
    (hQ : ∀ h', Heap.ExtBut it s.heap h' → Q none { s with heap := h' }) : wpAny (model prog w) A (pyNext (.ref it)) Q E s := by
  obtain ⟨hh, o1, vs1, h1, d1, c1⟩ := hot
  obtain ⟨o, ho, hc, hd⟩ := id hit
  obtain ⟨ol, hol, _, nl, hdl⟩ := ht
  unfold pyNext
  refine wpAny_bind (wpAny_attempt (wpAny_callSpecial?_slot (name := Str.ofString "__next__") hit.typeIs F.slot_tuple_iterator_next
    (wpAny_call_entry F.slot_tuple_iterator_next hit.typeIs F.entry_tuple_iterator_next ?_ (F.args_tuple_iterator_next_1 _))))
  show wpAny _ _ (field (.ref it) 0 >>= _) _ _ s
  refine wpAny_bind (wpAny_field ho hd (x := .ref t) rfl ?_)
  show wpAny _ _ (if (Value.ref t == Value.none) = true then _ else _) _ _ s
  rw [if_neg (show ¬ ((Value.ref t == Value.none) = true) from Bool.false_ne_true)]
  show wpAny _ _ (field (.ref it) 1 >>= _) _ _ s
  refine wpAny_bind (wpAny_field ho hd (x := .int i 0) rfl ?_)
  show wpAny _ _ (seqItems? (.ref t) >>= _) _ _ s
  refine wpAny_bind (wpAny_seqItems hol hdl ?_)
  simp only [Int.toNat_natCast, hx]
  refine wpAny_bind (wpAny_rule (wpAny_bind (wpAny_setField ho hd (by simp) ?_)))
  show wpAny _ _ (newExc (.type "StopIteration") [] >>= _) _ _ _
  refine wpAny_bind ?_
  simp only [newExc, newTuple]
  refine wpAny_bind (wpAny_newObj_type ?_ (by size_fits))
  refine wpAny_bind (m := firstArgMember _ _) (wpAny_of_eq (a := Value.none) (by first | rfl | (simp only [firstArgMember]; rfl)) ?_)
  refine wpAny_newObj_type ?_ (by size_fits)
  have h1' : (s.heap.update it (Obj.mapFields (·.setIfInBounds 0 Value.none))).get? x1 = some o1 := by
    rw [Heap.get?_update_other _ _ (Ne.symm hx1)]; exact h1
  refine raiseNew_hot ⟨hh, o1, vs1, Heap.get?_push_of_some _ (Heap.get?_push_of_some _ h1'), d1, c1⟩ (Nat.ne_of_lt (Heap.lt_size (Heap.get?_push_of_some _ h1'))) (Heap.get?_push_size _ rfl) rfl (by first | (simp; done) | (simp; omega) | (simp only [Array.size_append]; simp; omega)) ?_
  refine wpAny_bind (wpAny_isInstance (T := "StopIteration") (b := true) ⟨_, Heap.get?_update_self _ (Heap.get?_push_size _ rfl) rfl, rfl⟩ isSubtype_stop ?_)
  refine wpAny_pure (hQ _ fun b o hb e => ?_)
  have e' : (s.heap.update it (Obj.mapFields (·.setIfInBounds 0 Value.none))).get? b = some o := by
    rw [Heap.get?_update_other _ _ (Ne.symm hb)]; exact e
  rw [Heap.get?_update_other _ _ (Nat.ne_of_gt (Heap.lt_size (Heap.get?_push_of_some _ e')))]
  exact Heap.get?_push_of_some _ (Heap.get?_push_of_some _ e')
theorem unpackItems_tuple_hot {t x1 : Addr} {items : Array Value} {Q : List Value → Shared → Prop} (hot : HotAt A x1 s.heap) (ht : s.heap.IsTuple t items)
    (hQ : ∀ h', Heap.ExtBut s.heap.objs.size s.heap h' → Q items.toList { s with heap := h' }) : wpAny (model prog w) A (unpackItems (.ref t) items.size none) Q E s := by
  obtain ⟨hh, o1, vs1, h1, d1, c1⟩ := hot
  have hlt : t ≠ s.heap.objs.size := by obtain ⟨o, ho, _⟩ := ht; exact Nat.ne_of_lt (Heap.lt_size ho)
  have hl1 : x1 ≠ s.heap.objs.size := Nat.ne_of_lt (Heap.lt_size h1)
  unfold unpackItems
  refine wpAny_bind ?_
  · unfold notIterableAtAll
    refine wpAny_bind (wpAny_specialOf ht.typeIs F.slot_tuple_iter.lookup ?_)
    refine wpAny_pure ?_
    simp only [Bool.false_eq_true, if_false]
    refine wpAny_bind (wpAny_holding (wpAny_pyIter_tuple ht ?_))
    refine wpAny_bind (wpAny_holding (wpAny_draw_tuple hlt items.size 0 _ _ ⟨_, Heap.get?_push_size _ rfl, rfl, rfl⟩ (ht.push _) (by omega) fun h₁ hit₁ hs₁ => ?_))
    have hall : List.take items.size (List.drop 0 items.toList) = items.toList := by
      rw [List.drop_zero]; exact List.take_of_length_le (by simp)
    rw [hall]
    rw [if_neg (by simp)]
    have ht₁ : h₁.IsTuple t items := (ht.push _).extBut hs₁.extBut hlt
    have hx₁ : h₁.get? x1 = some o1 := (hs₁.2 x1 hl1).trans (Heap.get?_push_of_some _ h1)
    refine wpAny_bind (wpAny_holding (pyNext_tuple_end_hot (x1 := x1) ⟨hh, o1, vs1, hx₁, d1, c1⟩ hl1 hit₁ ht₁ (by simp) fun h₂ he₂ => ?_))
    simp only [Option.isSome_none, Bool.false_eq_true, if_false]
    refine wpAny_pure (hQ h₂ fun b o hb e => he₂ b o hb (hs₁.extBut b o hb (Heap.get?_push_of_some _ e)))
end
end HotX
namespace DL
open PySem PySem.Spec PyProof.Rows L2 DLX L2H
/-- a, b = x, y where an exception is handled -/
theorem ps_parH {X : Cx} {i j : Nat} {x y : Str} {a b : Expr} {ta : TA} {px py pt : Pos} {kt k2 pt2} {pos : Pos} (hc : HotC X) (hN : X.N.Nodup) (hi : X.N[i]? = some x) (hj : X.N[j]? = some y) (hij : i ≠ j)
    (hx : X.env.scope.names.lookup x = some .local) (hy : X.env.scope.names.lookup y = some .local) (ha : PA X [a, b] ta)
    (hw : swappedStores [.Tuple [.Name x px, .Name y py] kt pt] (.Tuple [a, b] k2 pt2) X.env = pure (some [x, y]))
    (hs : swapsWithSole [.Tuple [.Name x px, .Name y py] kt pt] (.Tuple [a, b] k2 pt2) pos.line X.env = pure false := by rfl) :
    PS X (.Assign [.Tuple [.Name x px, .Name y py] kt pt] (.Tuple [a, b] k2 pt2) pos) (tPar i j ta) := by
  refine ⟨fun pins s σ H D I h => ?_⟩
  rw [exec_Assign_arm]
  refine wpAny_bind (wpAny_standAt ?_)
  rw [hs]
  refine wpAny_bind (wpAny_pure ?_)
  rw [if_neg (by decide)]
  refine wpAny_bind (Tuple_ (thn (ha.run _ pins s σ H _ I h) fun us s1 ⟨vs, H1, I1, r1, q1⟩ => ?_))
  obtain ⟨v, w, e1, q1⟩ := q1
  subst e1
  obtain ⟨u1, u2, rfl, rv, rw'⟩ : ∃ u1 u2, us = [u1, u2] ∧ RelV v u1 ∧ RelV w u2 := by
    cases r1 with
    | cons p q =>
      cases q with
      | cons p' q' =>
        cases q'
        exact ⟨_, _, rfl, p, p'⟩
  refine wpAny_newObj_type ?_ (by show 2 ≤ sizeLine; decide)
  have I2 : Inv X pins σ H1 { s1 with heap := s1.heap.push { cls := .type "tuple", data := .seq [u1, u2].toArray } } := I1.kept (t' := s1.toks) fun b o e => Heap.get?_push_of_some _ e
  rw [hw]
  refine wpAny_bind (wpAny_pure ?_)
  show wpAny (model X.prog X.w) X.A (do rule "assign.swapped-stores"; let items ← unpackItems (.ref s1.heap.objs.size) 2 none; assignInOrder [fun v => bindName X.env y v, fun v => bindName X.env x v] items.reverse; pure Flow.next) _ _ _
  obtain ⟨x1, hot⟩ := hc.at I2
  refine wpAny_bind (wpAny_rule (wpAny_bind (HotX.unpackItems_tuple_hot (items := #[u1, u2]) (x1 := x1) hot ⟨_, Heap.get?_push_size _ rfl, rfl, _, rfl⟩ fun h' hx' => ?_)))
  have I3 := I2.kept (h' := h') (t' := s1.toks) fun b o e => hx' b o (Nat.ne_of_lt (Heap.lt_size e)) e
  show wpAny _ _ (assignInOrder [fun v => bindName X.env y v, fun v => bindName X.env x v] [u2, u1] >>= fun _ => pure Flow.next) _ _ _
  refine wpAny_bind (assignInOrder_cons (wpAny_bindName (store_ok I3 hN hj (.inl hy) rw' (fun s2 I4 => ?_) (.inr hy))))
  refine assignInOrder_cons (wpAny_bindName (store_ok I4 hN hi (.inl hx) rv (fun s3 I5 => assignInOrder_nil (wpAny_pure ?_)) (.inr hx)))
  rw [List.set_comm _ _ (Ne.symm hij)] at I5
  exact ⟨_, H1, I5, q1⟩

/-! ### fields, isinstance -/
/-- what is asked of an exception class of one's own -/
structure XcD (K : PySem.W.Frag) (CA : Nat → Addr) (c : Nat) : Prop where
  ga : PySem.W.findIn K (.ref (CA c)) "__getattribute__" = some (some (.builtin "BaseException.__getattribute__"))
  gg : PySem.W.findIn K (.ref (CA c)) "__getattr__" = some none
  exC : PySem.W.subIn K (.ref (CA c)) (.type "BaseException") = some true
  hd : PySem.W.hasDictIn K (CA c) = true
  ha : PySem.W.findIn K (.ref (CA c)) "__class__" = some (some (.builtin "object.__class__"))
  hn : PySem.W.specialIn K (.builtin "object.__class__") "__get__" = some (some (.builtin "getset_descriptor.__get__"))
  htk : PySem.W.takesIn K (.builtin "object.__class__") = some true
  hm : PySem.W.mroIn K (CA c) (.type "object") = some true
theorem exc_rep {K : PySem.W.Frag} {CA : Nat → Addr} {ρ : List Addr} {F H : Hp} {h : Hs} {v : V} {c : Nat} {ns : List Str} {ds : List D} (G : GRel K CA ρ F h H) (r : Rep K CA ρ F (.exc c ns ds) v) :
    ∃ a dd, v = .ref a ∧ H a = some (exT a (CA c) dd) ∧ ((dd = none ∧ ns = [] ∧ ds = []) ∨ ∃ d xs, dd = some d ∧ H d = some (.xd (ns.zip xs)) ∧ ns.length = ds.length ∧ Reps K CA ρ F ds xs) := by
  obtain ⟨a, dd, rfl, q, r⟩ := r
  refine ⟨a, dd, rfl, G.sub _ _ q, ?_⟩
  rcases r with r | ⟨d, xs, e1, e2, l, r⟩
  · exact .inl r
  · exact .inr ⟨d, xs, e1, G.sub _ _ e2, l, r⟩
/-- the exception's object, its dict -/
theorem exc_inst {X : Cx} {pins : List (Addr × Obj)} {σ : L2.St} {H : Hp} {s : Shared} {a C : Addr} {dd : Option Addr} (I : Inv X pins σ H s) (ha : H a = some (exT a C dd)) (hd : dd = none ∨ ∃ d fs, dd = some d ∧ H d = some (.xd fs)) :
    ∃ oe od, PySem.W.InstAt s.heap a oe C od ∧ ∀ d fs, dd = some d → H d = some (.xd fs) → ∃ (o : Obj) (m : Str → Option Value), od = some o ∧ (∀ name, PySem.W.lookIn name o = some (m name)) ∧ ∀ f, RelO (fs.lookup f) (m f) := by
  have q : ObjOk X.prog X.w H s.heap a (.ext fun h => ∃ oe, h.get? a = some oe ∧ oe.cls = .ref C ∧ oe.dict = dd ∧ ∃ vs, oe.data = .fields vs ∧ vs[2]? = some .none) := I.hok a _ ha
  obtain ⟨⟨oe, e1, e2, e3, vs, e4, _⟩, _⟩ := q
  have hno : PySem.W.notCls oe = true := by unfold PySem.W.notCls; rw [e4] <;> rfl
  rcases hd with rfl | ⟨d, fs, rfl, hx⟩
  · exact ⟨oe, none, ⟨e1, e2, hno, by rw [e3]; trivial⟩, fun d fs z => by cases z⟩
  · have z : ObjOk X.prog X.w H s.heap d (.xd fs) := I.hok d _ hx
    obtain ⟨mA, hns, hr⟩ := z
    obtain ⟨od, ho, hl⟩ := lookIn_ns hns
    refine ⟨oe, some od, ⟨e1, e2, hno, by rw [e3]; exact ho⟩, fun d' fs' y1 y2 => ?_⟩
    cases y1
    rw [hx] at y2
    cases y2
    exact ⟨od, mA, rfl, hl, hr⟩
/-- e.f, e an exception of one's own -/
def wXf (cs : List Nat) (f : Str) (te : wE) : wE := fun env h Q E => te env h (fun d h1 => match d with
  | .exc c ns ds => c ∈ cs ∧ (match (ns.zip ds).lookup f with
    | some x => Q x h1
    | none => False)
  | _ => False) E
/-- isinstance(e, C), e an exception of one's own -/
def wIsx (sub : List (Nat × Bool)) (te : wE) : wE := fun env h Q E => te env h (fun d h1 => match d with
  | .exc c _ _ => (match sub.lookup c with
    | some b => Q (.bl b) h1
    | none => False)
  | _ => False) E
def isxF (d2 : D) (sub : List (Nat × Bool)) : fL := fun xs h Q => match xs with
  | [.exc c _ _, d] => d = d2 ∧ (match sub.lookup c with
    | some b => Q (.bl b) h
    | none => False)
  | _ => False
structure SubX (K : PySem.W.Frag) (CA : Nat → Addr) (cv : Value) (sub : List (Nat × Bool)) : Prop where
  own : ∀ c b, sub.lookup c = some b → XcD K CA c ∧ PySem.W.kitOne K (.ref (CA c)) cv = some b
def rIsx (K : PySem.W.Frag) (CA : Nat → Addr) (cv : Value) : List V → Hp → VK → Prop := fun xs H Q => ∃ (a : Addr) (c : Nat) (dd : Option Addr) (t : V) (b : Bool), xs = [.ref a, t] ∧ (∀ u, RelV t u → u = cv) ∧ H a = some (exT a (CA c) dd) ∧ (dd = none ∨ ∃ d fs, dd = some d ∧ H d = some (.xd fs)) ∧ XcD K CA c ∧ PySem.W.kitOne K (.ref (CA c)) cv = some b ∧ Q (.bl b) H
theorem call_isx {X : Cx} {CA : Nat → Addr} {cv : Value} : CallR X (.builtin "isinstance") (rIsx X.K CA cv) := by
  intro pins s σ H xs us Q I r h
  obtain ⟨a, c, dd, t, b, rfl, hcv, ha, hd, T, e, q⟩ := h
  cases r with
  | cons rx rr =>
    cases rr with
    | cons rt rr =>
      cases rr
      cases rx
      have ec := hcv _ rt
      subst ec
      obtain ⟨oe, od, J, _⟩ := exc_inst I ha hd
      obtain ⟨cd, hc, _⟩ := PySem.W.any_some T.hd
      exact PySem.W.kia_one (PySem.W.kitx_exc (by rw [hc]; rfl) T.ga T.gg T.exC T.ha T.hn T.htk T.hm) I.kIn J e (fun z => nomatch z) fun tk => ⟨.bl b, H, I.kept (t' := tk) fun _ _ z => z, rfl, q⟩
theorem ld_isx {K : PySem.W.Frag} {CA : Nat → Addr} {d2 : D} {cv : Value} {sub : List (Nat × Bool)} (S : SubX K CA cv sub) (h2 : ∀ ρ F v, Rep K CA ρ F d2 v → ∀ u, RelV v u → u = cv) : LiD K CA (isxF d2 sub) (rIsx K CA cv) := by
  intro ρ F h H xs vs Qd Q G R w g
  unfold isxF at w
  split at w
  · rename_i c ns ds d
    obtain ⟨v, v2, rfl, R1, R2⟩ := two_rep R
    obtain ⟨rfl, w⟩ := w
    split at w
    · rename_i b e2
      obtain ⟨cd, k⟩ := S.own c b e2
      obtain ⟨a, dd, rfl, q, r⟩ := exc_rep G R1
      refine ⟨a, c, dd, v2, b, rfl, h2 _ _ _ R2, q, ?_, cd, k, g _ _ _ _ _ _ w (Ext.refl G) G rfl⟩
      rcases r with r | ⟨d, xs, e1, e2, _⟩
      · exact .inl r.1
      · exact .inr ⟨d, _, e1, e2⟩
    · exact w.elim
  · exact w.elim
section
variable {X : Cx} {CA : Nat → Addr} {pos : Pos}
theorem se_isx {d2 : D} {cv : Value} {sub : List (Nat × Bool)} {cn : Str} {p q : Pos} {e : Expr} {te : wE} (S : SubX X.K CA cv sub) (h2 : ∀ ρ F v, Rep X.K CA ρ F d2 v → ∀ u, RelV v u → u = cv) (hm : X.mg "isinstance" = none) (hcls : SE X CA (.Name cn q) (wC d2)) (he : SE X CA e te) (hg : Gl X "isinstance" := by rfl)
    (hst2 : starEach [.Name cn q] X.env = (false, eval (.Name cn q) X.env) :: starEach [] X.env := by rfl) (hst : starEach [e, .Name cn q] X.env = (false, eval e X.env) :: starEach [.Name cn q] X.env := by rfl) (hpl : (backTo pos (starEach [.Name cn q] X.env)).any (·.1) = false := by rfl) :
    SE X CA (.Call (.Name "isinstance" p) [e, .Name cn q] [] pos) (wIsx sub te) := by
  refine SE.imp (se_callB (call_isx (CA := CA) (cv := cv)) (ld_isx S h2) hm (by decide +kernel) (sa_cons he (sa_cons hcls sa_nil hst2) hst) hg (by decide) (by decide) hst hpl) ?_
  intro env h Q E w
  refine cast (congrArg (te env h · E) ?_) w
  funext d h1
  cases d with
  | exc c ns ds => exact propext ⟨fun z => ⟨rfl, z⟩, fun z => z.2⟩
  | _ => rfl
/-- against a class of the program -/
theorem se_isxC {C : Nat} {sub : List (Nat × Bool)} {cn : Str} {p q : Pos} {e : Expr} {te : wE} (S : SubX X.K CA (.ref (CA C)) sub) (hm : X.mg "isinstance" = none) (hc : X.mg cn = some (.ref (CA C))) (he : SE X CA e te) (hg : Gl X "isinstance" := by rfl) (hgc : Gl X cn := by rfl) (hn : (cn == ("__debug__" : Str)) = false := by decide)
    (hst2 : starEach [.Name cn q] X.env = (false, eval (.Name cn q) X.env) :: starEach [] X.env := by rfl) (hst : starEach [e, .Name cn q] X.env = (false, eval e X.env) :: starEach [.Name cn q] X.env := by rfl) (hpl : (backTo pos (starEach [.Name cn q] X.env)).any (·.1) = false := by rfl) :
    SE X CA (.Call (.Name "isinstance" p) [e, .Name cn q] [] pos) (wIsx sub te) :=
  se_isx (d2 := .gl (CA C)) S (fun _ _ v r u ru => by
    cases (show v = .ref (CA C) from r)
    exact ru) hm (se_of (pe_glob (v := V.ref (CA C)) hgc hc rfl hn) fun _ _ => rfl) he hg hst2 hst hpl
/-- against a built-in class -/
theorem se_isxB {T : String} {sub : List (Nat × Bool)} {cn : Str} {p q : Pos} {e : Expr} {te : wE} (S : SubX X.K CA (.type T) sub) (hm : X.mg "isinstance" = none) (hc : X.mg cn = none) (hv : bootBuiltins cn = some (.type T)) (he : SE X CA e te) (hg : Gl X "isinstance" := by rfl) (hgc : Gl X cn := by rfl) (hn : cn ≠ "__name__" := by decide) (hn2 : (cn == ("__debug__" : Str)) = false := by decide)
    (hst2 : starEach [.Name cn q] X.env = (false, eval (.Name cn q) X.env) :: starEach [] X.env := by rfl) (hst : starEach [e, .Name cn q] X.env = (false, eval e X.env) :: starEach [.Name cn q] X.env := by rfl) (hpl : (backTo pos (starEach [.Name cn q] X.env)).any (·.1) = false := by rfl) :
    SE X CA (.Call (.Name "isinstance" p) [e, .Name cn q] [] pos) (wIsx sub te) :=
  se_isx (d2 := .ty T) S (fun _ _ v r u ru => by
    cases (show v = .ty T from r)
    exact ru) hm (se_of (pe_bltn (v := V.ty T) hgc hc hv rfl hn hn2) fun _ _ => rfl) he hg hst2 hst hpl
theorem se_xf {cs : List Nat} {f : Str} {e : Expr} {te : wE} (he : SE X CA e te) (hc : ∀ c ∈ cs, XcD X.K CA c ∧ PySem.W.findIn X.K (.ref (CA c)) f = some none) (hb : attributeBase e f X.env (eval e X.env) = eval e X.env := by rfl) : SE X CA (.Attribute e f pos) (wXf cs f te) := ⟨fun W tk => by
  refine ⟨fun pins s σ H Q I hw => ?_⟩
  obtain ⟨ρ, F, env, h, Qd, Ed, G, E, w, gq, gx⟩ := hw
  refine attr_of hb (thn ((he.run W tk).run pins s σ H (fun x H1 => ∃ (a : Addr) (c : Nat) (d : Addr) (fs : List (Str × V)) (v : V), x = .ref a ∧ c ∈ cs ∧ H1 a = some (exT a (CA c) (some d)) ∧ H1 d = some (.xd fs) ∧ fs.lookup f = some v ∧ Q v H1) I ⟨ρ, F, env, h, _, Ed, G, E, w, ?_, gx⟩) fun u s1 ⟨x, H1, I1, r1, a, c, d, fs, v, ex, hcs, ea, ed, el, q⟩ => ?_)
  · intro d h1 ρ1 F1 v H1 hq X1 G1 R1
    split at hq
    · rename_i c ns ds
      obtain ⟨hm, hq⟩ := hq
      split at hq
      · rename_i x e2
        obtain ⟨a, dd, rfl, z1, z2⟩ := exc_rep G1 R1
        rcases z2 with ⟨_, z, _⟩ | ⟨d, xs, rfl, z3, z4, z5⟩
        · subst z
          cases e2
        · obtain ⟨u, e3, r3⟩ := lookup_rep z5 e2
          exact ⟨a, c, d, _, u, rfl, hm, z1, z3, e3, gq _ _ _ _ _ _ hq X1 G1 r3⟩
      · exact hq.elim
    · exact hq.elim
  · subst ex
    obtain rfl : u = Value.ref a := r1
    obtain ⟨T, hno⟩ := hc c hcs
    obtain ⟨oe, od, J, hJ⟩ := exc_inst I1 ea (.inr ⟨d, fs, rfl, ed⟩)
    obtain ⟨o, m, rfl, hl, hr⟩ := hJ d fs rfl ed
    obtain ⟨u, hu, ru⟩ := RelO.some_of (v := v) (o := m f) (by rw [← el]; exact hr f)
    exact HandSPX.exc_get I1.kIn J T.ga T.gg T.exC (PySem.W.findObj_own T.hd hno rfl (by rw [hl, hu])) (handed_of ru) ⟨v, H1, I1.tok _, ru, q⟩⟩
end
end DL
/-! DL25: try: several clauses, with and without a name, one class or a tuple of them; what is caught becomes a datum. -/
namespace DL
open PySem PySem.Spec PyProof.Rows L2 DLX L2H
section
variable {X : Cx} {pins : List (Addr × Obj)} {σ : L2.St} {H : Hp} {s : Shared}
/-- the exception that a suite holds becomes tracked -/
theorem inv_adopt {a C : Addr} {oe : Obj} {d : Option Addr} {l : List (Addr × Obj)} (I : Inv (X.suite a ((a, oe) :: l)) [] σ H s) (hz : L2N.Zn (.ref C) d oe) (hf : ∃ vs : Array Value, oe.data = .fields vs) (h0 : X.s_0.heap.get? a = none) (hl : ∀ p ∈ l, p.1 ≠ a) :
    Inv (X.suite a l) [] σ (upd H a (exT a C d)) s := by
  obtain ⟨ha, na, nL, nF, nc⟩ := I.pin (a, oe) (by simp)
  obtain ⟨vs, hvs⟩ := hf
  have ne : ∀ {b : Addr} {o : Obj}, X.s_0.heap.get? b = some o → b ≠ a := fun {b o} e z => by
    rw [z, h0] at e
    cases e
  have neT : ∀ {b : Addr} {o : HO}, H b = some o → b ≠ a := fun {b o} e z => by
    rw [z, na] at e
    cases e
  refine ⟨?_, I.os, I.bare, ⟨I.base.keep, I.base.slot, fun b o e n hx => ?_, I.base.there, fun b xs e => ?_, fun b o u e => ?_, fun b ps e => ?_⟩, I.loc, I.cell, ?_, fun x c e => ?_, fun p hp => ?_, fun b o e => ?_, I.len⟩
  · have ok := I.ok
    exact ⟨ok.mod, ok.kind, ok.glob, ok.blt, ok.above, ok.inj, ok.has, ok.cab, ok.hd, ok.frames, ok.stk, ok.exf, ok.bs, ok.bsz, ok.noex, ok.exfs, ok.funs, ok.frf⟩
  · rw [upd_ne (ne e)]
    exact I.base.free b o e n hx
  · rw [upd_ne (neT (I.base.tups b xs e))]
    exact I.base.tups b xs e
  · rw [upd_ne (neT (I.base.frzs b o u e))]
    exact I.base.frzs b o u e
  · obtain ⟨more, z⟩ := I.base.tbls b ps e
    exact ⟨more, by rw [upd_ne (neT z)]; exact z⟩
  · rw [upd_ne (fun z => nL z.symm)]
    exact I.free
  · have hc : c ≠ a := fun z => by
      obtain ⟨v, o, e1, e2⟩ := I.cell x c e
      rw [z, ha] at e1
      cases e1
      exact nc v e2
    rw [upd_ne hc]
    exact I.freeC x c e
  · have hp' : p ∈ l := by rw [List.append_nil] at hp; exact hp
    obtain ⟨p1, p2, p3⟩ := I.pin p (by simp [hp'])
    exact ⟨p1, by rw [upd_ne (hl p hp')]; exact p2, p3⟩
  · by_cases hb : b = a
    · subst hb
      rw [upd_same] at e
      cases e
      refine ⟨⟨oe, ha, hz.1, hz.2.1, vs, hvs, hz.2.2 vs hvs⟩, ⟨oe, ha⟩, fun h1 h2 z k => ?_⟩
      obtain ⟨oe', z1, z2⟩ := z
      exact ⟨oe', k _ z1, z2⟩
    · rw [upd_ne hb] at e
      exact (I.hok b o e).stay (fun c v _ z => z) (fun c hc => by rw [upd_ne (neT hc)]; exact hc) (fun c xs hc => by rw [upd_ne (neT hc)]; exact hc)
theorem unsuite' {a : Addr} {pn' : List (Addr × Obj)} (I : Inv (X.suite a (X.pn ++ pins)) pn' σ H s) (ok : X.Ok) : Inv X pins σ H s :=
  ⟨ok, I.os, I.bare, I.base, I.loc, I.cell, I.free, I.freeC, fun p hp => I.pin p (List.mem_append_left _ hp), I.hok, I.len⟩
end
/-- a class test of an except clause -/
def ClTest (X : Cx) (ty : Expr) (mr : Value → Bool → Prop) : Prop := ∀ (pins : List (Addr × Obj)) (σ : L2.St) (H : Hp) (s : Shared) (a : Addr) (oe : Obj) (cls : Value) (b : Bool) (E : Value → Shared → Prop) (Q : Bool → Shared → Prop),
  Inv (X.suite a ((a, oe) :: (X.pn ++ pins))) [] σ H s → oe.cls = cls → mr cls b → (∀ G tk, (∀ c o, s.heap.get? c = some o → G.get? c = some o) → Q b { s with heap := G, toks := tk }) →
  wpAny (model X.prog X.w) (X.A.mark (some (.ref a))) (eval ty X.env) (fun c s1 => wpAny (model X.prog X.w) (X.A.mark (some (.ref a))) (excMatches (.ref a) c) Q E s1) E s
section
variable {X : Cx}
theorem test_name {X : Cx} {a : Addr} {oe : Obj} {l : List (Addr × Obj)} {σ : L2.St} {H : Hp} {s : Shared} {x : Str} {np : Pos} {c : Value} (hc : Names X x c) (I : Inv (X.suite a ((a, oe) :: l)) [] σ H s) {Q : Value → Shared → Prop} {E : Value → Shared → Prop} (q : Q c s) :
    wpAny (model X.prog X.w) (X.A.mark (some (.ref a))) (eval (.Name x np) X.env) Q E s := by
  obtain ⟨hg, hdbg, hm | ⟨hm, hv, hnn⟩⟩ := hc
  · exact ld_glob (X := X.suite a ((a, oe) :: l)) I hg hm q hdbg
  · exact ld_blt (X := X.suite a ((a, oe) :: l)) I hg hm hv q hnn hdbg
theorem typ_pin {X : Cx} {a : Addr} {oe : Obj} {l : List (Addr × Obj)} {σ : L2.St} {H : Hp} {s : Shared} {cls : Value} (I : Inv (X.suite a ((a, oe) :: l)) [] σ H s) (h : oe.cls = cls) : PySem.W.Looks (model X.prog X.w) s.heap (typeOf (.ref a)) cls := by
  obtain ⟨ha, _⟩ := I.pin (a, oe) (by simp)
  exact fun A Q E s k q => wpAny_typeOf_ref (k _ _ ha) (by rw [h]; exact q)
theorem cl_one {x : Str} {np : Pos} {c : Value} (hc : Names X x c) : ClTest X (.Name x np) (fun cls b => PySem.W.exmOne X.K cls c = some b) := by
  intro pins σ H s a oe cls b E Q I he hb hq
  refine test_name hc I ?_
  refine (PySem.W.exm_one (M := model X.prog X.w) I.kIn (typ_pin I he) hb).here ?_
  exact hq s.heap s.toks fun _ _ z => z
theorem cl_two {x y : Str} {np np2 pos : Pos} {kt} {c1 c2 : Value} (hc : Names X x c1) (hc2 : Names X y c2) : ClTest X (.Tuple [.Name x np, .Name y np2] kt pos) (fun cls b => PySem.W.exmAny X.K cls [c1, c2] = some b) := by
  intro pins σ H s a oe cls b E Q I he hb hq
  refine Tuple_ (Calls.spliced_cons (test_name hc I (Calls.spliced_cons (test_name hc2 I (Calls.spliced_nil ?_)))))
  refine wpAny_newObj_type ?_ (by show 2 ≤ sizeLine; decide)
  have k : ∀ b o, s.heap.get? b = some o → (s.heap.push { cls := .type "tuple", data := .seq [c1, c2].toArray }).get? b = some o := fun b o e => Heap.get?_push_of_some _ e
  refine (PySem.W.exm_tup2 (M := model X.prog X.w) (I.kIn.keeps k) ((typ_pin I he).keeps k) (Heap.get?_push_size _ rfl) hb).here ?_
  exact hq _ s.toks k
theorem cl_three {x y z : Str} {np np2 np3 pos : Pos} {kt} {c1 c2 c3 : Value} (hc : Names X x c1) (hc2 : Names X y c2) (hc3 : Names X z c3) : ClTest X (.Tuple [.Name x np, .Name y np2, .Name z np3] kt pos) (fun cls b => PySem.W.exmAny X.K cls [c1, c2, c3] = some b) := by
  intro pins σ H s a oe cls b E Q I he hb hq
  refine Tuple_ (Calls.spliced_cons (test_name hc I (Calls.spliced_cons (test_name hc2 I (Calls.spliced_cons (test_name hc3 I (Calls.spliced_nil ?_)))))))
  refine wpAny_newObj_type ?_ (by show 3 ≤ sizeLine; decide)
  have k : ∀ b o, s.heap.get? b = some o → (s.heap.push { cls := .type "tuple", data := .seq [c1, c2, c3].toArray }).get? b = some o := fun b o e => Heap.get?_push_of_some _ e
  refine (PySem.W.exm_tup3 (M := model X.prog X.w) (I.kIn.keeps k) ((typ_pin I he).keeps k) (Heap.get?_push_size _ rfl) hb).here ?_
  exact hq _ s.toks k
end

/-- a suite of an except clause: ts tells what it wishes, of the exception's address, class and dict -/
def ClRun (X : Cx) (suite : List Stmt) (ts : Addr → Value → Option Addr → TS) : Prop := ∀ (pins : List (Addr × Obj)) (σ : L2.St) (H : Hp) (s : Shared) (a : Addr) (oe : Obj) (cls : Value) (d : Option Addr) (D : Ends),
  X.Ok → Inv (X.suite a ((a, oe) :: (X.pn ++ pins))) [] σ H s → L2N.Zn cls d oe → (∃ vs : Array Value, oe.data = .fields vs) → X.s_0.heap.get? a = none → (∀ p ∈ X.pn ++ pins, p.1 ≠ a) → H a = none → ts a cls d D σ H →
  wpAny (model X.prog X.w) (X.A.mark (some (.ref a))) (execs suite X.env) (L2.SP X pins D) (fun _ _ => False) s
structure Cl where
  mr : Value → Bool → Prop
  slot : Option Nat
  ts : Addr → Value → Option Addr → TS
def outSlot (D : Ends) : Option Nat → Ends
  | none => D
  | some i => { nx := fun σ' H' => D.nx (σ'.set i none) H', rt := D.rt, bk := fun σ' H' => D.bk (σ'.set i none) H', ct := fun σ' H' => D.ct (σ'.set i none) H' }
def inSlot (σ : L2.St) (a : Addr) : Option Nat → L2.St
  | none => σ
  | some i => σ.set i (some (.ref a))
def wCls (Wout : WX) (D : Ends) : List Cl → WX
  | [] => Wout
  | c :: r => fun cls d σ H => ∃ b, c.mr cls b ∧ (b = true → ∀ a, H a = none → c.ts a cls d (outSlot D c.slot) (inSlot σ a c.slot) H) ∧ (b = false → wCls Wout D r cls d σ H)
inductive HdsD (X : Cx) : List ExceptHandler → List Cl → Prop
  | nil : HdsD X [] []
  | plain {ty : Expr} {c : Cl} {b₀ : Stmt} {suite : List Stmt} {pos' : Pos} {hds : List ExceptHandler} {l : List Cl} (ht : ClTest X ty c.mr) (hs : c.slot = none) (hr : ClRun X (b₀ :: suite) c.ts) (r : HdsD X hds l) : HdsD X (.ExceptHandler (some ty) none (b₀ :: suite) pos' :: hds) (c :: l)
  | named {ty : Expr} {c : Cl} {b₀ : Stmt} {suite : List Stmt} {pos' : Pos} {n : Str} {i : Nat} {hds : List ExceptHandler} {l : List Cl} (ht : ClTest X ty c.mr) (hs : c.slot = some i) (hN : X.N.Nodup) (hi : X.N[i]? = some n) (hln : X.env.kindOf n = some .local) (hr : ClRun X (b₀ :: suite) c.ts) (r : HdsD X hds l) :
      HdsD X (.ExceptHandler (some ty) (some n) (b₀ :: suite) pos' :: hds) (c :: l)
theorem flying_keeps {B h h' : Heap} {l : List PySem.Env} {a : Addr} {Z : Obj → Prop} (x : HandSPX.FlyingZ B l a Z h) (k : ∀ b o, h.get? b = some o → h'.get? b = some o) : HandSPX.FlyingZ B l a Z h' := by
  obtain ⟨k1, k2, k3, oe, vs, T, oT, ts', he, hz, hd, h1, h2, h3, h4, h5, h6⟩ := x
  exact ⟨fun b o e => k b o (k1 b o e), k2, Heap.FunFrames.of_keeps (fun b o e _ => ⟨o, k b o e, rfl⟩) k3, oe, vs, T, oT, ts', k _ _ he, hz, hd, h1, h2, h3, k _ _ h4, h5, h6⟩
section
variable {X : Cx} {body : List Stmt} {h₀ : ExceptHandler} {hds : List ExceptHandler} {l : List Cl} {pos : Pos} {tb : WX → TS} {Wout : WX}
theorem ps_try_gen (hs : X.stack = X.env :: X.outer) (hf : X.env.frame = some X.env.locals) (hex : X.ex = []) (tk : L2N.Takes X Wout)
    (hb : ∀ (W : WX) (pn : List (Addr × Obj)) (xe : Value → Shared → Prop), L2N.Takes (X.tr pn xe) W → PassesOwn (model X.prog X.w) X.A X.env xe → PSs (X.tr pn xe) body (tb W))
    (hh : HdsD X (h₀ :: hds) l) : PS X (.Try body (h₀ :: hds) [] [] pos) (fun D σ H => tb (wCls Wout D l) D σ H) := by
  refine ⟨fun pins s σ H D I h => ?_⟩
  have ok := I.ok
  have hfr : X.A.frames = some (X.env :: X.outer) := by rw [ok.frames, hs]
  refine wpAny_Try_except ?_
  refine wpAny_mono ((hb (wCls Wout D l) (X.pn ++ pins) (fun e s₁ => wpAny (model X.prog X.w) X.A (noteFrame e X.env) (fun _ s₂ => wpAny (model X.prog X.w) X.A (setFlight e none) (fun _ s₃ =>
    wpAny (model X.prog X.w) X.A (handleBy e X.env (h₀ :: hds)) (L2.SP X pins D) X.xe s₃) X.xe s₂) X.xe s₁) (fun u s' xx => ?_) PassesOwn.looking).run [] s σ H D (I.toTry _) h) (fun f s1 hsp => ?_) (fun e s1 he => he)
  · -- the catch
    obtain ⟨a, B, sI, pins', σ', H', cls, d, rfl, J', nb, up, sky, na, os, ag, w⟩ := xx
    have J : Inv X pins σ' H' sI := J'.ofTry ok
    have sky' : Sky B (X.env :: X.outer) a (L2N.Zn cls d) X.env.locals s'.heap := by rw [← hs]; exact sky
    show wpAny (model X.prog X.w) X.A (noteFrame (.ref a) X.env) _ _ _
    refine L2N.Sky.land L2N.Zn.steady hfr hf sky' fun h3 fl3 up3 => ?_
    have notFr : ∀ {h : Heap} {o : Obj} {vs : Array Value}, h.FunFrames B (X.env :: X.outer) → h.get? a = some o → o.data = .fields vs → a ∉ frs (X.env :: X.outer) := fun {h o vs} ff e dd hm => by
      obtain ⟨_, o', e', hnf⟩ := ff.mem hm
      rw [e] at e'; cases e'
      exact hnf _ dd
    obtain ⟨oe3, vs3, he3, hz3, hd3⟩ := fl3.there
    have nfr := notFr fl3.2.2.1 he3 hd3
    have nL : a ≠ X.env.locals := fun z => nfr (List.mem_filterMap.mpr ⟨X.env, List.mem_cons_self, by rw [hf, z]⟩)
    have nF : a ∉ X.fs := fun hm => by
      obtain ⟨e, he, q⟩ := List.mem_filterMap.mp hm
      exact nfr (List.mem_filterMap.mpr ⟨e, List.mem_cons_of_mem _ he, q⟩)
    have sIa : sI.heap.get? a = none := by
      cases q : sI.heap.get? a with
      | none => rfl
      | some o =>
        have := nb a o q (by rw [hs]; exact nfr)
        rw [fl3.2.1] at this
        cases this
    have s0a : X.s_0.heap.get? a = none := by
      cases q : X.s_0.heap.get? a with
      | none => rfl
      | some o =>
        obtain ⟨o', z⟩ := J.base.there a o q (by rw [hex]; exact fun z => nomatch z)
        rw [sIa] at z
        cases z
    have pna : ∀ p ∈ X.pn ++ pins, p.1 ≠ a := fun p hp z => by
      have := (J.pin p hp).1
      rw [z, sIa] at this
      cases this
    have go : ∀ {hds' : List ExceptHandler} {l' : List Cl} {hh3 : Heap} {tk3 : Nat}, HandSPX.FlyingZ B (X.env :: X.outer) a (L2N.Zn cls d) hh3 → s'.heap.UpToSlots hh3 → HdsD X hds' l' → wCls Wout D l' cls d σ' H' →
        wpAny (model X.prog X.w) X.A (handleBy (.ref a) X.env hds') (L2.SP X pins D) X.xe { s' with heap := hh3, toks := tk3 } := by
      intro hds' l' hh3 tk3 fl3 up3 hk
      induction hk generalizing hh3 tk3 with
      | nil =>
        intro w
        refine wpAny_handleBy_nil ?_
        obtain ⟨k1, k2, k3, oe, vs, T, oT, ts', he, hz, hd, h1, hr⟩ := id fl3
        unfold PySem.passOn
        refine wpAny_bind (wpAny_field he hd h1 ?_)
        rw [if_neg (show ¬ ((Value.ref T == Value.none) = true) from by simp)]
        have fin : wpAny (model X.prog X.w) X.A (setFlight (.ref a) X.env.frame) (fun _ s4 => wpAny (model X.prog X.w) X.A (throw (.ref a) : Sem Flow) (L2.SP X pins D) X.xe s4) X.xe { s' with heap := hh3, toks := tk3 } := by
          rw [hf]
          refine HandSPX.setFlight_upZ fl3 fun h4 hh4 up4 => wpAny_throw (tk _ _ ?_)
          exact ⟨a, B, sI, pins, σ', H', cls, d, rfl, J, nb, (up.trans up3).trans up4, .inr (.inr (by rw [hs]; exact hh4)), na, os, ag, w⟩
        first
          | exact wpAny_bind (wpAny_pure (wpAny_bind fin))
          | exact wpAny_bind fin
      | @plain ty c b₀ suite pos' hds2 l2 ht hsl hr r ih =>
        intro w
        obtain ⟨b, hb1, hyes, hno⟩ := w
        obtain ⟨oe3, vs3, he3, hz3, hd3⟩ := fl3.there
        have J3 : Inv X pins σ' H' { s' with heap := hh3, toks := tk3 } := (J.landed (s' := { s' with heap := hh3, toks := tk3 }) nb fl3.1 (up.trans up3) os ag)
        have S3 := J3.suite he3 hd3 na nL nF
        refine wpAny_handleBy_cons (codeAny_handlers_test ?_) (by intro q; cases q)
        refine ht pins σ' H' _ a oe3 cls b _ _ S3 hz3.1 hb1 fun G tk4 kG => ?_
        have fl4 := flying_keeps fl3 kG
        have up4 : s'.heap.UpToSlots G := up3.trans (Heap.UpToSlots.of_keeps kG)
        cases b with
        | true =>
          refine codeAny_handlers_suite ?_
          refine HandSPX.lands_againZ fl4 fun h5 fl5 up5 => ?_
          have J5 : Inv X pins σ' H' { s' with heap := h5, toks := tk4 } := J.landed (s' := { s' with heap := h5, toks := tk4 }) nb fl5.1 ((up.trans up4).trans up5) os ag
          obtain ⟨oe5, vs5, he5, hz5, hd5⟩ := fl5.there
          have S5 := J5.suite he5 hd5 na nL nF
          have hy := hyes rfl a na
          rw [hsl] at hy
          exact wpAny_mono (hr pins σ' H' _ a oe5 cls d D ok S5 hz5 ⟨_, hd5⟩ s0a pna na hy) (fun f s6 hsp => by
            cases f <;> exact hsp) (fun _ _ z => False.elim z)
        | false =>
          show wpAny _ X.A (handleBy (.ref a) X.env hds2) _ _ _
          exact ih fl4 up4 (hno rfl)
      | @named ty c b₀ suite pos' n i hds2 l2 ht hsl hN hi hln hr r ih =>
        intro w
        obtain ⟨b, hb1, hyes, hno⟩ := w
        obtain ⟨oe3, vs3, he3, hz3, hd3⟩ := fl3.there
        have J3 : Inv X pins σ' H' { s' with heap := hh3, toks := tk3 } := (J.landed (s' := { s' with heap := hh3, toks := tk3 }) nb fl3.1 (up.trans up3) os ag)
        have S3 := J3.suite he3 hd3 na nL nF
        refine wpAny_handleBy_cons (codeAny_handlers_test ?_) (by intro q; cases q)
        refine ht pins σ' H' _ a oe3 cls b _ _ S3 hz3.1 hb1 fun G tk4 kG => ?_
        have fl4 := flying_keeps fl3 kG
        have up4 : s'.heap.UpToSlots G := up3.trans (Heap.UpToSlots.of_keeps kG)
        cases b with
        | true =>
          refine codeAny_handlers_suite_as ?_
          refine HandSPX.lands_againZ fl4 fun h5 fl5 up5 => ?_
          have J5 : Inv X pins σ' H' { s' with heap := h5, toks := tk4 } := J.landed (s' := { s' with heap := h5, toks := tk4 }) nb fl5.1 ((up.trans up4).trans up5) os ag
          obtain ⟨oe5, vs5, he5, hz5, hd5⟩ := fl5.there
          have S5 := J5.suite he5 hd5 na nL nF
          have hy := hyes rfl a na
          rw [hsl] at hy
          refine store_ok (X := X.suite a ((a, oe5) :: (X.pn ++ pins))) (v := .ref a) S5 hN hi (.inl hln) rfl (fun s5 S6 => ?_) (.inr hln)
          refine wpAny_mono (hr pins (σ'.set i (some (.ref a))) H' _ a oe5 cls d _ ok S6 hz5 ⟨_, hd5⟩ s0a pna na hy) (fun f s6 hsp => ?_) (fun _ _ z => False.elim z)
          have end_ : ∀ {σ6 : L2.St} {H6 : Hp} {Q : Shared → Prop}, Inv X pins σ6 H6 s6 → (∀ s7, Inv X pins (σ6.set i none) H6 s7 → Q s7) →
              wpAny (model X.prog X.w) X.A (do bindName X.env n .none; unbindBehindTheSuite X.env n pos') (fun _ s7 => Q s7) X.xe s6 := fun {σ6 H6 Q} S6 hq => gone_ok S6 hN hi hln hq
          cases f with
          | next =>
            obtain ⟨σ6, H6, S6, q6⟩ := hsp
            exact end_ S6 fun s7 J7 => ⟨_, _, J7, q6⟩
          | brk =>
            obtain ⟨σ6, H6, S6, q6⟩ := hsp
            exact end_ S6 fun s7 J7 => ⟨_, _, J7, q6⟩
          | cont =>
            obtain ⟨σ6, H6, S6, q6⟩ := hsp
            exact end_ S6 fun s7 J7 => ⟨_, _, J7, q6⟩
          | ret u =>
            obtain ⟨v6, σ6, H6, S6, r6, q6⟩ := hsp
            exact end_ S6 fun s7 J7 => ⟨_, _, _, J7, r6, q6⟩
        | false =>
          show wpAny _ X.A (handleBy (.ref a) X.env hds2) _ _ _
          exact ih fl4 up4 (hno rfl)
    exact go (tk3 := s'.toks) fl3 up3 hh w
  · cases f with
    | next =>
      obtain ⟨σ', H', J', q⟩ := hsp
      exact wpAny_execs_nil ⟨σ', H', J'.ofTry ok, q⟩
    | brk =>
      obtain ⟨σ', H', J', q⟩ := hsp
      exact ⟨σ', H', J'.ofTry ok, q⟩
    | cont =>
      obtain ⟨σ', H', J', q⟩ := hsp
      exact ⟨σ', H', J'.ofTry ok, q⟩
    | ret u =>
      obtain ⟨v, σ', H', J', r, q⟩ := hsp
      exact ⟨v, σ', H', J'.ofTry ok, r, q⟩
end
end DL
/-! DL26: try over data. -/
namespace DL
open PySem PySem.Spec PyProof.Rows L2 DLX L2H
/-- a clause: of which own classes (by number) it is, its name's slot, its suite -/
structure DCl where
  mt : List (Nat × Bool)
  slot : Option Nat
  ts : wS
def dnOut (D : Dn) : Option Nat → Dn
  | none => { D with ex := fun _ _ _ => False }
  | some i => { nx := fun env h => D.nx (env.set i none) h, rt := D.rt, bk := fun env h => D.bk (env.set i none) h, ct := fun env h => D.ct (env.set i none) h, ex := fun _ _ _ => False }
def envIn (env : Env) (d : D) : Option Nat → Env
  | none => env
  | some i => env.set i (some d)
def exCls (D : Dn) : List DCl → Exc → Env → Hs → Prop
  | [] => D.ex
  | c :: r => fun x env h => match x.c with
    | .own n => (match c.mt.lookup n with
      | some true => c.ts (dnOut D c.slot) (envIn env (.exc n x.ns x.ds) c.slot) h
      | some false => exCls D r x env h
      | none => False)
    | .bt _ => False
def wTry (tb : wS) (cs : List DCl) : wS := fun D env h => tb { D with ex := exCls D cs } env h
/-- as e: x, y = e, 'w' -/
def wExPar (i j k : Nat) (w : Str) : wS := fun D env h => onSlot env[i]? fun d => D.nx ((env.set j (some d)).set k (some (.str w))) h
def tsOf (K : PySem.W.Frag) (CA : Nat → Addr) (t : wS) : Addr → Value → Option Addr → TS := fun a cls d D σ H => ∃ C, cls = .ref C ∧ rdS K CA (fun _ _ _ _ => False) t D σ (upd H a (exT a C d))
theorem takesF {X : Cx} : L2N.Takes X (fun _ _ _ _ => False) := fun u s' x => by
  obtain ⟨_, _, _, _, _, _, _, _, _, _, _, _, _, _, _, _, z⟩ := x
  exact z.elim
theorem clrun_adopt {X : Cx} {CA : Nat → Addr} {suite : List Stmt} {t : wS} (hsu : ∀ a pn, SSs (X.suite a pn) CA suite t) : ClRun X suite (tsOf X.K CA t) := by
  rintro pins σ H s a oe cls d D ok I hz hf h0 hpn na ⟨C, rfl, hr⟩
  have J := inv_adopt I hz hf h0 hpn
  refine wpAny_mono (((hsu a (X.pn ++ pins)).run (fun _ _ _ _ => False) takesF).run [] s σ _ D J hr) (fun f s6 hsp => ?_) (fun _ _ z => z)
  cases f with
  | next =>
    obtain ⟨σ6, H6, S6, q6⟩ := hsp
    exact ⟨_, _, unsuite' S6 ok, q6⟩
  | brk =>
    obtain ⟨σ6, H6, S6, q6⟩ := hsp
    exact ⟨_, _, unsuite' S6 ok, q6⟩
  | cont =>
    obtain ⟨σ6, H6, S6, q6⟩ := hsp
    exact ⟨_, _, unsuite' S6 ok, q6⟩
  | ret u =>
    obtain ⟨v6, σ6, H6, S6, r6, q6⟩ := hsp
    exact ⟨_, _, _, unsuite' S6 ok, r6, q6⟩
theorem clrun_par {X : Cx} {CA : Nat → Addr} {i j k : Nat} {n x y w : Str} {jj : Nat} {px py pt pn pw pos : Pos} {kt k2 pt2} (hN : X.N.Nodup) (hn : X.N[i]? = some n) (hi : X.N[j]? = some x) (hj : X.N[k]? = some y) (hij : j ≠ k)
    (hln : X.env.scope.names.lookup n = some .local) (hx : X.env.scope.names.lookup x = some .local) (hy : X.env.scope.names.lookup y = some .local)
    (hd : (n == ("__debug__" : Str)) = false) (hcd : (n == ("__classdict__" : Str)) = false)
    (hst : starEach [.Name n pn, .Constant (.str w) jj pw] X.env = (false, eval (.Name n pn) X.env) :: starEach [.Constant (.str w) jj pw] X.env)
    (hst2 : starEach [.Constant (.str w) jj pw] X.env = (false, eval (.Constant (.str w) jj pw) X.env) :: starEach [] X.env)
    (hw : swappedStores [.Tuple [.Name x px, .Name y py] kt pt] (.Tuple [.Name n pn, .Constant (.str w) jj pw] k2 pt2) X.env = pure (some [x, y]))
    (hs : swapsWithSole [.Tuple [.Name x px, .Name y py] kt pt] (.Tuple [.Name n pn, .Constant (.str w) jj pw] k2 pt2) pos.line X.env = pure false) :
    ClRun X [.Assign [.Tuple [.Name x px, .Name y py] kt pt] (.Tuple [.Name n pn, .Constant (.str w) jj pw] k2 pt2) pos] (tsOf X.K CA (wExPar i j k w)) := by
  rintro pins σ H s a oe cls d D ok I hz hf h0 hpn na ⟨C, rfl, ρ, F, env, h, Dd, G, E, wq, g⟩
  obtain ⟨vs, hvs⟩ := hf
  unfold wExPar onSlot at wq
  split at wq
  · rename_i dd e
    obtain ⟨v, e1, r⟩ := E.2 i dd e
    have hot : HotC (X.suite a ((a, oe) :: (X.pn ++ pins))) := ⟨(a, oe), ⟨rfl, vs, hvs, hz.2.2 vs hvs⟩, List.mem_cons_self⟩
    have ha : PA (X.suite a ((a, oe) :: (X.pn ++ pins))) [.Name n pn, .Constant (.str w) jj pw] _ := pa_cons (pe_var (X := X.suite a ((a, oe) :: (X.pn ++ pins))) hn (.inl hln) hd hcd) (pa_cons pe_str pa_nil hst2) hst
    have st := ps_parH (X := X.suite a ((a, oe) :: (X.pn ++ pins))) (pos := pos) hot hN hi hj hij hx hy ha hw hs
    refine wpAny_execs_cons (wpAny_mono (st.run [] s σ H { nx := fun σ' H' => H' = H ∧ σ' = (σ.set j (some v)).set k (some (.str w)), rt := fun _ _ => False } I ?_) (fun f s6 hsp => ?_) (fun _ _ z => z))
    · exact ⟨v, e1, v, .str w, rfl, rfl, rfl⟩
    · cases f with
      | next =>
        obtain ⟨σ6, H6, S6, rfl, rfl⟩ := hsp
        have J := inv_adopt S6 hz ⟨vs, hvs⟩ h0 hpn
        refine wpAny_execs_nil ⟨_, _, unsuite' J ok, ?_⟩
        exact g.nx _ _ _ _ _ _ wq (Ext.refl G) G ((E.set r j).set (show Rep X.K CA ρ F (.str w) (.str w) from rfl) k)
      | brk => obtain ⟨_, _, _, z⟩ := hsp; exact z.elim
      | cont => obtain ⟨_, _, _, z⟩ := hsp; exact z.elim
      | ret u => obtain ⟨_, _, _, _, _, z⟩ := hsp; exact z.elim
  · exact wq.elim

/-- a clause over data, the same over the state -/
structure ClRel (X : Cx) (CA : Nat → Addr) (c : DCl) (c' : Cl) : Prop where
  slot : c'.slot = c.slot
  ts : c'.ts = tsOf X.K CA c.ts
  mr : ∀ n b, c.mt.lookup n = some b → c'.mr (.ref (CA n)) b
inductive ClsRel (X : Cx) (CA : Nat → Addr) : List DCl → List Cl → Prop
  | nil : ClsRel X CA [] []
  | cons {c : DCl} {c' : Cl} {l : List DCl} {l' : List Cl} : ClRel X CA c c' → ClsRel X CA l l' → ClsRel X CA (c :: l) (c' :: l')
/-- the clauses as they are written -/
inductive DHds (X : Cx) (CA : Nat → Addr) : List ExceptHandler → List DCl → Prop
  | nil : DHds X CA [] []
  | plain {ty : Expr} {mt : List (Nat × Bool)} {t : wS} {mr : Value → Bool → Prop} {b₀ : Stmt} {suite : List Stmt} {pos' : Pos} {hds : List ExceptHandler} {l : List DCl} (ht : ClTest X ty mr) (hm : ∀ n b, mt.lookup n = some b → mr (.ref (CA n)) b)
      (hr : ClRun X (b₀ :: suite) (tsOf X.K CA t)) (r : DHds X CA hds l) : DHds X CA (.ExceptHandler (some ty) none (b₀ :: suite) pos' :: hds) (⟨mt, none, t⟩ :: l)
  | named {ty : Expr} {mt : List (Nat × Bool)} {t : wS} {mr : Value → Bool → Prop} {b₀ : Stmt} {suite : List Stmt} {pos' : Pos} {n : Str} {i : Nat} {hds : List ExceptHandler} {l : List DCl} (ht : ClTest X ty mr) (hm : ∀ n b, mt.lookup n = some b → mr (.ref (CA n)) b)
      (hN : X.N.Nodup) (hi : X.N[i]? = some n) (hln : X.env.kindOf n = some .local) (hr : ClRun X (b₀ :: suite) (tsOf X.K CA t)) (r : DHds X CA hds l) : DHds X CA (.ExceptHandler (some ty) (some n) (b₀ :: suite) pos' :: hds) (⟨mt, some i, t⟩ :: l)
theorem DHds.hds {X : Cx} {CA : Nat → Addr} {hds : List ExceptHandler} {l : List DCl} (h : DHds X CA hds l) : ∃ l', HdsD X hds l' ∧ ClsRel X CA l l' := by
  induction h with
  | nil => exact ⟨[], .nil, .nil⟩
  | @plain ty mt t mr b₀ suite pos' hds l ht hm hr r ih =>
    obtain ⟨l', h1, h2⟩ := ih
    exact ⟨⟨mr, none, tsOf X.K CA t⟩ :: l', .plain ht rfl hr h1, .cons ⟨rfl, rfl, hm⟩ h2⟩
  | @named ty mt t mr b₀ suite pos' n i hds l ht hm hN hi hln hr r ih =>
    obtain ⟨l', h1, h2⟩ := ih
    exact ⟨⟨mr, some i, tsOf X.K CA t⟩ :: l', .named ht rfl hN hi hln hr h1, .cons ⟨rfl, rfl, hm⟩ h2⟩
theorem dnOut_go {K : PySem.W.Frag} {CA : Nat → Addr} {W : WX} {ρ ρ1 : List Addr} {F H F1 H1 : Hp} {Dd : Dn} {D : Ends} (g : GoD K CA W ρ F H Dd D) (x : Ext ρ F H ρ1 F1 H1) : ∀ o : Option Nat, GoD K CA (fun _ _ _ _ => False) ρ1 F1 H1 (dnOut Dd o) (outSlot D o)
  | none => ⟨g.nx.on x, g.rt.on x, g.bk.on x, g.ct.on x, fun _ _ _ _ _ _ _ _ _ z => z.elim⟩
  | some i => by
    have g' := g.on x
    exact ⟨fun env' h' ρ' F' σ' H' q X1 G1 E1 => g'.nx _ h' ρ' F' _ H' q X1 G1 (E1.unset i), g'.rt, fun env' h' ρ' F' σ' H' q X1 G1 E1 => g'.bk _ h' ρ' F' _ H' q X1 G1 (E1.unset i), fun env' h' ρ' F' σ' H' q X1 G1 E1 => g'.ct _ h' ρ' F' _ H' q X1 G1 (E1.unset i), fun _ _ _ _ _ _ _ _ _ z => z.elim⟩
theorem envIn_rel {K : PySem.W.Frag} {CA : Nat → Addr} {ρ : List Addr} {F : Hp} {env : Env} {σ : L2.St} {d : D} {a : Addr} (E : ERel K CA ρ F env σ) (r : Rep K CA ρ F d (.ref a)) : ∀ o : Option Nat, ERel K CA ρ F (envIn env d o) (inSlot σ a o)
  | none => E
  | some i => E.set r i
theorem exCls_go {X : Cx} {CA : Nat → Addr} {W : WX} {ρ : List Addr} {F H : Hp} {Dd : Dn} {D : Ends} (g : GoD X.K CA W ρ F H Dd D) {l : List DCl} {l' : List Cl} (r : ClsRel X CA l l') : GoXS X.K CA ρ F H (exCls Dd l) (wCls W D l') := by
  induction r with
  | nil => exact g.ex
  | @cons c c' l l' rc r ih =>
    intro x env' h' ρ' F' σ' H' cls dd hq Xx G' E' R'
    unfold exCls at hq
    split at hq
    · rename_i n hn
      have ec : cls = .ref (CA n) := by rw [R'.1, hn]; rfl
      split at hq
      · rename_i e
        refine ⟨true, by rw [ec]; exact rc.mr n true e, fun _ a na => ?_, (fun z => nomatch z)⟩
        rw [rc.ts, rc.slot]
        obtain ⟨G2, X2⟩ := G'.frozen na (exT a (CA n) dd)
        have rr : Rep X.K CA ρ' (upd F' a (exT a (CA n) dd)) (.exc n x.ns x.ds) (.ref a) := by
          refine ⟨a, dd, rfl, upd_same, ?_⟩
          rcases R'.2 with z | ⟨d, xs, z1, z2, z3, z4⟩
          · exact .inl z
          · exact .inr ⟨d, xs, z1, X2.sub _ _ z2, z3, z4.ext X2⟩
        exact ⟨CA n, ec, ρ', _, _, h', dnOut Dd c.slot, G2, envIn_rel (E'.ext X2) rr c.slot, hq, dnOut_go g (Xx.trans X2) c.slot⟩
      · rename_i e
        exact ⟨false, by rw [ec]; exact rc.mr n false e, (fun z => nomatch z), fun _ => ih x env' h' ρ' F' σ' H' cls dd hq Xx G' E' R'⟩
      · exact hq.elim
    · exact hq.elim
theorem ss_try {X : Cx} {CA : Nat → Addr} {body : List Stmt} {h₀ : ExceptHandler} {hds : List ExceptHandler} {cs : List DCl} {tb : wS} {pos : Pos} (hb : ∀ (pn : List (Addr × Obj)) (xe : Value → Shared → Prop), PassesOwn (model X.prog X.w) X.A X.env xe → SSs (X.tr pn xe) CA body tb) (hh : DHds X CA (h₀ :: hds) cs)
    (hs : X.stack = X.env :: X.outer := by rfl) (hf : X.env.frame = some X.env.locals := by rfl) (hex : X.ex = [] := by rfl) : SS X CA (.Try body (h₀ :: hds) [] [] pos) (wTry tb cs) := ⟨fun W tk => by
  obtain ⟨l, h1, h2⟩ := hh.hds
  exact PS.of (ps_try_gen (tb := fun W' => rdS X.K CA W' tb) hs hf hex tk (fun W' pn xe tk' po => (hb pn xe po).run W' tk') h1) (by
    rintro D σ H ⟨ρ, F, env, h, Dd, G, E, w, g⟩
    exact ⟨ρ, F, env, h, { Dd with ex := exCls Dd cs }, G, E, w, ⟨g.nx, g.rt, g.bk, g.ct, exCls_go g h2⟩⟩)⟩
end DL
/-! DL27: x in (..) of data of any depth; repr of data with dicts. -/
namespace DL
open PySem PySem.Spec PyProof.Rows L2 DLX L2H
section
variable {X : Cx}
def seqP : PyData → Option (List PyData)
  | .list ps => some ps
  | .tuple ps => some ps
  | _ => none
def rInX (K : PySem.W.Frag) (neg : Bool) : R2 := fun x y H Q => ∃ d e ds, Dp K H x d ∧ Dp K H y e ∧ seqP e = some ds ∧ SeqAt.shaped d = true ∧ SeqAt.shaped e = true ∧ Q (.bl (neg ^^ ds.any fun z => PyData.eqv z d)) H
theorem op_inX (hu : X.A.units + 65 < cLine) : OpR X (compareOp .In) (rInX X.K false) := by
  intro pins s σ H x y v u Q I rx ry h
  obtain ⟨d, e, ds, hd, he, hs, sd, se, q⟩ := h
  rw [Bool.false_xor] at q
  obtain ⟨as, r1⟩ := Dp.reads I d x v hd rx
  obtain ⟨bs, r2⟩ := Dp.reads I e y u he ry
  cases e with
  | list ds' =>
    cases hs
    exact SeqAt.in_list_reads r2 r1 (SeqAt.canLay_of_shaped se) (SeqAt.canLay_of_shaped sd) (room_in_shaped sd hu) ⟨.bl _, H, I, rfl, q⟩
  | tuple ds' =>
    cases hs
    exact SeqAt.in_tuple_reads r2 r1 (SeqAt.canLay_of_shaped se) (SeqAt.canLay_of_shaped sd) (room_in_shaped sd hu) ⟨.bl _, H, I, rfl, q⟩
  | _ => cases hs
theorem op_notInX (hu : X.A.units + 65 < cLine) : OpR X (compareOp .NotIn) (rInX X.K true) := by
  intro pins s σ H x y v u Q I rx ry h
  obtain ⟨d, e, ds, hd, he, hs, sd, se, q⟩ := h
  rw [Bool.true_xor] at q
  obtain ⟨as, r1⟩ := Dp.reads I d x v hd rx
  obtain ⟨bs, r2⟩ := Dp.reads I e y u he ry
  cases e with
  | list ds' =>
    cases hs
    exact SeqAt.notIn_list_reads r2 r1 (SeqAt.canLay_of_shaped se) (SeqAt.canLay_of_shaped sd) (room_in_shaped sd hu) ⟨.bl _, H, I, rfl, q⟩
  | tuple ds' =>
    cases hs
    exact SeqAt.notIn_tuple_reads r2 r1 (SeqAt.canLay_of_shaped se) (SeqAt.canLay_of_shaped sd) (room_in_shaped sd hu) ⟨.bl _, H, I, rfl, q⟩
  | _ => cases hs
def inX (neg : Bool) : fO := fun x y h Q => match toPh h x, toPh h y with
  | some p, some q => (match seqP q with
    | some ps => SeqAt.shaped p = true ∧ SeqAt.shaped q = true ∧ Q (.bl (neg ^^ ps.any fun z => PyData.eqv z p)) h
    | none => False)
  | _, _ => False
theorem od_inX {K : PySem.W.Frag} {CA : Nat → Addr} {neg : Bool} : OpD K CA (inX neg) (rInX K neg) := by
  intro ρ F h H x y v u Qd Q G R1 R2 w g
  unfold inX at w
  split at w
  · rename_i p q e1 e2
    split at w
    · rename_i ps e3
      exact ⟨p, q, ps, dph_of G R1 e1, dph_of G R2 e2, e3, w.1, w.2.1, g _ _ _ _ _ _ w.2.2 (Ext.refl G) G rfl⟩
    · exact w.elim
  · exact w.elim
end
/-! ### repr of data with dicts -/
def keyP : Key → PyData
  | .inl i => .int i
  | .inr x => .str x
mutual
/-- data without lists -/
def toQ : D → Option PyData
  | .non => some .none
  | .bl b => some (.bool b)
  | .int i => some (.int i)
  | .str x => some (.str x)
  | .tup ds => (toQs ds).map .tuple
  | .dic ks ds => (toQs ds).map fun ps => .dict ((ks.map keyP).zip ps)
  | _ => none
def toQs : List D → Option (List PyData)
  | [] => some []
  | d :: ds => match toQ d, toQs ds with
    | some p, some ps => some (p :: ps)
    | _, _ => none
end
/-- .. a list of such, too -/
def toQ1 : D → Option PyData
  | .lst ds => (toQs ds).map .list
  | d => toQ d
section
variable {X : Cx} {pins : List (Addr × Obj)} {σ : L2.St} {H : Hp} {s : Shared} {CA : Nat → Addr} {ρ : List Addr} {F : Hp} {h : Hs}
theorem reads_keys {hp : Heap} {es : List DictEntry} {kvs : List (Key × Value)} (pr : PySem.Pairs (mixKind X.prog X.w) es kvs) : ReadsAll hp (es.map (·.key)) (kvs.map fun q => keyP q.1) [] := by
  induction pr with
  | nil => exact .nil
  | @cons e kv es kvs k _ t ih =>
    have hk : Reads hp e.key (keyP kv.1) [] := by
      rcases keyIs_shape (show keyIs kv.1 e.key = true from k) with ⟨i, t, e1, e2⟩ | ⟨x, t, e1, e2⟩
      · rw [e1, e2]; exact Reads.int _ _
      · rw [e1, e2]; exact Reads.str _ _
    exact ReadsAll.cons (as := []) hk ih
theorem pairs_vals {es : List DictEntry} {kvs : List (Key × Value)} (pr : PySem.Pairs (mixKind X.prog X.w) es kvs) : es.map (·.val) = kvs.map (·.2) := by
  induction pr with
  | nil => rfl
  | @cons e kv es kvs k ev t ih => rw [List.map_cons, List.map_cons, ev, ih]
theorem kv_split : ∀ {ks : List Key} {xs : List V} {vs : List (Key × Value)}, ks.length = xs.length → KV (ks.zip xs) vs → (vs.map fun q => keyP q.1) = ks.map keyP ∧ Vals xs (vs.map (·.2))
  | [], [], _, _, h => by
    cases h
    exact ⟨rfl, .nil⟩
  | [], _ :: _, _, e, _ => by cases e
  | _ :: _, [], _, e, _ => by cases e
  | k :: ks, x :: xs, _, e, h => by
    rw [List.zip_cons_cons] at h
    cases h with
    | cons p q =>
      obtain ⟨h1, h2⟩ := kv_split (by simpa using e) q
      refine ⟨?_, .cons p.2 h2⟩
      rw [List.map_cons, List.map_cons, h1, ← p.1]
theorem toQs_len : ∀ {ds : List D} {ps : List PyData}, toQs ds = some ps → ps.length = ds.length
  | [], ps, e => by cases e; rfl
  | d :: ds, ps, e => by
    rw [toQs] at e
    split at e
    · rename_i p ps' e2 e3
      cases e
      rw [List.length_cons, List.length_cons, toQs_len e3]
    · cases e
mutual
theorem reads_q (I : Inv X pins σ H s) (G : GRel X.K CA ρ F h H) : ∀ (d : D) (v : V) (u : Value) (p : PyData), Rep X.K CA ρ F d v → RelV v u → toQ d = some p → ∃ as, Reads s.heap u p as ∧ sysModules ∉ as
  | .non, v, u, p, r, ru, e => by
    cases (show v = .non from r)
    cases e
    cases ru
    exact ⟨_, Reads.none, by simp⟩
  | .bl b, v, u, p, r, ru, e => by
    cases (show v = .bl b from r)
    cases e
    cases ru
    exact ⟨_, Reads.bool b, by simp⟩
  | .int i, v, u, p, r, ru, e => by
    cases (show v = .int i from r)
    cases e
    obtain ⟨t, rfl⟩ := ru
    exact ⟨_, Reads.int i t, by simp⟩
  | .str x, v, u, p, r, ru, e => by
    cases (show v = .str x from r)
    cases e
    obtain ⟨t, rfl⟩ := ru
    exact ⟨_, Reads.str x t, by simp⟩
  | .tup ds, v, u, p, ⟨a, xs, e1, q, r⟩, ru, e => by
    subst e1
    cases ru
    rw [toQ] at e
    obtain ⟨ps, e2, rfl⟩ := Option.map_eq_some_iff.mp e
    obtain ⟨its, rv, ⟨o, ho, hc, n, hd⟩, _⟩ := I.tuple (G.sqT q)
    obtain ⟨as, ra, ns⟩ := reads_qs I G ds xs its ps r rv e2
    exact ⟨as, Reads.tuple ho hc hd (by simpa using ra), ns⟩
  | .dic ks ds, v, u, p, ⟨a, xs, e1, q, l, r⟩, ru, e => by
    subst e1
    cases ru
    rw [toQ] at e
    obtain ⟨ps, e2, rfl⟩ := Option.map_eq_some_iff.mp e
    have hx : ObjOk X.prog X.w H s.heap a (.dK (ks.zip xs)) := I.hok a _ (G.sub _ _ q)
    obtain ⟨_, hsm, vs, kv, o, es, ep, ho, hx2, hd, _, pr, _⟩ := hx
    obtain ⟨hk, rv⟩ := kv_split (l.trans r.length) kv
    obtain ⟨as, ra, ns⟩ := reads_qs I G ds xs _ ps r rv e2
    have lp : (ks.map keyP).length = ps.length := by rw [List.length_map, toQs_len e2]; exact l
    have h4 := reads_keys (hp := s.heap) pr
    have h5 := pairs_vals pr
    rw [hk] at h4
    refine ⟨a :: [] ++ as, Reads.dict ho hx2.1 hd ?_ ?_, ?_⟩
    · rw [List.map_fst_zip (Nat.le_of_eq lp)]
      exact h4
    · rw [List.map_snd_zip (Nat.le_of_eq lp.symm), h5]
      exact ra
    · have : sysModules ≠ a := fun z => (beq_eq_false_iff_ne.mp hsm) z.symm
      simp [this, ns]
  | .lst _, _, _, _, _, _, e => by cases e
  | .rol _, _, _, _, _, _, e => by cases e
  | .ty _, _, _, _, _, _, e => by cases e
  | .gl _, _, _, _, _, _, e => by cases e
  | .obj _ _ _, _, _, _, _, _, e => by cases e
  | .ref _, _, _, _, _, _, e => by cases e
  | .exc _ _ _, _, _, _, _, _, e => by cases e
theorem reads_qs (I : Inv X pins σ H s) (G : GRel X.K CA ρ F h H) : ∀ (ds : List D) (xs : List V) (us : List Value) (ps : List PyData), Reps X.K CA ρ F ds xs → Vals xs us → toQs ds = some ps → ∃ as, ReadsAll s.heap us ps as ∧ sysModules ∉ as
  | [], xs, us, ps, r, rv, e => by
    cases (show xs = [] from r)
    cases rv
    cases e
    exact ⟨_, .nil, by simp⟩
  | d :: ds, xs, us, ps, ⟨v, t, e1, q, r⟩, rv, e => by
    subst e1
    cases rv with
    | cons rh rt =>
      rw [toQs] at e
      split at e
      · rename_i p ps' e2 e3
        cases e
        obtain ⟨as, r1, n1⟩ := reads_q I G d v _ p q rh e2
        obtain ⟨bs, r2, n2⟩ := reads_qs I G ds t _ ps' r rt e3
        exact ⟨as ++ bs, .cons r1 r2, by simp [n1, n2]⟩
      · cases e
end
end

section
open Sem (wp)
variable {prog : Program} {w : World} {A : Around} {E : Value → Shared → Prop} {s : Shared} {Q : Value → Shared → Prop} {a : Addr}
/-- repr of a list whose elements are read -/
theorem repr_list_reads {o : Obj} {vs : Array Value} {n : Nat} {xs : List PyData} {as : List Addr} (h1 : s.heap.get? a = some o) (h2 : o.cls = .type "list") (h3 : o.data = .seq vs n) (h4 : ReadsAll s.heap vs.toList xs as)
    (hs : (PyData.list xs).showable = true) (hsm : sysModules ∉ as) (hg : A.guards = some []) (hu : A.units + ((PyData.list xs).depth + 1) < cLine)
    (hQ : ∀ h' u tk, (∀ b o, s.heap.get? b = some o → h'.get? b = some o) → Q (.str (PyData.list xs).shown u) { s with heap := h', toks := tk }) (hsz : (PyData.list xs).shown.length ≤ sizeLine) :
    wpAny (model prog w) A (call (.builtin "repr") [.ref a]) Q E s := by
  have hz' : (listText (PyData.shownAll xs)).length ≤ sizeLine := by simpa only [PyData.shown] using hsz
  obtain ⟨bs, hb, hk⟩ := ReprAllK.of_readsAll (prog := prog) (w := w) h4 (by simpa [PyData.showable] using hs) (fun _ hm => hsm hm) (fun t ht => Nat.le_trans (listText_mem_le ht) hz')
  have hna : a ∉ bs := not_mem_of_deeper (.list h1 h2 h3 h4) (by simp only [PyData.depth]; omega) hb
  refine call_repr_slot (by omega) (⟨o, h1, h2⟩ : s.TypeIs (.ref a) "list") F.slot_list_repr.toG ?_
  simp only [PyData.depth] at hu
  simp only [PyData.shown] at hQ
  have hu2 : A.in1.units + (PyData.depthAll xs + 1) < cLine := by
    show A.units + 1 + (PyData.depthAll xs + 1) < cLine
    omega
  obtain ⟨l⟩ := vs
  cases l with
  | nil =>
    have h4' : ReadsAll s.heap [] xs _ := h4
    cases h4'
    simp only [PyData.shownAll, listText_nil] at hQ
    exact call_list_repr_empty ⟨o, h1, h2⟩ h1 h3 ⟨_, _, rfl, hQ s.heap _ _ fun _ _ e => e⟩
  | cons x l =>
    exact call_list_reprK h1 h2 h3 hna (by simpa using hk.length_eq) (fun i y e => hk.item i y (by simpa using e)) hg (fun b _ => Clear.nil b) hu2 (fun _ _ e => e) (fun h' u tk k => ⟨_, _, rfl, hQ h' u tk k⟩) hz'
end
def reprQ : fL := fun xs h Q => match xs with
  | [x] => (match toQ1 x with
    | some p => p.showable = true ∧ p.depth ≤ 62 ∧ p.shown.length ≤ 16777216 ∧ Q (.str p.shown) h
    | none => False)
  | _ => False
def rReprQ (K : PySem.W.Frag) (CA : Nat → Addr) : List V → Hp → VK → Prop := fun xs H Q => ∃ (ρ : List Addr) (F : Hp) (h : Hs) (d : D) (v : V) (p : PyData), xs = [v] ∧ GRel K CA ρ F h H ∧ Rep K CA ρ F d v ∧ toQ1 d = some p ∧ p.showable = true ∧ p.depth ≤ 62 ∧ p.shown.length ≤ sizeLine ∧ Q (.str p.shown) H
theorem toQ1_or {d : D} {p : PyData} (e : toQ1 d = some p) : toQ d = some p ∨ ∃ ds ps, d = .lst ds ∧ toQs ds = some ps ∧ p = .list ps := by
  cases d with
  | lst ds =>
    obtain ⟨ps, e2, rfl⟩ := Option.map_eq_some_iff.mp (show (toQs ds).map PyData.list = some p from e)
    exact .inr ⟨ds, ps, rfl, e2, rfl⟩
  | _ => exact .inl e
theorem call_reprQ {X : Cx} {CA : Nat → Addr} (hu : X.A.units + 64 < cLine) (hg : X.A.guards = some []) : CallR X (.builtin "repr") (rReprQ X.K CA) := by
  intro pins s σ H xs us Q I r hw
  obtain ⟨ρ, F, h, d, v, p, rfl, G, R, e, hs, hl, hz, q⟩ := hw
  obtain ⟨u, rfl, ru⟩ := vals1 r
  have fin : ∀ (h' : Heap) (t : Tok) (tk : Nat), (∀ b o, s.heap.get? b = some o → h'.get? b = some o) → EP X pins σ Q (.str p.shown t) { s with heap := h', toks := tk } := fun h' t tk k => ⟨.str p.shown, H, I.kept k, ⟨_, rfl⟩, q⟩
  rcases toQ1_or e with e | ⟨ds, ps, rfl, e3, rfl⟩
  · obtain ⟨as, rd, ns⟩ := reads_q I G d v u p R ru e
    cases rd with
    | none => exact PySem.P.repr_of_none (fin s.heap _ _ fun _ _ e => e)
    | bool b =>
      refine PySem.P.repr_of_bool ?_
      have := fin s.heap s.toks (s.toks + 1) fun _ _ e => e
      rw [PyData.shown_bool] at this
      cases b <;> exact this
    | int i t =>
      refine PySem.P.repr_of_int ?_ ?_
      · simpa [PyData.showable] using hs
      · have := fin s.heap s.toks (s.toks + 1) fun _ _ e => e
        rw [PyData.shown_int] at this
        exact this
    | str z t =>
      refine PySem.P.repr_of_str ?_ (by rw [PyData.shown_str] at hz; exact hz)
      have := fin s.heap s.toks (s.toks + 1) fun _ _ e => e
      rw [PyData.shown_str] at this
      exact this
    | list h1 h2 h3 h4 => exact repr_of_reads' (.list h1 h2 h3 h4) hs (fun _ => ns) hg (by omega) (fun _ _ e => e) (fun h' u tk k => fin h' u tk k) hz
    | tuple h1 h2 h3 h4 => exact repr_of_reads' (.tuple h1 h2 h3 h4) hs (fun _ => ns) hg (by omega) (fun _ _ e => e) (fun h' u tk k => fin h' u tk k) hz
    | dict h1 h2 h3 h4 h5 => exact repr_of_reads' (.dict h1 h2 h3 h4 h5) hs (fun _ => ns) hg (by omega) (fun _ _ e => e) (fun h' u tk k => fin h' u tk k) hz
  · obtain ⟨a, xs, rfl, q2, R⟩ := R
    cases ru
    obtain ⟨_, its, n, rv, ho⟩ := (show ObjOk X.prog X.w H s.heap a (.lst xs) from I.hok a _ (G.sub _ _ q2))
    obtain ⟨as, ra, ns⟩ := reads_qs I G ds xs its ps R rv e3
    exact repr_list_reads ho rfl rfl (by simpa using ra) hs ns hg (by omega) (fun h' u tk k => fin h' u tk k) hz
theorem ld_reprQ {K : PySem.W.Frag} {CA : Nat → Addr} : LiD K CA reprQ (rReprQ K CA) := by
  intro ρ F h H xs vs Qd Q G R w g
  unfold reprQ at w
  split at w
  · obtain ⟨v, r, rfl, R1, e⟩ := R
    cases (show r = [] from e)
    split at w
    · rename_i p e1
      exact ⟨ρ, F, h, _, v, p, rfl, G, R1, e1, w.1, w.2.1, len_line w.2.2.1, g _ _ _ _ _ _ w.2.2.2 (Ext.refl G) G rfl⟩
    · exact w.elim
  · exact w.elim
theorem Rm.u65 {k : Nat} {A : Around} (r : Rm k A) : A.units + 65 < cLine := by
  have := r.room.un
  omega
/-- repr of data: without dicts, or with dicts and no list within -/
def reprX : fL := fun xs h Q => match xs with
  | [x] => (match toPh h x with
    | some p => p.showable = true ∧ p.hasDict = false ∧ p.depth ≤ 62 ∧ p.shown.length ≤ 16777216 ∧ Q (.str p.shown) h
    | none => (match toQ1 x with
      | some p => p.showable = true ∧ p.depth ≤ 62 ∧ p.shown.length ≤ 16777216 ∧ Q (.str p.shown) h
      | none => False))
  | _ => False
def rReprX (K : PySem.W.Frag) (CA : Nat → Addr) : List V → Hp → VK → Prop := fun xs H Q => rReprD K xs H Q ∨ rReprQ K CA xs H Q
theorem call_reprX {X : Cx} {CA : Nat → Addr} (hu : X.A.units + 64 < cLine) (hg : X.A.guards = some []) : CallR X (.builtin "repr") (rReprX X.K CA) := by
  intro pins s σ H xs us Q I r hw
  rcases hw with hw | hw
  · exact call_reprD hu hg pins s σ H xs us Q I r hw
  · exact call_reprQ hu hg pins s σ H xs us Q I r hw
theorem ld_reprX {K : PySem.W.Frag} {CA : Nat → Addr} : LiD K CA reprX (rReprX K CA) := by
  intro ρ F h H xs vs Qd Q G R w g
  unfold reprX at w
  split at w
  · rename_i x
    split at w
    · rename_i p e
      refine .inl (ld_repr ρ F h H _ vs Qd Q G R ?_ g)
      show (match toPh h x with | some p => p.showable = true ∧ p.hasDict = false ∧ p.depth ≤ 62 ∧ p.shown.length ≤ 16777216 ∧ Qd (.str p.shown) h | none => False)
      rw [e]
      exact w
    · split at w
      · rename_i p e
        refine .inr (ld_reprQ ρ F h H _ vs Qd Q G R ?_ g)
        show (match toQ1 x with | some p => p.showable = true ∧ p.depth ≤ 62 ∧ p.shown.length ≤ 16777216 ∧ Qd (.str p.shown) h | none => False)
        rw [e]
        exact w
      · exact w.elim
  · exact w.elim
theorem insOf_exc {h : Hs} {c : Nat} {a : List Str} {b : List D} : insOf h (.exc c a b) = none := rfl
theorem tyN_exc {h : Hs} {c : Nat} {a : List Str} {b : List D} : tyN h (.exc c a b) = none := rfl
theorem isNon_exc {c : Nat} {a : List Str} {b : List D} : isNon (.exc c a b) = false := rfl
theorem lstOf_exc {h : Hs} {c : Nat} {a : List Str} {b : List D} : lstOf h (.exc c a b) = none := rfl
theorem flD_exc {c : Nat} {a : List Str} {b : List D} : flD (.exc c a b) = none := rfl
theorem exm_any2 {K : PySem.W.Frag} {cls c1 c2 : Value} {b1 b2 : Bool} (h1 : PySem.W.exmOne K cls c1 = some b1) (h2 : PySem.W.exmOne K cls c2 = some b2) : PySem.W.exmAny K cls [c1, c2] = some (b1 || (b2 || false)) := by
  unfold PySem.W.exmAny
  rw [h1]
  unfold PySem.W.exmAny
  rw [h2]
  rfl
theorem exm_any3 {K : PySem.W.Frag} {cls c1 c2 c3 : Value} {b1 b2 b3 : Bool} (h1 : PySem.W.exmOne K cls c1 = some b1) (h2 : PySem.W.exmOne K cls c2 = some b2) (h3 : PySem.W.exmOne K cls c3 = some b3) : PySem.W.exmAny K cls [c1, c2, c3] = some (b1 || (b2 || (b3 || false))) := by
  unfold PySem.W.exmAny
  rw [h1, exm_any2 h2 h3]
end DL
/-! DL28: enumerate's items from a number on. -/
namespace DL
open PySem PySem.Spec PyProof.Rows L2 DLX L2H
def enumF : Nat → List D → List D
  | _, [] => []
  | k, d :: ds => .tup [.int (k : Nat), d] :: enumF (k + 1) ds
theorem enumF_get : ∀ (ds : List D) (k i : Nat), (enumF k ds)[i]? = (ds[i]?).map fun d => D.tup [.int ((k + i : Nat) : Int), d]
  | [], k, i => by simp [enumF]
  | d :: ds, k, 0 => by simp [enumF]
  | d :: ds, k, i + 1 => by
    rw [enumF, List.getElem?_cons_succ, List.getElem?_cons_succ, enumF_get ds (k + 1) i]
    have : k + 1 + i = k + (i + 1) := by omega
    rw [this]
theorem enumL_F (ds : List D) : enumL ds = enumF 0 ds := by
  apply List.ext_getElem?
  intro i
  rw [enumF_get]
  cases e : ds[i]? with
  | none =>
    rw [List.getElem?_eq_none (by rw [enumL_len]; exact List.getElem?_eq_none_iff.mp e)]
    rfl
  | some d =>
    rw [enumL_get e]
    simp
theorem cleanX_low {h g : Hs} {x : Exc} {E : PX} (l : lowRs h.length x.ds = true) (q : E x h) : cleanX h (h ++ g) x E := by
  refine ⟨oldOk_app, x.ds, mapO_low l, ?_⟩
  rw [List.take_left' rfl]
  exact q
/-- [.. for x in xs if t] where t is never so -/
theorem lc_none {k : Nat} {tt : wT} {te : wE} {env : Env} {Q : PL} (I : Hs → Prop) : ∀ (ds : List D) (h : Hs), I h → (∀ d ∈ ds, ∀ h, I h → ∀ (Q' : Bool → Hs → Prop) (E' : PX), (∀ h', I h' → Q' false h') → tt (env.set k (some d)) h Q' E') → (∀ h', I h' → Q [] h') → wLcL (wGn k) tt te env ds [] h Q
  | [], h, i, _, q => q h i
  | d :: ds, h, i, hf, q => by
    show tt (env.set k (some d)) h (fun b h1 => if b = true then te (env.set k (some d)) h1 (fun y h2 => wLcL (wGn k) tt te env ds ([] ++ [y]) h2 Q) (fun _ _ => False) else wLcL (wGn k) tt te env ds [] h1 Q) (fun _ _ => False)
    refine hf d (List.mem_cons_self ..) h i _ _ fun h' i' => ?_
    rw [if_neg (by decide)]
    exact lc_none I ds h' i' (fun e he => hf e (List.mem_cons_of_mem _ he)) q
end DL
/-! DL29: the text of small data is itself small data: repr of a repr. -/
namespace DL
open PySem PySem.Spec PyProof.Rows L2 DLX L2H
def LowCh (x : Str) : Prop := ∀ c ∈ x.cps.toList, c < 1114112
theorem char_low (c : Char) : c.toNat < 1114112 := by
  have := c.valid
  have e : c.toNat = c.val.toNat := rfl
  rcases this with h | ⟨_, h⟩ <;> omega
theorem lowch_of (s : String) : LowCh (Str.ofString s) := by
  intro c hc
  rw [signs_ofString] at hc
  obtain ⟨d, _, rfl⟩ := List.mem_map.mp hc
  exact char_low d
theorem lowch_app {a b : Str} (h1 : LowCh a) (h2 : LowCh b) : LowCh (a ++ b) := fun c hc => (mem_cps_append.mp hc).elim (h1 c) (h2 c)
theorem lowch_join {sep : Str} {ts : List Str} (h1 : LowCh sep) (h2 : ∀ t ∈ ts, LowCh t) : LowCh (Str.join sep ts) := fun c hc => by
  rcases (mem_join sep c ts).mp hc with ⟨t, ht, h⟩ | ⟨_, h⟩
  · exact h2 t ht c h
  · exact h1 c h
theorem hex_low {c w : Nat} : ∀ d ∈ List.replicate (w - ((Nat.toDigits 16 c).map Char.toNat).length) 48 ++ (Nat.toDigits 16 c).map Char.toNat, d < 1114112 := by
  intro d hd
  rcases List.mem_append.mp hd with h | h
  · rw [(List.mem_replicate.mp h).2]; decide
  · obtain ⟨e, _, rfl⟩ := List.mem_map.mp h
    exact char_low e
theorem reprChar_low {q c : Nat} (hc : c < 1114112) : ∀ d ∈ Builtin.Str.reprChar q c, d < 1114112 := by
  intro d hd
  unfold Builtin.Str.reprChar at hd
  dsimp only at hd
  repeat' split at hd
  all_goals simp only [List.mem_cons, List.mem_append, List.not_mem_nil, or_false] at hd
  all_goals first
    | (rcases hd with rfl | rfl <;> first | exact hc | decide)
    | (rw [hd]; exact hc)
    | (rcases hd with (rfl | rfl) | hd
       · decide
       · decide
       · exact hex_low (c := c) d (List.mem_append.mpr hd))
theorem foldl_low {q : Nat} : ∀ (l : List Nat) (acc : Array Nat), (∀ c ∈ l, c < 1114112) → (∀ d ∈ acc, d < 1114112) → ∀ d ∈ l.foldl (fun out c => out ++ (Builtin.Str.reprChar q c).toArray) acc, d < 1114112
  | [], acc, _, h => h
  | c :: r, acc, hl, h => by
    simp only [List.foldl_cons]
    refine foldl_low r _ (fun d hd => hl d (List.mem_cons_of_mem _ hd)) fun d hd => ?_
    rcases Array.mem_append.mp hd with hd | hd
    · exact h d hd
    · exact reprChar_low (hl c (List.mem_cons_self ..)) d (by simpa using hd)
theorem lowch_repr {x : Str} (h : LowCh x) : LowCh (reprText x) := by
  have hq : reprQuote x < 1114112 := by
    unfold reprQuote
    split <;> decide
  intro c hc
  have hc' : c ∈ ((x.cps.foldl (fun out c => out ++ (Builtin.Str.reprChar (reprQuote x) c).toArray) #[reprQuote x]).push (reprQuote x)) := Array.mem_toList_iff.mp hc
  rw [← Array.foldl_toList] at hc'
  rcases Array.mem_push.mp hc' with hc' | rfl
  · refine foldl_low _ _ h (fun d hd => ?_) c hc'
    have : d = reprQuote x := by simpa using hd
    rw [this]; exact hq
  · exact hq
theorem lowch_listText {ts : List Str} (h : ∀ t ∈ ts, LowCh t) : LowCh ("[" ++ Str.join ", " ts ++ "]" : Str) :=
  lowch_app (lowch_app (lowch_of _) (lowch_join (lowch_of _) h)) (lowch_of _)
mutual
theorem lowch_shown : ∀ p : PyData, p.canLay0 = true → LowCh p.shown
  | .none, _ => by simp only [PyData.shown]; exact lowch_of _
  | .bool b, _ => by
    simp only [PyData.shown]
    cases b <;> exact lowch_of _
  | .int i, _ => by simp only [PyData.shown]; exact lowch_of _
  | .str x, h => by
    simp only [PyData.shown]
    refine lowch_repr fun c hc => ?_
    have h' : PyData.strOk x = true := h
    unfold PyData.strOk at h'
    rw [Array.all_eq_true'] at h'
    exact of_decide_eq_true (h' c (Array.mem_toList_iff.mp hc))
  | .list xs, h => by
    rw [PyData.shown_list]
    exact lowch_listText (lowch_all xs h)
  | .tuple xs, h => by
    rw [PyData.shown_tuple]
    refine lowch_app (lowch_app (lowch_of _) (lowch_join (lowch_of _) (lowch_all xs h))) ?_
    split <;> exact lowch_of _
  | .dict kvs, h => by cases h
theorem lowch_all : ∀ ps : List PyData, PyData.canLayAll0 ps = true → ∀ t ∈ PyData.shownAll ps, LowCh t
  | [], _, t, ht => by rw [PyData.shownAll_nil] at ht; cases ht
  | p :: ps, h, t, ht => by
    simp only [PyData.canLayAll0, Bool.and_eq_true] at h
    rw [PyData.shownAll_cons, List.mem_cons] at ht
    rcases ht with rfl | ht
    · exact lowch_shown p h.1
    · exact lowch_all ps h.2 t ht
end
theorem small_text {x : Str} {n : Nat} (h : x.length ≤ n) (hx : LowCh x) : Small (10 * n + 2) 0 (.str x) := by
  refine ⟨?_, rfl, rfl, Nat.le_refl _, ?_⟩
  · show PyData.strOk x = true
    unfold PyData.strOk
    rw [Array.all_eq_true']
    intro c hc
    exact decide_eq_true (hx c (Array.mem_toList_iff.mpr hc))
  have := StrLaws.reprText_len x fun c hc => Nat.lt_trans (hx c hc) (by decide)
  show (reprText x).length ≤ _
  omega
theorem small_shown {p : PyData} {n d : Nat} (s : Small n d p) : Small (10 * n + 2) 0 (.str p.shown) := small_text s.ln (lowch_shown p s.ly)
end DL
namespace My
open PySem PySem.Spec PyProof.Rows L2 DL
def top (i : Nat) : Stmt := PySem.Challenge.pw_calledin_k26_rules_refused.main.body.getD i (.Pass ⟨0, 0, 0, 0⟩)
abbrev s_is_integer : Stmt := top 13
theorem sc_is_integer : FnScope ["value"] ["value"] (defScope s_is_integer) := ⟨rfl, rfl, rfl, by decide +kernel, rfl, by decide +kernel, by decide +kernel⟩
abbrev s_is_name : Stmt := top 14
theorem sc_is_name : FnScope ["value", "sign"] ["value"] (defScope s_is_name) := ⟨rfl, rfl, rfl, by decide +kernel, rfl, by decide +kernel, by decide +kernel⟩
abbrev s_is_state : Stmt := top 18
theorem sc_is_state : FnScope ["value"] ["value"] (defScope s_is_state) := ⟨rfl, rfl, rfl, by decide +kernel, rfl, by decide +kernel, by decide +kernel⟩
abbrev s_is_event : Stmt := top 19
theorem sc_is_event : FnScope ["value"] ["value"] (defScope s_is_event) := ⟨rfl, rfl, rfl, by decide +kernel, rfl, by decide +kernel, by decide +kernel⟩
abbrev s_is_step : Stmt := top 20
theorem sc_is_step : FnScope ["value"] ["value"] (defScope s_is_step) := ⟨rfl, rfl, rfl, by decide +kernel, rfl, by decide +kernel, by decide +kernel⟩
abbrev s_Rule____init__ : Stmt := inClass (top 17) 0
theorem sc_Rule____init__ : FnScope ["self", "steps", "bad", "index", "step", "state"] ["self", "steps", "bad"] (defScope s_Rule____init__) := ⟨rfl, rfl, rfl, by decide +kernel, rfl, by decide +kernel, by decide +kernel⟩
abbrev s_Rule__after : Stmt := inClass (top 17) 1
theorem sc_Rule__after : FnScope ["self", "state", "event", "here", "pattern", "later"] ["self", "state", "event"] (defScope s_Rule__after) := ⟨rfl, rfl, rfl, by decide +kernel, rfl, by decide +kernel, by decide +kernel⟩
abbrev s__law_bag : Stmt := top 22
theorem sc__law_bag : FnScope ["script", "k", "cell", "part", "figures"] ["script", "k"] (defScope s__law_bag) := ⟨rfl, rfl, rfl, by decide +kernel, rfl, by decide +kernel, by decide +kernel⟩
abbrev s__law_pick : Stmt := top 23
theorem sc__law_pick : FnScope ["bag", "many", "prime", "digit"] ["bag", "many"] (defScope s__law_pick) := ⟨rfl, rfl, rfl, by decide +kernel, rfl, by decide +kernel, by decide +kernel⟩
abbrev s__law_name : Stmt := top 24
theorem sc__law_name : FnScope ["bag", "k", "letters", "name", "turn"] ["bag", "k"] (defScope s__law_name) := ⟨rfl, rfl, rfl, by decide +kernel, rfl, by decide +kernel, by decide +kernel⟩
abbrev s__law_wrong_state : Stmt := top 25
theorem sc__law_wrong_state : FnScope ["bag", "menu"] ["bag"] (defScope s__law_wrong_state) := ⟨rfl, rfl, rfl, by decide +kernel, rfl, by decide +kernel, by decide +kernel⟩
abbrev s__law_wrong_event : Stmt := top 26
theorem sc__law_wrong_event : FnScope ["bag", "name", "menu"] ["bag", "name"] (defScope s__law_wrong_event) := ⟨rfl, rfl, rfl, by decide +kernel, rfl, by decide +kernel, by decide +kernel⟩
abbrev s__law_wrong_step : Stmt := top 27
theorem sc__law_wrong_step : FnScope ["bag", "name", "way", "menu"] ["bag", "name"] (defScope s__law_wrong_step) := ⟨rfl, rfl, rfl, by decide +kernel, rfl, by decide +kernel, by decide +kernel⟩
abbrev s__law_error : Stmt := top 28
theorem sc__law_error : FnScope ["rows", "marks", "found", "word", "error", "mixed", "both"] ["rows", "marks"] (defScope s__law_error) := ⟨rfl, rfl, rfl, by decide +kernel, rfl, by decide +kernel, by decide +kernel⟩
abbrev s__law_asked : Stmt := top 29
theorem sc__law_asked : FnScope ["rule", "here", "happens", "found", "word", "error", "mixed"] ["rule", "here", "happens"] (defScope s__law_asked) := ⟨rfl, rfl, rfl, by decide +kernel, rfl, by decide +kernel, by decide +kernel⟩
abbrev s__law_made_right : Stmt := top 30
theorem sc__law_made_right : FnScope ["bag", "rows", "marks", "name", "at", "far", "wrong", "again", "last", "odd", "none", "due", "row"] ["bag", "rows", "marks", "name"] (defScope s__law_made_right) := ⟨rfl, rfl, rfl, by decide +kernel, rfl, by decide +kernel, by decide +kernel⟩
abbrev s__law_after_right : Stmt := top 31
theorem sc__law_after_right : FnScope ["bag", "rule", "name", "odd", "thing", "good", "due", "short", "row"] ["bag", "rule", "name"] (defScope s__law_after_right) := ⟨rfl, rfl, rfl, by decide +kernel, rfl, by decide +kernel, by decide +kernel⟩
abbrev s__law_right : Stmt := top 32
theorem sc__law_right : FnScope ["bag", "name", "rows", "marks", "rule", "k"] ["bag"] (defScope s__law_right) := ⟨rfl, rfl, rfl, by decide +kernel, rfl, by decide +kernel, by decide +kernel⟩
abbrev s_law : Stmt := top 33
theorem sc_law : FnScope ["script", "k"] ["script"] (defScope s_law) := ⟨rfl, rfl, rfl, by decide +kernel, rfl, by decide +kernel, by decide +kernel⟩
abbrev s_InvalidValue____init__ : Stmt := inClass (top 4) 0
abbrev s_InvalidMove____init__ : Stmt := inClass (top 5) 0
abbrev s_InvalidSteps____init__ : Stmt := inClass (top 6) 0
abbrev s_InvalidBad____init__ : Stmt := inClass (top 7) 0
structure Txt (K : PySem.W.Frag) (mg : Str → Option Value) (CA : Nat → Addr) : Prop where
  z_int : mg "int" = none
  z_isinstance : mg "isinstance" = none
  z_bool : mg "bool" = none
  z_str : mg "str" = none
  z_len : mg "len" = none
  z_all : mg "all" = none
  z_tuple : mg "tuple" = none
  z_enumerate : mg "enumerate" = none
  z_divmod : mg "divmod" = none
  z_range : mg "range" = none
  z_ValueError : mg "ValueError" = none
  z_repr : mg "repr" = none
  z_list : mg "list" = none
  z_min : mg "min" = none
  z_max : mg "max" = none
  g_MAX_SIGNS : GlobD K CA mg "MAX_SIGNS" (.int 8)
  g_LETTERS : GlobD K CA mg "LETTERS" (.str "abcdefghijklmnopqrstuvwxyz")
  g_SIGNS : GlobD K CA mg "SIGNS" (.str "abcdefghijklmnopqrstuvwxyz0123456789")
  g_MAX_STATE : GlobD K CA mg "MAX_STATE" (.int 99)
  g_WORDS : GlobD K CA mg "WORDS" (.tup [(.str "call"), (.str "answer"), (.str "out"), (.str "back")])
  k_Rule : ClsD K CA 0
  m_Rule : mg "Rule" = some (.ref (CA 0))
  n_Rule_steps : NoAttr K (CA 0) "steps"
  n_Rule_bad : NoAttr K (CA 0) "bad"
  xm_InvalidBad : mg "InvalidBad" = some (.ref (CA 7))
  xm_InvalidSteps : mg "InvalidSteps" = some (.ref (CA 6))
  xm_StateError : mg "StateError" = some (.ref (CA 2))
  xm_LimitError : mg "LimitError" = some (.ref (CA 3))
  xm_InvalidValue : mg "InvalidValue" = some (.ref (CA 4))
  xm_CalledinError : mg "CalledinError" = some (.ref (CA 1))
  xm_InvalidMove : mg "InvalidMove" = some (.ref (CA 5))
  j_StateError : SubX K CA (.ref (CA 2)) [(4, false), (5, false), (6, false), (7, false)]
  j_LimitError : SubX K CA (.ref (CA 3)) [(4, false), (5, false), (6, false), (7, false)]
  j_InvalidValue : SubX K CA (.ref (CA 4)) [(4, true), (5, false), (6, false), (7, false)]
  j_InvalidSteps : SubX K CA (.ref (CA 6)) [(4, false), (5, false), (6, true), (7, false)]
  j_InvalidBad : SubX K CA (.ref (CA 7)) [(4, false), (5, false), (6, false), (7, true)]
  j_ValueError : SubX K CA (.type "ValueError") [(4, true), (5, true), (6, true), (7, true)]
  j_CalledinError : SubX K CA (.ref (CA 1)) [(4, true), (5, true), (6, true), (7, true)]
  x_InvalidBad : XcD K CA 7
  x_InvalidSteps : XcD K CA 6
  x_InvalidMove : XcD K CA 5
  x_InvalidValue : XcD K CA 4
  xn_InvalidBad_index : PySem.W.findIn K (.ref (CA 7)) "index" = some none
  xn_InvalidSteps_index : PySem.W.findIn K (.ref (CA 6)) "index" = some none
  xn_InvalidMove_value : PySem.W.findIn K (.ref (CA 5)) "value" = some none
  xn_InvalidValue_value : PySem.W.findIn K (.ref (CA 4)) "value" = some none
  e_InvalidBad : ∀ (n : Nat) (b : Bool), List.lookup n [(4, false), (5, false), (6, false), (7, true)] = some b → PySem.W.exmOne K (.ref (CA n)) (.ref (CA 7)) = some b
  e_InvalidSteps : ∀ (n : Nat) (b : Bool), List.lookup n [(4, false), (5, false), (6, true), (7, false)] = some b → PySem.W.exmOne K (.ref (CA n)) (.ref (CA 6)) = some b
  e_InvalidMove : ∀ (n : Nat) (b : Bool), List.lookup n [(4, false), (5, true), (6, false), (7, false)] = some b → PySem.W.exmOne K (.ref (CA n)) (.ref (CA 5)) = some b
  e_InvalidValue : ∀ (n : Nat) (b : Bool), List.lookup n [(4, true), (5, false), (6, false), (7, false)] = some b → PySem.W.exmOne K (.ref (CA n)) (.ref (CA 4)) = some b
end My
namespace My
open PySem PySem.Spec PyProof.Rows L2 DL
/-! contracts -/
def HP (h : Hs) (i : Nat) : Prop := ∃ s d n : Int, h[i]? = some (.lst [.int s, .int d, .int n])
def Dr (h : Hs) (i : Nat) (h' : Hs) : Prop := HP h' i ∧ h'.length = h.length ∧ ∀ j : Nat, j ≠ i → h'[j]? = h[j]?
def LETT : Str := "abcdefghijklmnopqrstuvwxyz"
def SIGN : Str := "abcdefghijklmnopqrstuvwxyz0123456789"
def isNameS (x : Str) : Bool := match x.cps.toList with
  | [] => false
  | c :: r => decide (r.length < 8) && decide (c ∈ LETT.cps.toList) && (c :: r).all (fun e => decide (e ∈ SIGN.cps.toList))
def isIntD : D → Bool
  | .int _ => true
  | _ => false
def isStD : D → Bool
  | .int i => decide (0 ≤ i) && decide (i ≤ 99)
  | _ => false
/-- an event: ('hang',), (word, name), (word, name, number) -/
inductive Ev where
  | hang | two (w n : Str) | three (w n : Str) (i : Int)
def Wd (w : Str) : Prop := w = "call" ∨ w = "answer" ∨ w = "out" ∨ w = "back"
def Ev.ok : Ev → Prop
  | .hang => True
  | .two w n => Wd w ∧ isNameS n = true
  | .three w n i => Wd w ∧ isNameS n = true ∧ i.natAbs.log2 < 1000
def Ev.d : Ev → D
  | .hang => .tup [.str "hang"]
  | .two w n => .tup [.str w, .str n]
  | .three w n i => .tup [.str w, .str n, .int i]
def Ev.full : Ev → Prop
  | .two _ _ => False
  | _ => True
structure Row where
  a : Int
  e : Ev
  b : Int
def St (i : Int) : Prop := 0 ≤ i ∧ i ≤ 99
def Row.ok (r : Row) : Prop := St r.a ∧ r.e.ok ∧ St r.b
def Row.d (r : Row) : D := .tup [.int r.a, r.e.d, .int r.b]
/-- does an event begin so -/
def Ev.fits : Ev → Ev → Bool
  | .hang, .hang => true
  | .hang, _ => false
  | .two w n, .two w' n' => decide (w = w') && decide (n = n')
  | .two w n, .three w' n' _ => decide (w = w') && decide (n = n')
  | .three w n i, .three w' n' i' => decide (w = w') && decide (n = n') && decide (i = i')
  | _, _ => false
def aftR (st : Int) (e : Ev) : List Row → Int
  | [] => st
  | r :: rs => if r.a = st ∧ r.e.fits e = true then r.b else aftR st e rs
def aft (rows : List Row) (marks : List Int) (st : Int) (e : Ev) : Int := if st ∈ marks then st else aftR st e rows
def rowsD (rows : List Row) : D := .tup (rows.map Row.d)
def marksD (ms : List Int) : D := .tup (ms.map D.int)
def ruleD (rows : List Row) (ms : List Int) : D := .obj 0 ["steps", "bad"] [rowsD rows, marksD ms]
def RowsOk (rows : List Row) : Prop := rows.length ≤ 20 ∧ ∀ r ∈ rows, r.ok
def MarksOk (ms : List Int) : Prop := ms.length ≤ 3 ∧ ms.Nodup ∧ ∀ i ∈ ms, St i
def isWordD : D → Bool
  | .str w => decide (w = "call") || (decide (w = "answer") || (decide (w = "out") || decide (w = "back")))
  | _ => false
def isNameD : D → Bool
  | .str x => isNameS x
  | _ => false
def isHangD : D → Bool
  | .str x => decide (x = "hang")
  | _ => false
def isEvD : D → Bool
  | .tup [a] => isHangD a
  | .tup [a, b] => isWordD a && isNameD b
  | .tup [a, b, c] => isWordD a && (isNameD b && isIntD c)
  | _ => false
def isStepD : D → Bool
  | .tup [a, b, c] => isStD a && (isEvD b && isStD c)
  | _ => false
def evLen : D → Nat
  | .tup ds => ds.length
  | _ => 0
def Ty (d : D) : Prop := (tyN [] d).isSome = true
/-- plain data, small -/
def Sc (d : D) : Prop := Ty d ∧ (∀ x, d = .str x → x.length ≤ 1000) ∧ ∃ p, toP d = some p ∧ Small 4000 4 p
def EvArg (d : D) : Prop := Ty d ∧ ∀ ds, d = .tup ds → ∀ e ∈ ds, Sc e
def StepArg (d : D) : Prop := Ty d ∧ ∀ a b c, d = .tup [a, b, c] → Ty a ∧ EvArg b ∧ Ty c
def firstNot (f : D → Bool) : List D → Option Nat
  | [] => none
  | d :: ds => if f d = true then (firstNot f ds).map (· + 1) else some 0
def badIx (pre : List Int) : List D → Option Nat
  | [] => none
  | .int i :: ds => if isStD (.int i) = true ∧ i ∉ pre then (badIx (pre ++ [i]) ds).map (· + 1) else some 0
  | _ :: _ => some 0
def iniR (s b : D) : Option (Nat × D) := match s with
  | .tup ds => (match firstNot isStepD ds with
    | some k => some (6, .int k)
    | none => (match b with
      | .tup es => (match badIx [] es with
        | some k => some (7, .int k)
        | none => none)
      | _ => some (7, .non)))
  | _ => some (6, .non)
def IniArg (s b : D) : Prop := Ty s ∧ (∀ ds, s = .tup ds → ds.length ≤ 100 ∧ ∀ d ∈ ds, StepArg d) ∧ Ty b ∧ (∀ ds, b = .tup ds → ds.length ≤ 100 ∧ ∀ d ∈ ds, Ty d)
def Low (d : D) : Prop := ∀ n, lowR n d = true
/-- data that repr shows -/
def Rp (d : D) : Prop := (∃ p, toP d = some p ∧ Small 20000 6 p) ∨ (toP d = none ∧ (∀ i, d ≠ .ref i) ∧ ∃ p, toQ1 d = some p ∧ p.showable = true ∧ p.depth ≤ 62 ∧ p.shown.length ≤ 20000 ∧ LowCh p.shown)
def rpr (d : D) : Str := match toP d with
  | some p => p.shown
  | none => (match toQ1 d with
    | some p => p.shown
    | none => "")
def AskArg (s e : D) : Prop := Ty s ∧ EvArg e ∧ (isStD s = true → isEvD e = true → evLen e ≠ 2 → ∃ i v, s = .int i ∧ St i ∧ e = Ev.d v ∧ v.ok ∧ v.full)
def errD (s b : D) : D := match iniR s b with
  | none => .tup [.str "none"]
  | some (c, v) => .tup [.str (if c = 6 then "steps" else "bad"), v, .bl true, .bl true, .bl false]
def askD (s e : D) : D := if isStD s = true then (if isEvD e = true ∧ evLen e ≠ 2 then .tup [.str "none"] else .tup [.str "event", .str (rpr e), .bl true, .bl false]) else .tup [.str "state", .str (rpr s), .bl true, .bl false]
def WSt (d : D) : Prop := Ty d ∧ isStD d = false ∧ Rp d ∧ Low d
def WEv (d : D) : Prop := EvArg d ∧ isEvD d = false ∧ Rp d ∧ Low d
def WStep (d : D) : Prop := StepArg d ∧ isStepD d = false ∧ Low d
def C_is_integer : Ct := fun ds h Q _ => ∃ d, ds = [d] ∧ Ty d ∧ Q (.bl (isIntD d)) h
def C_is_name : Ct := fun ds h Q _ => ∃ d, ds = [d] ∧ Ty d ∧ (∀ x, d = .str x → x.length ≤ 1000) ∧ Q (.bl (isNameD d)) h
def C_is_state : Ct := fun ds h Q _ => ∃ d, ds = [d] ∧ Ty d ∧ Q (.bl (isStD d)) h
def C_is_event : Ct := fun ds h Q _ => ∃ d, ds = [d] ∧ EvArg d ∧ Q (.bl (isEvD d)) h
def C_is_step : Ct := fun ds h Q _ => ∃ d, ds = [d] ∧ StepArg d ∧ Q (.bl (isStepD d)) h
def IniK (i : Nat) (s b : D) (h : Hs) (Q : PQ) (E : PX) : Option (Nat × D) → Prop
  | none => Q .non (h.set i (.ins 0 ["steps", "bad"] [s, b]))
  | some (c, v) => E ⟨.own c, ["index"], [v]⟩ h
def C_Rule____init__ : Ct := fun ds h Q E => ∃ (i : Nat) (s b : D), ds = [.ref i, s, b] ∧ h[i]? = some (.ins 0 [] []) ∧ IniArg s b ∧ IniK i s b h Q E (iniR s b)
def C_Rule__after : Ct := fun ds h Q E => ∃ (rows : List Row) (ms : List Int) (s e : D), ds = [ruleD rows ms, s, e] ∧ RowsOk rows ∧ MarksOk ms ∧ AskArg s e ∧
  (isStD s = false → E ⟨.own 4, ["value"], [s]⟩ h) ∧ (isStD s = true → ¬(isEvD e = true ∧ evLen e ≠ 2) → E ⟨.own 5, ["value"], [e]⟩ h) ∧ (isStD s = true → (isEvD e = true ∧ evLen e ≠ 2) → ∀ v : Int, Q (.int v) h)
def C__law_bag : Ct := fun ds h Q _ => ∃ (ns : List Int) (k : Int), ds = [.rol (ns.map D.int), .int k] ∧ ns.length ≤ 63 ∧ 0 ≤ k ∧ k ≤ 63 ∧ ∀ s d n : Int, Q (.ref h.length) (h ++ [.lst [.int s, .int d, .int n]])
def C__law_pick : Ct := fun ds h Q _ => ∃ (i : Nat) (m : Int), ds = [.ref i, .int m] ∧ HP h i ∧ 0 < m ∧ m.natAbs.log2 < 9000 ∧ ∀ (v : Int) h', 0 ≤ v → v < m → Dr h i h' → Q (.int v) h'
def C__law_name : Ct := fun ds h Q _ => ∃ (i : Nat) (k : Int), ds = [.ref i, .int k] ∧ HP h i ∧ 0 ≤ k ∧ k ≤ 9 ∧ ∀ x h', isNameS x = true → Dr h i h' → Q (.str x) h'
def C__law_wrong_state : Ct := fun ds h Q _ => ∃ i : Nat, ds = [.ref i] ∧ HP h i ∧ ∀ d h', WSt d → Dr h i h' → Q d h'
def C__law_wrong_event : Ct := fun ds h Q _ => ∃ (i : Nat) (x : Str), ds = [.ref i, .str x] ∧ HP h i ∧ isNameS x = true ∧ ∀ d h', WEv d → Dr h i h' → Q d h'
def C__law_wrong_step : Ct := fun ds h Q _ => ∃ (i : Nat) (x : Str), ds = [.ref i, .str x] ∧ HP h i ∧ isNameS x = true ∧ ∀ d h', WStep d → Dr h i h' → Q d h'
def C__law_error : Ct := fun ds h Q _ => ∃ s b : D, ds = [s, b] ∧ IniArg s b ∧ Low s ∧ Low b ∧ Q (errD s b) h
def C__law_asked : Ct := fun ds h Q _ => ∃ (rows : List Row) (ms : List Int) (s e : D), ds = [ruleD rows ms, s, e] ∧ RowsOk rows ∧ MarksOk ms ∧ AskArg s e ∧ Rp s ∧ Rp e ∧ Q (askD s e) h
def C__law_made_right : Ct := fun ds h Q _ => ∃ (i : Nat) (rows : List Row) (ms : List Int) (x : Str), ds = [.ref i, .lst (rows.map Row.d), .lst (ms.map D.int), .str x] ∧ HP h i ∧ rows.length ≤ 8 ∧ RowsOk rows ∧ MarksOk ms ∧ isNameS x = true ∧ ∀ h', Dr h i h' → Q (.bl true) h'
def C__law_after_right : Ct := fun ds h Q _ => ∃ (i : Nat) (rows : List Row) (ms : List Int) (x : Str), ds = [.ref i, ruleD rows ms, .str x] ∧ HP h i ∧ RowsOk rows ∧ MarksOk ms ∧ isNameS x = true ∧ ∀ h', Dr h i h' → Q (.bl true) h'
def C__law_right : Ct := fun ds h Q _ => ∃ i : Nat, ds = [.ref i] ∧ HP h i ∧ ∀ h', Dr h i h' → Q (.bl true) h'
def C_law : Ct := fun ds h Q _ => ∃ ns : List Int, ds = [.rol (ns.map D.int)] ∧ ns.length ≤ 63 ∧ ∀ h', Q (.bl true) h'
def w_is_integer : wS :=
    (wRet (wAndV (wLi isiD (wCons (wVar 0) (wCons (wC (.ty "int")) wNil))) (wNotV (wLi isiD (wCons (wVar 0) (wCons (wC (.ty "bool")) wNil))))))
def el1_is_name : wE := (wOp (inD false) (wVar 1) (wC (.str "abcdefghijklmnopqrstuvwxyz0123456789")))
def t1_is_name : wS := (wRet (wLi allD (wCons (wLc [1] (wSeqI (wVar 0)) (wGn 1) wYes el1_is_name) wNil)))
def w_is_name : wS :=
    (wSeq (wIfS (wOr (wNot (wTru (wLi isiD (wCons (wVar 0) (wCons (wC (.ty "str")) wNil))))) (wOr (wNot (wB (wChain leD leD (wC (.int 1)) (wLi lenD (wCons (wVar 0) wNil)) (wC (.int 8))))) (wB (wOp (inD true) (wOp ixD (wVar 0) (wC (.int 0))) (wC (.str "abcdefghijklmnopqrstuvwxyz")))))) (wRet (wC (.bl false))) wNext)
    t1_is_name)
def w_is_state : wS :=
    (wRet (wAndV (wCall C_is_integer 1 [] (wCons (wVar 0) wNil)) (wChain leD leD (wC (.int 0)) (wVar 0) (wC (.int 99)))))
def t3_is_event : wS := (wRet (wOrV (wOp (eqD false) (wLi lenD (wCons (wVar 0) wNil)) (wC (.int 2))) (wCall C_is_integer 1 [] (wCons (wOp ixD (wVar 0) (wC (.int 2))) wNil))))
def t2_is_event : wS := (wSeq (wIfS (wOr (wB (wOp (inX true) (wOp ixD (wVar 0) (wC (.int 0))) (wC (.tup [(.str "call"), (.str "answer"), (.str "out"), (.str "back")])))) (wNot (wTru (wCall C_is_name 1 [] (wCons (wOp ixD (wVar 0) (wC (.int 1))) wNil))))) (wRet (wC (.bl false))) wNext)
    t3_is_event)
def t1_is_event : wS := (wSeq (wIfS (wB (wOp (eqD false) (wLi lenD (wCons (wVar 0) wNil)) (wC (.int 1)))) (wRet (wOp (eqD false) (wVar 0) (wTup (wCons (wC (.str "hang")) wNil)))) wNext)
    t2_is_event)
def w_is_event : wS :=
    (wSeq (wIfS (wOr (wNot (wTru (wLi isiD (wCons (wVar 0) (wCons (wC (.ty "tuple")) wNil))))) (wNot (wB (wChain leD leD (wC (.int 1)) (wLi lenD (wCons (wVar 0) wNil)) (wC (.int 3)))))) (wRet (wC (.bl false))) wNext)
    t1_is_event)
def t1_is_step : wS := (wRet (wAndV (wCall C_is_state 1 [] (wCons (wOp ixD (wVar 0) (wC (.int 0))) wNil)) (wAndV (wCall C_is_event 1 [] (wCons (wOp ixD (wVar 0) (wC (.int 1))) wNil)) (wCall C_is_state 1 [] (wCons (wOp ixD (wVar 0) (wC (.int 2))) wNil)))))
def w_is_step : wS :=
    (wSeq (wIfS (wOr (wNot (wTru (wLi isiD (wCons (wVar 0) (wCons (wC (.ty "tuple")) wNil))))) (wB (wOp (eqD true) (wLi lenD (wCons (wVar 0) wNil)) (wC (.int 3))))) (wRet (wC (.bl false))) wNext)
    t1_is_step)
def lp1_Rule____init__ : wS := (wIfS (wNot (wTru (wCall C_is_step 1 [] (wCons (wVar 4) wNil)))) (wRaise 6 ["index"] (wCons (wVar 3) wNil)) wNext)
def lp2_Rule____init__ : wS := (wIfS (wOr (wNot (wTru (wCall C_is_state 1 [] (wCons (wVar 5) wNil)))) (wB (wOp (inD false) (wVar 5) (wSl (wVar 2) wOn (wOs (wVar 3)))))) (wRaise 7 ["index"] (wCons (wVar 3) wNil)) wNext)
def t5_Rule____init__ : wS := (wSetFld [0] "bad" (wVar 0) (wVar 2))
def t4_Rule____init__ : wS := (wSeq (wSetFld [0] "steps" (wVar 0) (wVar 1))
    t5_Rule____init__)
def t3_Rule____init__ : wS := (wSeq (wFor (wEnum (wVar 2)) (wGtup 2 (wGcons (wGn 3) (wGcons (wGn 5) wGnil))) lp2_Rule____init__)
    t4_Rule____init__)
def t2_Rule____init__ : wS := (wSeq (wIfS (wNot (wTru (wLi isiD (wCons (wVar 2) (wCons (wC (.ty "tuple")) wNil))))) (wRaise 7 ["index"] (wCons (wC .non) wNil)) wNext)
    t3_Rule____init__)
def t1_Rule____init__ : wS := (wSeq (wFor (wEnum (wVar 1)) (wGtup 2 (wGcons (wGn 3) (wGcons (wGn 4) wGnil))) lp1_Rule____init__)
    t2_Rule____init__)
def w_Rule____init__ : wS :=
    (wSeq (wIfS (wNot (wTru (wLi isiD (wCons (wVar 1) (wCons (wC (.ty "tuple")) wNil))))) (wRaise 6 ["index"] (wCons (wC .non) wNil)) wNext)
    t1_Rule____init__)
def lp1_Rule__after : wS := (wIfS (wAnd (wB (wOp (eqD false) (wVar 3) (wVar 1))) (wB (wOp (eqD false) (wVar 4) (wSl (wVar 2) wOn (wOs (wLi lenD (wCons (wVar 4) wNil))))))) (wRet (wVar 5)) wNext)
def t4_Rule__after : wS := (wRet (wVar 1))
def t3_Rule__after : wS := (wSeq (wFor (wSeqI (wFld [0] "steps" (wVar 0))) (wGtup 3 (wGcons (wGn 3) (wGcons (wGn 4) (wGcons (wGn 5) wGnil)))) lp1_Rule__after)
    t4_Rule__after)
def t2_Rule__after : wS := (wSeq (wIfS (wB (wOp (inD false) (wVar 1) (wFld [0] "bad" (wVar 0)))) (wRet (wVar 1)) wNext)
    t3_Rule__after)
def t1_Rule__after : wS := (wSeq (wIfS (wOr (wNot (wTru (wCall C_is_event 1 [] (wCons (wVar 2) wNil)))) (wB (wOp (eqD false) (wLi lenD (wCons (wVar 2) wNil)) (wC (.int 2))))) (wRaise 5 ["value"] (wCons (wVar 2) wNil)) wNext)
    t2_Rule__after)
def w_Rule__after : wS :=
    (wSeq (wIfS (wNot (wTru (wCall C_is_state 1 [] (wCons (wVar 1) wNil)))) (wRaise 4 ["value"] (wCons (wVar 1) wNil)) wNext)
    t1_Rule__after)
def lp1__law_bag : wS := (wAsg 2 (wOp modD (wLi toIntD (wCons (wOp addD (wOp addD (wOp mulD (wVar 2) (wC (.int 69069))) (wVar 3)) (wC (.int 1))) wNil)) (wC (.int 2305843009213693951))))
def t3__law_bag : wS := (wRet (wLstC (wCons (wOp addD (wOp modD (wLi toIntD (wCons (wVar 2) wNil)) (wC (.int 2305843009213693951))) (wOp mulD (wC (.int 40014)) (wOp addD (wVar 1) (wC (.int 1))))) (wCons (wVar 4) (wCons (wC (.int 0)) wNil)))))
def t2__law_bag : wS := (wSeq (wAsg 4 (wIf (wB (wOp ltD (wVar 2) (wC (.int 0)))) (wOp subD (wC (.int 0)) (wVar 2)) (wIf (wB (wOp geD (wVar 2) (wOp powD (wC (.int 10)) (wC (.int 18))))) (wVar 2) (wC (.int 0)))))
    t3__law_bag)
def t1__law_bag : wS := (wSeq (wIfS (wB (wOp ltD (wVar 1) (wLi lenD (wCons (wVar 0) wNil)))) (wAsg 2 (wLi toIntD (wCons (wOp ixD (wVar 0) (wVar 1)) wNil))) (wFor (wSeqI (wSl (wVar 0) wOn (wOs (wC (.int 4))))) (wGn 3) lp1__law_bag))
    t2__law_bag)
def w__law_bag : wS :=
    (wSeq (wAsg 2 (wVar 1))
    t1__law_bag)
def t4__law_pick : wS := (wRet (wOp modD (wLi toIntD (wCons (wOp fdivD (wOp ixD (wVar 0) (wC (.int 0))) (wC (.int 1048573))) wNil)) (wVar 1)))
def t3__law_pick : wS := (wSeq (wIfS (wB (wOp gtD (wOp ixD (wVar 0) (wC (.int 1))) (wC (.int 0)))) (wSeq (wPairIx (wVar 0) (wC (.int 1)) 3 (wLi divmodD (wCons (wOp ixD (wVar 0) (wC (.int 1))) (wCons (wVar 1) wNil))))
    (wRet (wVar 3))) wNext)
    t4__law_pick)
def t2__law_pick : wS := (wSeq (wSetIx (wVar 0) (wC (.int 0)) (wOp modD (wLi toIntD (wCons (wOp addD (wOp mulD (wOp ixD (wVar 0) (wC (.int 0))) (wC (.int 1181783497276652981))) (wOp mulD (wC (.int 766434582181)) (wOp ixD (wVar 0) (wC (.int 2))))) wNil)) (wVar 2)))
    t3__law_pick)
def t1__law_pick : wS := (wSeq (wAsg 2 (wC (.int 2305843009213693951)))
    t2__law_pick)
def w__law_pick : wS :=
    (wSeq (wSetIx (wVar 0) (wC (.int 2)) (wOp addD (wOp ixD (wVar 0) (wC (.int 2))) (wC (.int 1))))
    t1__law_pick)
def lp1__law_name : wS := (wAsg 3 (wOp addD (wVar 3) (wOp ixD (wVar 2) (wCall C__law_pick 2 [] (wCons (wVar 0) (wCons (wC (.int 26)) wNil))))))
def lp2__law_name : wS := (wAsg 3 (wOp addD (wVar 3) (wOp ixD (wVar 2) (wCall C__law_pick 2 [] (wCons (wVar 0) (wCons (wC (.int 26)) wNil))))))
def t5__law_name : wS := (wRet (wVar 3))
def t4__law_name : wS := (wSeq (wFor (wRng1 (wCons (wCall C__law_pick 2 [] (wCons (wVar 0) (wCons (wC (.int 4)) wNil))) wNil)) (wGn 4) lp2__law_name)
    t5__law_name)
def t3__law_name : wS := (wSeq (wAsg 3 (wOp addD (wVar 3) (wLi strIntD (wCons (wVar 1) wNil))))
    t4__law_name)
def t2__law_name : wS := (wSeq (wFor (wRng1 (wCons (wOp addD (wC (.int 1)) (wCall C__law_pick 2 [] (wCons (wVar 0) (wCons (wC (.int 3)) wNil)))) wNil)) (wGn 4) lp1__law_name)
    t3__law_name)
def t1__law_name : wS := (wSeq (wAsgG (wTup (wCons (wC (.str "abcdefghijklmnopqrstuvwxyz")) (wCons (wC (.str "")) wNil))) (wGtup 2 (wGcons (wGn 2) (wGcons (wGn 3) wGnil))))
    t2__law_name)
def w__law_name : wS :=
    (wSeq (wIfS (wB (wOp (eqD false) (wCall C__law_pick 2 [] (wCons (wVar 0) (wCons (wC (.int 6)) wNil))) (wC (.int 0)))) (wRet (wOp ixD (wLst (wCons (wC (.str "into")) (wCons (wC (.str "plus")) (wCons (wC (.str "fail")) (wCons (wC (.str "if")) (wCons (wC (.str "else")) (wCons (wC (.str "while")) (wCons (wC (.str "call")) (wCons (wC (.str "return")) (wCons (wC (.str "not")) (wCons (wC (.str "slot")) wNil))))))))))) (wVar 1))) wNext)
    t1__law_name)
def t1__law_wrong_state : wS := (wRet (wOp ixD (wVar 1) (wCall C__law_pick 2 [] (wCons (wVar 0) (wCons (wLi lenD (wCons (wVar 1) wNil)) wNil)))))
def w__law_wrong_state : wS :=
    (wSeq (wAsg 1 (wLst (wCons (wUn negD (wC (.int 1))) (wCons (wC (.int 100)) (wCons (wC (.bl true)) (wCons (wC (.bl false)) (wCons (wC .non) (wCons (wC (.str "0")) (wCons (wTup (wCons (wC (.int 0)) wNil)) (wCons (wLst (wCons (wC (.int 0)) wNil)) (wCons wDic0 (wCons (wOp powD (wC (.int 10)) (wC (.int 50))) (wCons (wC (.int 101)) wNil)))))))))))))
    t1__law_wrong_state)
def t5__law_wrong_event : wS := (wRet (wOp ixD (wVar 2) (wCall C__law_pick 2 [] (wCons (wVar 0) (wCons (wLi lenD (wCons (wVar 2) wNil)) wNil)))))
def t4__law_wrong_event : wS := (wSeq (wAsg 2 (wOp addD (wVar 2) (wLst (wCons (wTup (wCons (wLst (wCons (wC (.str "call")) wNil)) (wCons (wVar 1) wNil))) (wCons (wTup (wCons (wC (.str "call")) (wCons (wLst (wCons (wVar 1) wNil)) (wCons (wC (.int 0)) wNil)))) (wCons (wC (.int 7)) (wCons wDic0 (wCons (wTup (wCons (wTup (wCons (wC (.str "call")) wNil)) (wCons (wVar 1) wNil))) (wCons (wTup (wCons (wC (.str "answer")) (wCons (wBM0 "str" (str1D (fun a => a.length ≤ 5592405) fun a => .str (Txt.upper a)) (wVar 1)) (wCons (wC (.int 1)) wNil)))) wNil)))))))))
    t5__law_wrong_event)
def t3__law_wrong_event : wS := (wSeq (wAsg 2 (wOp addD (wVar 2) (wLst (wCons (wTup (wCons (wC (.str "Call")) (wCons (wVar 1) wNil))) (wCons (wTup (wCons (wC (.str "hang ")) wNil)) wNil)))))
    t4__law_wrong_event)
def t2__law_wrong_event : wS := (wSeq (wAsg 2 (wOp addD (wVar 2) (wLst (wCons (wTup (wCons (wC (.str "out")) (wCons (wOp addD (wVar 1) (wC (.str "aaaaaaaa"))) wNil))) (wCons (wTup (wCons (wC (.str "out")) (wCons (wC (.str "")) wNil))) (wCons (wTup (wCons (wC (.str "answer")) (wCons (wC (.str "1a")) wNil))) (wCons (wTup (wCons (wC (.str "hangs")) (wCons (wVar 1) wNil))) (wCons (wTup (wCons (wC (.str "answer")) (wCons (wC .non) wNil))) wNil))))))))
    t3__law_wrong_event)
def t1__law_wrong_event : wS := (wSeq (wAsg 2 (wOp addD (wVar 2) (wLst (wCons (wTup (wCons (wC (.str "call")) (wCons (wVar 1) (wCons (wC (.int 1)) (wCons (wC (.int 2)) wNil))))) (wCons (wLst (wCons (wC (.str "call")) (wCons (wVar 1) wNil))) (wCons (wTup (wCons (wC (.str "stop")) (wCons (wVar 1) wNil))) (wCons (wC (.str "hang")) (wCons (wC .non) (wCons (wTup (wCons (wC (.str "back")) (wCons (wVar 1) (wCons (wTup (wCons (wC (.int 0)) wNil)) wNil)))) wNil)))))))))
    t2__law_wrong_event)
def w__law_wrong_event : wS :=
    (wSeq (wAsg 2 (wLst (wCons (wTup wNil) (wCons (wTup (wCons (wC (.str "hang")) (wCons (wC (.int 1)) wNil))) (wCons (wTup (wCons (wC (.str "hang")) (wCons (wVar 1) wNil))) (wCons (wTup (wCons (wC (.str "call")) wNil)) (wCons (wTup (wCons (wC (.str "call")) (wCons (wVar 1) (wCons (wC (.str "1")) wNil)))) (wCons (wTup (wCons (wC (.str "call")) (wCons (wVar 1) (wCons (wC (.bl true)) wNil)))) (wCons (wTup (wCons (wC (.str "call")) (wCons (wVar 1) (wCons (wC .non) wNil)))) wNil)))))))))
    t1__law_wrong_event)
def t5__law_wrong_step : wS := (wRet (wOp ixD (wVar 3) (wCall C__law_pick 2 [] (wCons (wVar 0) (wCons (wLi lenD (wCons (wVar 3) wNil)) wNil)))))
def t4__law_wrong_step : wS := (wSeq (wAsg 3 (wLst (wCons (wC .non) (wCons (wTup (wCons (wC (.int 0)) (wCons (wTup (wCons (wC (.str "hang")) wNil)) wNil))) (wCons (wTup (wCons (wC (.int 0)) (wCons (wTup (wCons (wC (.str "hang")) wNil)) (wCons (wC (.int 0)) (wCons (wC (.int 0)) wNil))))) (wCons (wLst (wCons (wC (.int 0)) (wCons (wTup (wCons (wC (.str "hang")) wNil)) (wCons (wC (.int 0)) wNil)))) (wCons (wTup wNil) (wCons (wC (.str "step")) (wCons (wC (.int 0)) (wCons (wTup (wCons (wTup (wCons (wC (.str "hang")) wNil)) (wCons (wC (.int 0)) (wCons (wC (.int 0)) wNil)))) (wCons wDic0 (wCons (wC (.bl true)) wNil))))))))))))
    t5__law_wrong_step)
def t3__law_wrong_step : wS := (wSeq (wIfS (wB (wOp (eqD false) (wVar 2) (wC (.int 2)))) (wRet (wTup (wCons (wC (.int 0)) (wCons (wCall C__law_wrong_event 2 [] (wCons (wVar 0) (wCons (wVar 1) wNil))) (wCons (wC (.int 1)) wNil))))) wNext)
    t4__law_wrong_step)
def t2__law_wrong_step : wS := (wSeq (wIfS (wB (wOp (eqD false) (wVar 2) (wC (.int 1)))) (wRet (wTup (wCons (wC (.int 0)) (wCons (wTup (wCons (wC (.str "hang")) wNil)) (wCons (wCall C__law_wrong_state 1 [] (wCons (wVar 0) wNil)) wNil))))) wNext)
    t3__law_wrong_step)
def t1__law_wrong_step : wS := (wSeq (wIfS (wB (wOp (eqD false) (wVar 2) (wC (.int 0)))) (wRet (wTup (wCons (wCall C__law_wrong_state 1 [] (wCons (wVar 0) wNil)) (wCons (wTup (wCons (wC (.str "hang")) wNil)) (wCons (wC (.int 0)) wNil))))) wNext)
    t2__law_wrong_step)
def w__law_wrong_step : wS :=
    (wSeq (wAsg 2 (wCall C__law_pick 2 [] (wCons (wVar 0) (wCons (wC (.int 4)) wNil))))
    t1__law_wrong_step)
def tr1__law_error : wS := (wDrop (wMake true 0 C_Rule____init__ 3 [] (wCons (wVar 0) (wCons (wVar 1) wNil))))
def t5__law_error : wS := (wRet (wTup (wCons (wVar 3) (wCons (wXf [6, 7] "index" (wVar 2)) (wCons (wIsx [(4, true), (5, true), (6, true), (7, true)] (wVar 2)) (wCons (wIsx [(4, true), (5, true), (6, true), (7, true)] (wVar 2)) (wCons (wOrV (wVar 5) (wVar 6)) wNil)))))))
def t4__law_error : wS := (wSeq (wAsg 6 (wAndV (wIsx [(4, false), (5, false), (6, true), (7, false)] (wVar 2)) (wIsx [(4, false), (5, false), (6, false), (7, true)] (wVar 2))))
    t5__law_error)
def t3__law_error : wS := (wSeq (wAsg 5 (wOrV (wIsx [(4, false), (5, false), (6, false), (7, false)] (wVar 2)) (wOrV (wIsx [(4, false), (5, false), (6, false), (7, false)] (wVar 2)) (wIsx [(4, true), (5, false), (6, false), (7, false)] (wVar 2)))))
    t4__law_error)
def t2__law_error : wS := (wSeq (wIfS (wB (wOp (isD false) (wVar 2) (wC .non))) (wRet (wTup (wCons (wVar 3) wNil))) wNext)
    t3__law_error)
def t1__law_error : wS := (wSeq (wTry tr1__law_error [⟨[(4, false), (5, false), (6, true), (7, false)], some 4, (wExPar 4 2 3 "steps")⟩, ⟨[(4, false), (5, false), (6, false), (7, true)], some 4, (wExPar 4 2 3 "bad")⟩])
    t2__law_error)
def w__law_error : wS :=
    (wSeq (wAsgG (wTup (wCons (wC .non) (wCons (wC (.str "none")) wNil))) (wGtup 2 (wGcons (wGn 2) (wGcons (wGn 3) wGnil))))
    t1__law_error)
def tr1__law_asked : wS := (wDrop (wMeth [(0, C_Rule__after)] "after" 3 [] (wVar 0) (wCons (wVar 1) (wCons (wVar 2) wNil))))
def t4__law_asked : wS := (wRet (wTup (wCons (wVar 4) (wCons (wLi reprX (wCons (wXf [4, 5] "value" (wVar 3)) wNil)) (wCons (wIsx [(4, true), (5, true), (6, true), (7, true)] (wVar 3)) (wCons (wVar 6) wNil))))))
def t3__law_asked : wS := (wSeq (wAsg 6 (wOrV (wIsx [(4, false), (5, false), (6, false), (7, false)] (wVar 3)) (wOrV (wIsx [(4, false), (5, false), (6, false), (7, false)] (wVar 3)) (wIsx [(4, false), (5, false), (6, true), (7, false)] (wVar 3)))))
    t4__law_asked)
def t2__law_asked : wS := (wSeq (wIfS (wB (wOp (isD false) (wVar 3) (wC .non))) (wRet (wTup (wCons (wVar 4) wNil))) wNext)
    t3__law_asked)
def t1__law_asked : wS := (wSeq (wTry tr1__law_asked [⟨[(4, true), (5, false), (6, false), (7, false)], some 5, (wExPar 5 3 4 "state")⟩, ⟨[(4, false), (5, true), (6, false), (7, false)], some 5, (wExPar 5 3 4 "event")⟩])
    t2__law_asked)
def w__law_asked : wS :=
    (wSeq (wAsgG (wTup (wCons (wC .non) (wCons (wC (.str "none")) wNil))) (wGtup 2 (wGcons (wGn 3) (wGcons (wGn 4) wGnil))))
    t1__law_asked)
def tt1__law_made_right : wT := (wB (wOp (eqD true) (wLi reprD (wCons (wCall C__law_error 2 [] (wCons (wOp ixD (wVar 12) (wC (.int 0))) (wCons (wOp ixD (wVar 12) (wC (.int 1))) wNil))) wNil)) (wLi reprD (wCons (wOp ixD (wVar 12) (wC (.int 2))) wNil))))
def el1__law_made_right : wE := (wVar 12)
def t10__law_made_right : wS := (wRet (wOp (eqD false) (wLc [12] (wSeqI (wVar 11)) (wGn 12) tt1__law_made_right el1__law_made_right) (wLst wNil)))
def t9__law_made_right : wS := (wSeq (wAsg 11 (wOp addD (wVar 11) (wLst (wCons (wTup (wCons (wLi toTupD (wCons (wVar 1) wNil)) (wCons (wVar 10) (wCons (wTup (wCons (wC (.str "bad")) (wCons (wC .non) (wCons (wC (.bl true)) (wCons (wC (.bl true)) (wCons (wC (.bl false)) wNil)))))) wNil)))) (wCons (wTup (wCons (wVar 6) (wCons (wVar 10) (wCons (wTup (wCons (wC (.str "steps")) (wCons (wVar 4) (wCons (wC (.bl true)) (wCons (wC (.bl true)) (wCons (wC (.bl false)) wNil)))))) wNil)))) wNil)))))
    t10__law_made_right)
def t8__law_made_right : wS := (wSeq (wAsg 11 (wOp addD (wVar 11) (wLst (wCons (wTup (wCons (wLi toTupD (wCons (wVar 1) wNil)) (wCons (wVar 8) (wCons (wTup (wCons (wC (.str "bad")) (wCons (wLi lenD (wCons (wVar 2) wNil)) (wCons (wC (.bl true)) (wCons (wC (.bl true)) (wCons (wC (.bl false)) wNil)))))) wNil)))) (wCons (wTup (wCons (wLi toTupD (wCons (wVar 1) wNil)) (wCons (wLi toTupD (wCons (wVar 2) wNil)) (wCons (wTup (wCons (wC (.str "none")) wNil)) wNil)))) wNil)))))
    t9__law_made_right)
def t7__law_made_right : wS := (wSeq (wAsg 11 (wOp addD (wVar 11) (wLst (wCons (wTup (wCons (wLi toTupD (wCons (wVar 1) wNil)) (wCons (wVar 9) (wCons (wTup (wCons (wC (.str "bad")) (wCons (wVar 5) (wCons (wC (.bl true)) (wCons (wC (.bl true)) (wCons (wC (.bl false)) wNil)))))) wNil)))) (wCons (wTup (wCons (wVar 10) (wCons (wVar 9) (wCons (wTup (wCons (wC (.str "steps")) (wCons (wC .non) (wCons (wC (.bl true)) (wCons (wC (.bl true)) (wCons (wC (.bl false)) wNil)))))) wNil)))) wNil)))))
    t8__law_made_right)
def t6__law_made_right : wS := (wSeq (wAsg 11 (wLst (wCons (wTup (wCons (wVar 6) (wCons (wLi toTupD (wCons (wVar 2) wNil)) (wCons (wTup (wCons (wC (.str "steps")) (wCons (wVar 4) (wCons (wC (.bl true)) (wCons (wC (.bl true)) (wCons (wC (.bl false)) wNil)))))) wNil)))) (wCons (wTup (wCons (wVar 6) (wCons (wVar 9) (wCons (wTup (wCons (wC (.str "steps")) (wCons (wVar 4) (wCons (wC (.bl true)) (wCons (wC (.bl true)) (wCons (wC (.bl false)) wNil)))))) wNil)))) wNil))))
    t7__law_made_right)
def t5__law_made_right : wS := (wSeq (wAsg 10 (wOp ixD (wLst (wCons (wC .non) (wCons (wLi toLstD (wCons (wVar 1) wNil)) (wCons (wC (.str "")) (wCons (wC (.int 0)) (wCons wDic0 (wCons (wC (.bl true)) wNil))))))) (wCall C__law_pick 2 [] (wCons (wVar 0) (wCons (wC (.int 6)) wNil)))))
    t6__law_made_right)
def t4__law_made_right : wS := (wSeq (wAsg 9 (wLi toTupD (wCons (wOp addD (wOp addD (wSl (wVar 2) wOn (wOs (wVar 5))) (wLst (wCons (wCall C__law_wrong_state 1 [] (wCons (wVar 0) wNil)) wNil))) (wSl (wVar 2) (wOs (wVar 5)) wOn)) wNil)))
    t5__law_made_right)
def t3__law_made_right : wS := (wSeq (wAsg 8 (wLi toTupD (wCons (wOp addD (wVar 2) (wLst (wCons (wVar 7) wNil))) wNil)))
    t4__law_made_right)
def t2__law_made_right : wS := (wSeq (wAsg 7 (wIf (wAnd (wB (wOp (eqD true) (wVar 2) (wLst wNil))) (wB (wOp (eqD false) (wCall C__law_pick 2 [] (wCons (wVar 0) (wCons (wC (.int 2)) wNil))) (wC (.int 0))))) (wOp ixD (wVar 2) (wCall C__law_pick 2 [] (wCons (wVar 0) (wCons (wLi lenD (wCons (wVar 2) wNil)) wNil)))) (wCall C__law_wrong_state 1 [] (wCons (wVar 0) wNil))))
    t3__law_made_right)
def t1__law_made_right : wS := (wSeq (wAsg 6 (wLi toTupD (wCons (wOp addD (wOp addD (wSl (wVar 1) wOn (wOs (wVar 4))) (wLst (wCons (wCall C__law_wrong_step 2 [] (wCons (wVar 0) (wCons (wVar 3) wNil))) wNil))) (wSl (wVar 1) (wOs (wVar 4)) wOn)) wNil)))
    t2__law_made_right)
def w__law_made_right : wS :=
    (wSeq (wPar 4 5 (wCons (wCall C__law_pick 2 [] (wCons (wVar 0) (wCons (wOp addD (wLi lenD (wCons (wVar 1) wNil)) (wC (.int 1))) wNil))) (wCons (wCall C__law_pick 2 [] (wCons (wVar 0) (wCons (wOp addD (wLi lenD (wCons (wVar 2) wNil)) (wC (.int 1))) wNil))) wNil)))
    t1__law_made_right)
def lp1__law_after_right : wS := (wDrop (wBM "list" appD (wVar 6) (wCons (wTup (wCons (wC (.int 3)) (wCons (wVar 7) (wCons (wTup (wCons (wC (.str "event")) (wCons (wLi reprD (wCons (wVar 7) wNil)) (wCons (wC (.bl true)) (wCons (wC (.bl false)) wNil))))) wNil)))) wNil)))
def tt1__law_after_right : wT := (wB (wOp (eqD true) (wLi reprD (wCons (wCall C__law_asked 3 [] (wCons (wVar 1) (wCons (wOp ixD (wVar 8) (wC (.int 0))) (wCons (wOp ixD (wVar 8) (wC (.int 1))) wNil)))) wNil)) (wLi reprD (wCons (wOp ixD (wVar 8) (wC (.int 2))) wNil))))
def el1__law_after_right : wE := (wVar 8)
def t5__law_after_right : wS := (wRet (wOp (eqD false) (wLc [8] (wSeqI (wVar 6)) (wGn 8) tt1__law_after_right el1__law_after_right) (wLst wNil)))
def t4__law_after_right : wS := (wSeq (wAsg 6 (wOp addD (wVar 6) (wLst (wCons (wTup (wCons (wC (.int 0)) (wCons (wVar 5) (wCons (wTup (wCons (wC (.str "none")) wNil)) wNil)))) (wCons (wTup (wCons (wC (.int 99)) (wCons (wTup (wCons (wC (.str "hang")) wNil)) (wCons (wTup (wCons (wC (.str "none")) wNil)) wNil)))) wNil)))))
    t5__law_after_right)
def t3__law_after_right : wS := (wSeq (wFor (wSeqI (wLst (wCons (wTup (wCons (wC (.str "call")) (wCons (wVar 2) wNil))) (wCons (wTup (wCons (wC (.str "answer")) (wCons (wVar 2) wNil))) (wCons (wTup (wCons (wC (.str "out")) (wCons (wVar 2) wNil))) (wCons (wTup (wCons (wC (.str "back")) (wCons (wVar 2) wNil))) wNil)))))) (wGn 7) lp1__law_after_right)
    t4__law_after_right)
def t2__law_after_right : wS := (wSeq (wDrop (wBM "list" appD (wVar 6) (wCons (wTup (wCons (wC (.int 3)) (wCons (wVar 4) (wCons (wTup (wCons (wC (.str "event")) (wCons (wLi reprX (wCons (wVar 4) wNil)) (wCons (wC (.bl true)) (wCons (wC (.bl false)) wNil))))) wNil)))) wNil)))
    t3__law_after_right)
def t1__law_after_right : wS := (wSeq (wAsg 6 (wLstC (wCons (wTup (wCons (wVar 3) (wCons (wVar 5) (wCons (wTup (wCons (wC (.str "state")) (wCons (wLi reprX (wCons (wVar 3) wNil)) (wCons (wC (.bl true)) (wCons (wC (.bl false)) wNil))))) wNil)))) (wCons (wTup (wCons (wVar 3) (wCons (wVar 4) (wCons (wTup (wCons (wC (.str "state")) (wCons (wLi reprX (wCons (wVar 3) wNil)) (wCons (wC (.bl true)) (wCons (wC (.bl false)) wNil))))) wNil)))) wNil))))
    t2__law_after_right)
def w__law_after_right : wS :=
    (wSeq (wPar3 3 4 5 (wCons (wCall C__law_wrong_state 1 [] (wCons (wVar 0) wNil)) (wCons (wCall C__law_wrong_event 2 [] (wCons (wVar 0) (wCons (wVar 2) wNil))) (wCons (wTup (wCons (wC (.str "out")) (wCons (wVar 2) (wCons (wC (.int 4)) wNil)))) wNil))))
    t1__law_after_right)
def el1__law_right : wE := (wTup (wCons (wVar 5) (wCons (wTup (wCons (wC (.str "back")) (wCons (wVar 1) (wCons (wOp subD (wVar 5) (wC (.int 1))) wNil)))) (wCons (wOp addD (wVar 5) (wC (.int 1))) wNil))))
def t5__law_right : wS := (wRet (wOp (eqD false) (wLi reprD (wCons (wLst (wCons (wFld [0] "steps" (wVar 4)) (wCons (wFld [0] "bad" (wVar 4)) wNil))) wNil)) (wLi reprD (wCons (wLst (wCons (wLi toTupD (wCons (wVar 2) wNil)) (wCons (wLi toTupD (wCons (wVar 3) wNil)) wNil))) wNil))))
def t4__law_right : wS := (wSeq (wIfS (wOr (wNot (wTru (wCall C__law_made_right 4 [] (wCons (wVar 0) (wCons (wVar 2) (wCons (wVar 3) (wCons (wVar 1) wNil))))))) (wNot (wTru (wCall C__law_after_right 3 [] (wCons (wVar 0) (wCons (wVar 4) (wCons (wVar 1) wNil))))))) (wRet (wC (.bl false))) wNext)
    t5__law_right)
def t3__law_right : wS := (wSeq (wAsg 4 (wMake true 0 C_Rule____init__ 3 [] (wCons (wLi toTupD (wCons (wVar 2) wNil)) (wCons (wLi toTupD (wCons (wVar 3) wNil)) wNil))))
    t4__law_right)
def t2__law_right : wS := (wSeq (wAsg 3 (wOp ixD (wLst (wCons (wLst wNil) (wCons (wLst (wCons (wC (.int 5)) wNil)) (wCons (wLst (wCons (wC (.int 5)) (wCons (wC (.int 0)) wNil))) (wCons (wLst (wCons (wC (.int 99)) (wCons (wC (.int 7)) (wCons (wC (.int 1)) wNil)))) wNil))))) (wCall C__law_pick 2 [] (wCons (wVar 0) (wCons (wC (.int 4)) wNil)))))
    t3__law_right)
def t1__law_right : wS := (wSeq (wAsg 2 (wLc [5] (wRng1 (wCons (wCall C__law_pick 2 [] (wCons (wVar 0) (wCons (wC (.int 5)) wNil))) wNil)) (wGn 5) wYes el1__law_right))
    t2__law_right)
def w__law_right : wS :=
    (wSeq (wAsg 1 (wCall C__law_name 2 [] (wCons (wVar 0) (wCons (wCall C__law_pick 2 [] (wCons (wVar 0) (wCons (wC (.int 10)) wNil))) wNil))))
    t1__law_right)
def el1_law : wE := (wCall C__law_right 1 [] (wCons (wCall C__law_bag 2 [] (wCons (wVar 0) (wCons (wVar 1) wNil))) wNil))
def w_law : wS :=
    (wRet (wLi allD (wCons (wLc [1] (wRng1 (wCons (wLi max2D (wCons (wC (.int 2)) (wCons (wLi min2D (wCons (wLi lenD (wCons (wVar 0) wNil)) (wCons (wC (.int 63)) wNil))) wNil))) wNil)) (wGn 1) wYes el1_law) wNil)))
end My
namespace My
open PySem PySem.Spec PyProof.Rows L2 DL
theorem b_is_integer {P : Program} {w : World} {K : PySem.W.Frag} {mg : Str → Option Value} {base : Heap} {CA : Nat → Addr} (T : Txt K mg CA)  {f : Addr} {cdv : Value} {A : Around} {outer : List PySem.Env} {s : Shared} {H : Hp} {E : XK}
    (hr : Rm 0 (A.deeper (envOfC "is_integer" (defScope s_is_integer) s.heap.objs.size f cdv))) : SSs (cxOf (L2N.CX P w) P w K mg base ["value"] "is_integer" (defScope s_is_integer) f cdv A outer s H E) CA (defBody s_is_integer) w_is_integer :=
    (sss_one (ss_ret (se_and (se_callB call_isi ld_isi T.z_isinstance (by decide +kernel) (sa_cons (se_var 0) (sa_cons (se_ty T.z_int (by decide +kernel)) sa_nil))) (se_one (se_not (se_callB call_isi ld_isi T.z_isinstance (by decide +kernel) (sa_cons (se_var 0) (sa_cons (se_ty T.z_bool (by decide +kernel)) sa_nil))))))))
theorem b_is_name {P : Program} {w : World} {K : PySem.W.Frag} {mg : Str → Option Value} {base : Heap} {CA : Nat → Addr} (T : Txt K mg CA)  {f : Addr} {cdv : Value} {A : Around} {outer : List PySem.Env} {s : Shared} {H : Hp} {E : XK}
    (hr : Rm 0 (A.deeper (envOfC "is_name" (defScope s_is_name) s.heap.objs.size f cdv))) : SSs (cxOf (L2N.CX P w) P w K mg base ["value", "sign"] "is_name" (defScope s_is_name) f cdv A outer s H E) CA (defBody s_is_name) w_is_name :=
    (sss_cons (ss_if (sw_or (st_not (st_tru (se_callB call_isi ld_isi T.z_isinstance (by decide +kernel) (sa_cons (se_var 0) (sa_cons (se_ty T.z_str (by decide +kernel)) sa_nil))))) (sw_or (st_not (st_chain op_le od_le op_le od_le se_int (se_callB call_lenDD ld_len T.z_len (by decide +kernel) (sa_cons (se_var 0) sa_nil)) (se_glob T.g_MAX_SIGNS))) (sw_or1 (st_cmp op_notInDD od_notIn (se_ix ix_seq od_ix (se_var 0) se_int) (se_glob T.g_LETTERS) (by rfl))))).st (sss_one (ss_ret se_bl)) sss_nil)
    (sss_one (ss_ret (se_callB (cr_all (by rfl)) ld_all T.z_all (by decide +kernel) (sa_cons (se_lc ["value", "sign"] (defScope s_is_name) [("sign", 1)] (si_seq (se_var 0)) (by decide +kernel) (fun _ _ _ _ _ => (sgo_name (i := 1) sc_is_name.nd)) (fun _ _ _ _ _ => sp_nil) (fun _ _ _ _ _ => (se_cmp op_inDD od_in (se_var 1) (se_glob T.g_SIGNS) (by rfl))) sc_is_name.nd) sa_nil)))))
theorem b_is_state {P : Program} {w : World} {K : PySem.W.Frag} {mg : Str → Option Value} {base : Heap} {CA : Nat → Addr} (T : Txt K mg CA) (c_is_integer : Callee P w K mg base CA 1 "is_integer" 1 [] C_is_integer) {f : Addr} {cdv : Value} {A : Around} {outer : List PySem.Env} {s : Shared} {H : Hp} {E : XK}
    (hr : Rm 1 (A.deeper (envOfC "is_state" (defScope s_is_state) s.heap.objs.size f cdv))) : SSs (cxOf (L2N.CX P w) P w K mg base ["value"] "is_state" (defScope s_is_state) f cdv A outer s H E) CA (defBody s_is_state) w_is_state :=
    (sss_one (ss_ret (se_and (se_call c_is_integer (hr.mono (by decide)) (sa_cons (se_var 0) sa_nil)) (se_one (se_chain op_le od_le op_le od_le se_int (se_var 0) (se_glob T.g_MAX_STATE))))))
theorem b_is_event {P : Program} {w : World} {K : PySem.W.Frag} {mg : Str → Option Value} {base : Heap} {CA : Nat → Addr} (T : Txt K mg CA) (c_is_name : Callee P w K mg base CA 1 "is_name" 1 [] C_is_name) (c_is_integer : Callee P w K mg base CA 1 "is_integer" 1 [] C_is_integer) {f : Addr} {cdv : Value} {A : Around} {outer : List PySem.Env} {s : Shared} {H : Hp} {E : XK}
    (hr : Rm 1 (A.deeper (envOfC "is_event" (defScope s_is_event) s.heap.objs.size f cdv))) : SSs (cxOf (L2N.CX P w) P w K mg base ["value"] "is_event" (defScope s_is_event) f cdv A outer s H E) CA (defBody s_is_event) w_is_event :=
    (sss_cons (ss_if (sw_or (st_not (st_tru (se_callB call_isi ld_isi T.z_isinstance (by decide +kernel) (sa_cons (se_var 0) (sa_cons (se_ty T.z_tuple (by decide +kernel)) sa_nil))))) (sw_or1 (st_not (st_chain op_le od_le op_le od_le se_int (se_callB call_lenDD ld_len T.z_len (by decide +kernel) (sa_cons (se_var 0) sa_nil)) se_int)))).st (sss_one (ss_ret se_bl)) sss_nil)
    (sss_cons (ss_if (st_cmp (op_eqDD hr.room.units) od_eq (se_callB call_lenDD ld_len T.z_len (by decide +kernel) (sa_cons (se_var 0) sa_nil)) se_int (nomark _)) (sss_one (ss_ret (se_cmp (op_eqDD hr.room.units) od_eq (se_var 0) (se_tup (sa_cons se_str sa_nil)) (nomark _)))) sss_nil)
    (sss_cons (ss_if (sw_or (st_cmp (op_notInX hr.u65) od_inX (se_ix ix_seq od_ix (se_var 0) se_int) (se_glob T.g_WORDS) (by rfl)) (sw_or1 (st_not (st_tru (se_call c_is_name (hr.mono (by decide)) (sa_cons (se_ix ix_seq od_ix (se_var 0) se_int) sa_nil)))))).st (sss_one (ss_ret se_bl)) sss_nil)
    (sss_one (ss_ret (se_or (se_cmp (op_eqDD hr.room.units) od_eq (se_callB call_lenDD ld_len T.z_len (by decide +kernel) (sa_cons (se_var 0) sa_nil)) se_int (nomark _)) (se_one (se_call c_is_integer (hr.mono (by decide)) (sa_cons (se_ix ix_seq od_ix (se_var 0) se_int) sa_nil)))))))))
theorem b_is_step {P : Program} {w : World} {K : PySem.W.Frag} {mg : Str → Option Value} {base : Heap} {CA : Nat → Addr} (T : Txt K mg CA) (c_is_state : Callee P w K mg base CA 2 "is_state" 1 [] C_is_state) (c_is_event : Callee P w K mg base CA 2 "is_event" 1 [] C_is_event) {f : Addr} {cdv : Value} {A : Around} {outer : List PySem.Env} {s : Shared} {H : Hp} {E : XK}
    (hr : Rm 2 (A.deeper (envOfC "is_step" (defScope s_is_step) s.heap.objs.size f cdv))) : SSs (cxOf (L2N.CX P w) P w K mg base ["value"] "is_step" (defScope s_is_step) f cdv A outer s H E) CA (defBody s_is_step) w_is_step :=
    (sss_cons (ss_if (sw_or (st_not (st_tru (se_callB call_isi ld_isi T.z_isinstance (by decide +kernel) (sa_cons (se_var 0) (sa_cons (se_ty T.z_tuple (by decide +kernel)) sa_nil))))) (sw_or1 (st_cmp (op_neDD hr.room.units) od_ne (se_callB call_lenDD ld_len T.z_len (by decide +kernel) (sa_cons (se_var 0) sa_nil)) se_int (nomark _)))).st (sss_one (ss_ret se_bl)) sss_nil)
    (sss_one (ss_ret (se_and (se_call c_is_state (hr.mono (by decide)) (sa_cons (se_ix ix_seq od_ix (se_var 0) se_int) sa_nil)) (se_and (se_call c_is_event (hr.mono (by decide)) (sa_cons (se_ix ix_seq od_ix (se_var 0) se_int) sa_nil)) (se_one (se_call c_is_state (hr.mono (by decide)) (sa_cons (se_ix ix_seq od_ix (se_var 0) se_int) sa_nil))))))))
theorem b_Rule____init__ {P : Program} {w : World} {K : PySem.W.Frag} {mg : Str → Option Value} {base : Heap} {CA : Nat → Addr} (T : Txt K mg CA) (c_is_step : Callee P w K mg base CA 3 "is_step" 1 [] C_is_step) (c_is_state : Callee P w K mg base CA 2 "is_state" 1 [] C_is_state) (xm_InvalidSteps : XMaker P w K mg CA "InvalidSteps" 6 ["index"]) (xm_InvalidBad : XMaker P w K mg CA "InvalidBad" 7 ["index"]) {f : Addr} {cdv : Value} {A : Around} {outer : List PySem.Env} {s : Shared} {H : Hp} {E : XK}
    (hr : Rm 3 (A.deeper (envOfC "Rule.__init__" (defScope s_Rule____init__) s.heap.objs.size f cdv))) : SSs (cxOf (L2N.CX P w) P w K mg base ["self", "steps", "bad", "index", "step", "state"] "Rule.__init__" (defScope s_Rule____init__) f cdv A outer s H E) CA (defBody s_Rule____init__) w_Rule____init__ :=
    (sss_cons (ss_if (st_not (st_tru (se_callB call_isi ld_isi T.z_isinstance (by decide +kernel) (sa_cons (se_var 1) (sa_cons (se_ty T.z_tuple (by decide +kernel)) sa_nil))))) (sss_one (ss_raise xm_InvalidSteps (L2H.roomH_of hr.room) (sa_cons se_non sa_nil))) sss_nil)
    (sss_cons (ss_for (si_enum T.z_enumerate (se_var 1)) (sg_tup (sgs_cons (sg_name (i := 3) sc_Rule____init__.nd) (sgs_cons (sg_name (i := 4) sc_Rule____init__.nd) sgs_nil))) (sss_one (ss_if (st_not (st_tru (se_call c_is_step (hr.mono (by decide)) (sa_cons (se_var 4) sa_nil)))) (sss_one (ss_raise xm_InvalidSteps (L2H.roomH_of hr.room) (sa_cons (se_var 3) sa_nil))) sss_nil)) (passes_of rfl))
    (sss_cons (ss_if (st_not (st_tru (se_callB call_isi ld_isi T.z_isinstance (by decide +kernel) (sa_cons (se_var 2) (sa_cons (se_ty T.z_tuple (by decide +kernel)) sa_nil))))) (sss_one (ss_raise xm_InvalidBad (L2H.roomH_of hr.room) (sa_cons se_non sa_nil))) sss_nil)
    (sss_cons (ss_for (si_enum T.z_enumerate (se_var 2)) (sg_tup (sgs_cons (sg_name (i := 3) sc_Rule____init__.nd) (sgs_cons (sg_name (i := 5) sc_Rule____init__.nd) sgs_nil))) (sss_one (ss_if (sw_or (st_not (st_tru (se_call c_is_state (hr.mono (by decide)) (sa_cons (se_var 5) sa_nil)))) (sw_or1 (st_cmp op_inDD od_in (se_var 5) (se_slice (se_var 2) so_none (so_some (se_var 3))) (by rfl)))).st (sss_one (ss_raise xm_InvalidBad (L2H.roomH_of hr.room) (sa_cons (se_var 3) sa_nil))) sss_nil)) (passes_of rfl))
    (sss_cons (ss_fld (se_var 1) (se_var 0) (fc_cons ⟨T.k_Rule.cl, T.n_Rule_steps⟩ fc_nil))
    (sss_one (ss_fld (se_var 2) (se_var 0) (fc_cons ⟨T.k_Rule.cl, T.n_Rule_bad⟩ fc_nil))))))))
theorem b_Rule__after {P : Program} {w : World} {K : PySem.W.Frag} {mg : Str → Option Value} {base : Heap} {CA : Nat → Addr} (T : Txt K mg CA) (c_is_state : Callee P w K mg base CA 2 "is_state" 1 [] C_is_state) (c_is_event : Callee P w K mg base CA 2 "is_event" 1 [] C_is_event) (xm_InvalidValue : XMaker P w K mg CA "InvalidValue" 4 ["value"]) (xm_InvalidMove : XMaker P w K mg CA "InvalidMove" 5 ["value"]) {f : Addr} {cdv : Value} {A : Around} {outer : List PySem.Env} {s : Shared} {H : Hp} {E : XK}
    (hr : Rm 2 (A.deeper (envOfC "Rule.after" (defScope s_Rule__after) s.heap.objs.size f cdv))) : SSs (cxOf (L2N.CX P w) P w K mg base ["self", "state", "event", "here", "pattern", "later"] "Rule.after" (defScope s_Rule__after) f cdv A outer s H E) CA (defBody s_Rule__after) w_Rule__after :=
    (sss_cons (ss_if (st_not (st_tru (se_call c_is_state (hr.mono (by decide)) (sa_cons (se_var 1) sa_nil)))) (sss_one (ss_raise xm_InvalidValue (L2H.roomH_of hr.room) (sa_cons (se_var 1) sa_nil))) sss_nil)
    (sss_cons (ss_if (sw_or (st_not (st_tru (se_call c_is_event (hr.mono (by decide)) (sa_cons (se_var 2) sa_nil)))) (sw_or1 (st_cmp (op_eqDD hr.room.units) od_eq (se_callB call_lenDD ld_len T.z_len (by decide +kernel) (sa_cons (se_var 2) sa_nil)) se_int (nomark _)))).st (sss_one (ss_raise xm_InvalidMove (L2H.roomH_of hr.room) (sa_cons (se_var 2) sa_nil))) sss_nil)
    (sss_cons (ss_if (st_cmp op_inDD od_in (se_var 1) (se_fld (se_var 0) (fc_cons ⟨T.k_Rule.cl, T.n_Rule_bad⟩ fc_nil)) (by rfl)) (sss_one (ss_ret (se_var 1))) sss_nil)
    (sss_cons (ss_for (si_seq (se_fld (se_var 0) (fc_cons ⟨T.k_Rule.cl, T.n_Rule_steps⟩ fc_nil))) (sg_tup (sgs_cons (sg_name (i := 3) sc_Rule__after.nd) (sgs_cons (sg_name (i := 4) sc_Rule__after.nd) (sgs_cons (sg_name (i := 5) sc_Rule__after.nd) sgs_nil)))) (sss_one (ss_if (sw_and (st_cmp (op_eqDD hr.room.units) od_eq (se_var 3) (se_var 1) (nomark _)) (sw_and1 (st_cmp (op_eqDD hr.room.units) od_eq (se_var 4) (se_slice (se_var 2) so_none (so_some (se_callB call_lenDD ld_len T.z_len (by decide +kernel) (sa_cons (se_var 4) sa_nil)))) (nomark _)))).st (sss_one (ss_ret (se_var 5))) sss_nil)) (passes_of rfl))
    (sss_one (ss_ret (se_var 1)))))))
theorem b__law_bag {P : Program} {w : World} {K : PySem.W.Frag} {mg : Str → Option Value} {base : Heap} {CA : Nat → Addr} (T : Txt K mg CA)  {f : Addr} {cdv : Value} {A : Around} {outer : List PySem.Env} {s : Shared} {H : Hp} {E : XK}
    (hr : Rm 0 (A.deeper (envOfC "_law_bag" (defScope s__law_bag) s.heap.objs.size f cdv))) : SSs (cxOf (L2N.CX P w) P w K mg base ["script", "k", "cell", "part", "figures"] "_law_bag" (defScope s__law_bag) f cdv A outer s H E) CA (defBody s__law_bag) w__law_bag :=
    (sss_cons (ss_set (i := 2) (se_var 1) sc__law_bag.nd)
    (sss_cons (ss_if (st_cmp op_lt od_lt (se_var 1) (se_callB call_lenDD ld_len T.z_len (by decide +kernel) (sa_cons (se_var 0) sa_nil)) (nomark _)) (sss_one (ss_set (i := 2) (se_callTy call_int1 ld_toInt T.z_int (by decide +kernel) (sa_cons (se_ix ix_seq od_ix (se_var 0) (se_var 1)) sa_nil)) sc__law_bag.nd)) (sss_one (ss_for (si_seq (se_slice (se_var 0) so_none (so_some se_int))) (sg_name (i := 3) sc__law_bag.nd) (sss_one (ss_set (i := 2) (se_op op_mod od_mod (se_callTy call_int1 ld_toInt T.z_int (by decide +kernel) (sa_cons (se_op op_addD od_add (se_op op_addD od_add (se_op op_mulD od_mul (se_var 2) se_int) (se_var 3)) se_int) sa_nil)) se_int) sc__law_bag.nd)) (passes_of rfl))))
    (sss_cons (ss_set (i := 4) (se_if (st_cmp op_lt od_lt (se_var 2) se_int (nomark _)) (se_op op_sub od_sub se_int (se_var 2)) (se_if (st_cmp op_ge od_ge (se_var 2) (se_op op_pow od_pow se_int se_int) (nomark _)) (se_var 2) se_int)) sc__law_bag.nd)
    (sss_one (ss_ret (se_lstC (sa_cons (se_op op_addD od_add (se_op op_mod od_mod (se_callTy call_int1 ld_toInt T.z_int (by decide +kernel) (sa_cons (se_var 2) sa_nil)) se_int) (se_op op_mulD od_mul se_int (se_op op_addD od_add (se_var 1) se_int))) (sa_cons (se_var 4) (sa_cons se_int sa_nil)))))))))
theorem b__law_pick {P : Program} {w : World} {K : PySem.W.Frag} {mg : Str → Option Value} {base : Heap} {CA : Nat → Addr} (T : Txt K mg CA)  {f : Addr} {cdv : Value} {A : Around} {outer : List PySem.Env} {s : Shared} {H : Hp} {E : XK}
    (hr : Rm 0 (A.deeper (envOfC "_law_pick" (defScope s__law_pick) s.heap.objs.size f cdv))) : SSs (cxOf (L2N.CX P w) P w K mg base ["bag", "many", "prime", "digit"] "_law_pick" (defScope s__law_pick) f cdv A outer s H E) CA (defBody s__law_pick) w__law_pick :=
    (sss_cons (ss_setIx (se_op op_addD od_add (se_ix ix_seq od_ix (se_var 0) se_int) se_int) (se_var 0) se_int)
    (sss_cons (ss_set (i := 2) se_int sc__law_pick.nd)
    (sss_cons (ss_setIx (se_op op_mod od_mod (se_callTy call_int1 ld_toInt T.z_int (by decide +kernel) (sa_cons (se_op op_addD od_add (se_op op_mulD od_mul (se_ix ix_seq od_ix (se_var 0) se_int) se_int) (se_op op_mulD od_mul se_int (se_ix ix_seq od_ix (se_var 0) se_int))) sa_nil)) (se_var 2)) (se_var 0) se_int)
    (sss_cons (ss_if (st_cmp op_gt od_gt (se_ix ix_seq od_ix (se_var 0) se_int) se_int (nomark _)) (sss_cons (ss_pairIx (j := 3) (se_callB call_divmodW ld_divmod T.z_divmod (by decide +kernel) (sa_cons (se_ix ix_seq od_ix (se_var 0) se_int) (sa_cons (se_var 1) sa_nil))) (se_var 0) se_int sc__law_pick.nd)
    (sss_one (ss_ret (se_var 3)))) sss_nil)
    (sss_one (ss_ret (se_op op_mod od_mod (se_callTy call_int1 ld_toInt T.z_int (by decide +kernel) (sa_cons (se_op op_fdivW od_fdiv (se_ix ix_seq od_ix (se_var 0) se_int) se_int) sa_nil)) (se_var 1))))))))
theorem b__law_name {P : Program} {w : World} {K : PySem.W.Frag} {mg : Str → Option Value} {base : Heap} {CA : Nat → Addr} (T : Txt K mg CA) (c__law_pick : Callee P w K mg base CA 1 "_law_pick" 2 [] C__law_pick) {f : Addr} {cdv : Value} {A : Around} {outer : List PySem.Env} {s : Shared} {H : Hp} {E : XK}
    (hr : Rm 1 (A.deeper (envOfC "_law_name" (defScope s__law_name) s.heap.objs.size f cdv))) : SSs (cxOf (L2N.CX P w) P w K mg base ["bag", "k", "letters", "name", "turn"] "_law_name" (defScope s__law_name) f cdv A outer s H E) CA (defBody s__law_name) w__law_name :=
    (sss_cons (ss_if (st_cmp (op_eqDD hr.room.units) od_eq (se_call c__law_pick (hr.mono (by decide)) (sa_cons (se_var 0) (sa_cons se_int sa_nil))) se_int (nomark _)) (sss_one (ss_ret (se_ix ix_seq od_ix (se_lst (sa_cons se_str (sa_cons se_str (sa_cons se_str (sa_cons se_str (sa_cons se_str (sa_cons se_str (sa_cons se_str (sa_cons se_str (sa_cons se_str (sa_cons se_str sa_nil))))))))))) (se_var 1)))) sss_nil)
    (sss_cons (ss_asg (se_tup (sa_cons se_str (sa_cons se_str sa_nil))) (sg_tup (sgs_cons (sg_name (i := 2) sc__law_name.nd) (sgs_cons (sg_name (i := 3) sc__law_name.nd) sgs_nil))))
    (sss_cons (ss_for (si_range1 T.z_range (sa_cons (se_op op_addD od_add se_int (se_call c__law_pick (hr.mono (by decide)) (sa_cons (se_var 0) (sa_cons se_int sa_nil)))) sa_nil)) (sg_name (i := 4) sc__law_name.nd) (sss_one (ss_set (i := 3) (se_op op_addD od_add (se_var 3) (se_ix ix_seq od_ix (se_var 2) (se_call c__law_pick (hr.mono (by decide)) (sa_cons (se_var 0) (sa_cons se_int sa_nil))))) sc__law_name.nd)) (passes_of rfl))
    (sss_cons (ss_set (i := 3) (se_op op_addD od_add (se_var 3) (se_callTy call_str_int ld_strInt T.z_str (by decide +kernel) (sa_cons (se_var 1) sa_nil))) sc__law_name.nd)
    (sss_cons (ss_for (si_range1 T.z_range (sa_cons (se_call c__law_pick (hr.mono (by decide)) (sa_cons (se_var 0) (sa_cons se_int sa_nil))) sa_nil)) (sg_name (i := 4) sc__law_name.nd) (sss_one (ss_set (i := 3) (se_op op_addD od_add (se_var 3) (se_ix ix_seq od_ix (se_var 2) (se_call c__law_pick (hr.mono (by decide)) (sa_cons (se_var 0) (sa_cons se_int sa_nil))))) sc__law_name.nd)) (passes_of rfl))
    (sss_one (ss_ret (se_var 3))))))))
theorem b__law_wrong_state {P : Program} {w : World} {K : PySem.W.Frag} {mg : Str → Option Value} {base : Heap} {CA : Nat → Addr} (T : Txt K mg CA) (c__law_pick : Callee P w K mg base CA 1 "_law_pick" 2 [] C__law_pick) {f : Addr} {cdv : Value} {A : Around} {outer : List PySem.Env} {s : Shared} {H : Hp} {E : XK}
    (hr : Rm 1 (A.deeper (envOfC "_law_wrong_state" (defScope s__law_wrong_state) s.heap.objs.size f cdv))) : SSs (cxOf (L2N.CX P w) P w K mg base ["bag", "menu"] "_law_wrong_state" (defScope s__law_wrong_state) f cdv A outer s H E) CA (defBody s__law_wrong_state) w__law_wrong_state :=
    (sss_cons (ss_set (i := 1) (se_lst (sa_cons (se_un un_neg ud_neg se_int) (sa_cons se_int (sa_cons se_bl (sa_cons se_bl (sa_cons se_non (sa_cons se_str (sa_cons (se_tup (sa_cons se_int sa_nil)) (sa_cons (se_lst (sa_cons se_int sa_nil)) (sa_cons se_dic0 (sa_cons (se_op op_pow od_pow se_int se_int) (sa_cons se_int sa_nil)))))))))))) sc__law_wrong_state.nd)
    (sss_one (ss_ret (se_ix ix_seq od_ix (se_var 1) (se_call c__law_pick (hr.mono (by decide)) (sa_cons (se_var 0) (sa_cons (se_callB call_lenDD ld_len T.z_len (by decide +kernel) (sa_cons (se_var 1) sa_nil)) sa_nil)))))))
theorem b__law_wrong_event {P : Program} {w : World} {K : PySem.W.Frag} {mg : Str → Option Value} {base : Heap} {CA : Nat → Addr} (T : Txt K mg CA) (c__law_pick : Callee P w K mg base CA 1 "_law_pick" 2 [] C__law_pick) {f : Addr} {cdv : Value} {A : Around} {outer : List PySem.Env} {s : Shared} {H : Hp} {E : XK}
    (hr : Rm 1 (A.deeper (envOfC "_law_wrong_event" (defScope s__law_wrong_event) s.heap.objs.size f cdv))) : SSs (cxOf (L2N.CX P w) P w K mg base ["bag", "name", "menu"] "_law_wrong_event" (defScope s__law_wrong_event) f cdv A outer s H E) CA (defBody s__law_wrong_event) w__law_wrong_event :=
    (sss_cons (ss_set (i := 2) (se_lst (sa_cons (se_tup sa_nil) (sa_cons (se_tup (sa_cons se_str (sa_cons se_int sa_nil))) (sa_cons (se_tup (sa_cons se_str (sa_cons (se_var 1) sa_nil))) (sa_cons (se_tup (sa_cons se_str sa_nil)) (sa_cons (se_tup (sa_cons se_str (sa_cons (se_var 1) (sa_cons se_str sa_nil)))) (sa_cons (se_tup (sa_cons se_str (sa_cons (se_var 1) (sa_cons se_bl sa_nil)))) (sa_cons (se_tup (sa_cons se_str (sa_cons (se_var 1) (sa_cons se_non sa_nil)))) sa_nil)))))))) sc__law_wrong_event.nd)
    (sss_cons (ss_set (i := 2) (se_op op_addD od_add (se_var 2) (se_lst (sa_cons (se_tup (sa_cons se_str (sa_cons (se_var 1) (sa_cons se_int (sa_cons se_int sa_nil))))) (sa_cons (se_lst (sa_cons se_str (sa_cons (se_var 1) sa_nil))) (sa_cons (se_tup (sa_cons se_str (sa_cons (se_var 1) sa_nil))) (sa_cons se_str (sa_cons se_non (sa_cons (se_tup (sa_cons se_str (sa_cons (se_var 1) (sa_cons (se_tup (sa_cons se_int sa_nil)) sa_nil)))) sa_nil)))))))) sc__law_wrong_event.nd)
    (sss_cons (ss_set (i := 2) (se_op op_addD od_add (se_var 2) (se_lst (sa_cons (se_tup (sa_cons se_str (sa_cons (se_op op_addD od_add (se_var 1) se_str) sa_nil))) (sa_cons (se_tup (sa_cons se_str (sa_cons se_str sa_nil))) (sa_cons (se_tup (sa_cons se_str (sa_cons se_str sa_nil))) (sa_cons (se_tup (sa_cons se_str (sa_cons (se_var 1) sa_nil))) (sa_cons (se_tup (sa_cons se_str (sa_cons se_non sa_nil))) sa_nil))))))) sc__law_wrong_event.nd)
    (sss_cons (ss_set (i := 2) (se_op op_addD od_add (se_var 2) (se_lst (sa_cons (se_tup (sa_cons se_str (sa_cons (se_var 1) sa_nil))) (sa_cons (se_tup (sa_cons se_str sa_nil)) sa_nil)))) sc__law_wrong_event.nd)
    (sss_cons (ss_set (i := 2) (se_op op_addD od_add (se_var 2) (se_lst (sa_cons (se_tup (sa_cons (se_lst (sa_cons se_str sa_nil)) (sa_cons (se_var 1) sa_nil))) (sa_cons (se_tup (sa_cons se_str (sa_cons (se_lst (sa_cons (se_var 1) sa_nil)) (sa_cons se_int sa_nil)))) (sa_cons se_int (sa_cons se_dic0 (sa_cons (se_tup (sa_cons (se_tup (sa_cons se_str sa_nil)) (sa_cons (se_var 1) sa_nil))) (sa_cons (se_tup (sa_cons se_str (sa_cons (se_bm0 PySem.F.plainAttrs_str PySem.F.slot_str_upper PySem.F.type_str_upper mt_upper md_upper (se_var 1)) (sa_cons se_int sa_nil)))) sa_nil)))))))) sc__law_wrong_event.nd)
    (sss_one (ss_ret (se_ix ix_seq od_ix (se_var 2) (se_call c__law_pick (hr.mono (by decide)) (sa_cons (se_var 0) (sa_cons (se_callB call_lenDD ld_len T.z_len (by decide +kernel) (sa_cons (se_var 2) sa_nil)) sa_nil)))))))))))
theorem b__law_wrong_step {P : Program} {w : World} {K : PySem.W.Frag} {mg : Str → Option Value} {base : Heap} {CA : Nat → Addr} (T : Txt K mg CA) (c__law_pick : Callee P w K mg base CA 1 "_law_pick" 2 [] C__law_pick) (c__law_wrong_state : Callee P w K mg base CA 2 "_law_wrong_state" 1 [] C__law_wrong_state) (c__law_wrong_event : Callee P w K mg base CA 2 "_law_wrong_event" 2 [] C__law_wrong_event) {f : Addr} {cdv : Value} {A : Around} {outer : List PySem.Env} {s : Shared} {H : Hp} {E : XK}
    (hr : Rm 2 (A.deeper (envOfC "_law_wrong_step" (defScope s__law_wrong_step) s.heap.objs.size f cdv))) : SSs (cxOf (L2N.CX P w) P w K mg base ["bag", "name", "way", "menu"] "_law_wrong_step" (defScope s__law_wrong_step) f cdv A outer s H E) CA (defBody s__law_wrong_step) w__law_wrong_step :=
    (sss_cons (ss_set (i := 2) (se_call c__law_pick (hr.mono (by decide)) (sa_cons (se_var 0) (sa_cons se_int sa_nil))) sc__law_wrong_step.nd)
    (sss_cons (ss_if (st_cmp (op_eqDD hr.room.units) od_eq (se_var 2) se_int (nomark _)) (sss_one (ss_ret (se_tup (sa_cons (se_call c__law_wrong_state (hr.mono (by decide)) (sa_cons (se_var 0) sa_nil)) (sa_cons (se_tup (sa_cons se_str sa_nil)) (sa_cons se_int sa_nil)))))) sss_nil)
    (sss_cons (ss_if (st_cmp (op_eqDD hr.room.units) od_eq (se_var 2) se_int (nomark _)) (sss_one (ss_ret (se_tup (sa_cons se_int (sa_cons (se_tup (sa_cons se_str sa_nil)) (sa_cons (se_call c__law_wrong_state (hr.mono (by decide)) (sa_cons (se_var 0) sa_nil)) sa_nil)))))) sss_nil)
    (sss_cons (ss_if (st_cmp (op_eqDD hr.room.units) od_eq (se_var 2) se_int (nomark _)) (sss_one (ss_ret (se_tup (sa_cons se_int (sa_cons (se_call c__law_wrong_event (hr.mono (by decide)) (sa_cons (se_var 0) (sa_cons (se_var 1) sa_nil))) (sa_cons se_int sa_nil)))))) sss_nil)
    (sss_cons (ss_set (i := 3) (se_lst (sa_cons se_non (sa_cons (se_tup (sa_cons se_int (sa_cons (se_tup (sa_cons se_str sa_nil)) sa_nil))) (sa_cons (se_tup (sa_cons se_int (sa_cons (se_tup (sa_cons se_str sa_nil)) (sa_cons se_int (sa_cons se_int sa_nil))))) (sa_cons (se_lst (sa_cons se_int (sa_cons (se_tup (sa_cons se_str sa_nil)) (sa_cons se_int sa_nil)))) (sa_cons (se_tup sa_nil) (sa_cons se_str (sa_cons se_int (sa_cons (se_tup (sa_cons (se_tup (sa_cons se_str sa_nil)) (sa_cons se_int (sa_cons se_int sa_nil)))) (sa_cons se_dic0 (sa_cons se_bl sa_nil))))))))))) sc__law_wrong_step.nd)
    (sss_one (ss_ret (se_ix ix_seq od_ix (se_var 3) (se_call c__law_pick (hr.mono (by decide)) (sa_cons (se_var 0) (sa_cons (se_callB call_lenDD ld_len T.z_len (by decide +kernel) (sa_cons (se_var 3) sa_nil)) sa_nil)))))))))))
theorem b__law_error {P : Program} {w : World} {K : PySem.W.Frag} {mg : Str → Option Value} {base : Heap} {CA : Nat → Addr} (T : Txt K mg CA) (mk_Rule : Maker P w K mg base CA 4 "Rule" 0 3 [] C_Rule____init__) {f : Addr} {cdv : Value} {A : Around} {outer : List PySem.Env} {s : Shared} {H : Hp} {E : XK}
    (hr : Rm 5 (A.deeper (envOfC "_law_error" (defScope s__law_error) s.heap.objs.size f cdv))) : SSs (cxOf (L2N.CX P w) P w K mg base ["rows", "marks", "found", "word", "error", "mixed", "both"] "_law_error" (defScope s__law_error) f cdv A outer s H E) CA (defBody s__law_error) w__law_error :=
    (sss_cons (ss_asg (se_tup (sa_cons se_non (sa_cons se_str sa_nil))) (sg_tup (sgs_cons (sg_name (i := 2) sc__law_error.nd) (sgs_cons (sg_name (i := 3) sc__law_error.nd) sgs_nil))))
    (sss_cons (ss_try (fun _ _ hpX => (sss_one (ss_expr (se_make true mk_Rule (hr.mono (by decide)) (sa_cons (se_var 0) (sa_cons (se_var 1) sa_nil)))))) (DHds.named (i := 4) (cl_one ⟨rfl, by decide, .inl T.xm_InvalidSteps⟩) T.e_InvalidSteps sc__law_error.nd rfl rfl (clrun_par (i := 4) (j := 2) (k := 3) sc__law_error.nd rfl rfl rfl (by decide) rfl rfl rfl (by decide) (by decide) rfl rfl rfl rfl) (DHds.named (i := 4) (cl_one ⟨rfl, by decide, .inl T.xm_InvalidBad⟩) T.e_InvalidBad sc__law_error.nd rfl rfl (clrun_par (i := 4) (j := 2) (k := 3) sc__law_error.nd rfl rfl rfl (by decide) rfl rfl rfl (by decide) (by decide) rfl rfl rfl rfl) DHds.nil)))
    (sss_cons (ss_if (st_cmp op_isDD od_is (se_var 2) se_non (nomark _)) (sss_one (ss_ret (se_tup (sa_cons (se_var 3) sa_nil)))) sss_nil)
    (sss_cons (ss_set (i := 5) (se_or (se_isxC T.j_StateError T.z_isinstance T.xm_StateError (se_var 2)) (se_or (se_isxC T.j_LimitError T.z_isinstance T.xm_LimitError (se_var 2)) (se_one (se_isxC T.j_InvalidValue T.z_isinstance T.xm_InvalidValue (se_var 2))))) sc__law_error.nd)
    (sss_cons (ss_set (i := 6) (se_and (se_isxC T.j_InvalidSteps T.z_isinstance T.xm_InvalidSteps (se_var 2)) (se_one (se_isxC T.j_InvalidBad T.z_isinstance T.xm_InvalidBad (se_var 2)))) sc__law_error.nd)
    (sss_one (ss_ret (se_tup (sa_cons (se_var 3) (sa_cons (se_xf (se_var 2) (fc_cons ⟨T.x_InvalidSteps, T.xn_InvalidSteps_index⟩ (fc_cons ⟨T.x_InvalidBad, T.xn_InvalidBad_index⟩ fc_nil))) (sa_cons (se_isxC T.j_CalledinError T.z_isinstance T.xm_CalledinError (se_var 2)) (sa_cons (se_isxB T.j_ValueError T.z_isinstance T.z_ValueError (by decide +kernel) (se_var 2)) (sa_cons (se_or (se_var 5) (se_one (se_var 6))) sa_nil)))))))))))))
theorem b__law_asked {P : Program} {w : World} {K : PySem.W.Frag} {mg : Str → Option Value} {base : Heap} {CA : Nat → Addr} (T : Txt K mg CA) (cm_Rule_after : CalleeM P w K mg base CA 3 0 "after" 3 [] C_Rule__after) {f : Addr} {cdv : Value} {A : Around} {outer : List PySem.Env} {s : Shared} {H : Hp} {E : XK}
    (hr : Rm 3 (A.deeper (envOfC "_law_asked" (defScope s__law_asked) s.heap.objs.size f cdv))) : SSs (cxOf (L2N.CX P w) P w K mg base ["rule", "here", "happens", "found", "word", "error", "mixed"] "_law_asked" (defScope s__law_asked) f cdv A outer s H E) CA (defBody s__law_asked) w__law_asked :=
    (sss_cons (ss_asg (se_tup (sa_cons se_non (sa_cons se_str sa_nil))) (sg_tup (sgs_cons (sg_name (i := 3) sc__law_asked.nd) (sgs_cons (sg_name (i := 4) sc__law_asked.nd) sgs_nil))))
    (sss_cons (ss_try (fun _ _ hpX => (sss_one (ss_expr (se_meth (ms := [(0, C_Rule__after)]) (lk_cons cm_Rule_after lk_nil) (hr.mono (by decide)) (se_var 0) (sa_cons (se_var 1) (sa_cons (se_var 2) sa_nil)))))) (DHds.named (i := 5) (cl_one ⟨rfl, by decide, .inl T.xm_InvalidValue⟩) T.e_InvalidValue sc__law_asked.nd rfl rfl (clrun_par (i := 5) (j := 3) (k := 4) sc__law_asked.nd rfl rfl rfl (by decide) rfl rfl rfl (by decide) (by decide) rfl rfl rfl rfl) (DHds.named (i := 5) (cl_one ⟨rfl, by decide, .inl T.xm_InvalidMove⟩) T.e_InvalidMove sc__law_asked.nd rfl rfl (clrun_par (i := 5) (j := 3) (k := 4) sc__law_asked.nd rfl rfl rfl (by decide) rfl rfl rfl (by decide) (by decide) rfl rfl rfl rfl) DHds.nil)))
    (sss_cons (ss_if (st_cmp op_isDD od_is (se_var 3) se_non (nomark _)) (sss_one (ss_ret (se_tup (sa_cons (se_var 4) sa_nil)))) sss_nil)
    (sss_cons (ss_set (i := 6) (se_or (se_isxC T.j_StateError T.z_isinstance T.xm_StateError (se_var 3)) (se_or (se_isxC T.j_LimitError T.z_isinstance T.xm_LimitError (se_var 3)) (se_one (se_isxC T.j_InvalidSteps T.z_isinstance T.xm_InvalidSteps (se_var 3))))) sc__law_asked.nd)
    (sss_one (ss_ret (se_tup (sa_cons (se_var 4) (sa_cons (se_callB (call_reprX hr.room.units hr.gd) ld_reprX T.z_repr (by decide +kernel) (sa_cons (se_xf (se_var 3) (fc_cons ⟨T.x_InvalidValue, T.xn_InvalidValue_value⟩ (fc_cons ⟨T.x_InvalidMove, T.xn_InvalidMove_value⟩ fc_nil))) sa_nil)) (sa_cons (se_isxC T.j_CalledinError T.z_isinstance T.xm_CalledinError (se_var 3)) (sa_cons (se_var 6) sa_nil)))))))))))
theorem b__law_made_right {P : Program} {w : World} {K : PySem.W.Frag} {mg : Str → Option Value} {base : Heap} {CA : Nat → Addr} (T : Txt K mg CA) (c__law_pick : Callee P w K mg base CA 1 "_law_pick" 2 [] C__law_pick) (c__law_wrong_step : Callee P w K mg base CA 3 "_law_wrong_step" 2 [] C__law_wrong_step) (c__law_wrong_state : Callee P w K mg base CA 2 "_law_wrong_state" 1 [] C__law_wrong_state) (c__law_error : Callee P w K mg base CA 6 "_law_error" 2 [] C__law_error) {f : Addr} {cdv : Value} {A : Around} {outer : List PySem.Env} {s : Shared} {H : Hp} {E : XK}
    (hr : Rm 6 (A.deeper (envOfC "_law_made_right" (defScope s__law_made_right) s.heap.objs.size f cdv))) : SSs (cxOf (L2N.CX P w) P w K mg base ["bag", "rows", "marks", "name", "at", "far", "wrong", "again", "last", "odd", "none", "due", "row"] "_law_made_right" (defScope s__law_made_right) f cdv A outer s H E) CA (defBody s__law_made_right) w__law_made_right :=
    (sss_cons (ss_par (i := 4) (j := 5) (sa_cons (se_call c__law_pick (hr.mono (by decide)) (sa_cons (se_var 0) (sa_cons (se_op op_addD od_add (se_callB call_lenDD ld_len T.z_len (by decide +kernel) (sa_cons (se_var 1) sa_nil)) se_int) sa_nil))) (sa_cons (se_call c__law_pick (hr.mono (by decide)) (sa_cons (se_var 0) (sa_cons (se_op op_addD od_add (se_callB call_lenDD ld_len T.z_len (by decide +kernel) (sa_cons (se_var 2) sa_nil)) se_int) sa_nil))) sa_nil)) sc__law_made_right.nd)
    (sss_cons (ss_set (i := 6) (se_callTy call_tuple_of ld_toTup T.z_tuple (by decide +kernel) (sa_cons (se_op op_addD od_add (se_op op_addD od_add (se_slice (se_var 1) so_none (so_some (se_var 4))) (se_lst (sa_cons (se_call c__law_wrong_step (hr.mono (by decide)) (sa_cons (se_var 0) (sa_cons (se_var 3) sa_nil))) sa_nil))) (se_slice (se_var 1) (so_some (se_var 4)) so_none)) sa_nil)) sc__law_made_right.nd)
    (sss_cons (ss_set (i := 7) (se_if (sw_and (st_cmp (op_neDD hr.room.units) od_ne (se_var 2) (se_lst sa_nil) (nomark _)) (sw_and1 (st_cmp (op_eqDD hr.room.units) od_eq (se_call c__law_pick (hr.mono (by decide)) (sa_cons (se_var 0) (sa_cons se_int sa_nil))) se_int (nomark _)))).st (se_ix ix_seq od_ix (se_var 2) (se_call c__law_pick (hr.mono (by decide)) (sa_cons (se_var 0) (sa_cons (se_callB call_lenDD ld_len T.z_len (by decide +kernel) (sa_cons (se_var 2) sa_nil)) sa_nil)))) (se_call c__law_wrong_state (hr.mono (by decide)) (sa_cons (se_var 0) sa_nil))) sc__law_made_right.nd)
    (sss_cons (ss_set (i := 8) (se_callTy call_tuple_of ld_toTup T.z_tuple (by decide +kernel) (sa_cons (se_op op_addD od_add (se_var 2) (se_lst (sa_cons (se_var 7) sa_nil))) sa_nil)) sc__law_made_right.nd)
    (sss_cons (ss_set (i := 9) (se_callTy call_tuple_of ld_toTup T.z_tuple (by decide +kernel) (sa_cons (se_op op_addD od_add (se_op op_addD od_add (se_slice (se_var 2) so_none (so_some (se_var 5))) (se_lst (sa_cons (se_call c__law_wrong_state (hr.mono (by decide)) (sa_cons (se_var 0) sa_nil)) sa_nil))) (se_slice (se_var 2) (so_some (se_var 5)) so_none)) sa_nil)) sc__law_made_right.nd)
    (sss_cons (ss_set (i := 10) (se_ix ix_seq od_ix (se_lst (sa_cons se_non (sa_cons (se_callTy call_list_of ld_toLst T.z_list (by decide +kernel) (sa_cons (se_var 1) sa_nil)) (sa_cons se_str (sa_cons se_int (sa_cons se_dic0 (sa_cons se_bl sa_nil))))))) (se_call c__law_pick (hr.mono (by decide)) (sa_cons (se_var 0) (sa_cons se_int sa_nil)))) sc__law_made_right.nd)
    (sss_cons (ss_set (i := 11) (se_lst (sa_cons (se_tup (sa_cons (se_var 6) (sa_cons (se_callTy call_tuple_of ld_toTup T.z_tuple (by decide +kernel) (sa_cons (se_var 2) sa_nil)) (sa_cons (se_tup (sa_cons se_str (sa_cons (se_var 4) (sa_cons se_bl (sa_cons se_bl (sa_cons se_bl sa_nil)))))) sa_nil)))) (sa_cons (se_tup (sa_cons (se_var 6) (sa_cons (se_var 9) (sa_cons (se_tup (sa_cons se_str (sa_cons (se_var 4) (sa_cons se_bl (sa_cons se_bl (sa_cons se_bl sa_nil)))))) sa_nil)))) sa_nil))) sc__law_made_right.nd)
    (sss_cons (ss_set (i := 11) (se_op op_addD od_add (se_var 11) (se_lst (sa_cons (se_tup (sa_cons (se_callTy call_tuple_of ld_toTup T.z_tuple (by decide +kernel) (sa_cons (se_var 1) sa_nil)) (sa_cons (se_var 9) (sa_cons (se_tup (sa_cons se_str (sa_cons (se_var 5) (sa_cons se_bl (sa_cons se_bl (sa_cons se_bl sa_nil)))))) sa_nil)))) (sa_cons (se_tup (sa_cons (se_var 10) (sa_cons (se_var 9) (sa_cons (se_tup (sa_cons se_str (sa_cons se_non (sa_cons se_bl (sa_cons se_bl (sa_cons se_bl sa_nil)))))) sa_nil)))) sa_nil)))) sc__law_made_right.nd)
    (sss_cons (ss_set (i := 11) (se_op op_addD od_add (se_var 11) (se_lst (sa_cons (se_tup (sa_cons (se_callTy call_tuple_of ld_toTup T.z_tuple (by decide +kernel) (sa_cons (se_var 1) sa_nil)) (sa_cons (se_var 8) (sa_cons (se_tup (sa_cons se_str (sa_cons (se_callB call_lenDD ld_len T.z_len (by decide +kernel) (sa_cons (se_var 2) sa_nil)) (sa_cons se_bl (sa_cons se_bl (sa_cons se_bl sa_nil)))))) sa_nil)))) (sa_cons (se_tup (sa_cons (se_callTy call_tuple_of ld_toTup T.z_tuple (by decide +kernel) (sa_cons (se_var 1) sa_nil)) (sa_cons (se_callTy call_tuple_of ld_toTup T.z_tuple (by decide +kernel) (sa_cons (se_var 2) sa_nil)) (sa_cons (se_tup (sa_cons se_str sa_nil)) sa_nil)))) sa_nil)))) sc__law_made_right.nd)
    (sss_cons (ss_set (i := 11) (se_op op_addD od_add (se_var 11) (se_lst (sa_cons (se_tup (sa_cons (se_callTy call_tuple_of ld_toTup T.z_tuple (by decide +kernel) (sa_cons (se_var 1) sa_nil)) (sa_cons (se_var 10) (sa_cons (se_tup (sa_cons se_str (sa_cons se_non (sa_cons se_bl (sa_cons se_bl (sa_cons se_bl sa_nil)))))) sa_nil)))) (sa_cons (se_tup (sa_cons (se_var 6) (sa_cons (se_var 10) (sa_cons (se_tup (sa_cons se_str (sa_cons (se_var 4) (sa_cons se_bl (sa_cons se_bl (sa_cons se_bl sa_nil)))))) sa_nil)))) sa_nil)))) sc__law_made_right.nd)
    (sss_one (ss_ret (se_cmp (op_eqDD hr.room.units) od_eq (se_lc ["bag", "rows", "marks", "name", "at", "far", "wrong", "again", "last", "odd", "none", "due", "row"] (defScope s__law_made_right) [("row", 12)] (si_seq (se_var 11)) (by decide +kernel) (fun _ _ _ _ _ => (sgo_name (i := 12) sc__law_made_right.nd)) (fun _ _ _ _ _ => (sp_one (st_cmp (op_neDD hr.room.units) od_ne (se_callB (call_reprD hr.room.units hr.gd) ld_repr T.z_repr (by decide +kernel) (sa_cons (se_call c__law_error (hr.mono (by decide)) (sa_cons (se_ix ix_seq od_ix (se_var 12) se_int) (sa_cons (se_ix ix_seq od_ix (se_var 12) se_int) sa_nil))) sa_nil)) (se_callB (call_reprD hr.room.units hr.gd) ld_repr T.z_repr (by decide +kernel) (sa_cons (se_ix ix_seq od_ix (se_var 12) se_int) sa_nil)) (nomark _)))) (fun _ _ _ _ _ => (se_var 12)) sc__law_made_right.nd) (se_lst sa_nil) (nomark _))))))))))))))
theorem b__law_after_right {P : Program} {w : World} {K : PySem.W.Frag} {mg : Str → Option Value} {base : Heap} {CA : Nat → Addr} (T : Txt K mg CA) (c__law_wrong_event : Callee P w K mg base CA 2 "_law_wrong_event" 2 [] C__law_wrong_event) (c__law_wrong_state : Callee P w K mg base CA 2 "_law_wrong_state" 1 [] C__law_wrong_state) (c__law_asked : Callee P w K mg base CA 4 "_law_asked" 3 [] C__law_asked) {f : Addr} {cdv : Value} {A : Around} {outer : List PySem.Env} {s : Shared} {H : Hp} {E : XK}
    (hr : Rm 4 (A.deeper (envOfC "_law_after_right" (defScope s__law_after_right) s.heap.objs.size f cdv))) : SSs (cxOf (L2N.CX P w) P w K mg base ["bag", "rule", "name", "odd", "thing", "good", "due", "short", "row"] "_law_after_right" (defScope s__law_after_right) f cdv A outer s H E) CA (defBody s__law_after_right) w__law_after_right :=
    (sss_cons (ss_par3 (i := 3) (j := 4) (l := 5) (sa_cons (se_call c__law_wrong_state (hr.mono (by decide)) (sa_cons (se_var 0) sa_nil)) (sa_cons (se_call c__law_wrong_event (hr.mono (by decide)) (sa_cons (se_var 0) (sa_cons (se_var 2) sa_nil))) (sa_cons (se_tup (sa_cons se_str (sa_cons (se_var 2) (sa_cons se_int sa_nil)))) sa_nil))) sc__law_after_right.nd)
    (sss_cons (ss_set (i := 6) (se_lstC (sa_cons (se_tup (sa_cons (se_var 3) (sa_cons (se_var 5) (sa_cons (se_tup (sa_cons se_str (sa_cons (se_callB (call_reprX hr.room.units hr.gd) ld_reprX T.z_repr (by decide +kernel) (sa_cons (se_var 3) sa_nil)) (sa_cons se_bl (sa_cons se_bl sa_nil))))) sa_nil)))) (sa_cons (se_tup (sa_cons (se_var 3) (sa_cons (se_var 4) (sa_cons (se_tup (sa_cons se_str (sa_cons (se_callB (call_reprX hr.room.units hr.gd) ld_reprX T.z_repr (by decide +kernel) (sa_cons (se_var 3) sa_nil)) (sa_cons se_bl (sa_cons se_bl sa_nil))))) sa_nil)))) sa_nil))) sc__law_after_right.nd)
    (sss_cons (ss_expr (se_bm PySem.F.plainAttrs_list PySem.F.slot_list_append PySem.F.type_list_append mt_append md_app (se_var 6) (sa_cons (se_tup (sa_cons se_int (sa_cons (se_var 4) (sa_cons (se_tup (sa_cons se_str (sa_cons (se_callB (call_reprX hr.room.units hr.gd) ld_reprX T.z_repr (by decide +kernel) (sa_cons (se_var 4) sa_nil)) (sa_cons se_bl (sa_cons se_bl sa_nil))))) sa_nil)))) sa_nil)))
    (sss_cons (ss_for (si_seq (se_lst (sa_cons (se_tup (sa_cons se_str (sa_cons (se_var 2) sa_nil))) (sa_cons (se_tup (sa_cons se_str (sa_cons (se_var 2) sa_nil))) (sa_cons (se_tup (sa_cons se_str (sa_cons (se_var 2) sa_nil))) (sa_cons (se_tup (sa_cons se_str (sa_cons (se_var 2) sa_nil))) sa_nil)))))) (sg_name (i := 7) sc__law_after_right.nd) (sss_one (ss_expr (se_bm PySem.F.plainAttrs_list PySem.F.slot_list_append PySem.F.type_list_append mt_append md_app (se_var 6) (sa_cons (se_tup (sa_cons se_int (sa_cons (se_var 7) (sa_cons (se_tup (sa_cons se_str (sa_cons (se_callB (call_reprD hr.room.units hr.gd) ld_repr T.z_repr (by decide +kernel) (sa_cons (se_var 7) sa_nil)) (sa_cons se_bl (sa_cons se_bl sa_nil))))) sa_nil)))) sa_nil)))) (passes_of rfl))
    (sss_cons (ss_set (i := 6) (se_op op_addD od_add (se_var 6) (se_lst (sa_cons (se_tup (sa_cons se_int (sa_cons (se_var 5) (sa_cons (se_tup (sa_cons se_str sa_nil)) sa_nil)))) (sa_cons (se_tup (sa_cons se_int (sa_cons (se_tup (sa_cons se_str sa_nil)) (sa_cons (se_tup (sa_cons se_str sa_nil)) sa_nil)))) sa_nil)))) sc__law_after_right.nd)
    (sss_one (ss_ret (se_cmp (op_eqDD hr.room.units) od_eq (se_lc ["bag", "rule", "name", "odd", "thing", "good", "due", "short", "row"] (defScope s__law_after_right) [("row", 8)] (si_seq (se_var 6)) (by decide +kernel) (fun _ _ _ _ _ => (sgo_name (i := 8) sc__law_after_right.nd)) (fun _ _ _ _ _ => (sp_one (st_cmp (op_neDD hr.room.units) od_ne (se_callB (call_reprD hr.room.units hr.gd) ld_repr T.z_repr (by decide +kernel) (sa_cons (se_call c__law_asked (hr.mono (by decide)) (sa_cons (se_var 1) (sa_cons (se_ix ix_seq od_ix (se_var 8) se_int) (sa_cons (se_ix ix_seq od_ix (se_var 8) se_int) sa_nil)))) sa_nil)) (se_callB (call_reprD hr.room.units hr.gd) ld_repr T.z_repr (by decide +kernel) (sa_cons (se_ix ix_seq od_ix (se_var 8) se_int) sa_nil)) (nomark _)))) (fun _ _ _ _ _ => (se_var 8)) sc__law_after_right.nd) (se_lst sa_nil) (nomark _)))))))))
theorem b__law_right {P : Program} {w : World} {K : PySem.W.Frag} {mg : Str → Option Value} {base : Heap} {CA : Nat → Addr} (T : Txt K mg CA) (c__law_name : Callee P w K mg base CA 2 "_law_name" 2 [] C__law_name) (c__law_pick : Callee P w K mg base CA 1 "_law_pick" 2 [] C__law_pick) (c__law_made_right : Callee P w K mg base CA 7 "_law_made_right" 4 [] C__law_made_right) (c__law_after_right : Callee P w K mg base CA 5 "_law_after_right" 3 [] C__law_after_right) (mk_Rule : Maker P w K mg base CA 4 "Rule" 0 3 [] C_Rule____init__) {f : Addr} {cdv : Value} {A : Around} {outer : List PySem.Env} {s : Shared} {H : Hp} {E : XK}
    (hr : Rm 7 (A.deeper (envOfC "_law_right" (defScope s__law_right) s.heap.objs.size f cdv))) : SSs (cxOf (L2N.CX P w) P w K mg base ["bag", "name", "rows", "marks", "rule", "k"] "_law_right" (defScope s__law_right) f cdv A outer s H E) CA (defBody s__law_right) w__law_right :=
    (sss_cons (ss_set (i := 1) (se_call c__law_name (hr.mono (by decide)) (sa_cons (se_var 0) (sa_cons (se_call c__law_pick (hr.mono (by decide)) (sa_cons (se_var 0) (sa_cons se_int sa_nil))) sa_nil))) sc__law_right.nd)
    (sss_cons (ss_setLc (i := 2) ["bag", "name", "rows", "marks", "rule", "k"] (defScope s__law_right) [("k", 5)] (si_range1 T.z_range (sa_cons (se_call c__law_pick (hr.mono (by decide)) (sa_cons (se_var 0) (sa_cons se_int sa_nil))) sa_nil)) (by decide +kernel) (fun _ _ _ _ _ => (sgo_name (i := 5) sc__law_right.nd)) (fun _ _ _ _ _ => sp_nil) (fun _ _ _ _ _ => (se_tup (sa_cons (se_var 5) (sa_cons (se_tup (sa_cons se_str (sa_cons (se_var 1) (sa_cons (se_op op_sub od_sub (se_var 5) se_int) sa_nil)))) (sa_cons (se_op op_addD od_add (se_var 5) se_int) sa_nil))))) sc__law_right.nd)
    (sss_cons (ss_set (i := 3) (se_ix ix_seq od_ix (se_lst (sa_cons (se_lst sa_nil) (sa_cons (se_lst (sa_cons se_int sa_nil)) (sa_cons (se_lst (sa_cons se_int (sa_cons se_int sa_nil))) (sa_cons (se_lst (sa_cons se_int (sa_cons se_int (sa_cons se_int sa_nil)))) sa_nil))))) (se_call c__law_pick (hr.mono (by decide)) (sa_cons (se_var 0) (sa_cons se_int sa_nil)))) sc__law_right.nd)
    (sss_cons (ss_set (i := 4) (se_make true mk_Rule (hr.mono (by decide)) (sa_cons (se_callTy call_tuple_of ld_toTup T.z_tuple (by decide +kernel) (sa_cons (se_var 2) sa_nil)) (sa_cons (se_callTy call_tuple_of ld_toTup T.z_tuple (by decide +kernel) (sa_cons (se_var 3) sa_nil)) sa_nil))) sc__law_right.nd)
    (sss_cons (ss_if (sw_or (st_not (st_tru (se_call c__law_made_right (hr.mono (by decide)) (sa_cons (se_var 0) (sa_cons (se_var 2) (sa_cons (se_var 3) (sa_cons (se_var 1) sa_nil))))))) (sw_or1 (st_not (st_tru (se_call c__law_after_right (hr.mono (by decide)) (sa_cons (se_var 0) (sa_cons (se_var 4) (sa_cons (se_var 1) sa_nil)))))))).st (sss_one (ss_ret se_bl)) sss_nil)
    (sss_one (ss_ret (se_cmp (op_eqDD hr.room.units) od_eq (se_callB (call_reprD hr.room.units hr.gd) ld_repr T.z_repr (by decide +kernel) (sa_cons (se_lst (sa_cons (se_fld (se_var 4) (fc_cons ⟨T.k_Rule.cl, T.n_Rule_steps⟩ fc_nil)) (sa_cons (se_fld (se_var 4) (fc_cons ⟨T.k_Rule.cl, T.n_Rule_bad⟩ fc_nil)) sa_nil))) sa_nil)) (se_callB (call_reprD hr.room.units hr.gd) ld_repr T.z_repr (by decide +kernel) (sa_cons (se_lst (sa_cons (se_callTy call_tuple_of ld_toTup T.z_tuple (by decide +kernel) (sa_cons (se_var 2) sa_nil)) (sa_cons (se_callTy call_tuple_of ld_toTup T.z_tuple (by decide +kernel) (sa_cons (se_var 3) sa_nil)) sa_nil))) sa_nil)) (nomark _)))))))))
theorem b_law {P : Program} {w : World} {K : PySem.W.Frag} {mg : Str → Option Value} {base : Heap} {CA : Nat → Addr} (T : Txt K mg CA) (c__law_right : Callee P w K mg base CA 8 "_law_right" 1 [] C__law_right) (c__law_bag : Callee P w K mg base CA 1 "_law_bag" 2 [] C__law_bag) {f : Addr} {cdv : Value} {A : Around} {outer : List PySem.Env} {s : Shared} {H : Hp} {E : XK}
    (hr : Rm 8 (A.deeper (envOfC "law" (defScope s_law) s.heap.objs.size f cdv))) : SSs (cxOf (L2N.CX P w) P w K mg base ["script", "k"] "law" (defScope s_law) f cdv A outer s H E) CA (defBody s_law) w_law :=
    (sss_one (ss_ret (se_callB (cr_all (by rfl)) ld_all T.z_all (by decide +kernel) (sa_cons (se_lc ["script", "k"] (defScope s_law) [("k", 1)] (si_range1 T.z_range (sa_cons (se_callB (call_max2 (by rfl)) ld_max2 T.z_max (by decide +kernel) (sa_cons se_int (sa_cons (se_callB (call_min2 (by rfl)) ld_min2 T.z_min (by decide +kernel) (sa_cons (se_callB call_lenDD ld_len T.z_len (by decide +kernel) (sa_cons (se_var 0) sa_nil)) (sa_cons se_int sa_nil))) sa_nil))) sa_nil)) (by decide +kernel) (fun _ _ _ _ _ => (sgo_name (i := 1) sc_law.nd)) (fun _ _ _ _ _ => sp_nil) (fun _ _ _ _ _ => (se_call c__law_right (hr.mono (by decide)) (sa_cons (se_call c__law_bag (hr.mono (by decide)) (sa_cons (se_var 0) (sa_cons (se_var 1) sa_nil))) sa_nil))) sc_law.nd) sa_nil))))
end My
namespace My
open PySem PySem.Spec PyProof.Rows L2 DL
theorem q_is_integer {d : D} {h Q E} : C_is_integer ([d] ++ []) h Q E = (Ty d ∧ Q (.bl (isIntD d)) h) := propext ⟨fun ⟨_, e, a⟩ => by cases e; exact a, fun a => ⟨_, rfl, a⟩⟩
theorem q_is_state {d : D} {h Q E} : C_is_state ([d] ++ []) h Q E = (Ty d ∧ Q (.bl (isStD d)) h) := propext ⟨fun ⟨_, e, a⟩ => by cases e; exact a, fun a => ⟨_, rfl, a⟩⟩
theorem q_is_name {d : D} {h Q E} : C_is_name ([d] ++ []) h Q E = (Ty d ∧ (∀ x, d = .str x → x.length ≤ 1000) ∧ Q (.bl (isNameD d)) h) := propext ⟨fun ⟨_, e, a⟩ => by cases e; exact a, fun a => ⟨_, rfl, a⟩⟩
theorem q_is_event {d : D} {h Q E} : C_is_event ([d] ++ []) h Q E = (EvArg d ∧ Q (.bl (isEvD d)) h) := propext ⟨fun ⟨_, e, a⟩ => by cases e; exact a, fun a => ⟨_, rfl, a⟩⟩
theorem q_is_step {d : D} {h Q E} : C_is_step ([d] ++ []) h Q E = (StepArg d ∧ Q (.bl (isStepD d)) h) := propext ⟨fun ⟨_, e, a⟩ => by cases e; exact a, fun a => ⟨_, rfl, a⟩⟩
theorem q_law_pick {i : Nat} {m : Int} {h Q E} : C__law_pick ([.ref i, .int m] ++ []) h Q E = (HP h i ∧ 0 < m ∧ m.natAbs.log2 < 9000 ∧ ∀ (v : Int) h', 0 ≤ v → v < m → Dr h i h' → Q (.int v) h') := propext ⟨fun ⟨_, _, e, a⟩ => by cases e; exact a, fun a => ⟨_, _, rfl, a⟩⟩
theorem q_law_name {i : Nat} {k : Int} {h Q E} : C__law_name ([.ref i, .int k] ++ []) h Q E = (HP h i ∧ 0 ≤ k ∧ k ≤ 9 ∧ ∀ x h', isNameS x = true → Dr h i h' → Q (.str x) h') := propext ⟨fun ⟨_, _, e, a⟩ => by cases e; exact a, fun a => ⟨_, _, rfl, a⟩⟩
theorem q_law_wrong_state {i : Nat} {h Q E} : C__law_wrong_state ([.ref i] ++ []) h Q E = (HP h i ∧ ∀ d h', WSt d → Dr h i h' → Q d h') := propext ⟨fun ⟨_, e, a⟩ => by cases e; exact a, fun a => ⟨_, rfl, a⟩⟩
theorem q_law_wrong_event {i : Nat} {x : Str} {h Q E} : C__law_wrong_event ([.ref i, .str x] ++ []) h Q E = (HP h i ∧ isNameS x = true ∧ ∀ d h', WEv d → Dr h i h' → Q d h') := propext ⟨fun ⟨_, _, e, a⟩ => by cases e; exact a, fun a => ⟨_, _, rfl, a⟩⟩
theorem q_law_wrong_step {i : Nat} {x : Str} {h Q E} : C__law_wrong_step ([.ref i, .str x] ++ []) h Q E = (HP h i ∧ isNameS x = true ∧ ∀ d h', WStep d → Dr h i h' → Q d h') := propext ⟨fun ⟨_, _, e, a⟩ => by cases e; exact a, fun a => ⟨_, _, rfl, a⟩⟩
theorem q_law_error {s b : D} {h Q E} : C__law_error ([s, b] ++ []) h Q E = (IniArg s b ∧ Low s ∧ Low b ∧ Q (errD s b) h) := propext ⟨fun ⟨_, _, e, a⟩ => by cases e; exact a, fun a => ⟨_, _, rfl, a⟩⟩
theorem q_law_right {i : Nat} {h Q E} : C__law_right ([.ref i] ++ []) h Q E = (HP h i ∧ ∀ h', Dr h i h' → Q (.bl true) h') := propext ⟨fun ⟨_, e, a⟩ => by cases e; exact a, fun a => ⟨_, rfl, a⟩⟩
theorem ends_nx {Q : PQ} {E : PX} : (endsOf Q E).nx = fun _ h => Q .non h := rfl
theorem ends_rt {Q : PQ} {E : PX} : (endsOf Q E).rt = Q := rfl
theorem ends_ex {Q : PQ} {E : PX} : (endsOf Q E).ex = fun x _ h => E x h := rfl
theorem ends_bk {Q : PQ} {E : PX} : (endsOf Q E).bk = fun _ _ => False := rfl
theorem ends_ct {Q : PQ} {E : PX} : (endsOf Q E).ct = fun _ _ => False := rfl
theorem fl_steps {a b : D} : List.lookup (Str.ofString "steps") ([Str.ofString "steps", Str.ofString "bad"].zip [a, b]) = some a := rfl
theorem fl_bad {a b : D} : List.lookup (Str.ofString "bad") ([Str.ofString "steps", Str.ofString "bad"].zip [a, b]) = some b := rfl
theorem fl_index {a : D} : List.lookup (Str.ofString "index") ([Str.ofString "index"].zip [a]) = some a := rfl
theorem fl_value {a : D} : List.lookup (Str.ofString "value") ([Str.ofString "value"].zip [a]) = some a := rfl
theorem mem0 : (0 ∈ [0]) = True := by simp
theorem mem0a : (4 ∈ [4, 5]) = True := by simp
theorem mem0b : (5 ∈ [4, 5]) = True := by simp
theorem mem0c : (6 ∈ [6, 7]) = True := by simp
theorem mem0d : (7 ∈ [6, 7]) = True := by simp
theorem nin_after : (Str.ofString "after" ∉ [Str.ofString "steps", Str.ofString "bad"]) = True := by simp; decide
theorem k_lk5 {a b c d : Bool} : List.lookup 5 [(4, a), (5, b), (6, c), (7, d)] = some b := rfl
theorem k_lk6 {a b c d : Bool} : List.lookup 6 [(4, a), (5, b), (6, c), (7, d)] = some c := rfl
theorem k_lk7 {a b c d : Bool} : List.lookup 7 [(4, a), (5, b), (6, c), (7, d)] = some d := rfl
theorem q_bag {ns : List Int} {k : Int} {h Q E} : C__law_bag ([.rol (ns.map D.int), .int k] ++ []) h Q E = (ns.length ≤ 63 ∧ 0 ≤ k ∧ k ≤ 63 ∧ ∀ s d n : Int, Q (.ref h.length) (h ++ [.lst [.int s, .int d, .int n]])) := propext ⟨fun ⟨a, _, e, r⟩ => by
  have hinj : ∀ a b : List Int, a.map D.int = b.map D.int → a = b := fun a b e => List.map_inj_right (fun _ _ e => by cases e; rfl) |>.mp e
  injection e with e1 e2; injection e1 with e3; injection e2 with e4 _; cases e4
  cases hinj _ _ e3; exact r, fun a => ⟨_, _, rfl, a⟩⟩

local macro_rules | `(tactic| walk_at "wp") => `(tactic| simp only [fl_steps, fl_bad, fl_index, fl_value, mem0, mem0a, mem0b, mem0c, mem0d, nin_after, k_lk5, k_lk6, k_lk7, ↓q_is_integer, ↓q_is_state, ↓q_is_name, ↓q_is_event, ↓q_is_step, ↓q_law_pick, ↓q_law_name, ↓q_law_wrong_state, ↓q_law_wrong_event, ↓q_law_wrong_step, ↓q_law_error, ↓q_law_right, ↓q_bag, Bool.true_eq_false, not_true_eq_false, not_false_eq_true, Int.cast_ofNat_Int, Int.reduceLE, Int.reduceLT, Int.reduceEq, Int.reduceAdd, Int.reduceSub, Int.reduceNeg, atI_0, atI_1, atI_2, wTry, exCls, dnOut, envIn, wRaise, wExc, wXf, wIsx, wExPar, Nat.reduceBEq, insOf_exc, isNon_exc, tyN_exc, lstOf_exc, flD_exc, wFld, wSetFld, setFldD, wMeth, wMethK, wMake, wMakeK, wIso, eqO, rhsOk, wEnum, divmodD, wPairIx, newK, insOf_non, insOf_bl, insOf_int, insOf_str, insOf_tyy, insOf_gl, insOf_tup, insOf_lst, insOf_rol, insOf_dic, insOf_obj, lk_hd, endsC_nx, endsC_rt, endsC_ex, endsC_bk, endsC_ct, wSeq, wRet, wRetN, wAsg, wIfS, wNext, wDrop, wPar, wPar3, wVar, onSlot, wC, wOp, wUn, wLi, wNil, wCons, wTup, wLst, wLstC, wCall, wCallK, selA, wB, asB, DL.wTru, truD, wAnd, wOr, DL.wNot, wIf, wAndV, wOrV, wNotV, wChain, wFor, wSeqI, seqOf, wRng1, wRng2, wGn, wGnil, wGcons, wGtup, wAsgG, wAug, wLc, wipeD, wSl, wOn, wOs, wSetIx, wBM, wBM0, ends_nx, ends_rt, ends_ex, ends_bk, ends_ct, wDic0, wDic1, addD, subD, mulD, fdivD, modD, powD, ltD, leD, gtD, geD, DL.intD, negD, eqD, isD, ixD, slD, lenD, toIntD, absD, max2D, min2D, allD, anyD, sumD, toTupD, toLstD, strIntD, isiD, inD, flDs, joinD, str1D, appD, toPh, toP, toPs, eqDicD, List.map_cons, List.map_nil, List.length_cons, List.length_nil, List.replicate_zero, List.replicate_succ, List.cons_append, List.nil_append, List.append_nil, List.getElem?_cons_zero, List.getElem?_cons_succ, List.set_cons_zero, List.set_cons_succ, Nat.reduceAdd, Nat.reduceSub, Nat.reduceLT, Nat.reduceLeDiff, Option.bind, Option.map, Option.map_some, Option.bind_some, true_and, and_true, if_true, if_false, Bool.false_eq_true, reduceIte, Bool.not_true, Bool.not_false, Bool.false_xor, Bool.true_xor, Nat.zero_add, Nat.add_zero, ne_eq, not_false_eq_true, false_and, and_false, false_or, or_false, true_or, or_true, Nat.add_eq, List.length_singleton, decide_eq_true_eq, Bool.not_eq_true', decide_eq_false_iff_not, lstOf_non, lstTr_non, tyN_non, isNon_non, flD_non, keyD_non, tyM_non, lstOf_bl, lstTr_bl, tyN_bl, isNon_bl, flD_bl, keyD_bl, tyM_bl, lstOf_int, lstTr_int, tyN_int, isNon_int, flD_int, keyD_int, tyM_int, lstOf_str, lstTr_str, tyN_str, isNon_str, flD_str, keyD_str, tyM_str, lstOf_ty, lstTr_ty, tyN_ty, isNon_ty, flD_ty, keyD_ty, tyM_ty, lstOf_gl, lstTr_gl, tyN_gl, isNon_gl, flD_gl, keyD_gl, tyM_gl, lstOf_tup, lstTr_tup, tyN_tup, isNon_tup, flD_tup, keyD_tup, tyM_tup, lstOf_lst, lstTr_lst, tyN_lst, isNon_lst, flD_lst, keyD_lst, tyM_lst, lstOf_rol, lstTr_rol, tyN_rol, isNon_rol, flD_rol, keyD_rol, tyM_rol, lstOf_dic, lstTr_dic, tyN_dic, isNon_dic, flD_dic, keyD_dic, tyM_dic, lstOf_obj, lstTr_obj, tyN_obj, isNon_obj, flD_obj, keyD_obj, tyM_obj, kib_int_int, kib_bool_int, kib_bool_bool, kib_int_bool, kib_NoneType_int, kib_str_int, kib_tuple_int, kib_list_int, kib_dict_int, kib_NoneType_str, kib_bool_str, kib_int_str, kib_str_str, kib_tuple_str, kib_list_str, kib_dict_str, kib_NoneType_tuple, kib_bool_tuple, kib_int_tuple, kib_str_tuple, kib_tuple_tuple, kib_list_tuple, kib_dict_tuple, kib_NoneType_dict, kib_bool_dict, kib_int_dict, kib_str_dict, kib_tuple_dict, kib_list_dict, kib_dict_dict])
theorem Ty.ty {d : D} (h : Ty d) : (tyN [] d).isSome = true := h
theorem vc_is_integer : ∀ ds h Q E, ds.length = 1 → C_is_integer ds h Q E → w_is_integer (endsOf Q E) (ds.map some ++ List.replicate (1 - ds.length) none) h := by
  rintro ds h Q E hl ⟨d, rfl, hd, q⟩
  have hd := hd.ty
  unfold w_is_integer
  cases d with
  | ref i => simp [tyN] at hd
  | obj => cases hd
  | exc => cases hd
  | gl => cases hd
  | ty => cases hd
  | rol => cases hd
  | _ => walk_at "wp"; exact q
theorem vc_is_state : ∀ ds h Q E, ds.length = 1 → C_is_state ds h Q E → w_is_state (endsOf Q E) (ds.map some ++ List.replicate (1 - ds.length) none) h := by
  rintro ds h Q E hl ⟨d, rfl, hd, q⟩
  unfold w_is_state
  walk_at "wp"
  refine ⟨hd, ?_⟩
  have hd := hd.ty
  cases d with
  | int i =>
    simp only [isIntD]
    walk_at "wp"
    by_cases h1 : 0 ≤ i
    · simpa [h1, isStD] using q
    · simpa [h1, isStD] using q
  | _ => exact q
theorem t1_ok {x : Str} {h : Hs} {Q : PQ} {E : PX} (hx : x.length ≤ 16777216) (q : Q (.bl (x.cps.toList.all fun e => decide (e ∈ SIGN.cps.toList))) h) : t1_is_name (endsOf Q E) [some (.str x), none] h := by
  unfold t1_is_name
  walk_at "wp"
  refine ⟨by rw [List.length_map]; exact hx, lc_map (fun d => .bl (match d with | .str z => (match z.cps.toList with | [c] => decide (c ∈ SIGN.cps.toList) | _ => false) | _ => false)) _ _ _ _ ?_ ?_⟩
  · intro d hd Q' E' q'
    obtain ⟨e, he, rfl⟩ := List.mem_map.mp hd
    unfold el1_is_name
    walk_at "wp"
    exact q'
  · rw [List.nil_append, List.map_map]
    have e2 : ((fun d => D.bl (match d with | .str z => (match z.cps.toList with | [c] => decide (c ∈ SIGN.cps.toList) | _ => false) | _ => false)) ∘ fun c => D.str ⟨#[c]⟩) = fun e => D.bl (decide (e ∈ SIGN.cps.toList)) := rfl
    rw [e2, blsL_f]
    show Q (D.bl ((List.map _ x.cps.toList).all id)) h
    rw [List.all_map]
    exact q
theorem name_test {x : Str} {h : Hs} {Q : PQ} {T : Prop} (q : Q (.bl (isNameS x)) h) (ht : Q (.bl (x.cps.toList.all fun e => decide (e ∈ SIGN.cps.toList))) h → T) :
    (¬(1 ≤ x.cps.toList.length ∧ x.cps.toList.length ≤ 8) → Q (.bl false) h) ∧ ((1 ≤ x.cps.toList.length ∧ x.cps.toList.length ≤ 8) → ∃ c, atI x.cps.toList 0 = some c ∧ (¬c ∈ (Str.ofString "abcdefghijklmnopqrstuvwxyz").cps.toList → Q (.bl false) h) ∧ (c ∈ (Str.ofString "abcdefghijklmnopqrstuvwxyz").cps.toList → T)) := by
  unfold isNameS at q
  revert q ht
  generalize x.cps.toList = l
  intro q ht
  cases l with
  | nil => exact ⟨fun _ => q, fun a => absurd a.1 (by decide)⟩
  | cons c r =>
    simp only [List.length_cons]
    constructor
    · intro a
      have e3 : decide (r.length < 8) = false := decide_eq_false (by omega)
      simp only [e3, Bool.false_and] at q
      exact q
    · intro a
      refine ⟨c, atI_0, ?_, ?_⟩
      · intro hc
        have e4 : decide (c ∈ LETT.cps.toList) = false := decide_eq_false hc
        simp only [e4, Bool.and_false, Bool.false_and] at q
        exact q
      · intro hc
        have e3 : decide (r.length < 8) = true := decide_eq_true (by omega)
        have e4 : decide (c ∈ LETT.cps.toList) = true := decide_eq_true hc
        simp only [e3, e4, Bool.true_and] at q
        exact ht q
theorem vc_is_name : ∀ ds h Q E, ds.length = 1 → C_is_name ds h Q E → w_is_name (endsOf Q E) (ds.map some ++ List.replicate (2 - ds.length) none) h := by
  rintro ds h Q E hl ⟨d, rfl, ht, hx, q⟩
  have ht := ht.ty
  unfold w_is_name
  cases d with
  | str x =>
    have hx := hx x rfl
    simp only [isNameD] at q
    walk_at "wp"
    have hx1 : x.length ≤ 16777216 := by omega
    obtain ⟨n1, n2⟩ := name_test (T := t1_is_name (endsOf Q E) [some (.str x), none] h) q (t1_ok hx1)
    rw [len_cps] at hx1 ⊢
    refine ⟨hx1, ?_⟩
    split
    · split
      · exact n1 (by omega)
      · obtain ⟨c, e, a, b⟩ := n2 (by omega)
        refine ⟨hx1, ?_⟩
        rw [e]
        simp only
        split
        · exact a ‹_›
        · exact b (Classical.byContradiction ‹_›)
    · exact n1 (by omega)
  | ref i => simp [tyN] at ht
  | obj => cases ht
  | exc => cases ht
  | gl => cases ht
  | ty => cases ht
  | rol => cases ht
  | _ => walk_at "wp"; exact q
theorem name_len {x : Str} (h : isNameS x = true) : 1 ≤ x.length ∧ x.length ≤ 8 ∧ ∀ c ∈ x.cps.toList, c < 128 := by
  rw [len_cps]
  unfold isNameS at h
  revert h
  generalize x.cps.toList = l
  intro h
  cases l with
  | nil => cases h
  | cons c r =>
    simp only [Bool.and_eq_true, decide_eq_true_eq, List.all_eq_true] at h
    refine ⟨by simp, by simp only [List.length_cons]; omega, fun e he => ?_⟩
    have := h.2 e he
    revert this
    have all : ∀ e ∈ SIGN.cps.toList, e < 128 := by decide
    exact all e
theorem Wd.lt {w : Str} (h : Wd w) : w.length ≤ 8 ∧ ∀ c ∈ w.cps.toList, c < 128 := by
  rcases h with rfl | rfl | rfl | rfl <;> decide
theorem small_hang : Small 82 0 (PyData.str (Str.ofString "hang")) := small_str (n := 8) (by decide) (by decide)
theorem small_name {x : Str} (h : isNameS x = true) : Small 82 0 (PyData.str x) := small_str (n := 8) (name_len h).2.1 (name_len h).2.2
theorem small_word {x : Str} (h : Wd x) : Small 82 0 (PyData.str x) := small_str (n := 8) h.lt.1 h.lt.2
theorem St.d {i : Int} (h : St i) : isStD (.int i) = true := by
  simp only [isStD, Bool.and_eq_true, decide_eq_true_eq]
  exact h
theorem eqv_hang {a : D} {p : PyData} (h : toP a = some p) : PyData.eqv (.tuple [p]) (.tuple [.str (Str.ofString "hang")]) = isHangD a := by
  cases a with
  | non => cases h; rfl
  | bl b => cases h; rfl
  | int i => cases h; rfl
  | str x =>
    cases h
    simp [PyData.eqv, PyData.eqvAll, isHangD, Bool.beq_eq_decide_eq]
  | tup ds => obtain ⟨ps, _, rfl⟩ := Option.map_eq_some_iff.mp (show (toPs ds).map PyData.tuple = some p from h); rfl
  | lst ds => obtain ⟨ps, _, rfl⟩ := Option.map_eq_some_iff.mp (show (toPs ds).map PyData.list = some p from h); rfl
  | rol ds => obtain ⟨ps, _, rfl⟩ := Option.map_eq_some_iff.mp (show (toPs ds).map PyData.list = some p from h); rfl
  | _ => cases h
theorem any_words {a : D} {p : PyData} (h : toP a = some p) : ([PyData.str (Str.ofString "call"), PyData.str (Str.ofString "answer"), PyData.str (Str.ofString "out"), PyData.str (Str.ofString "back")].any fun z => PyData.eqv z p) = isWordD a := by
  cases a with
  | non => cases h; rfl
  | bl b => cases h; rfl
  | int i => cases h; rfl
  | str x =>
    cases h
    have e : ∀ y : Str, decide (y = x) = decide (x = y) := fun y => decide_eq_decide.mpr ⟨fun z => z.symm, fun z => z.symm⟩
    simp only [List.any_cons, List.any_nil, Bool.or_false, PyData.eqv, Bool.beq_eq_decide_eq, isWordD, e]
  | tup ds => obtain ⟨ps, _, rfl⟩ := Option.map_eq_some_iff.mp (show (toPs ds).map PyData.tuple = some p from h); rfl
  | lst ds => obtain ⟨ps, _, rfl⟩ := Option.map_eq_some_iff.mp (show (toPs ds).map PyData.list = some p from h); rfl
  | rol ds => obtain ⟨ps, _, rfl⟩ := Option.map_eq_some_iff.mp (show (toPs ds).map PyData.list = some p from h); rfl
  | _ => cases h
theorem small_words : Small 400 1 (.tuple [PyData.str (Str.ofString "call"), PyData.str (Str.ofString "answer"), PyData.str (Str.ofString "out"), PyData.str (Str.ofString "back")]) :=
  (smalls_cons (small_word (.inl rfl)) (smalls_cons (small_word (.inr (.inl rfl))) (smalls_cons (small_word (.inr (.inr (.inl rfl)))) (smalls_cons (small_word (.inr (.inr (.inr rfl)))) smalls_nil)))).tuple.mono (by decide) (by decide)
theorem toPh_of {h : Hs} {d : D} {p : PyData} (e : toP d = some p) : toPh h d = some p := by
  cases d with
  | ref i => cases e
  | _ => exact e
theorem inX_words {a : D} {p : PyData} {h : Hs} {Q : PQ} {neg : Bool} (ea : toP a = some p) (sa : Small 4000 4 p) (q : Q (.bl (neg ^^ isWordD a)) h) : inX neg a (.tup [.str (Str.ofString "call"), .str (Str.ofString "answer"), .str (Str.ofString "out"), .str (Str.ofString "back")]) h Q := by
  unfold inX
  rw [toPh_of ea]
  simp only [toPh, toP, toPs, Option.map_some, seqP]
  refine ⟨sa.shaped (by decide), small_words.shaped (by decide), ?_⟩
  rw [any_words ea]
  exact q
theorem vc_is_event : ∀ ds h Q E, ds.length = 1 → C_is_event ds h Q E → w_is_event (endsOf Q E) (ds.map some ++ List.replicate (1 - ds.length) none) h := by
  rintro ds h Q E hl ⟨d, rfl, ⟨ht, hs⟩, q⟩
  have ht := ht.ty
  unfold w_is_event t1_is_event t2_is_event t3_is_event
  cases d with
  | tup ds =>
    have hs := hs ds rfl
    match ds, hs, q with
    | [], hs, q => walk_at "wp"; exact q
    | [a], hs, q =>
      obtain ⟨ta, _, p, ea, sa⟩ := hs a (by simp)
      walk_at "wp"
      rw [ea]
      refine ⟨(smalls_cons sa smalls_nil).tuple.shaped (by decide), (smalls_cons small_hang smalls_nil).tuple.shaped (by decide), ?_⟩
      rw [eqv_hang ea]
      exact q
    | [a, b], hs, q =>
      obtain ⟨ta, _, p, ea, sa⟩ := hs a (by simp)
      obtain ⟨tb, xb, _⟩ := hs b (by simp)
      walk_at "wp"
      refine inX_words ea sa ?_
      walk_at "wp"
      simp only [isEvD] at q
      cases hw : isWordD a with
      | false =>
        rw [hw, Bool.false_and] at q
        rw [if_pos rfl]
        exact q
      | true =>
        rw [hw, Bool.true_and] at q
        rw [if_neg (by decide)]
        refine ⟨tb, xb, ?_⟩
        cases hn : isNameD b with
        | false => rw [hn] at q; rw [if_pos rfl]; exact q
        | true => rw [hn] at q; rw [if_neg (by decide)]; exact q
    | [a, b, c], hs, q =>
      obtain ⟨ta, _, p, ea, sa⟩ := hs a (by simp)
      obtain ⟨tb, xb, _⟩ := hs b (by simp)
      obtain ⟨tc, xc, _⟩ := hs c (by simp)
      walk_at "wp"
      refine inX_words ea sa ?_
      walk_at "wp"
      simp only [isEvD] at q
      cases hw : isWordD a with
      | false =>
        rw [hw, Bool.false_and] at q
        rw [if_pos rfl]
        exact q
      | true =>
        rw [hw, Bool.true_and] at q
        rw [if_neg (by decide)]
        refine ⟨tb, xb, ?_⟩
        cases hn : isNameD b with
        | false => rw [hn] at q; rw [if_pos rfl]; exact q
        | true => rw [hn] at q; rw [if_neg (by decide)]; exact ⟨tc, q⟩
    | a :: b :: c :: e :: r, hs, q =>
      walk_at "wp"
      rw [if_pos (by omega), if_pos (by omega)]
      exact q
  | ref i => simp [tyN] at ht
  | obj => cases ht
  | exc => cases ht
  | gl => cases ht
  | ty => cases ht
  | rol => cases ht
  | _ => walk_at "wp"; exact q
theorem vc_is_step : ∀ ds h Q E, ds.length = 1 → C_is_step ds h Q E → w_is_step (endsOf Q E) (ds.map some ++ List.replicate (1 - ds.length) none) h := by
  rintro ds h Q E hl ⟨d, rfl, ⟨ht, hs⟩, q⟩
  have ht := ht.ty
  unfold w_is_step t1_is_step
  cases d with
  | tup ds =>
    match ds, hs, q with
    | [], hs, q => walk_at "wp"; exact q
    | [a], hs, q => walk_at "wp"; exact q
    | [a, b], hs, q => walk_at "wp"; exact q
    | [a, b, c], hs, q =>
      obtain ⟨ta, eb, tc⟩ := hs a b c rfl
      simp only [isStepD] at q
      walk_at "wp"
      refine ⟨ta, ?_⟩
      cases ha : isStD a with
      | false => rw [ha, Bool.false_and] at q; rw [if_neg (by decide)]; exact q
      | true =>
        rw [ha, Bool.true_and] at q
        rw [if_pos rfl]
        refine ⟨eb, ?_⟩
        cases hb : isEvD b with
        | false => rw [hb, Bool.false_and] at q; try (rw [if_neg (by decide)]); exact q
        | true =>
          rw [hb, Bool.true_and] at q
          try (rw [if_pos rfl])
          exact ⟨tc, q⟩
    | a :: b :: c :: e :: r, hs, q =>
      walk_at "wp"
      first
        | (rw [if_neg (by omega)]; exact q)
        | (rw [if_pos (by omega)]; exact q)
  | ref i => simp [tyN] at ht
  | obj => cases ht
  | exc => cases ht
  | gl => cases ht
  | ty => cases ht
  | rol => cases ht
  | _ => walk_at "wp"; exact q
end My
namespace My
open PySem PySem.Spec PyProof.Rows L2 DL
local macro_rules | `(tactic| walk_at "wp") => `(tactic| simp only [fl_steps, fl_bad, fl_index, fl_value, mem0, mem0a, mem0b, mem0c, mem0d, nin_after, k_lk5, k_lk6, k_lk7, ↓q_is_integer, ↓q_is_state, ↓q_is_name, ↓q_is_event, ↓q_is_step, ↓q_law_pick, ↓q_law_name, ↓q_law_wrong_state, ↓q_law_wrong_event, ↓q_law_wrong_step, ↓q_law_error, ↓q_law_right, ↓q_bag, Bool.true_eq_false, not_true_eq_false, not_false_eq_true, Int.cast_ofNat_Int, Int.reduceLE, Int.reduceLT, Int.reduceEq, Int.reduceAdd, Int.reduceSub, Int.reduceNeg, atI_0, atI_1, atI_2, wTry, exCls, dnOut, envIn, wRaise, wExc, wXf, wIsx, wExPar, Nat.reduceBEq, insOf_exc, isNon_exc, tyN_exc, lstOf_exc, flD_exc, wFld, wSetFld, setFldD, wMeth, wMethK, wMake, wMakeK, wIso, eqO, rhsOk, wEnum, divmodD, wPairIx, newK, insOf_non, insOf_bl, insOf_int, insOf_str, insOf_tyy, insOf_gl, insOf_tup, insOf_lst, insOf_rol, insOf_dic, insOf_obj, lk_hd, endsC_nx, endsC_rt, endsC_ex, endsC_bk, endsC_ct, wSeq, wRet, wRetN, wAsg, wIfS, wNext, wDrop, wPar, wPar3, wVar, onSlot, wC, wOp, wUn, wLi, wNil, wCons, wTup, wLst, wLstC, wCall, wCallK, selA, wB, asB, DL.wTru, truD, wAnd, wOr, DL.wNot, wIf, wAndV, wOrV, wNotV, wChain, wFor, wSeqI, seqOf, wRng1, wRng2, wGn, wGnil, wGcons, wGtup, wAsgG, wAug, wLc, wipeD, wSl, wOn, wOs, wSetIx, wBM, wBM0, ends_nx, ends_rt, ends_ex, ends_bk, ends_ct, wDic0, wDic1, addD, subD, mulD, fdivD, modD, powD, ltD, leD, gtD, geD, DL.intD, negD, eqD, isD, ixD, slD, lenD, toIntD, absD, max2D, min2D, allD, anyD, sumD, toTupD, toLstD, strIntD, isiD, inD, flDs, joinD, str1D, appD, toPh, toP, toPs, eqDicD, List.map_cons, List.map_nil, List.length_cons, List.length_nil, List.replicate_zero, List.replicate_succ, List.cons_append, List.nil_append, List.append_nil, List.getElem?_cons_zero, List.getElem?_cons_succ, List.set_cons_zero, List.set_cons_succ, Nat.reduceAdd, Nat.reduceSub, Nat.reduceLT, Nat.reduceLeDiff, Option.bind, Option.map, Option.map_some, Option.bind_some, true_and, and_true, if_true, if_false, Bool.false_eq_true, reduceIte, Bool.not_true, Bool.not_false, Bool.false_xor, Bool.true_xor, Nat.zero_add, Nat.add_zero, ne_eq, not_false_eq_true, false_and, and_false, false_or, or_false, true_or, or_true, Nat.add_eq, List.length_singleton, decide_eq_true_eq, Bool.not_eq_true', decide_eq_false_iff_not, lstOf_non, lstTr_non, tyN_non, isNon_non, flD_non, keyD_non, tyM_non, lstOf_bl, lstTr_bl, tyN_bl, isNon_bl, flD_bl, keyD_bl, tyM_bl, lstOf_int, lstTr_int, tyN_int, isNon_int, flD_int, keyD_int, tyM_int, lstOf_str, lstTr_str, tyN_str, isNon_str, flD_str, keyD_str, tyM_str, lstOf_ty, lstTr_ty, tyN_ty, isNon_ty, flD_ty, keyD_ty, tyM_ty, lstOf_gl, lstTr_gl, tyN_gl, isNon_gl, flD_gl, keyD_gl, tyM_gl, lstOf_tup, lstTr_tup, tyN_tup, isNon_tup, flD_tup, keyD_tup, tyM_tup, lstOf_lst, lstTr_lst, tyN_lst, isNon_lst, flD_lst, keyD_lst, tyM_lst, lstOf_rol, lstTr_rol, tyN_rol, isNon_rol, flD_rol, keyD_rol, tyM_rol, lstOf_dic, lstTr_dic, tyN_dic, isNon_dic, flD_dic, keyD_dic, tyM_dic, lstOf_obj, lstTr_obj, tyN_obj, isNon_obj, flD_obj, keyD_obj, tyM_obj, kib_int_int, kib_bool_int, kib_bool_bool, kib_int_bool, kib_NoneType_int, kib_str_int, kib_tuple_int, kib_list_int, kib_dict_int, kib_NoneType_str, kib_bool_str, kib_int_str, kib_str_str, kib_tuple_str, kib_list_str, kib_dict_str, kib_NoneType_tuple, kib_bool_tuple, kib_int_tuple, kib_str_tuple, kib_tuple_tuple, kib_list_tuple, kib_dict_tuple, kib_NoneType_dict, kib_bool_dict, kib_int_dict, kib_str_dict, kib_tuple_dict, kib_list_dict, kib_dict_dict])
theorem eqD_tup {neg : Bool} {a b : List D} {ps qs : List PyData} {n d m e : Nat} {h : Hs} {Q : PQ} (h1 : toPs a = some ps) (h2 : toPs b = some qs) (s1 : Small n d (.tuple ps)) (s2 : Small m e (.tuple qs)) (hd : d ≤ 60) (he : e ≤ 60) (q : Q (.bl (neg ^^ PyData.eqv (.tuple ps) (.tuple qs))) h) : eqD neg (.tup a) (.tup b) h Q := by
  unfold eqD
  simp only [toPh, toP, h1, h2, Option.map_some]
  exact ⟨s1.shaped hd, s2.shaped he, q⟩
theorem eqv_str {a b : Str} : PyData.eqv (.str a) (.str b) = decide (a = b) := by
  simp [PyData.eqv, Bool.beq_eq_decide_eq]
theorem fits_eq {p e : Ev} (hp : p.ok) (he : e.ok) (hf : e.full) {h : Hs} {Q : PQ} (q : Q (.bl (p.fits e)) h) : ∀ (ps es : List D), p.d = .tup ps → e.d = .tup es → eqD false (.tup ps) (.tup (cutL es none (some (ps.length : Int)))) h Q := by
  intro ps es h1 h2
  rw [cutL_take']
  cases p with
  | hang =>
    cases h1
    cases e with
    | hang =>
      cases h2
      exact eqD_tup rfl rfl (smalls_cons small_hang smalls_nil).tuple (smalls_cons small_hang smalls_nil).tuple (by decide) (by decide) q
    | two w n => exact hf.elim
    | three w n i =>
      cases h2
      refine eqD_tup rfl rfl (smalls_cons small_hang smalls_nil).tuple (smalls_cons (small_word he.1) smalls_nil).tuple (by decide) (by decide) ?_
      have : w ≠ "hang" := by rcases he.1 with rfl | rfl | rfl | rfl <;> decide
      have e1 : PyData.eqv (.tuple [.str (Str.ofString "hang")]) (.tuple [.str w]) = false := by
        simp [PyData.eqv, PyData.eqvAll]
        exact fun z => this z.symm
      rw [e1]
      exact q
  | two w n =>
    cases h1
    cases e with
    | hang =>
      cases h2
      refine eqD_tup rfl rfl (smalls_cons (small_word hp.1) (smalls_cons (small_name hp.2) smalls_nil)).tuple (smalls_cons small_hang smalls_nil).tuple (by decide) (by decide) ?_
      have e1 : PyData.eqv (.tuple [.str w, .str n]) (.tuple [.str (Str.ofString "hang")]) = false := by simp [PyData.eqv, PyData.eqvAll]
      rw [e1]
      exact q
    | two w n => exact hf.elim
    | three w2 n2 i =>
      cases h2
      refine eqD_tup rfl rfl (smalls_cons (small_word hp.1) (smalls_cons (small_name hp.2) smalls_nil)).tuple (smalls_cons (small_word he.1) (smalls_cons (small_name he.2.1) smalls_nil)).tuple (by decide) (by decide) ?_
      have e1 : PyData.eqv (.tuple [.str w, .str n]) (.tuple [.str w2, .str n2]) = (decide (w = w2) && decide (n = n2)) := by simp [PyData.eqv, PyData.eqvAll, Bool.beq_eq_decide_eq]
      rw [e1, Bool.false_xor]
      exact q
  | three w n i =>
    cases h1
    have sp := (smalls_cons ((small_word hp.1).mono (m := 1921) (by decide) (by decide)) (smalls_cons ((small_name hp.2.1).mono (m := 1921) (by decide) (by decide)) (smalls_cons (small_int (i := i) (Nat.lt_of_lt_of_le hp.2.2 (by decide))) smalls_nil))).tuple
    cases e with
    | hang =>
      cases h2
      refine eqD_tup rfl rfl sp (smalls_cons small_hang smalls_nil).tuple (by decide) (by decide) ?_
      have e1 : PyData.eqv (.tuple [.str w, .str n, .int i]) (.tuple [.str (Str.ofString "hang")]) = false := by simp [PyData.eqv, PyData.eqvAll]
      rw [e1]
      exact q
    | two w n => exact hf.elim
    | three w2 n2 i2 =>
      cases h2
      have se := (smalls_cons ((small_word he.1).mono (m := 1921) (by decide) (by decide)) (smalls_cons ((small_name he.2.1).mono (m := 1921) (by decide) (by decide)) (smalls_cons (small_int (i := i2) (Nat.lt_of_lt_of_le he.2.2 (by decide))) smalls_nil))).tuple
      refine eqD_tup rfl rfl sp se (by decide) (by decide) ?_
      have e1 : PyData.eqv (.tuple [.str w, .str n, .int i]) (.tuple [.str w2, .str n2, .int i2]) = (decide (w = w2) && decide (n = n2) && decide (i = i2)) := by simp [PyData.eqv, PyData.eqvAll, Bool.beq_eq_decide_eq, Bool.and_assoc]
      rw [e1, Bool.false_xor]
      exact q
theorem ints_of (ns : List Int) : ∀ d ∈ ns.map D.int, ∃ c : Int, d = .int c := fun d hd => by
  obtain ⟨c, _, rfl⟩ := List.mem_map.mp hd
  exact ⟨c, rfl⟩
theorem vc__law_bag : ∀ ds h Q E, ds.length = 2 → C__law_bag ds h Q E → w__law_bag (endsOf Q E) (ds.map some ++ List.replicate (5 - ds.length) none) h := by
  rintro ds h Q E hl ⟨ns, k, rfl, hn, hk0, hk, q⟩
  have fin : ∀ (c : Int) (o : Option D) o2, t2__law_bag (endsOf Q E) [some (.rol (ns.map D.int)), some (.int k), some (.int c), o, o2] h := by
    intro c o o2
    unfold t2__law_bag t3__law_bag
    walk_at "wp"
    split
    · exact ⟨cmL (by decide), q _ _ _⟩
    · refine ⟨⟨by decide, by decide, by decide⟩, ?_⟩
      split
      · exact ⟨cmL (by decide), q _ _ _⟩
      · exact ⟨cmL (by decide), q _ _ _⟩
  unfold w__law_bag t1__law_bag
  walk_at "wp"
  rw [List.length_map]
  split
  next h1 =>
    obtain ⟨d, e, hd⟩ := atI_of (xs := ns.map D.int) (i := k) (by omega) (by rw [List.length_map]; omega)
    obtain ⟨c, rfl⟩ := ints_of ns d hd
    rw [e]
    exact fin _ _ _
  next h1 =>
    refine for_inv (fun ds env h2 => h2 = h ∧ (∃ (c : Int) (o : Option D), env = [some (.rol (ns.map D.int)), some (.int k), some (.int c), o, none]) ∧ ∀ d ∈ ds, ∃ c : Int, d = .int c) ?_ ?_ _ _ _ ⟨rfl, ⟨_, _, rfl⟩, fun d hd => ints_of ns d (cutL_mem hd)⟩
    · rintro d ds env h2 ⟨rfl, ⟨c, o, rfl⟩, hall⟩ D' hrt hbk hex hn hct
      obtain ⟨x, rfl⟩ := hall d (List.mem_cons_self ..)
      unfold lp1__law_bag
      walk_at "wp"
      exact ⟨cmR (by decide), hn _ _ ⟨rfl, ⟨_, _, rfl⟩, fun e he => hall e (List.mem_cons_of_mem _ he)⟩⟩
    · rintro env h2 ⟨rfl, ⟨c, o, rfl⟩, hall⟩
      exact fin _ _ _
theorem dr_mk {h : Hs} {i : Nat} {s d n s' d' n' : Int} (hi : h[i]? = some (.lst [.int s, .int d, .int n])) : Dr h i (h.set i (.lst [.int s', .int d', .int n'])) := by
  have hl : i < h.length := (List.getElem?_eq_some_iff.mp hi).1
  refine ⟨⟨s', d', n', by simp [hl]⟩, by simp, fun j hj => ?_⟩
  rw [List.getElem?_set]
  simp [Ne.symm hj]
theorem Dr.trans {h h1 h2 : Hs} {i : Nat} (a : Dr h i h1) (b : Dr h1 i h2) : Dr h i h2 := ⟨b.1, b.2.1.trans a.2.1, fun j hj => (b.2.2 j hj).trans (a.2.2 j hj)⟩
theorem Dr.refl {h : Hs} {i : Nat} (a : HP h i) : Dr h i h := ⟨a, rfl, fun _ _ => rfl⟩
theorem vc__law_pick : ∀ ds h Q E, ds.length = 2 → C__law_pick ds h Q E → w__law_pick (endsOf Q E) (ds.map some ++ List.replicate (4 - ds.length) none) h := by
  rintro ds h Q E hl ⟨i, m, rfl, ⟨s, d, n, hi⟩, hm, hm2, q⟩
  have hlt : i < h.length := (List.getElem?_eq_some_iff.mp hi).1
  have L0 : lstOf h (.ref i) = some [.int s, .int d, .int n] := by simp only [lstOf, hi]
  have LS : ∀ ds, lstOf (h.set i (.lst ds)) (.ref i) = some ds := fun ds => by simp only [lstOf, List.getElem?_set_self hlt]
  have S0 : ∀ k v p, setIxD (.ref i) (.int k) v h p = match ixN 3 k with
      | some n' => p (h.set i (.lst ([D.int s, .int d, .int n].set n' v)))
      | none => False := fun k v p => by simp only [setIxD, hi] <;> rfl
  have SS : ∀ ds k v p, setIxD (.ref i) (.int k) v (h.set i (.lst ds)) p = match ixN ds.length k with
      | some n' => p (h.set i (.lst (ds.set n' v)))
      | none => False := fun ds k v p => by simp only [setIxD, List.getElem?_set_self hlt, List.set_set] <;> rfl
  have i0 : ixN 3 0 = some 0 := by decide
  have i1 : ixN 3 1 = some 1 := by decide
  have i2 : ixN 3 2 = some 2 := by decide
  unfold w__law_pick t1__law_pick t2__law_pick t3__law_pick t4__law_pick
  rw [wSeq, wSetIx]
  simp only [wOp, wVar, wC, onSlot, ixD, L0, atI_2, addD, S0, i2, List.map_cons, List.map_nil, List.length_cons, List.length_nil, List.replicate_zero, List.replicate_succ, List.cons_append, List.nil_append, List.append_nil, List.getElem?_cons_zero, List.getElem?_cons_succ, List.set_cons_zero, List.set_cons_succ, Nat.reduceAdd, Nat.reduceSub]
  simp only [wSeq, wAsg, wOp, wVar, wC, wLi, wCons, wNil, onSlot, ixD, LS, SS, wSetIx, wPairIx, divmodD, atI_0, atI_1, atI_2, i0, i1, i2, addD, mulD, modD, fdivD, DL.intD, toIntD, wIfS, wB, asB, gtD, wNext, wRet, ends_nx, ends_rt, ends_ex, List.length_cons, List.length_nil, List.getElem?_cons_zero, List.getElem?_cons_succ, List.set_cons_zero, List.set_cons_succ, Nat.reduceAdd, Nat.zero_add, decide_eq_true_eq]
  refine ⟨cmR (by decide), cmL (by decide), by decide, trivial, ?_⟩
  split
  · exact ⟨⟨hm, hm2⟩, _, _, rfl, q _ _ (Int.emod_nonneg _ (by omega)) (Int.emod_lt_of_pos _ hm) (dr_mk hi)⟩
  · exact ⟨⟨by decide, by decide⟩, hm, q _ _ (Int.emod_nonneg _ (by omega)) (Int.emod_lt_of_pos _ hm) (dr_mk hi)⟩
theorem log_small {v : Int} {b : Nat} (h : v.natAbs < 2 ^ b) (hb : b ≤ 1000) (h0 : 0 < b) : v.natAbs.log2 < 1000 := Nat.lt_of_lt_of_le (PySem.Flt.log2_lt_of h0 h) hb
theorem log_small' {v : Int} (h0 : 0 ≤ v) (h : v ≤ 9) : v.natAbs.log2 < 1920 := by
  have := log_small (v := v) (b := 4) (by have : (2 : Nat) ^ 4 = 16 := by decide
                                          omega) (by decide) (by decide)
  omega
theorem lett_sign : ∀ c ∈ LETT.cps.toList, c ∈ SIGN.cps.toList := by decide
theorem digit_ok {k : Int} (h0 : 0 ≤ k) (h1 : k ≤ 9) : ((toString k : Str)).cps.toList.length = 1 ∧ ∀ c ∈ ((toString k : Str)).cps.toList, c ∈ SIGN.cps.toList := by
  have hk : k = 0 ∨ k = 1 ∨ k = 2 ∨ k = 3 ∨ k = 4 ∨ k = 5 ∨ k = 6 ∨ k = 7 ∨ k = 8 ∨ k = 9 := by omega
  rcases hk with rfl | rfl | rfl | rfl | rfl | rfl | rfl | rfl | rfl | rfl <;> exact ⟨by decide +kernel, by decide +kernel⟩
theorem isName_of {x : Str} {c : Nat} {r : List Nat} (e : x.cps.toList = c :: r) (hc : c ∈ LETT.cps.toList) (hr : r.length < 8) (ha : ∀ e ∈ x.cps.toList, e ∈ SIGN.cps.toList) : isNameS x = true := by
  unfold isNameS
  rw [e] at ha ⊢
  simp only [Bool.and_eq_true, decide_eq_true_eq, List.all_eq_true]
  exact ⟨⟨hr, hc⟩, fun z hz => ha z hz⟩
theorem vc__law_name : ∀ ds h Q E, ds.length = 2 → C__law_name ds h Q E → w__law_name (endsOf Q E) (ds.map some ++ List.replicate (5 - ds.length) none) h := by
  rintro ds h Q E hl ⟨i, k, rfl, hp, hk0, hk9, q⟩
  unfold w__law_name
  walk_at "wp"
  refine ⟨hp, by decide, fun a h1 a0 a1 d1 => ?_⟩
  split
  · have hk : k = 0 ∨ k = 1 ∨ k = 2 ∨ k = 3 ∨ k = 4 ∨ k = 5 ∨ k = 6 ∨ k = 7 ∨ k = 8 ∨ k = 9 := by omega
    rcases hk with rfl | rfl | rfl | rfl | rfl | rfl | rfl | rfl | rfl | rfl <;> exact q _ _ (by decide) d1
  unfold t1__law_name
  walk_at "wp"
  unfold t2__law_name
  walk_at "wp"
  refine ⟨d1.1, by decide, fun b h2 b0 b1 d2 => ⟨⟨by omega, by omega⟩, ?_⟩⟩
  refine for_inv (fun ds env hh => Dr h i hh ∧ ∃ x o, env = [some (D.ref i), some (D.int k), some (D.str (Str.ofString "abcdefghijklmnopqrstuvwxyz")), some (D.str x), o] ∧ x.cps.toList.length + ds.length ≤ 3 ∧ 1 ≤ x.cps.toList.length + ds.length ∧ ∀ c ∈ x.cps.toList, c ∈ LETT.cps.toList) ?_ ?_ _ _ _ ⟨d1.trans d2, _, _, rfl, by rw [rangeD_len]; show 0 + _ ≤ _; omega, by rw [rangeD_len]; show 1 ≤ 0 + _; omega, fun c hc => by cases hc⟩
  · rintro d ds env hh ⟨dd, x, o, rfl, x1, x2, x3⟩ D' hrt hbk hex hn hct
    unfold lp1__law_name
    walk_at "wp"
    refine ⟨dd.1, by decide, fun u h3 u0 u1 d3 => ⟨by decide, ?_⟩⟩
    obtain ⟨c, e, hc⟩ := atI_of (xs := (Str.ofString "abcdefghijklmnopqrstuvwxyz").cps.toList) (i := u) u0 u1
    rw [e]
    simp only [List.length_cons] at x1 x2
    refine ⟨by rw [len_cps, len_cps, cps_one, List.length_singleton]; omega, hn _ _ ⟨dd.trans d3, _, _, rfl, ?_, ?_, ?_⟩⟩
    · rw [cps_app, List.length_append, cps_one, List.length_singleton]; omega
    · rw [cps_app, List.length_append, cps_one, List.length_singleton]; omega
    · intro z hz
      rw [cps_app, List.mem_append, cps_one, List.mem_singleton] at hz
      rcases hz with hz | hz
      · exact x3 z hz
      · rw [hz]; exact hc
  rintro env hh ⟨dd, x, o, rfl, x1, x2, x3⟩
  simp only [List.length_nil, Nat.add_zero] at x1 x2
  unfold t3__law_name
  walk_at "wp"
  obtain ⟨g1, g2⟩ := digit_ok hk0 hk9
  refine ⟨log_small' hk0 hk9, by rw [len_cps, len_cps, g1]; omega, ?_⟩
  unfold t4__law_name
  walk_at "wp"
  refine ⟨dd.1, by decide, fun b h3 b0 b1 d3 => ⟨⟨by omega, by omega⟩, ?_⟩⟩
  obtain ⟨c0, r0, hx⟩ : ∃ c r, x.cps.toList = c :: r := by
    cases e : x.cps.toList with
    | nil => rw [e] at x2; simp at x2
    | cons c r => exact ⟨c, r, rfl⟩
  have hc0 : c0 ∈ LETT.cps.toList := x3 c0 (by rw [hx]; exact List.mem_cons_self ..)
  have hlx : r0.length ≤ 2 := by rw [hx, List.length_cons] at x1; omega
  refine for_inv (fun ds env hh => Dr h i hh ∧ ∃ x o r, env = [some (D.ref i), some (D.int k), some (D.str (Str.ofString "abcdefghijklmnopqrstuvwxyz")), some (D.str x), o] ∧ x.cps.toList = c0 :: r ∧ r.length + ds.length ≤ 6 ∧ ∀ c ∈ x.cps.toList, c ∈ SIGN.cps.toList) ?_ ?_ _ _ _ ⟨dd.trans d3, _, _, r0 ++ (toString k : Str).cps.toList, rfl, by rw [cps_app, hx]; rfl, by rw [rangeD_len, List.length_append, g1]; omega, fun c hc => ?_⟩
  · rintro d ds env hh ⟨dd, x, o, r, rfl, x1, x2, x3⟩ D' hrt hbk hex hn hct
    unfold lp2__law_name
    walk_at "wp"
    refine ⟨dd.1, by decide, fun u h3 u0 u1 d3 => ⟨by decide, ?_⟩⟩
    obtain ⟨c, e, hc⟩ := atI_of (xs := (Str.ofString "abcdefghijklmnopqrstuvwxyz").cps.toList) (i := u) u0 u1
    rw [e]
    simp only [List.length_cons] at x2
    refine ⟨by rw [len_cps, len_cps, cps_one, List.length_singleton, x1, List.length_cons]; omega, hn _ _ ⟨dd.trans d3, _, _, r ++ [c], rfl, ?_, ?_, ?_⟩⟩
    · rw [cps_app, cps_one, x1]; rfl
    · rw [List.length_append, List.length_singleton]; omega
    · intro z hz
      rw [cps_app, List.mem_append, cps_one, List.mem_singleton] at hz
      rcases hz with hz | hz
      · exact x3 z hz
      · rw [hz]; exact lett_sign c hc
  · rintro env hh ⟨dd, x, o, r, rfl, x1, x2, x3⟩
    unfold t5__law_name
    walk_at "wp"
    simp only [List.length_nil, Nat.add_zero] at x2
    exact q x hh (isName_of x1 hc0 (by omega) x3) dd
  · rw [cps_app, List.mem_append] at hc
    rcases hc with hc | hc
    · exact lett_sign c (x3 c hc)
    · exact g2 c hc
theorem vc_Rule____init__ : ∀ ds h Q E, ds.length = 3 → C_Rule____init__ ds h Q E → w_Rule____init__ (endsOf Q E) (ds.map some ++ List.replicate (6 - ds.length) none) h := by
  rintro ds h Q E hl ⟨i, s, b, rfl, hc, ⟨ts, hs, tb, hb⟩, q⟩
  have hlt : i < h.length := (List.getElem?_eq_some_iff.mp hc).1
  have ts := ts.ty
  have tb := tb.ty
  unfold w_Rule____init__
  cases s with
  | tup ds =>
    obtain ⟨hd1, hd2⟩ := hs ds rfl
    walk_at "wp"
    unfold t1_Rule____init__
    walk_at "wp"
    rw [enumL_F]
    refine for_inv (fun rem env h1 => h1 = h ∧ (∃ o3 o4, env = [some (D.ref i), some (D.tup ds), some b, o3, o4, none]) ∧ ∃ k rest, rem = enumF k rest ∧ firstNot isStepD ds = (firstNot isStepD rest).map (· + k) ∧ ∀ d ∈ rest, StepArg d) ?_ ?_ _ _ _ ⟨rfl, ⟨_, _, rfl⟩, 0, ds, rfl, by cases firstNot isStepD ds <;> rfl, hd2⟩
    · rintro d rem env h1 ⟨rfl, ⟨o3, o4, rfl⟩, k, rest, hrem, hfn, hall⟩ D' hrt hbk hex hn hct
      cases rest with
      | nil => cases hrem
      | cons d0 rest =>
        cases hrem
        unfold lp1_Rule____init__
        walk_at "wp"
        refine ⟨hall d0 (by simp), ?_⟩
        cases hst : isStepD d0 with
        | false =>
          rw [if_pos rfl, hex]
          have e : firstNot isStepD ds = some k := by
            rw [hfn]
            unfold firstNot
            rw [hst]
            simp
          simp only [iniR, e, IniK] at q
          exact q
        | true =>
          rw [if_neg (by decide)]
          refine hn _ _ ⟨rfl, ⟨_, _, rfl⟩, k + 1, rest, rfl, ?_, fun e he => hall e (List.mem_cons_of_mem _ he)⟩
          rw [hfn]
          conv => lhs; unfold firstNot
          rw [if_pos hst]
          cases firstNot isStepD rest with
          | none => rfl
          | some j => simp only [Option.map_some]; congr 1; omega
    rintro env h1 ⟨rfl, ⟨o3, o4, rfl⟩, k, rest, hrem, hfn, hall⟩
    have e0 : firstNot isStepD ds = none := by
      cases rest with
      | nil => rw [hfn]; rfl
      | cons d0 rest => cases hrem
    unfold t2_Rule____init__
    cases b with
    | tup es =>
      obtain ⟨he1, he2⟩ := hb es rfl
      unfold t3_Rule____init__
      walk_at "wp"
      rw [enumL_F]
      refine for_inv (fun rem env h2 => h2 = h1 ∧ (∃ o3 o4 o5, env = [some (D.ref i), some (D.tup ds), some (D.tup es), o3, o4, o5]) ∧ ∃ (pre : List Int) (rest : List D), rem = enumF pre.length rest ∧ es = pre.map D.int ++ rest ∧ badIx [] es = (badIx pre rest).map (· + pre.length) ∧ ∀ d ∈ rest, Ty d) ?_ ?_ _ _ _ ⟨rfl, ⟨_, _, _, rfl⟩, [], es, rfl, rfl, by cases badIx [] es <;> rfl, he2⟩
      · rintro d rem env h2 ⟨rfl, ⟨o3, o4, o5, rfl⟩, pre, rest, hrem, hes, hbx, hall⟩ D' hrt hbk hex hn hct
        cases rest with
        | nil => cases hrem
        | cons d0 rest =>
          cases hrem
          have bad : badIx pre (d0 :: rest) = some 0 → E ⟨.own 7, ["index"], [.int (pre.length : Nat)]⟩ h2 := by
            intro e
            have e2 : badIx [] es = some pre.length := by rw [hbx, e]; simp
            simp only [iniR, e0, e2, IniK] at q
            exact q
          unfold lp2_Rule____init__
          walk_at "wp"
          refine ⟨hall d0 (by simp), ?_⟩
          cases hst : isStD d0 with
          | false =>
            rw [if_pos rfl, hex]
            refine bad ?_
            cases d0 with
            | int j => unfold badIx; rw [if_neg (fun z => by rw [hst] at z; exact absurd z.1 (by decide))]
            | _ => rfl
          | true =>
            rw [if_neg (by decide)]
            obtain ⟨j, rfl⟩ : ∃ j, d0 = .int j := by
              cases d0 with
              | int j => exact ⟨j, rfl⟩
              | _ => cases hst
            have et : es.take pre.length = pre.map D.int := by rw [hes, List.take_left' (by simp)]
            rw [cutL_take', et, flDs_ints]
            simp only [flD, inV_ints]
            by_cases hin : j ∈ pre
            · rw [if_pos (decide_eq_true hin), hex]
              refine bad ?_
              unfold badIx
              rw [if_neg (fun z => z.2 hin)]
            · rw [if_neg (by rw [decide_eq_false hin]; decide)]
              refine hn _ _ ⟨rfl, ⟨_, _, _, rfl⟩, pre ++ [j], rest, by rw [List.length_append]; rfl, by rw [hes, List.map_append]; simp, ?_, fun e he => hall e (List.mem_cons_of_mem _ he)⟩
              rw [hbx]
              conv => lhs; unfold badIx
              rw [if_pos ⟨hst, hin⟩]
              cases badIx (pre ++ [j]) rest with
              | none => rfl
              | some m => simp only [Option.map_some, List.length_append, List.length_singleton]; congr 1; omega
      rintro env h2 ⟨rfl, ⟨o3, o4, o5, rfl⟩, pre, rest, hrem, hes, hbx, hall⟩
      have e1 : badIx [] es = none := by
        cases rest with
        | nil => rw [hbx]; rfl
        | cons d0 rest => cases hrem
      simp only [iniR, e0, e1, IniK] at q
      unfold t4_Rule____init__ t5_Rule____init__
      walk_at "wp"
      rw [hc]
      simp only [nsP, dsP]
      walk_at "wp"
      rw [List.getElem?_set_self hlt]
      simp only [List.set_set]
      exact ⟨by decide, by decide, q⟩
    | ref i => simp [tyN] at tb
    | obj => cases tb
    | exc => cases tb
    | gl => cases tb
    | ty => cases tb
    | rol => cases tb
    | _ => walk_at "wp"; simp only [iniR, e0, IniK] at q; exact q
  | ref i => simp [tyN] at ts
  | obj => cases ts
  | exc => cases ts
  | gl => cases ts
  | ty => cases ts
  | rol => cases ts
  | _ => walk_at "wp"; exact q
theorem aft_key {rows : List Row} {ms : List Int} {st : Int} {e : Ev} {h : Hs} {Q : PQ} {E : PX} (hr : RowsOk rows) (hm : MarksOk ms) (hs : St st) (he : e.ok) (hf : e.full) (q0 : ∀ v : Int, Q (.int v) h) : t2_Rule__after (endsOf Q E) [some (ruleD rows ms), some (.int st), some e.d, none, none, none] h := by
  have q := q0 (aft rows ms st e)
  have key : t2_Rule__after (endsOf Q E) [some (ruleD rows ms), some (.int st), some e.d, none, none, none] h := by
    unfold t2_Rule__after
    simp only [ruleD, rowsD, marksD]
    walk_at "wp"
    rw [flDs_ints]
    simp only [inV_ints]
    walk_at "wp"
    by_cases hin : st ∈ ms
    · rw [if_pos hin]
      have : aft rows ms st e = st := by unfold aft; rw [if_pos hin]
      rw [this] at q
      exact q
    · rw [if_neg hin]
      have ea : aft rows ms st e = aftR st e rows := by unfold aft; rw [if_neg hin]
      rw [ea] at q
      unfold t3_Rule__after
      walk_at "wp"
      refine for_inv (fun ds env h1 => h1 = h ∧ (∃ o3 o4 o5, env = [some (D.obj 0 [Str.ofString "steps", Str.ofString "bad"] [D.tup (rows.map Row.d), D.tup (ms.map D.int)]), some (D.int st), some e.d, o3, o4, o5]) ∧ ∃ rs : List Row, ds = rs.map Row.d ∧ aftR st e rs = aftR st e rows ∧ ∀ r ∈ rs, r.ok) ?_ ?_ _ _ _ ⟨rfl, ⟨_, _, _, rfl⟩, rows, rfl, rfl, hr.2⟩
      · rintro d ds env h1 ⟨rfl, ⟨o3, o4, o5, rfl⟩, rs, hds, hrs, hok⟩ D' hrt hbk hex hn hct
        cases rs with
        | nil => cases hds
        | cons r rs =>
          rw [List.map_cons] at hds
          cases hds
          have ok := hok r (List.mem_cons_self ..)
          have step : ∀ T : Prop, (r.a = st ∧ r.e.fits e = true → D'.rt (.int r.b) h1) → (¬(r.a = st ∧ r.e.fits e = true) → T) → T ∨ True := fun _ _ _ => .inr trivial
          have yes : r.a = st → r.e.fits e = true → D'.rt (.int r.b) h1 := by
            intro a b
            rw [hrt]
            have : aftR st e (r :: rs) = r.b := by unfold aftR; rw [if_pos ⟨a, b⟩]
            rw [← hrs, this] at q
            exact q
          have no : ¬(r.a = st ∧ r.e.fits e = true) → ∀ o3 o4 o5, D'.nx [some (D.obj 0 [Str.ofString "steps", Str.ofString "bad"] [D.tup (rows.map Row.d), D.tup (ms.map D.int)]), some (D.int st), some e.d, o3, o4, o5] h1 := by
            intro a o3 o4 o5
            refine hn _ _ ⟨rfl, ⟨_, _, _, rfl⟩, rs, rfl, ?_, fun r2 h2 => hok r2 (List.mem_cons_of_mem _ h2)⟩
            rw [← hrs]
            conv => rhs; unfold aftR
            rw [if_neg a]
          obtain ⟨ps, hps⟩ : ∃ ps, r.e.d = .tup ps := by cases r.e <;> exact ⟨_, rfl⟩
          obtain ⟨es, hes⟩ : ∃ es, e.d = .tup es := by cases e <;> exact ⟨_, rfl⟩
          unfold lp1_Rule__after
          simp only [Row.d]
          rw [hps, hes]
          simp only [wIfS, wAnd, wB, wOp, wSl, wOn, wOs, wLi, wCons, wNil, wVar, onSlot, wRet, wNext, wGtup, wGcons, wGnil, wGn, lenD, slD, asB, List.length_cons, List.length_nil, Nat.reduceAdd, List.set_cons_zero, List.set_cons_succ, List.getElem?_cons_zero, List.getElem?_cons_succ, true_and]
          rw [hes] at no
          have e1 : ∀ Q, eqD false (D.int r.a) (D.int st) h1 Q = Q (.bl (decide (r.a = st))) h1 := fun Q => by simp only [eqD, Bool.false_xor]
          rw [e1]
          by_cases ha : r.a = st
          · simp only [decide_eq_true ha, if_true]
            refine fits_eq ok.2.1 he hf ?_ ps es hps hes
            cases hft : r.e.fits e with
            | true => exact yes ha hft
            | false => exact no (fun z => by rw [hft] at z; exact absurd z.2 (by decide)) _ _ _
          · simp only [decide_eq_false ha]
            exact no (fun z => ha z.1) _ _ _
      · rintro env h1 ⟨rfl, ⟨o3, o4, o5, rfl⟩, rs, hds, hrs, hok⟩
        cases rs with
        | nil =>
          unfold t4_Rule__after
          walk_at "wp"
          rw [← hrs] at q
          exact q
        | cons r rs => cases hds
  exact key
theorem vc_Rule__after : ∀ ds h Q E, ds.length = 3 → C_Rule__after ds h Q E → w_Rule__after (endsOf Q E) (ds.map some ++ List.replicate (6 - ds.length) none) h := by
  rintro ds h Q E hl ⟨rows, ms, s, e, rfl, hr, hm, ⟨ts, he, hex⟩, q1, q2, q3⟩
  unfold w_Rule__after t1_Rule__after
  walk_at "wp"
  refine ⟨ts, ?_⟩
  cases h1 : isStD s with
  | false => rw [if_pos rfl]; exact q1 h1
  | true =>
    rw [if_neg (by decide)]
    refine ⟨he, ?_⟩
    cases h2 : isEvD e with
    | false => rw [if_pos rfl]; exact q2 h1 (fun z => by rw [h2] at z; exact absurd z.1 (by decide))
    | true =>
      rw [if_neg (by decide)]
      obtain ⟨es, rfl⟩ : ∃ es, e = .tup es := by
        cases e with
        | tup es => exact ⟨es, rfl⟩
        | _ => cases h2
      walk_at "wp"
      split
      · rename_i e2
        exact q2 h1 (fun z => z.2 (by show es.length = 2; omega))
      · rename_i e2
        have hlen : evLen (.tup es) ≠ 2 := fun z => e2 (by have : es.length = 2 := z; omega)
        obtain ⟨i, v, rfl, hs, e, ok, full⟩ := hex h1 h2 hlen
        rw [e]
        exact aft_key hr hm hs ok full (q3 h1 ⟨h2, hlen⟩)
end My
namespace My
open PySem PySem.Spec PyProof.Rows L2 DL
local macro_rules | `(tactic| walk_at "wp") => `(tactic| simp only [fl_steps, fl_bad, fl_index, fl_value, mem0, mem0a, mem0b, mem0c, mem0d, nin_after, k_lk5, k_lk6, k_lk7, ↓q_is_integer, ↓q_is_state, ↓q_is_name, ↓q_is_event, ↓q_is_step, ↓q_law_pick, ↓q_law_name, ↓q_law_wrong_state, ↓q_law_wrong_event, ↓q_law_wrong_step, ↓q_law_error, ↓q_law_right, ↓q_bag, Bool.true_eq_false, not_true_eq_false, not_false_eq_true, Int.cast_ofNat_Int, Int.reduceLE, Int.reduceLT, Int.reduceEq, Int.reduceAdd, Int.reduceSub, Int.reduceNeg, atI_0, atI_1, atI_2, wTry, exCls, dnOut, envIn, wRaise, wExc, wXf, wIsx, wExPar, Nat.reduceBEq, insOf_exc, isNon_exc, tyN_exc, lstOf_exc, flD_exc, wFld, wSetFld, setFldD, wMeth, wMethK, wMake, wMakeK, wIso, eqO, rhsOk, wEnum, divmodD, wPairIx, newK, insOf_non, insOf_bl, insOf_int, insOf_str, insOf_tyy, insOf_gl, insOf_tup, insOf_lst, insOf_rol, insOf_dic, insOf_obj, lk_hd, endsC_nx, endsC_rt, endsC_ex, endsC_bk, endsC_ct, wSeq, wRet, wRetN, wAsg, wIfS, wNext, wDrop, wPar, wPar3, wVar, onSlot, wC, wOp, wUn, wLi, wNil, wCons, wTup, wLst, wLstC, wCall, wCallK, selA, wB, asB, DL.wTru, truD, wAnd, wOr, DL.wNot, wIf, wAndV, wOrV, wNotV, wChain, wFor, wSeqI, seqOf, wRng1, wRng2, wGn, wGnil, wGcons, wGtup, wAsgG, wAug, wLc, wipeD, wSl, wOn, wOs, wSetIx, wBM, wBM0, ends_nx, ends_rt, ends_ex, ends_bk, ends_ct, wDic0, wDic1, addD, subD, mulD, fdivD, modD, powD, ltD, leD, gtD, geD, DL.intD, negD, eqD, isD, ixD, slD, lenD, toIntD, absD, max2D, min2D, allD, anyD, sumD, toTupD, toLstD, strIntD, isiD, inD, flDs, joinD, str1D, appD, toPh, toP, toPs, eqDicD, List.map_cons, List.map_nil, List.length_cons, List.length_nil, List.replicate_zero, List.replicate_succ, List.cons_append, List.nil_append, List.append_nil, List.getElem?_cons_zero, List.getElem?_cons_succ, List.set_cons_zero, List.set_cons_succ, Nat.reduceAdd, Nat.reduceSub, Nat.reduceLT, Nat.reduceLeDiff, Option.bind, Option.map, Option.map_some, Option.bind_some, true_and, and_true, if_true, if_false, Bool.false_eq_true, reduceIte, Bool.not_true, Bool.not_false, Bool.false_xor, Bool.true_xor, Nat.zero_add, Nat.add_zero, ne_eq, not_false_eq_true, false_and, and_false, false_or, or_false, true_or, or_true, Nat.add_eq, List.length_singleton, decide_eq_true_eq, Bool.not_eq_true', decide_eq_false_iff_not, lstOf_non, lstTr_non, tyN_non, isNon_non, flD_non, keyD_non, tyM_non, lstOf_bl, lstTr_bl, tyN_bl, isNon_bl, flD_bl, keyD_bl, tyM_bl, lstOf_int, lstTr_int, tyN_int, isNon_int, flD_int, keyD_int, tyM_int, lstOf_str, lstTr_str, tyN_str, isNon_str, flD_str, keyD_str, tyM_str, lstOf_ty, lstTr_ty, tyN_ty, isNon_ty, flD_ty, keyD_ty, tyM_ty, lstOf_gl, lstTr_gl, tyN_gl, isNon_gl, flD_gl, keyD_gl, tyM_gl, lstOf_tup, lstTr_tup, tyN_tup, isNon_tup, flD_tup, keyD_tup, tyM_tup, lstOf_lst, lstTr_lst, tyN_lst, isNon_lst, flD_lst, keyD_lst, tyM_lst, lstOf_rol, lstTr_rol, tyN_rol, isNon_rol, flD_rol, keyD_rol, tyM_rol, lstOf_dic, lstTr_dic, tyN_dic, isNon_dic, flD_dic, keyD_dic, tyM_dic, lstOf_obj, lstTr_obj, tyN_obj, isNon_obj, flD_obj, keyD_obj, tyM_obj, kib_int_int, kib_bool_int, kib_bool_bool, kib_int_bool, kib_NoneType_int, kib_str_int, kib_tuple_int, kib_list_int, kib_dict_int, kib_NoneType_str, kib_bool_str, kib_int_str, kib_str_str, kib_tuple_str, kib_list_str, kib_dict_str, kib_NoneType_tuple, kib_bool_tuple, kib_int_tuple, kib_str_tuple, kib_tuple_tuple, kib_list_tuple, kib_dict_tuple, kib_NoneType_dict, kib_bool_dict, kib_int_dict, kib_str_dict, kib_tuple_dict, kib_list_dict, kib_dict_dict])
theorem mapIdx_const {α β : Type} (f : α → β) : ∀ l : List α, l.mapIdx (fun _ c => f c) = l.map f
  | [] => rfl
  | a :: l => by
    rw [List.mapIdx_cons, List.map_cons]
    exact congrArg _ (mapIdx_const f l)
theorem upper_cps (x : Str) : (Txt.upper x).cps.toList = x.cps.toList.flatMap Unicode.upperOf := by
  show ((x.cps.mapIdx fun _ c => (Unicode.upperOf c).toArray).flatten).toList = _
  rw [Array.toList_flatten, Array.toList_mapIdx, mapIdx_const]
  simp [List.flatMap, Function.comp_def]
theorem up_sign : ∀ c ∈ SIGN.cps.toList, (Unicode.upperOf c).length = 1 ∧ ∀ u ∈ Unicode.upperOf c, u < 128 ∧ u ∉ LETT.cps.toList := by decide +kernel
theorem name_sign {x : Str} (h : isNameS x = true) : ∀ c ∈ x.cps.toList, c ∈ SIGN.cps.toList := by
  unfold isNameS at h
  revert h
  generalize x.cps.toList = l
  intro h
  cases l with
  | nil => intro c hc; cases hc
  | cons c r =>
    simp only [Bool.and_eq_true, decide_eq_true_eq, List.all_eq_true] at h
    exact h.2
theorem flat_len {l : List Nat} (h : ∀ c ∈ l, c ∈ SIGN.cps.toList) : (l.flatMap Unicode.upperOf).length = l.length ∧ ∀ u ∈ l.flatMap Unicode.upperOf, u < 128 ∧ u ∉ LETT.cps.toList := by
  induction l with
  | nil => exact ⟨rfl, fun u hu => by cases hu⟩
  | cons c l ih =>
    obtain ⟨h1, h2⟩ := ih fun e he => h e (List.mem_cons_of_mem _ he)
    obtain ⟨g1, g2⟩ := up_sign c (h c (List.mem_cons_self ..))
    rw [List.flatMap_cons]
    refine ⟨by rw [List.length_append, g1, h1, List.length_cons]; omega, fun u hu => ?_⟩
    rcases List.mem_append.mp hu with z | z
    · exact g2 u z
    · exact h2 u z
theorem upper_name {x : Str} (h : isNameS x = true) : (Txt.upper x).length ≤ 8 ∧ (∀ c ∈ (Txt.upper x).cps.toList, c < 128) ∧ isNameS (Txt.upper x) = false := by
  obtain ⟨h1, h2⟩ := flat_len (name_sign h)
  have hl := (name_len h).2.1
  refine ⟨by rw [len_cps, upper_cps, h1, ← len_cps]; exact hl, fun c hc => ?_, ?_⟩
  · rw [upper_cps] at hc
    exact (h2 c hc).1
  · unfold isNameS
    rw [upper_cps]
    revert h2
    generalize x.cps.toList.flatMap Unicode.upperOf = l
    intro h2
    cases l with
    | nil => rfl
    | cons c r =>
      have := (h2 c (List.mem_cons_self ..)).2
      simp only [decide_eq_false this, Bool.and_false, Bool.false_and]
theorem name_app {x : Str} (h : isNameS x = true) : (x ++ Str.ofString "aaaaaaaa").length ≤ 16 ∧ (∀ c ∈ (x ++ Str.ofString "aaaaaaaa").cps.toList, c < 128) ∧ isNameS (x ++ Str.ofString "aaaaaaaa") = false := by
  obtain ⟨l1, l2, l3⟩ := name_len h
  have e8 : (Str.ofString "aaaaaaaa").length = 8 := by decide
  have el : (x ++ Str.ofString "aaaaaaaa").length = x.length + 8 := by rw [PySem.Str.length_append, e8]
  refine ⟨by omega, fun c hc => ?_, ?_⟩
  · have : (x ++ Str.ofString "aaaaaaaa").cps.toList = x.cps.toList ++ (Str.ofString "aaaaaaaa").cps.toList := by
      rw [PySem.Str.cps_append, Array.toList_append]
    rw [this] at hc
    rcases List.mem_append.mp hc with z | z
    · exact l3 c z
    · exact (show ∀ c ∈ (Str.ofString "aaaaaaaa").cps.toList, c < 128 by decide) c z
  · cases hb : isNameS (x ++ Str.ofString "aaaaaaaa") with
    | false => rfl
    | true =>
      have := (name_len hb).2.1
      omega
theorem sc_str {x : Str} (h : x.length ≤ 20) (hx : ∀ c ∈ x.cps.toList, c < 128) : Sc (.str x) := ⟨rfl, fun y e => by cases e; omega, _, rfl, (small_str h hx).mono (by decide) (by decide)⟩
theorem sc_name {x : Str} (h : isNameS x = true) : Sc (.str x) := sc_str (by have := (name_len h).2.1; omega) (name_len h).2.2
theorem sc_int {i : Int} (h : i.natAbs < 1000) : Sc (.int i) := ⟨rfl, fun y e => (by cases e), _, rfl, (small_int (by
  have := log_small (v := i) (b := 10) (by have : (2 : Nat) ^ 10 = 1024 := by decide
                                           omega) (by decide) (by decide)
  omega)).mono (by decide) (by decide)⟩
theorem sc_bl {b : Bool} : Sc (.bl b) := ⟨rfl, fun y e => (by cases e), _, rfl, small_bool.mono (by decide) (by decide)⟩
theorem sc_non : Sc .non := ⟨rfl, fun y e => (by cases e), _, rfl, small_none.mono (by decide) (by decide)⟩
theorem tup_sc : ∀ {ds : List D}, (∀ e ∈ ds, Sc e) → ∃ ps, toPs ds = some ps ∧ Smalls 4000 4 ps ∧ ps.length = ds.length
  | [], _ => ⟨[], rfl, smalls_nil, rfl⟩
  | d :: ds, h => by
    obtain ⟨_, _, p, e1, s1⟩ := h d (List.mem_cons_self ..)
    obtain ⟨ps, e2, s2, l2⟩ := tup_sc fun e he => h e (List.mem_cons_of_mem _ he)
    refine ⟨p :: ps, ?_, smalls_cons s1 s2, by rw [List.length_cons, List.length_cons, l2]⟩
    rw [toPs, e1, e2]
theorem low_all {ds : List D} (h : ∀ e ∈ ds, Low e) : Low (.tup ds) := fun n => lowRs_mem.mpr fun d hd => h d hd n
theorem low_allL {ds : List D} (h : ∀ e ∈ ds, Low e) : Low (.lst ds) := fun n => lowRs_mem.mpr fun d hd => h d hd n
theorem wev_tup {ds : List D} (h : ∀ e ∈ ds, Sc e ∧ Low e) (hl : ds.length ≤ 4) (hf : isEvD (.tup ds) = false) : WEv (.tup ds) := by
  obtain ⟨ps, e, s, l⟩ := tup_sc fun e he => (h e he).1
  refine ⟨⟨rfl, fun es z => by cases z; exact fun e he => (h e he).1⟩, hf, .inl ⟨.tuple ps, by rw [toP, e]; rfl, s.tuple.mono (by omega) (by decide)⟩, low_all fun e he => (h e he).2⟩
theorem all_cons {P : D → Prop} {d : D} {ds : List D} (h : P d) (t : ∀ e ∈ ds, P e) : ∀ e ∈ d :: ds, P e := fun e he => by
  rcases List.mem_cons.mp he with rfl | he
  · exact h
  · exact t e he
theorem all_nil {P : D → Prop} : ∀ e ∈ ([] : List D), P e := fun e he => by cases he
def SL (d : D) : Prop := Sc d ∧ Low d
theorem sl_str {x : Str} (h : x.length ≤ 20) (hx : ∀ c ∈ x.cps.toList, c < 128) : SL (.str x) := ⟨sc_str h hx, fun _ => rfl⟩
theorem sl_name {x : Str} (h : isNameS x = true) : SL (.str x) := ⟨sc_name h, fun _ => rfl⟩
theorem sl_int {i : Int} (h : i.natAbs < 1000) : SL (.int i) := ⟨sc_int h, fun _ => rfl⟩
theorem sl_bl {b : Bool} : SL (.bl b) := ⟨sc_bl, fun _ => rfl⟩
theorem sl_non : SL .non := ⟨sc_non, fun _ => rfl⟩
theorem sl_one {d : D} {p : PyData} {n : Nat} (e : toP d = some p) (s : Small n 0 p) (hn : n ≤ 3000) (hl : Low d) : SL (.tup [d]) := ⟨⟨rfl, fun y z => (by cases z), .tuple [p], by simp only [toP, toPs, e, Option.map_some], (smalls_cons s smalls_nil).tuple.mono (by simp; omega) (by decide)⟩, low_all (all_cons hl all_nil)⟩
theorem sl_oneL {d : D} {p : PyData} {n : Nat} (e : toP d = some p) (s : Small n 0 p) (hn : n ≤ 3000) (hl : Low d) : SL (.lst [d]) := ⟨⟨rfl, fun y z => (by cases z), .list [p], by simp only [toP, toPs, e, Option.map_some], (smalls_cons s smalls_nil).list.mono (by simp; omega) (by decide)⟩, low_allL (all_cons hl all_nil)⟩
theorem wev_dic : WEv (.dic [] []) := ⟨⟨rfl, fun es z => by cases z⟩, rfl, .inr ⟨rfl, fun i z => (by cases z), .dict [], rfl, rfl, by decide, by decide, (by unfold LowCh; decide)⟩, fun _ => rfl⟩
theorem wev_sc {d : D} (h : SL d) (hn : ∀ es, d ≠ .tup es) (hf : isEvD d = false) : WEv d := by
  obtain ⟨⟨t, _, p, e, s⟩, l⟩ := h
  exact ⟨⟨t, fun es z => absurd z (hn es)⟩, hf, .inl ⟨p, e, s.mono (by decide) (by decide)⟩, l⟩
theorem rp_of {d : D} {p : PyData} (e : toP d = some p) (s : Small 20000 6 p) : Rp d := .inl ⟨p, e, s⟩
theorem low_flat {d : D} (h : flD d ≠ none) : Low d := fun n => by cases d <;> first | rfl | exact absurd rfl h
theorem menu_at {P : D → Prop} {ds : List D} {v : Int} {Q : D → Prop} (h0 : 0 ≤ v) (h1 : v < ds.length) (hall : ∀ d ∈ ds, P d) (q : ∀ d, P d → Q d) : (match atI ds v with | some d => Q d | none => False) := by
  obtain ⟨d, e, hd⟩ := atI_of h0 h1
  rw [e]
  exact q d (hall d hd)
theorem cap : ∀ {n : Nat} {v : Int} {ds : List D}, ds.length = n → v < (n : Int) → v < (ds.length : Int) := fun e h => by omega
theorem log_10_50 : (10 ^ Int.toNat 50 : Int).natAbs.log2 < 1920 := by decide +kernel
theorem wst_of {d : D} {p : PyData} (t : Ty d) (f : isStD d = false) (e : toP d = some p) (s : Small 20000 6 p) (l : Low d) : WSt d := ⟨t, f, rp_of e s, l⟩
theorem wst_sl {d : D} (h : SL d) (f : isStD d = false) : WSt d := by
  obtain ⟨⟨t, _, p, e, s⟩, l⟩ := h
  exact ⟨t, f, rp_of e (s.mono (by decide) (by decide)), l⟩
theorem vc__law_wrong_state : ∀ ds h Q E, ds.length = 1 → C__law_wrong_state ds h Q E → w__law_wrong_state (endsOf Q E) (ds.map some ++ List.replicate (2 - ds.length) none) h := by
  rintro ds h Q E hl ⟨i, rfl, hp, q⟩
  unfold w__law_wrong_state t1__law_wrong_state
  walk_at "wp"
  refine ⟨⟨by decide, by decide, by decide⟩, hp, by decide, fun v h' v0 v1 d1 => ?_⟩
  refine menu_at (P := WSt) v0 (cap rfl v1) ?_ (fun d hd => q d h' hd d1)
  have s1 : Small 1921 0 (.int 0) := small_int (by decide)
  refine all_cons (wst_sl (sl_int (by decide)) (by decide)) (all_cons (wst_sl (sl_int (by decide)) (by decide)) (all_cons (wst_sl sl_bl rfl) (all_cons (wst_sl sl_bl rfl) (all_cons (wst_sl sl_non rfl) (all_cons (wst_sl (sl_str (by decide) (by decide)) rfl) (all_cons (wst_sl (sl_one rfl s1 (by decide) (fun _ => rfl)) rfl) (all_cons (wst_sl (sl_oneL rfl s1 (by decide) (fun _ => rfl)) rfl) (all_cons ⟨rfl, rfl, wev_dic.2.2.1, fun _ => rfl⟩ (all_cons ?_ (all_cons (wst_sl (sl_int (by decide)) (by decide)) all_nil))))))))))
  exact wst_of rfl (by decide +kernel) rfl ((small_int log_10_50).mono (by decide) (by decide)) (fun _ => rfl)
theorem ev2w {a d : D} (h : isWordD a = false) : isEvD (.tup [a, d]) = false := by
  show (isWordD a && isNameD d) = false
  rw [h, Bool.false_and]
theorem ev2n {a d : D} (h : isNameD d = false) : isEvD (.tup [a, d]) = false := by
  show (isWordD a && isNameD d) = false
  rw [h, Bool.and_false]
theorem ev3i {a b c : D} (h : isIntD c = false) : isEvD (.tup [a, b, c]) = false := by
  show (isWordD a && (isNameD b && isIntD c)) = false
  rw [h, Bool.and_false, Bool.and_false]
theorem ev3n {a b c : D} (h : isNameD b = false) : isEvD (.tup [a, b, c]) = false := by
  show (isWordD a && (isNameD b && isIntD c)) = false
  rw [h, Bool.false_and, Bool.and_false]
theorem vc__law_wrong_event : ∀ ds h Q E, ds.length = 2 → C__law_wrong_event ds h Q E → w__law_wrong_event (endsOf Q E) (ds.map some ++ List.replicate (3 - ds.length) none) h := by
  rintro ds h Q E hl ⟨i, x, rfl, hp, hx, q⟩
  have hxl := (name_len hx).2.1
  unfold w__law_wrong_event t1__law_wrong_event t2__law_wrong_event t3__law_wrong_event t4__law_wrong_event t5__law_wrong_event
  walk_at "wp"
  refine ⟨by have : (Str.ofString "aaaaaaaa").length = 8 := by decide
             omega, by omega, hp, by decide, fun v h' v0 v1 d1 => ?_⟩
  refine menu_at (P := WEv) v0 (cap rfl v1) ?_ (fun d hd => q d h' hd d1)
  have nx := sl_name hx
  have c1 : SL (.str (Str.ofString "call")) := sl_str (by decide) (by decide)
  have h1 : SL (.str (Str.ofString "hang")) := sl_str (by decide) (by decide)
  have n1 : SL (.str (Str.ofString "answer")) := sl_str (by decide) (by decide)
  have o1 : SL (.str (Str.ofString "out")) := sl_str (by decide) (by decide)
  have i1 : SL (.int 1) := sl_int (by decide)
  have s1 : Small 1921 0 (.int 0) := small_int (by decide)
  have sx := small_name hx
  have ap := name_app hx
  have up := upper_name hx
  refine all_cons (wev_tup all_nil (by decide) rfl) ?_
  refine all_cons (wev_tup (all_cons h1 (all_cons i1 all_nil)) (Nat.le_of_ble_eq_true rfl) (ev2w (by decide))) ?_
  refine all_cons (wev_tup (all_cons h1 (all_cons nx all_nil)) (Nat.le_of_ble_eq_true rfl) (ev2w (by decide))) ?_
  refine all_cons (wev_tup (all_cons c1 all_nil) (Nat.le_of_ble_eq_true rfl) (by decide)) ?_
  refine all_cons (wev_tup (all_cons c1 (all_cons nx (all_cons (sl_str (by decide) (by decide)) all_nil))) (Nat.le_of_ble_eq_true rfl) (ev3i rfl)) ?_
  refine all_cons (wev_tup (all_cons c1 (all_cons nx (all_cons sl_bl all_nil))) (Nat.le_of_ble_eq_true rfl) (ev3i rfl)) ?_
  refine all_cons (wev_tup (all_cons c1 (all_cons nx (all_cons sl_non all_nil))) (Nat.le_of_ble_eq_true rfl) (ev3i rfl)) ?_
  refine all_cons (wev_tup (all_cons c1 (all_cons nx (all_cons i1 (all_cons (sl_int (by decide)) all_nil)))) (Nat.le_of_ble_eq_true rfl) rfl) ?_
  refine all_cons ⟨⟨rfl, fun es z => by cases z⟩, rfl, .inl ⟨.list [.str (Str.ofString "call"), .str x], rfl, (smalls_cons (small_word (.inl rfl)) (smalls_cons sx smalls_nil)).list.mono (by simp) (by decide)⟩, low_allL (all_cons c1.2 (all_cons nx.2 all_nil))⟩ ?_
  refine all_cons (wev_tup (all_cons (sl_str (by decide) (by decide)) (all_cons nx all_nil)) (Nat.le_of_ble_eq_true rfl) (ev2w (by decide))) ?_
  refine all_cons (wev_sc h1 (fun es z => by cases z) rfl) ?_
  refine all_cons (wev_sc sl_non (fun es z => by cases z) rfl) ?_
  refine all_cons (wev_tup (all_cons (sl_str (by decide) (by decide)) (all_cons nx (all_cons (sl_one rfl s1 (by decide) (fun _ => rfl)) all_nil))) (Nat.le_of_ble_eq_true rfl) (ev3i rfl)) ?_
  refine all_cons (wev_tup (all_cons o1 (all_cons (sl_str (by omega) ap.2.1) all_nil)) (Nat.le_of_ble_eq_true rfl) (ev2n ap.2.2)) ?_
  refine all_cons (wev_tup (all_cons o1 (all_cons (sl_str (by decide) (by decide)) all_nil)) (Nat.le_of_ble_eq_true rfl) (ev2n (by decide))) ?_
  refine all_cons (wev_tup (all_cons n1 (all_cons (sl_str (by decide) (by decide)) all_nil)) (Nat.le_of_ble_eq_true rfl) (ev2n (by decide))) ?_
  refine all_cons (wev_tup (all_cons (sl_str (by decide) (by decide)) (all_cons nx all_nil)) (Nat.le_of_ble_eq_true rfl) (ev2w (by decide))) ?_
  refine all_cons (wev_tup (all_cons n1 (all_cons sl_non all_nil)) (Nat.le_of_ble_eq_true rfl) (ev2n rfl)) ?_
  refine all_cons (wev_tup (all_cons (sl_str (by decide) (by decide)) (all_cons nx all_nil)) (Nat.le_of_ble_eq_true rfl) (ev2w (by decide))) ?_
  refine all_cons (wev_tup (all_cons (sl_str (by decide) (by decide)) all_nil) (Nat.le_of_ble_eq_true rfl) (by decide)) ?_
  refine all_cons (wev_tup (all_cons (sl_oneL rfl (small_word (.inl rfl)) (by decide) (fun _ => rfl)) (all_cons nx all_nil)) (Nat.le_of_ble_eq_true rfl) rfl) ?_
  refine all_cons (wev_tup (all_cons c1 (all_cons (sl_oneL rfl sx (by decide) (fun _ => rfl)) (all_cons (sl_int (by decide)) all_nil))) (Nat.le_of_ble_eq_true rfl) (ev3n rfl)) ?_
  refine all_cons (wev_sc (sl_int (by decide)) (fun es z => by cases z) rfl) ?_
  refine all_cons wev_dic ?_
  refine all_cons (wev_tup (all_cons (sl_one rfl (small_word (.inl rfl)) (by decide) (fun _ => rfl)) (all_cons nx all_nil)) (Nat.le_of_ble_eq_true rfl) rfl) ?_
  exact all_cons (wev_tup (all_cons n1 (all_cons (sl_str (by omega) up.2.1) (all_cons i1 all_nil))) (Nat.le_of_ble_eq_true rfl) (ev3n up.2.2)) all_nil
theorem hang_ev : EvArg (.tup [.str (Str.ofString "hang")]) := ⟨rfl, fun es z => by cases z; exact all_cons (sl_str (by decide) (by decide)).1 all_nil⟩
theorem wstep3 {a b c : D} (ha : Ty a) (hb : EvArg b) (hc : Ty c) (l1 : Low a) (l2 : Low b) (l3 : Low c) (hf : isStepD (.tup [a, b, c]) = false) : WStep (.tup [a, b, c]) := ⟨⟨rfl, fun x y z e => by cases e; exact ⟨ha, hb, hc⟩⟩, hf, low_all (all_cons l1 (all_cons l2 (all_cons l3 all_nil)))⟩
theorem wstep_no {d : D} (t : Ty d) (h : ∀ a b c, d ≠ .tup [a, b, c]) (hf : isStepD d = false) (l : Low d) : WStep d := ⟨⟨t, fun a b c e => absurd e (h a b c)⟩, hf, l⟩
theorem vc__law_wrong_step : ∀ ds h Q E, ds.length = 2 → C__law_wrong_step ds h Q E → w__law_wrong_step (endsOf Q E) (ds.map some ++ List.replicate (4 - ds.length) none) h := by
  rintro ds h Q E hl ⟨i, x, rfl, hp, hx, q⟩
  unfold w__law_wrong_step t1__law_wrong_step t2__law_wrong_step t3__law_wrong_step t4__law_wrong_step t5__law_wrong_step
  walk_at "wp"
  have lh : Low (.tup [.str (Str.ofString "hang")]) := fun _ => rfl
  have li : ∀ j : Int, Low (.int j) := fun _ _ => rfl
  refine ⟨hp, by decide, fun v h1 v0 v1 d1 => ?_⟩
  split
  · exact ⟨d1.1, fun d h2 hd d2 => q _ _ (wstep3 hd.1 hang_ev rfl hd.2.2.2 lh (li 0) (by simp only [isStepD, hd.2.1, Bool.false_and])) (d1.trans d2)⟩
  · split
    · exact ⟨d1.1, fun d h2 hd d2 => q _ _ (wstep3 rfl hang_ev hd.1 (li 0) lh hd.2.2.2 (by simp only [isStepD, hd.2.1, Bool.and_false])) (d1.trans d2)⟩
    · split
      · exact ⟨d1.1, hx, fun d h2 hd d2 => q _ _ (wstep3 rfl hd.1 rfl (li 0) hd.2.2.2 (li 1) (by simp only [isStepD, hd.2.1, Bool.and_false, Bool.false_and])) (d1.trans d2)⟩
      · refine ⟨d1.1, by decide, fun v h2 v0 v1 d2 => ?_⟩
        refine menu_at (P := WStep) v0 (cap rfl v1) ?_ (fun d hd => q d h2 hd (d1.trans d2))
        refine all_cons (wstep_no rfl (fun a b c z => by cases z) rfl fun _ => rfl) ?_
        refine all_cons (wstep_no rfl (fun a b c z => by cases z) rfl fun _ => rfl) ?_
        refine all_cons (wstep_no rfl (fun a b c z => by cases z) rfl fun _ => rfl) ?_
        refine all_cons (wstep_no rfl (fun a b c z => by cases z) rfl fun _ => rfl) ?_
        refine all_cons (wstep_no rfl (fun a b c z => by cases z) rfl fun _ => rfl) ?_
        refine all_cons (wstep_no rfl (fun a b c z => by cases z) rfl fun _ => rfl) ?_
        refine all_cons (wstep_no rfl (fun a b c z => by cases z) rfl fun _ => rfl) ?_
        refine all_cons (wstep3 rfl ⟨rfl, fun es z => by cases z⟩ rfl lh (li 0) (li 0) rfl) ?_
        refine all_cons (wstep_no rfl (fun a b c z => by cases z) rfl fun _ => rfl) ?_
        exact all_cons (wstep_no rfl (fun a b c z => by cases z) rfl fun _ => rfl) all_nil
end My
namespace My
open PySem PySem.Spec PyProof.Rows L2 DL
local macro_rules | `(tactic| walk_at "wp") => `(tactic| simp only [fl_steps, fl_bad, fl_index, fl_value, mem0, mem0a, mem0b, mem0c, mem0d, nin_after, k_lk5, k_lk6, k_lk7, ↓q_is_integer, ↓q_is_state, ↓q_is_name, ↓q_is_event, ↓q_is_step, ↓q_law_pick, ↓q_law_name, ↓q_law_wrong_state, ↓q_law_wrong_event, ↓q_law_wrong_step, ↓q_law_error, ↓q_law_right, ↓q_bag, Bool.true_eq_false, not_true_eq_false, not_false_eq_true, Int.cast_ofNat_Int, Int.reduceLE, Int.reduceLT, Int.reduceEq, Int.reduceAdd, Int.reduceSub, Int.reduceNeg, atI_0, atI_1, atI_2, wTry, exCls, dnOut, envIn, wRaise, wExc, wXf, wIsx, wExPar, Nat.reduceBEq, insOf_exc, isNon_exc, tyN_exc, lstOf_exc, flD_exc, wFld, wSetFld, setFldD, wMeth, wMethK, wMake, wMakeK, wIso, eqO, rhsOk, wEnum, divmodD, wPairIx, newK, insOf_non, insOf_bl, insOf_int, insOf_str, insOf_tyy, insOf_gl, insOf_tup, insOf_lst, insOf_rol, insOf_dic, insOf_obj, lk_hd, endsC_nx, endsC_rt, endsC_ex, endsC_bk, endsC_ct, wSeq, wRet, wRetN, wAsg, wIfS, wNext, wDrop, wPar, wPar3, wVar, onSlot, wC, wOp, wUn, wLi, wNil, wCons, wTup, wLst, wLstC, wCall, wCallK, selA, wB, asB, DL.wTru, truD, wAnd, wOr, DL.wNot, wIf, wAndV, wOrV, wNotV, wChain, wFor, wSeqI, seqOf, wRng1, wRng2, wGn, wGnil, wGcons, wGtup, wAsgG, wAug, wLc, wipeD, wSl, wOn, wOs, wSetIx, wBM, wBM0, ends_nx, ends_rt, ends_ex, ends_bk, ends_ct, wDic0, wDic1, addD, subD, mulD, fdivD, modD, powD, ltD, leD, gtD, geD, DL.intD, negD, eqD, isD, ixD, slD, lenD, toIntD, absD, max2D, min2D, allD, anyD, sumD, toTupD, toLstD, strIntD, isiD, inD, flDs, joinD, str1D, appD, toPh, toP, toPs, eqDicD, List.map_cons, List.map_nil, List.length_cons, List.length_nil, List.replicate_zero, List.replicate_succ, List.cons_append, List.nil_append, List.append_nil, List.getElem?_cons_zero, List.getElem?_cons_succ, List.set_cons_zero, List.set_cons_succ, Nat.reduceAdd, Nat.reduceSub, Nat.reduceLT, Nat.reduceLeDiff, Option.bind, Option.map, Option.map_some, Option.bind_some, true_and, and_true, if_true, if_false, Bool.false_eq_true, reduceIte, Bool.not_true, Bool.not_false, Bool.false_xor, Bool.true_xor, Nat.zero_add, Nat.add_zero, ne_eq, not_false_eq_true, false_and, and_false, false_or, or_false, true_or, or_true, Nat.add_eq, List.length_singleton, decide_eq_true_eq, Bool.not_eq_true', decide_eq_false_iff_not, lstOf_non, lstTr_non, tyN_non, isNon_non, flD_non, keyD_non, tyM_non, lstOf_bl, lstTr_bl, tyN_bl, isNon_bl, flD_bl, keyD_bl, tyM_bl, lstOf_int, lstTr_int, tyN_int, isNon_int, flD_int, keyD_int, tyM_int, lstOf_str, lstTr_str, tyN_str, isNon_str, flD_str, keyD_str, tyM_str, lstOf_ty, lstTr_ty, tyN_ty, isNon_ty, flD_ty, keyD_ty, tyM_ty, lstOf_gl, lstTr_gl, tyN_gl, isNon_gl, flD_gl, keyD_gl, tyM_gl, lstOf_tup, lstTr_tup, tyN_tup, isNon_tup, flD_tup, keyD_tup, tyM_tup, lstOf_lst, lstTr_lst, tyN_lst, isNon_lst, flD_lst, keyD_lst, tyM_lst, lstOf_rol, lstTr_rol, tyN_rol, isNon_rol, flD_rol, keyD_rol, tyM_rol, lstOf_dic, lstTr_dic, tyN_dic, isNon_dic, flD_dic, keyD_dic, tyM_dic, lstOf_obj, lstTr_obj, tyN_obj, isNon_obj, flD_obj, keyD_obj, tyM_obj, kib_int_int, kib_bool_int, kib_bool_bool, kib_int_bool, kib_NoneType_int, kib_str_int, kib_tuple_int, kib_list_int, kib_dict_int, kib_NoneType_str, kib_bool_str, kib_int_str, kib_str_str, kib_tuple_str, kib_list_str, kib_dict_str, kib_NoneType_tuple, kib_bool_tuple, kib_int_tuple, kib_str_tuple, kib_tuple_tuple, kib_list_tuple, kib_dict_tuple, kib_NoneType_dict, kib_bool_dict, kib_int_dict, kib_str_dict, kib_tuple_dict, kib_list_dict, kib_dict_dict])
theorem ini_low {s b : D} {c : Nat} {v : D} (e : iniR s b = some (c, v)) : (c = 6 ∨ c = 7) ∧ Low v ∧ (v = .non ∨ ∃ k : Nat, v = .int k) := by
  unfold iniR at e
  split at e
  · split at e
    · cases e; exact ⟨.inl rfl, fun _ => rfl, .inr ⟨_, rfl⟩⟩
    · split at e
      · split at e
        · cases e; exact ⟨.inr rfl, fun _ => rfl, .inr ⟨_, rfl⟩⟩
        · cases e
      · cases e; exact ⟨.inr rfl, fun _ => rfl, .inl rfl⟩
  · cases e; exact ⟨.inl rfl, fun _ => rfl, .inl rfl⟩
theorem make_ini {s b : D} {h : Hs} {Q : PQ} {E : PX} (ha : IniArg s b) (ls : Low s) (lb : Low b) (q : iniR s b = none → Q (.obj 0 ["steps", "bad"] [s, b]) h) (x : ∀ c v, iniR s b = some (c, v) → E ⟨.own c, ["index"], [v]⟩ h) :
    C_Rule____init__ [.ref h.length, s, b] (h ++ [.ins 0 [] []]) (fun v h2 => v = .non ∧ cleanK h h2 (.ref h.length) Q) (fun x h2 => cleanX h h2 x E) := by
  refine ⟨h.length, s, b, rfl, cell_last, ha, ?_⟩
  cases e : iniR s b with
  | none =>
    refine ⟨rfl, ?_⟩
    rw [set_last]
    exact clean_obj (by simp only [lowRs, ls h.length, lb h.length, Bool.and_self]) (q e)
  | some cv =>
    obtain ⟨c, v⟩ := cv
    exact cleanX_low (by simp only [lowRs, (ini_low e).2.1 h.length, Bool.and_self]) (x c v e)
theorem vc__law_error : ∀ ds h Q E, ds.length = 2 → C__law_error ds h Q E → w__law_error (endsOf Q E) (ds.map some ++ List.replicate (7 - ds.length) none) h := by
  rintro ds h Q E hl ⟨s, b, rfl, ha, ls, lb, q⟩
  unfold w__law_error
  walk_at "wp"
  unfold t1__law_error tr1__law_error
  walk_at "wp"
  refine make_ini ha ls lb (fun e => ?_) fun c v e => ?_
  · unfold t2__law_error
    walk_at "wp"
    simp only [errD, e] at q
    exact q
  · simp only [errD, e] at q
    rcases (ini_low e).1 with rfl | rfl
    · walk_at "wp"
      unfold t2__law_error
      walk_at "wp"
      unfold t3__law_error
      walk_at "wp"
      unfold t4__law_error
      walk_at "wp"
      unfold t5__law_error
      walk_at "wp"
      exact q
    · walk_at "wp"
      unfold t2__law_error
      walk_at "wp"
      unfold t3__law_error
      walk_at "wp"
      unfold t4__law_error
      walk_at "wp"
      unfold t5__law_error
      walk_at "wp"
      exact q
theorem rp_show {d : D} {h : Hs} {Q : PQ} (r : Rp d) (q : Q (.str (rpr d)) h) : reprX [d] h Q := by
  unfold reprX
  rcases r with ⟨p, e, s⟩ | ⟨e, nr, p, e2, h1, h2, h3, h4⟩
  · unfold rpr at q
    simp only [e] at q
    simp only [toPh_of e]
    exact small_repr s (by decide) (by decide) q
  · unfold rpr at q
    simp only [e, e2] at q
    have e0 : toPh h d = none := by
      cases d with
      | ref i => exact absurd rfl (nr i)
      | _ => exact e
    simp only [e0, e2]
    exact ⟨h1, h2, Nat.le_trans h3 (by decide), q⟩
theorem vc__law_asked : ∀ ds h Q E, ds.length = 3 → C__law_asked ds h Q E → w__law_asked (endsOf Q E) (ds.map some ++ List.replicate (7 - ds.length) none) h := by
  rintro ds h Q E hl ⟨rows, ms, s, e, rfl, hr, hm, ha, rs, re, q⟩
  unfold w__law_asked
  walk_at "wp"
  unfold t1__law_asked tr1__law_asked
  simp only [ruleD]
  walk_at "wp"
  unfold C_Rule__after
  refine ⟨rows, ms, s, e, rfl, hr, hm, ha, fun h1 => ?_, fun h1 h2 => ?_, fun h1 h2 v => ?_⟩
  · walk_at "wp"
    unfold t2__law_asked
    walk_at "wp"
    unfold t3__law_asked
    walk_at "wp"
    unfold t4__law_asked
    walk_at "wp"
    refine rp_show rs ?_
    try walk_at "wp"
    simp only [askD, h1, Bool.false_eq_true, if_false] at q
    exact q
  · walk_at "wp"
    unfold t2__law_asked
    walk_at "wp"
    unfold t3__law_asked
    walk_at "wp"
    unfold t4__law_asked
    walk_at "wp"
    refine rp_show re ?_
    try walk_at "wp"
    simp only [askD, h1, if_true] at q
    rw [if_neg h2] at q
    exact q
  · unfold t2__law_asked
    walk_at "wp"
    simp only [askD, h1, if_true] at q
    rw [if_pos h2] at q
    exact q
theorem row_step {r : Row} (h : r.ok) : isStepD r.d = true := by
  obtain ⟨h1, h2, h3⟩ := h
  have e1 := h1.d
  have e3 := h3.d
  show (isStD (.int r.a) && (isEvD r.e.d && isStD (.int r.b))) = true
  rw [e1, e3]
  have wdT : ∀ w, Wd w → isWordD (.str w) = true := fun w hw => by rcases hw with rfl | rfl | rfl | rfl <;> decide
  cases he : r.e with
  | hang => decide
  | two w n =>
    rw [he] at h2
    have : isEvD (Ev.two w n).d = true := by
      show (isWordD (.str w) && isNameS n) = true
      rw [wdT w h2.1, h2.2]
      rfl
    rw [this]
    rfl
  | three w n i =>
    rw [he] at h2
    have : isEvD (Ev.three w n i).d = true := by
      show (isWordD (.str w) && (isNameS n && true)) = true
      rw [wdT w h2.1, h2.2.1]
      rfl
    rw [this]
    rfl
theorem sc_i {i : Int} (h : i.natAbs.log2 < 1000) : Sc (.int i) := ⟨rfl, fun y e => (by cases e), _, rfl, (small_int (Nat.lt_of_lt_of_le h (by decide))).mono (by decide) (by decide)⟩
theorem sc_word {w : Str} (h : Wd w) : Sc (.str w) := sc_str (by have := h.lt.1; omega) h.lt.2
theorem ev_arg {e : Ev} (h : e.ok) : EvArg e.d := by
  cases e with
  | hang => exact hang_ev
  | two w n => exact ⟨rfl, fun es z => by cases z; exact all_cons (sc_word h.1) (all_cons (sc_name h.2) all_nil)⟩
  | three w n i => exact ⟨rfl, fun es z => by cases z; exact all_cons (sc_word h.1) (all_cons (sc_name h.2.1) (all_cons (sc_i h.2.2) all_nil))⟩
theorem row_arg {r : Row} (h : r.ok) : StepArg r.d := ⟨rfl, fun a b c e => by cases e; exact ⟨rfl, ev_arg h.2.1, rfl⟩⟩
theorem low_ev (e : Ev) : Low e.d := fun n => by cases e <;> rfl
theorem low_row (r : Row) : Low r.d := low_all (all_cons (fun _ => rfl) (all_cons (low_ev r.e) (all_cons (fun _ => rfl) all_nil)))
theorem firstNot_app {f : D → Bool} {d : D} {post : List D} : ∀ {pre : List D}, (∀ e ∈ pre, f e = true) → f d = false → firstNot f (pre ++ d :: post) = some pre.length
  | [], _, h => by
    show firstNot f (d :: post) = some 0
    unfold firstNot
    rw [h]
    rfl
  | p :: pre, hp, h => by
    show firstNot f (p :: (pre ++ d :: post)) = some (pre.length + 1)
    unfold firstNot
    rw [if_pos (hp p (List.mem_cons_self ..)), firstNot_app (fun e he => hp e (List.mem_cons_of_mem _ he)) h]
    rfl
theorem firstNot_all {f : D → Bool} : ∀ {pre : List D}, (∀ e ∈ pre, f e = true) → firstNot f pre = none
  | [], _ => rfl
  | p :: pre, hp => by
    unfold firstNot
    rw [if_pos (hp p (List.mem_cons_self ..)), firstNot_all fun e he => hp e (List.mem_cons_of_mem _ he)]
    rfl
theorem badIx_ints {rest : List D} : ∀ {ms pre : List Int}, (∀ i ∈ ms, St i) → (pre ++ ms).Nodup → badIx pre (ms.map D.int ++ rest) = (badIx (pre ++ ms) rest).map (· + ms.length)
  | [], pre, _, _ => by
    rw [List.append_nil]
    show badIx pre rest = _
    cases badIx pre rest <;> rfl
  | m :: ms, pre, h, hn => by
    show badIx pre (.int m :: (ms.map D.int ++ rest)) = _
    have hm : m ∉ pre := fun z => (List.nodup_append.mp hn).2.2 m z m (List.mem_cons_self ..) rfl
    conv => lhs; unfold badIx
    rw [if_pos ⟨(h m (List.mem_cons_self ..)).d, hm⟩, badIx_ints (fun i hi => h i (List.mem_cons_of_mem _ hi)) (by rw [List.append_assoc]; exact hn), List.append_assoc]
    show Option.map _ (Option.map _ (badIx (pre ++ m :: ms) rest)) = _
    cases badIx (pre ++ m :: ms) rest with
    | none => rfl
    | some k => simp only [Option.map_some, List.length_cons]; congr 1
theorem badIx_no {pre : List Int} {d : D} {post : List D} (h : isStD d = false) : badIx pre (d :: post) = some 0 := by
  cases d with
  | int i => unfold badIx; rw [if_neg fun z => by rw [h] at z; exact absurd z.1 (by decide)]
  | _ => rfl
theorem badIx_dup {pre : List Int} {i : Int} {post : List D} (h : i ∈ pre) : badIx pre (.int i :: post) = some 0 := by
  unfold badIx
  rw [if_neg fun z => z.2 h]
theorem steps_rows {rows : List Row} (h : ∀ r ∈ rows, r.ok) : ∀ e ∈ rows.map Row.d, isStepD e = true := fun e he => by
  obtain ⟨r, hr, rfl⟩ := List.mem_map.mp he
  exact row_step (h r hr)
theorem args_rows {rows : List Row} (h : ∀ r ∈ rows, r.ok) : ∀ e ∈ rows.map Row.d, StepArg e := fun e he => by
  obtain ⟨r, hr, rfl⟩ := List.mem_map.mp he
  exact row_arg (h r hr)
theorem lows_rows {rows : List Row} : ∀ e ∈ rows.map Row.d, Low e := fun e he => by
  obtain ⟨r, hr, rfl⟩ := List.mem_map.mp he
  exact low_row r
theorem lows_ints {ms : List Int} : ∀ e ∈ ms.map D.int, Low e := fun e he => by
  obtain ⟨r, hr, rfl⟩ := List.mem_map.mp he
  exact fun _ => rfl
theorem tys_ints {ms : List Int} : ∀ e ∈ ms.map D.int, Ty e := fun e he => by
  obtain ⟨r, hr, rfl⟩ := List.mem_map.mp he
  rfl
theorem all_app {P : D → Prop} {a b : List D} (h1 : ∀ e ∈ a, P e) (h2 : ∀ e ∈ b, P e) : ∀ e ∈ a ++ b, P e := fun e he => (List.mem_append.mp he).elim (h1 e) (h2 e)
/-- a row of the law's table: what is passed, what is due -/
def DueOk (d : D) : Prop := ∃ s b r, d = .tup [s, b, r] ∧ IniArg s b ∧ Low s ∧ Low b ∧ errD s b = r ∧ ∃ p, toP r = some p ∧ Small 20000 6 p
theorem small_k {k : Nat} (h : k < 1000) : Small 1921 0 (.int (k : Int)) := by
  have e : (2 : Nat) ^ 10 = 1024 := by decide
  have h1 : ((k : Int)).natAbs < 2 ^ 10 := by omega
  have := log_small (v := (k : Int)) (b := 10) h1 (by decide) (by decide)
  exact small_int (by omega)
theorem small_wd {x : Str} (h : x.length ≤ 8) (hx : ∀ c ∈ x.cps.toList, c < 128) : Small 82 0 (.str x) := small_str (n := 8) h hx
theorem due_none : ∃ p, toP (.tup [.str (Str.ofString "none")]) = some p ∧ Small 20000 6 p := ⟨_, rfl, (smalls_cons (small_wd (by decide) (by decide)) smalls_nil).tuple.mono (by decide) (by decide)⟩
theorem due_five {w : Str} {v : D} {p : PyData} (hw : w.length ≤ 8) (hx : ∀ c ∈ w.cps.toList, c < 128) (e : toP v = some p) (s : Small 1921 0 p) : ∃ p, toP (.tup [.str w, v, .bl true, .bl true, .bl false]) = some p ∧ Small 20000 6 p := by
  refine ⟨.tuple [.str w, p, .bool true, .bool true, .bool false], by simp only [toP, toPs, e, Option.map_some], ?_⟩
  exact (smalls_cons ((small_wd hw hx).mono (m := 1921) (by decide) (Nat.le_refl _)) (smalls_cons s (smalls_cons (small_bool.mono (by decide) (by decide)) (smalls_cons (small_bool.mono (by decide) (by decide)) (smalls_cons (small_bool.mono (by decide) (by decide)) smalls_nil))))).tuple.mono (by simp) (by decide)
theorem due_steps {s b : D} (ha : IniArg s b) (ls : Low s) (lb : Low b) {k : Nat} (hk : k < 1000) (e : iniR s b = some (6, .int k)) : DueOk (.tup [s, b, .tup [.str (Str.ofString "steps"), .int k, .bl true, .bl true, .bl false]]) :=
  ⟨s, b, _, rfl, ha, ls, lb, by simp only [errD, e]; rfl, due_five (by decide) (by decide) rfl (small_k hk)⟩
theorem due_stepsN {s b : D} (ha : IniArg s b) (ls : Low s) (lb : Low b) (e : iniR s b = some (6, .non)) : DueOk (.tup [s, b, .tup [.str (Str.ofString "steps"), .non, .bl true, .bl true, .bl false]]) :=
  ⟨s, b, _, rfl, ha, ls, lb, by simp only [errD, e]; rfl, due_five (by decide) (by decide) rfl (small_none.mono (by decide) (by decide))⟩
theorem due_bad {s b : D} (ha : IniArg s b) (ls : Low s) (lb : Low b) {k : Nat} (hk : k < 1000) (e : iniR s b = some (7, .int k)) : DueOk (.tup [s, b, .tup [.str (Str.ofString "bad"), .int k, .bl true, .bl true, .bl false]]) :=
  ⟨s, b, _, rfl, ha, ls, lb, by simp only [errD, e]; rfl, due_five (by decide) (by decide) rfl (small_k hk)⟩
theorem due_badN {s b : D} (ha : IniArg s b) (ls : Low s) (lb : Low b) (e : iniR s b = some (7, .non)) : DueOk (.tup [s, b, .tup [.str (Str.ofString "bad"), .non, .bl true, .bl true, .bl false]]) :=
  ⟨s, b, _, rfl, ha, ls, lb, by simp only [errD, e]; rfl, due_five (by decide) (by decide) rfl (small_none.mono (by decide) (by decide))⟩
theorem due_ok {s b : D} (ha : IniArg s b) (ls : Low s) (lb : Low b) (e : iniR s b = none) : DueOk (.tup [s, b, .tup [.str (Str.ofString "none")]]) :=
  ⟨s, b, _, rfl, ha, ls, lb, by simp only [errD, e], due_none⟩
theorem small_reprD {d : D} {p : PyData} {n k : Nat} {h : Hs} {Q : PQ} (e : toP d = some p) (s : Small n k p) (h1 : n ≤ 16777216) (h2 : k ≤ 62) (q : Q (.str p.shown) h) : reprD [d] h Q := by
  unfold reprD
  simp only [toPh_of e]
  exact small_repr s h1 h2 q
theorem log_nat {k : Nat} (h : k < 1000) : ((k : Int) + 1).natAbs.log2 < 9000 := by
  have e : (2 : Nat) ^ 10 = 1024 := by decide
  have h1 : ((k : Int) + 1).natAbs < 2 ^ 10 := by omega
  have := log_small (v := (k : Int) + 1) (b := 10) h1 (by decide) (by decide)
  omega
end My
namespace My
open PySem PySem.Spec PyProof.Rows L2 DL
local macro_rules | `(tactic| walk_at "wp") => `(tactic| simp only [fl_steps, fl_bad, fl_index, fl_value, mem0, mem0a, mem0b, mem0c, mem0d, nin_after, k_lk5, k_lk6, k_lk7, ↓q_is_integer, ↓q_is_state, ↓q_is_name, ↓q_is_event, ↓q_is_step, ↓q_law_pick, ↓q_law_name, ↓q_law_wrong_state, ↓q_law_wrong_event, ↓q_law_wrong_step, ↓q_law_error, ↓q_law_right, ↓q_bag, Bool.true_eq_false, not_true_eq_false, not_false_eq_true, Int.cast_ofNat_Int, Int.reduceLE, Int.reduceLT, Int.reduceEq, Int.reduceAdd, Int.reduceSub, Int.reduceNeg, atI_0, atI_1, atI_2, wTry, exCls, dnOut, envIn, wRaise, wExc, wXf, wIsx, wExPar, Nat.reduceBEq, insOf_exc, isNon_exc, tyN_exc, lstOf_exc, flD_exc, wFld, wSetFld, setFldD, wMeth, wMethK, wMake, wMakeK, wIso, eqO, rhsOk, wEnum, divmodD, wPairIx, newK, insOf_non, insOf_bl, insOf_int, insOf_str, insOf_tyy, insOf_gl, insOf_tup, insOf_lst, insOf_rol, insOf_dic, insOf_obj, lk_hd, endsC_nx, endsC_rt, endsC_ex, endsC_bk, endsC_ct, wSeq, wRet, wRetN, wAsg, wIfS, wNext, wDrop, wPar, wPar3, wVar, onSlot, wC, wOp, wUn, wLi, wNil, wCons, wTup, wLst, wLstC, wCall, wCallK, selA, wB, asB, DL.wTru, truD, wAnd, wOr, DL.wNot, wIf, wAndV, wOrV, wNotV, wChain, wFor, wSeqI, seqOf, wRng1, wRng2, wGn, wGnil, wGcons, wGtup, wAsgG, wAug, wLc, wipeD, wSl, wOn, wOs, wSetIx, wBM, wBM0, ends_nx, ends_rt, ends_ex, ends_bk, ends_ct, wDic0, wDic1, addD, subD, mulD, fdivD, modD, powD, ltD, leD, gtD, geD, DL.intD, negD, eqD, isD, ixD, slD, lenD, toIntD, absD, max2D, min2D, allD, anyD, sumD, toTupD, toLstD, strIntD, isiD, inD, flDs, joinD, str1D, appD, toPh, toP, toPs, eqDicD, List.map_cons, List.map_nil, List.length_cons, List.length_nil, List.replicate_zero, List.replicate_succ, List.cons_append, List.nil_append, List.append_nil, List.getElem?_cons_zero, List.getElem?_cons_succ, List.set_cons_zero, List.set_cons_succ, Nat.reduceAdd, Nat.reduceSub, Nat.reduceLT, Nat.reduceLeDiff, Option.bind, Option.map, Option.map_some, Option.bind_some, true_and, and_true, if_true, if_false, Bool.false_eq_true, reduceIte, Bool.not_true, Bool.not_false, Bool.false_xor, Bool.true_xor, Nat.zero_add, Nat.add_zero, ne_eq, not_false_eq_true, false_and, and_false, false_or, or_false, true_or, or_true, Nat.add_eq, List.length_singleton, decide_eq_true_eq, Bool.not_eq_true', decide_eq_false_iff_not, lstOf_non, lstTr_non, tyN_non, isNon_non, flD_non, keyD_non, tyM_non, lstOf_bl, lstTr_bl, tyN_bl, isNon_bl, flD_bl, keyD_bl, tyM_bl, lstOf_int, lstTr_int, tyN_int, isNon_int, flD_int, keyD_int, tyM_int, lstOf_str, lstTr_str, tyN_str, isNon_str, flD_str, keyD_str, tyM_str, lstOf_ty, lstTr_ty, tyN_ty, isNon_ty, flD_ty, keyD_ty, tyM_ty, lstOf_gl, lstTr_gl, tyN_gl, isNon_gl, flD_gl, keyD_gl, tyM_gl, lstOf_tup, lstTr_tup, tyN_tup, isNon_tup, flD_tup, keyD_tup, tyM_tup, lstOf_lst, lstTr_lst, tyN_lst, isNon_lst, flD_lst, keyD_lst, tyM_lst, lstOf_rol, lstTr_rol, tyN_rol, isNon_rol, flD_rol, keyD_rol, tyM_rol, lstOf_dic, lstTr_dic, tyN_dic, isNon_dic, flD_dic, keyD_dic, tyM_dic, lstOf_obj, lstTr_obj, tyN_obj, isNon_obj, flD_obj, keyD_obj, tyM_obj, kib_int_int, kib_bool_int, kib_bool_bool, kib_int_bool, kib_NoneType_int, kib_str_int, kib_tuple_int, kib_list_int, kib_dict_int, kib_NoneType_str, kib_bool_str, kib_int_str, kib_str_str, kib_tuple_str, kib_list_str, kib_dict_str, kib_NoneType_tuple, kib_bool_tuple, kib_int_tuple, kib_str_tuple, kib_tuple_tuple, kib_list_tuple, kib_dict_tuple, kib_NoneType_dict, kib_bool_dict, kib_int_dict, kib_str_dict, kib_tuple_dict, kib_list_dict, kib_dict_dict])
theorem made_end {o0 o1 o2 o3 o4 o5 o6 o7 o8 o9 o10 : Option D} {due : List D} {h : Hs} {Q : PQ} {E : PX} (hd : ∀ d ∈ due, DueOk d) (hl : due.length ≤ 100) (q : Q (.bl true) h) : t10__law_made_right (endsOf Q E) [o0, o1, o2, o3, o4, o5, o6, o7, o8, o9, o10, some (.lst due), none] h := by
  unfold t10__law_made_right
  walk_at "wp"
  refine ⟨by omega, lc_none (fun h' => h' = h) _ _ rfl ?_ ?_⟩
  · rintro d hdd h1 rfl Q' E' q'
    obtain ⟨s, b, r, rfl, ha, ls, lb, he, p, ep, sp⟩ := hd d hdd
    unfold tt1__law_made_right
    walk_at "wp"
    refine ⟨ha, ls, lb, ?_⟩
    rw [he]
    have e := toPh_of (h := h1) ep
    refine small_reprD ep sp (by decide) (by decide) (small_reprD ep sp (by decide) (by decide) ?_)
    walk_at "wp"
    exact q' _ rfl
  · rintro h1 rfl
    have s0 : SeqAt.shaped (PyData.list []) = true := (smalls_nil (n := 1) (d := 0)).list.shaped (by decide)
    walk_at "wp"
    exact ⟨s0, s0, q⟩
def SA (s : D) : Prop := Ty s ∧ ∀ ds, s = .tup ds → ds.length ≤ 100 ∧ ∀ d ∈ ds, StepArg d
def BA (b : D) : Prop := Ty b ∧ ∀ ds, b = .tup ds → ds.length ≤ 100 ∧ ∀ d ∈ ds, Ty d
theorem ini_arg {s b : D} (a : SA s) (c : BA b) : IniArg s b := ⟨a.1, a.2, c.1, c.2⟩
structure WrS (k : Nat) (s : D) : Prop where
  a : SA s
  l : Low s
  r : ∀ b, iniR s b = some (6, .int k)
structure WrB (rows : List Row) (k : Nat) (b : D) : Prop where
  a : BA b
  l : Low b
  r : iniR (.tup (rows.map Row.d)) b = some (7, .int k)
structure WrN (d : D) : Prop where
  a : SA d
  b : BA d
  l : Low d
  r : ∀ b, iniR d b = some (6, .non)
  q : ∀ ds, firstNot isStepD ds = none → iniR (.tup ds) d = some (7, .non)
theorem rows_sa {rows : List Row} (hr : RowsOk rows) : SA (.tup (rows.map Row.d)) := ⟨rfl, fun ds e => by cases e; exact ⟨by rw [List.length_map]; have := hr.1; omega, args_rows hr.2⟩⟩
theorem marks_ba {ms : List Int} (hm : MarksOk ms) : BA (.tup (ms.map D.int)) := ⟨rfl, fun ds e => by cases e; exact ⟨by rw [List.length_map]; have := hm.1; omega, tys_ints⟩⟩
theorem rows_low {rows : List Row} : Low (.tup (rows.map Row.d)) := low_all lows_rows
theorem marks_low {ms : List Int} : Low (.tup (ms.map D.int)) := low_all lows_ints
theorem ini_ok {rows : List Row} {ms : List Int} (hr : RowsOk rows) (hm : MarksOk ms) : iniR (.tup (rows.map Row.d)) (.tup (ms.map D.int)) = none := by
  unfold iniR
  simp only [firstNot_all (steps_rows hr.2)]
  have := badIx_ints (rest := []) (pre := []) hm.2.2 (by rw [List.nil_append]; exact hm.2.1)
  rw [List.append_nil] at this
  rw [this]
  rfl
theorem made_t6 {o0 o7 : Option D} {x : D} {k f : Nat} {rows : List Row} {ms : List Int} {W L O N : D} {h : Hs} {Q : PQ} {E : PX} (hr : RowsOk rows) (hm : MarksOk ms) (hk : k < 1000) (hf : f < 1000) (hW : WrS k W) (hL : WrB rows ms.length L) (hO : WrB rows f O) (hN : WrN N) (q : Q (.bl true) h) :
    t6__law_made_right (endsOf Q E) [o0, some (.lst (rows.map Row.d)), some (.lst (ms.map D.int)), some x, some (.int k), some (.int f), some W, o7, some L, some O, some N, none, none] h := by
  have am := marks_ba hm
  have ar := rows_sa hr
  have lr := rows_low (rows := rows)
  have lm := marks_low (ms := ms)
  unfold t6__law_made_right
  walk_at "wp"
  unfold t7__law_made_right
  walk_at "wp"
  unfold t8__law_made_right
  walk_at "wp"
  unfold t9__law_made_right
  walk_at "wp"
  refine made_end ?_ ?_ q
  · refine all_cons (due_steps (ini_arg hW.a am) hW.l lm hk (hW.r _)) ?_
    refine all_cons (due_steps (ini_arg hW.a hO.a) hW.l hO.l hk (hW.r _)) ?_
    refine all_cons (due_bad (ini_arg ar hO.a) lr hO.l hf hO.r) ?_
    refine all_cons (due_stepsN (ini_arg hN.a hO.a) hN.l hO.l (hN.r _)) ?_
    refine all_cons (due_bad (ini_arg ar hL.a) lr hL.l (by rw [List.length_map]; have := hm.1; omega) (by rw [hL.r, List.length_map])) ?_
    refine all_cons (due_ok (ini_arg ar am) lr lm (ini_ok hr hm)) ?_
    refine all_cons (due_badN (ini_arg ar hN.b) lr hN.l (hN.q _ (firstNot_all (steps_rows hr.2)))) ?_
    exact all_cons (due_steps (ini_arg hW.a hN.b) hW.l hN.l hk (hW.r _)) all_nil
  · simp
theorem wr_step {rows : List Row} {k : Nat} {d : D} (hr : RowsOk rows) (hk : k ≤ rows.length) (w : WStep d) : WrS k (.tup ((rows.map Row.d).take k ++ [d] ++ (rows.map Row.d).drop k)) := by
  have e1 : ∀ P : D → Prop, (∀ e ∈ rows.map Row.d, P e) → P d → ∀ e ∈ (rows.map Row.d).take k ++ [d] ++ (rows.map Row.d).drop k, P e := fun P h1 h2 =>
    all_app (all_app (fun e he => h1 e (List.mem_of_mem_take he)) (all_cons h2 all_nil)) (fun e he => h1 e (List.mem_of_mem_drop he))
  refine ⟨⟨rfl, fun ds e => ?_⟩, low_all (e1 Low lows_rows w.2.2), fun b => ?_⟩
  · cases e
    refine ⟨?_, e1 StepArg (args_rows hr.2) w.1⟩
    simp only [List.length_append, List.length_take, List.length_drop, List.length_map, List.length_singleton]
    have := hr.1
    omega
  · unfold iniR
    have := firstNot_app (f := isStepD) (post := (rows.map Row.d).drop k) (pre := (rows.map Row.d).take k) (fun e he => steps_rows hr.2 e (List.mem_of_mem_take he)) w.2.1
    rw [List.length_take, List.length_map, Nat.min_eq_left hk] at this
    rw [List.append_assoc]
    simp only [List.singleton_append, this]
theorem wst_ty {d : D} (w : WSt d) : Ty d := w.1
theorem wr_bad {rows : List Row} {pre : List Int} {post : List D} {d : D} (hr : RowsOk rows) (hl : pre.length ≤ 3) (hp : post.length ≤ 3) (hn : pre.Nodup) (hs : ∀ i ∈ pre, St i) (hd : Ty d) (ld : Low d) (tp : ∀ e ∈ post, Ty e) (lp : ∀ e ∈ post, Low e) (bd : badIx pre (d :: post) = some 0) : WrB rows pre.length (.tup (pre.map D.int ++ d :: post)) := by
  refine ⟨⟨rfl, fun ds e => ?_⟩, low_all (all_app lows_ints (all_cons ld lp)), ?_⟩
  · cases e
    refine ⟨?_, all_app tys_ints (all_cons hd tp)⟩
    simp only [List.length_append, List.length_cons, List.length_map]
    omega
  · unfold iniR
    simp only [firstNot_all (steps_rows hr.2)]
    rw [badIx_ints hs (by rw [List.nil_append]; exact hn), List.nil_append, bd]
    simp
theorem wrn {d : D} (t : Ty d) (l : Low d) (nt : ∀ ds, d ≠ .tup ds) : WrN d := ⟨⟨t, fun ds e => absurd e (nt ds)⟩, ⟨t, fun ds e => absurd e (nt ds)⟩, l, fun b => by
  cases d with
  | tup ds => exact absurd rfl (nt ds)
  | _ => rfl, fun ds e => by
  cases d with
  | tup ds => exact absurd rfl (nt ds)
  | _ => (unfold iniR; simp only [e])⟩
def Ev.p : Ev → PyData
  | .hang => .tuple [.str "hang"]
  | .two w n => .tuple [.str w, .str n]
  | .three w n i => .tuple [.str w, .str n, .int i]
def Row.p (r : Row) : PyData := .tuple [.int r.a, r.e.p, .int r.b]
theorem toP_ev (e : Ev) : toP e.d = some e.p := by cases e <;> rfl
theorem toP_row (r : Row) : toP r.d = some r.p := by
  unfold Row.d Row.p
  simp only [toP, toPs, toP_ev, Option.map_some]
theorem small_ev {e : Ev} (he : e.ok) : Small 6000 1 e.p := by
  cases e with
  | hang => exact (smalls_cons small_hang smalls_nil).tuple.mono (by simp) (by decide)
  | two w n => exact (smalls_cons (small_word he.1) (smalls_cons (small_name he.2) smalls_nil)).tuple.mono (by simp) (by decide)
  | three w n i => exact (smalls_cons ((small_word he.1).mono (m := 1921) (by decide) (Nat.le_refl _)) (smalls_cons ((small_name he.2.1).mono (m := 1921) (by decide) (Nat.le_refl _)) (smalls_cons (small_int (i := i) (Nat.lt_of_lt_of_le he.2.2 (by decide))) smalls_nil))).tuple.mono (by simp) (by decide)
theorem small_st {i : Int} (h : St i) : Small 1921 0 (.int i) := small_int (by
  have := log_small (v := i) (b := 7) (by have : (2 : Nat) ^ 7 = 128 := by decide
                                          have := h.1; have := h.2; omega) (by decide) (by decide)
  omega)
theorem small_row {r : Row} (h : r.ok) : Small 20000 2 r.p := (smalls_cons ((small_st h.1).mono (m := 6000) (by decide) (by decide)) (smalls_cons (small_ev h.2.1) (smalls_cons ((small_st h.2.2).mono (m := 6000) (by decide) (by decide)) smalls_nil))).tuple.mono (by simp) (by decide)
theorem len_p (rows : List Row) : (rows.map Row.p).length = rows.length := List.length_map ..
theorem small_rows {rows : List Row} (h : RowsOk rows) : Small 400100 3 (.tuple (rows.map Row.p)) := by
  have s : Smalls 20000 2 (rows.map Row.p) := smalls_of fun p hp => by
    obtain ⟨r, hr, rfl⟩ := List.mem_map.mp hp
    exact small_row (h.2 r hr)
  refine s.tuple.mono ?_ (by decide)
  have := h.1
  rw [len_p]
  omega
theorem small_marks {ms : List Int} (h : MarksOk ms) : Small 6000 1 (.tuple (ms.map PyData.int)) := by
  have s : Smalls 1921 0 (ms.map PyData.int) := smalls_of fun p hp => by
    obtain ⟨r, hr, rfl⟩ := List.mem_map.mp hp
    exact small_st (h.2.2 r hr)
  refine s.tuple.mono ?_ (by decide)
  have := h.1
  rw [List.length_map]
  omega
theorem toPs_rows (rows : List Row) : toPs (rows.map Row.d) = some (rows.map Row.p) := toPs_map toP_row rows
theorem toPs_ints (ms : List Int) : toPs (ms.map D.int) = some (ms.map PyData.int) := toPs_map (fun _ => rfl) ms
theorem smalls_ints {ms : List Int} (h : MarksOk ms) : Smalls 1921 0 (ms.map PyData.int) := smalls_of fun p hp => by
  obtain ⟨r, hr, rfl⟩ := List.mem_map.mp hp
  exact small_st (h.2.2 r hr)
theorem made_t3 {i : Nat} {o7 : D} {x : D} {k f : Nat} {rows : List Row} {ms : List Int} {W : D} {h : Hs} {Q : PQ} {E : PX} (hp : HP h i) (hr : RowsOk rows) (hm : MarksOk ms) (hk : k < 1000) (hf : f ≤ ms.length) (hW : WrS k W) (h7 : Ty o7) (l7 : Low o7) (b7 : badIx ms [o7] = some 0) (q : ∀ h', Dr h i h' → Q (.bl true) h') :
    t3__law_made_right (endsOf Q E) [some (.ref i), some (.lst (rows.map Row.d)), some (.lst (ms.map D.int)), some x, some (.int k), some (.int f), some W, some o7, none, none, none, none, none] h := by
  unfold t3__law_made_right
  walk_at "wp"
  unfold t4__law_made_right
  walk_at "wp"
  rw [cutL_take', cutL_drop]
  refine ⟨by rw [List.length_map]; have := hm.1; omega, hp, fun d h3 w d3 => ⟨by simp; have := hm.1; omega, by simp; have := hm.1; omega, ?_⟩⟩
  have hL : WrB rows ms.length (.tup (ms.map D.int ++ [o7])) := wr_bad (pre := ms) (post := []) hr hm.1 (by decide) hm.2.1 hm.2.2 h7 l7 all_nil all_nil b7
  have hO : WrB rows f (.tup ((ms.map D.int).take f ++ [d] ++ (ms.map D.int).drop f)) := by
    rw [← List.map_take, ← List.map_drop, List.append_assoc, List.singleton_append]
    have := wr_bad (rows := rows) (pre := ms.take f) (post := (ms.drop f).map D.int) (d := d) hr (by rw [List.length_take]; have := hm.1; omega) (by rw [List.length_map, List.length_drop]; have := hm.1; omega) (hm.2.1.sublist (List.take_sublist ..)) (fun i hi => hm.2.2 i (List.mem_of_mem_take hi)) w.1 w.2.2.2 tys_ints lows_ints (badIx_no w.2.1)
    rw [List.length_take, Nat.min_eq_left hf] at this
    exact this
  unfold t5__law_made_right
  walk_at "wp"
  refine ⟨d3.1, by decide, fun v h4 v0 v1 d4 => ?_⟩
  refine menu_at (P := WrN) v0 (cap rfl v1) ?_ (fun d hN => made_t6 hr hm hk (by have := hm.1; omega) hW hL hO hN (q h4 (d3.trans d4)))
  have nt : ∀ {d : D}, flD d = none → True := fun _ => trivial
  refine all_cons (wrn rfl (fun _ => rfl) (fun ds e => by cases e)) ?_
  refine all_cons (wrn rfl (low_allL lows_rows) (fun ds e => by cases e)) ?_
  refine all_cons (wrn rfl (fun _ => rfl) (fun ds e => by cases e)) ?_
  refine all_cons (wrn rfl (fun _ => rfl) (fun ds e => by cases e)) ?_
  refine all_cons (wrn rfl (fun _ => rfl) (fun ds e => by cases e)) ?_
  exact all_cons (wrn rfl (fun _ => rfl) (fun ds e => by cases e)) all_nil
theorem made_t2 {i : Nat} {x : D} {k f : Nat} {rows : List Row} {ms : List Int} {W : D} {h : Hs} {Q : PQ} {E : PX} (hp : HP h i) (hr : RowsOk rows) (hm : MarksOk ms) (hk : k < 1000) (hf : f ≤ ms.length) (hW : WrS k W) (q : ∀ h', Dr h i h' → Q (.bl true) h') :
    t2__law_made_right (endsOf Q E) [some (.ref i), some (.lst (rows.map Row.d)), some (.lst (ms.map D.int)), some x, some (.int k), some (.int f), some W, none, none, none, none, none, none] h := by
  unfold t2__law_made_right
  walk_at "wp"
  have fin : ∀ d h3, WSt d → Dr h i h3 → t3__law_made_right (endsOf Q E) [some (.ref i), some (.lst (rows.map Row.d)), some (.lst (ms.map D.int)), some x, some (.int k), some (.int f), some W, some d, none, none, none, none, none] h3 := fun d h3 w d3 =>
    made_t3 d3.1 hr hm hk hf hW w.1 w.2.2.2 (badIx_no w.2.1) fun h4 d4 => q h4 (d3.trans d4)
  simp only [toPs_ints]
  refine ⟨(smalls_ints hm).list.shaped (by decide), (smalls_nil (n := 1) (d := 0)).list.shaped (by decide), ?_⟩
  split
  · next ne =>
    refine ⟨hp, by decide, fun v h3 v0 v1 d3 => ?_⟩
    split
    · next v0 =>
      refine ⟨d3.1, ?_, ?_, fun v h4 v0 v1 d4 => ?_⟩
      · rw [List.length_map]
        cases ms with
        | nil => exact absurd ne (by simp [PyData.eqv, PyData.eqvAll])
        | cons a b => simp only [List.length_cons]; omega
      · have := log_nat (k := ms.length - 1) (by have := hm.1; omega)
        rw [List.length_map]
        cases ms with
        | nil => decide
        | cons a b => simpa using this
      · have hl := v1
        refine menu_at (P := fun d => ∃ m ∈ ms, d = .int m) v0 v1 (fun d hd => ?_) ?_
        · obtain ⟨m, hm, rfl⟩ := List.mem_map.mp hd
          exact ⟨m, hm, rfl⟩
        · rintro d ⟨m, hmm, rfl⟩
          exact made_t3 d4.1 hr hm hk hf hW rfl (fun _ => rfl) (badIx_dup hmm) fun h5 d5 => q h5 ((d3.trans d4).trans d5)
    · exact ⟨d3.1, fun d h4 w d4 => fin d h4 w (d3.trans d4)⟩
  · exact ⟨hp, fin⟩
theorem vc__law_made_right : ∀ ds h Q E, ds.length = 4 → C__law_made_right ds h Q E → w__law_made_right (endsOf Q E) (ds.map some ++ List.replicate (13 - ds.length) none) h := by
  rintro ds h Q E hl ⟨i, rows, ms, x, rfl, hp, hr8, hr, hm, hx, q⟩
  unfold w__law_made_right
  walk_at "wp"
  refine ⟨hp, by omega, log_nat (by rw [List.length_map]; omega), fun at' h1 a0 a1 d1 => ⟨d1.1, by omega, log_nat (by rw [List.length_map]; have := hm.1; omega), fun far h2 f0 f1 d2 => ⟨_, _, rfl, ?_⟩⟩⟩
  obtain ⟨k, rfl⟩ : ∃ k : Nat, at' = k := ⟨at'.toNat, by omega⟩
  obtain ⟨f, rfl⟩ : ∃ f : Nat, far = f := ⟨far.toNat, by omega⟩
  rw [List.length_map] at a1 f1
  unfold t1__law_made_right
  walk_at "wp"
  refine ⟨d2.1, hx, fun d h3 w d3 => ?_⟩
  rw [cutL_take', cutL_drop]
  refine ⟨by simp; omega, by simp; omega, ?_⟩
  exact made_t2 d3.1 hr hm (by have := hr.1; omega) (by omega) (wr_step hr (by omega) w) fun h4 d4 => q h4 (((d1.trans d2).trans d3).trans d4)
end My
namespace My
open PySem PySem.Spec PyProof.Rows L2 DL
local macro_rules | `(tactic| walk_at "wp") => `(tactic| simp only [fl_steps, fl_bad, fl_index, fl_value, mem0, mem0a, mem0b, mem0c, mem0d, nin_after, k_lk5, k_lk6, k_lk7, ↓q_is_integer, ↓q_is_state, ↓q_is_name, ↓q_is_event, ↓q_is_step, ↓q_law_pick, ↓q_law_name, ↓q_law_wrong_state, ↓q_law_wrong_event, ↓q_law_wrong_step, ↓q_law_error, ↓q_law_right, ↓q_bag, Bool.true_eq_false, not_true_eq_false, not_false_eq_true, Int.cast_ofNat_Int, Int.reduceLE, Int.reduceLT, Int.reduceEq, Int.reduceAdd, Int.reduceSub, Int.reduceNeg, atI_0, atI_1, atI_2, wTry, exCls, dnOut, envIn, wRaise, wExc, wXf, wIsx, wExPar, Nat.reduceBEq, insOf_exc, isNon_exc, tyN_exc, lstOf_exc, flD_exc, wFld, wSetFld, setFldD, wMeth, wMethK, wMake, wMakeK, wIso, eqO, rhsOk, wEnum, divmodD, wPairIx, newK, insOf_non, insOf_bl, insOf_int, insOf_str, insOf_tyy, insOf_gl, insOf_tup, insOf_lst, insOf_rol, insOf_dic, insOf_obj, lk_hd, endsC_nx, endsC_rt, endsC_ex, endsC_bk, endsC_ct, wSeq, wRet, wRetN, wAsg, wIfS, wNext, wDrop, wPar, wPar3, wVar, onSlot, wC, wOp, wUn, wLi, wNil, wCons, wTup, wLst, wLstC, wCall, wCallK, selA, wB, asB, DL.wTru, truD, wAnd, wOr, DL.wNot, wIf, wAndV, wOrV, wNotV, wChain, wFor, wSeqI, seqOf, wRng1, wRng2, wGn, wGnil, wGcons, wGtup, wAsgG, wAug, wLc, wipeD, wSl, wOn, wOs, wSetIx, wBM, wBM0, ends_nx, ends_rt, ends_ex, ends_bk, ends_ct, wDic0, wDic1, addD, subD, mulD, fdivD, modD, powD, ltD, leD, gtD, geD, DL.intD, negD, eqD, isD, ixD, slD, lenD, toIntD, absD, max2D, min2D, allD, anyD, sumD, toTupD, toLstD, strIntD, isiD, inD, flDs, joinD, str1D, appD, toPh, toP, toPs, eqDicD, List.map_cons, List.map_nil, List.length_cons, List.length_nil, List.replicate_zero, List.replicate_succ, List.cons_append, List.nil_append, List.append_nil, List.getElem?_cons_zero, List.getElem?_cons_succ, List.set_cons_zero, List.set_cons_succ, Nat.reduceAdd, Nat.reduceSub, Nat.reduceLT, Nat.reduceLeDiff, Option.bind, Option.map, Option.map_some, Option.bind_some, true_and, and_true, if_true, if_false, Bool.false_eq_true, reduceIte, Bool.not_true, Bool.not_false, Bool.false_xor, Bool.true_xor, Nat.zero_add, Nat.add_zero, ne_eq, not_false_eq_true, false_and, and_false, false_or, or_false, true_or, or_true, Nat.add_eq, List.length_singleton, decide_eq_true_eq, Bool.not_eq_true', decide_eq_false_iff_not, lstOf_non, lstTr_non, tyN_non, isNon_non, flD_non, keyD_non, tyM_non, lstOf_bl, lstTr_bl, tyN_bl, isNon_bl, flD_bl, keyD_bl, tyM_bl, lstOf_int, lstTr_int, tyN_int, isNon_int, flD_int, keyD_int, tyM_int, lstOf_str, lstTr_str, tyN_str, isNon_str, flD_str, keyD_str, tyM_str, lstOf_ty, lstTr_ty, tyN_ty, isNon_ty, flD_ty, keyD_ty, tyM_ty, lstOf_gl, lstTr_gl, tyN_gl, isNon_gl, flD_gl, keyD_gl, tyM_gl, lstOf_tup, lstTr_tup, tyN_tup, isNon_tup, flD_tup, keyD_tup, tyM_tup, lstOf_lst, lstTr_lst, tyN_lst, isNon_lst, flD_lst, keyD_lst, tyM_lst, lstOf_rol, lstTr_rol, tyN_rol, isNon_rol, flD_rol, keyD_rol, tyM_rol, lstOf_dic, lstTr_dic, tyN_dic, isNon_dic, flD_dic, keyD_dic, tyM_dic, lstOf_obj, lstTr_obj, tyN_obj, isNon_obj, flD_obj, keyD_obj, tyM_obj, kib_int_int, kib_bool_int, kib_bool_bool, kib_int_bool, kib_NoneType_int, kib_str_int, kib_tuple_int, kib_list_int, kib_dict_int, kib_NoneType_str, kib_bool_str, kib_int_str, kib_str_str, kib_tuple_str, kib_list_str, kib_dict_str, kib_NoneType_tuple, kib_bool_tuple, kib_int_tuple, kib_str_tuple, kib_tuple_tuple, kib_list_tuple, kib_dict_tuple, kib_NoneType_dict, kib_bool_dict, kib_int_dict, kib_str_dict, kib_tuple_dict, kib_list_dict, kib_dict_dict])
theorem HP.app {h g : Hs} {i : Nat} (a : HP h i) : HP (h ++ g) i := by
  obtain ⟨s, d, n, e⟩ := a
  exact ⟨s, d, n, by rw [List.getElem?_append_left (List.getElem?_eq_some_iff.mp e).1]; exact e⟩
theorem HP.lt {h : Hs} {i : Nat} (a : HP h i) : i < h.length := by
  obtain ⟨s, d, n, e⟩ := a
  exact (List.getElem?_eq_some_iff.mp e).1
/-- draws leave what stands behind -/
theorem Dr.split {h g h' : Hs} {i : Nat} (hp : HP h i) (d : Dr (h ++ g) i h') : ∃ h2, h' = h2 ++ g ∧ Dr h i h2 := by
  have hl := hp.lt
  have e1 := d.2.1
  rw [List.length_append] at e1
  have e2 : h'.drop h.length = g := by
    apply List.ext_getElem?
    intro j
    rw [List.getElem?_drop, d.2.2 _ (by omega), List.getElem?_append_right (by omega)]
    congr 1
    omega
  refine ⟨h'.take h.length, by rw [← e2, List.take_append_drop], ?_, ?_, ?_⟩
  · obtain ⟨s, dd, n, e⟩ := d.1
    exact ⟨s, dd, n, by rw [List.getElem?_take_of_lt hl]; exact e⟩
  · rw [List.length_take]; omega
  · intro j hj
    by_cases q : j < h.length
    · rw [List.getElem?_take_of_lt q, d.2.2 j hj, List.getElem?_append_left q]
    · rw [List.getElem?_eq_none (by rw [List.length_take]; omega), List.getElem?_eq_none (by omega)]
theorem clean_end {h h6 g : Hs} {i : Nat} {b : Bool} {Q : PQ} (d : Dr h i h6) (q : Q (.bl b) h6) : cleanK h (h6 ++ g) (.bl b) Q := by
  have hl := d.2.1
  refine ⟨⟨by rw [List.length_append]; omega, fun j c hj e => ?_⟩, .bl b, clnD_low rfl, by rw [List.take_left' hl]; exact q⟩
  rw [List.getElem?_append_left (by omega)] at e
  by_cases ji : j = i
  · subst ji
    obtain ⟨s, dd, n, e2⟩ := d.1
    rw [e2] at e
    cases e
    exact .inr rfl
  · rw [d.2.2 j ji] at e
    exact .inl e
theorem rp_small {d : D} (r : Rp d) : Small 200002 0 (.str (rpr d)) := by
  rcases r with ⟨p, e, s⟩ | ⟨e, nr, p, e2, h1, h2, h3, h4⟩
  · unfold rpr
    simp only [e]
    exact small_shown s
  · unfold rpr
    simp only [e, e2]
    exact small_text h3 h4
/-- a row of the law's second table -/
def DueA (rows : List Row) (ms : List Int) (d : D) : Prop := ∃ s e r, d = .tup [s, e, r] ∧ AskArg s e ∧ Rp s ∧ Rp e ∧ askD s e = r ∧ ∃ p, toP r = some p ∧ Small 1000000 6 p
theorem due_four {w x : Str} (hw : w.length ≤ 8) (hc : ∀ c ∈ w.cps.toList, c < 128) (s : Small 200002 0 (.str x)) : ∃ p, toP (.tup [.str w, .str x, .bl true, .bl false]) = some p ∧ Small 1000000 6 p := by
  refine ⟨.tuple [.str w, .str x, .bool true, .bool false], rfl, ?_⟩
  exact (smalls_cons ((small_wd hw hc).mono (m := 200002) (by decide) (Nat.le_refl _)) (smalls_cons s (smalls_cons (small_bool.mono (by decide) (by decide)) (smalls_cons (small_bool.mono (by decide) (by decide)) smalls_nil)))).tuple.mono (by simp) (by decide)
theorem dueA_state {rows : List Row} {ms : List Int} {s e : D} (ws : WSt s) (he : EvArg e) (re : Rp e) : DueA rows ms (.tup [s, e, .tup [.str (Str.ofString "state"), .str (rpr s), .bl true, .bl false]]) :=
  ⟨s, e, _, rfl, ⟨ws.1, he, fun z => by rw [ws.2.1] at z; cases z⟩, ws.2.2.1, re, by unfold askD; rw [ws.2.1, if_neg (by decide)], due_four (by decide) (by decide) (rp_small ws.2.2.1)⟩
theorem rp_i {i : Int} (h : i.natAbs.log2 < 1000) : Rp (.int i) := .inl ⟨_, rfl, (small_int (Nat.lt_of_lt_of_le h (by decide))).mono (by decide) (by decide)⟩
theorem dueA_event {rows : List Row} {ms : List Int} {e : D} (he : EvArg e) (re : Rp e) (hn : ¬(isEvD e = true ∧ evLen e ≠ 2)) : DueA rows ms (.tup [.int 3, e, .tup [.str (Str.ofString "event"), .str (rpr e), .bl true, .bl false]]) :=
  ⟨.int 3, e, _, rfl, ⟨rfl, he, fun _ h1 h2 => absurd ⟨h1, h2⟩ hn⟩, rp_i (by decide), re, by unfold askD; rw [if_pos (by decide), if_neg hn], due_four (by decide) (by decide) (rp_small re)⟩
theorem dueA_ok {rows : List Row} {ms : List Int} {k : Int} {e : Ev} (hk : St k) (he : e.ok) (hf : e.full) (hv : isEvD e.d = true ∧ evLen e.d ≠ 2) (re : Rp e.d) (hl : k.natAbs.log2 < 1000) : DueA rows ms (.tup [.int k, e.d, .tup [.str (Str.ofString "none")]]) :=
  ⟨.int k, e.d, _, rfl, ⟨rfl, ev_arg he, fun _ _ _ => ⟨k, e, rfl, hk, rfl, he, hf⟩⟩, rp_i hl, re, by unfold askD; rw [if_pos hk.d, if_pos hv], by
    obtain ⟨p, e, s⟩ := due_none
    exact ⟨p, e, s.mono (by decide) (by decide)⟩⟩
theorem rp_ev {e : Ev} (he : e.ok) : Rp e.d := .inl ⟨_, toP_ev e, (small_ev he).mono (by decide) (by decide)⟩
theorem short_ev {w x : Str} (hw : Wd w) (hx : isNameS x = true) : EvArg (.tup [.str w, .str x]) ∧ Rp (.tup [.str w, .str x]) ∧ ¬(isEvD (.tup [.str w, .str x]) = true ∧ evLen (.tup [.str w, .str x]) ≠ 2) :=
  ⟨ev_arg (e := .two w x) ⟨hw, hx⟩, rp_ev (e := .two w x) ⟨hw, hx⟩, fun z => z.2 rfl⟩
theorem rp_reprD {d : D} {h : Hs} {Q : PQ} (hn : ∃ p, toP d = some p ∧ Small 20000 6 p) (q : Q (.str (rpr d)) h) : reprD [d] h Q := by
  obtain ⟨p, e, s⟩ := hn
  refine small_reprD e s (by decide) (by decide) ?_
  unfold rpr at q
  simp only [e] at q
  exact q
theorem after_end {i : Nat} {rows : List Row} {ms : List Int} {x : Str} {o3 o4 o7 : Option D} {due : List D} {h h2 : Hs} {Q : PQ} {E : PX} (hr : RowsOk rows) (hm : MarksOk ms) (hx : isNameS x = true) (d2 : Dr h i h2) (hd : ∀ d ∈ due, DueA rows ms d) (hl : due.length ≤ 100) (q : ∀ h', Dr h i h' → Q (.bl true) h') :
    t4__law_after_right (endsC h Q E) [some (.ref i), some (ruleD rows ms), some (.str x), o3, o4, some (.tup [.str (Str.ofString "out"), .str x, .int 4]), some (.ref h.length), o7, none] (h2 ++ [.lst due]) := by
  have ci : (h2 ++ [Cell.lst due])[h.length]? = some (.lst due) := by rw [← d2.2.1]; exact cell_last
  have hg : Ev.ok (.three (Str.ofString "out") x 4) := ⟨.inr (.inr (.inl rfl)), hx, by decide⟩
  have hdue : ∀ d ∈ due ++ [D.tup [.int 0, .tup [.str (Str.ofString "out"), .str x, .int 4], .tup [.str (Str.ofString "none")]], D.tup [.int 99, .tup [.str (Str.ofString "hang")], .tup [.str (Str.ofString "none")]]], DueA rows ms d := by
    refine all_app hd (all_cons ?_ (all_cons ?_ all_nil))
    · have ev : isEvD (Ev.three (Str.ofString "out") x 4).d = true := by
        show (isWordD (.str (Str.ofString "out")) && (isNameS x && true)) = true
        rw [hx]
        decide
      exact dueA_ok (e := .three (Str.ofString "out") x 4) ⟨by decide, by decide⟩ hg trivial ⟨ev, fun z => by cases z⟩ (rp_ev hg) (by decide)
    · exact dueA_ok (e := .hang) ⟨by decide, by decide⟩ trivial trivial ⟨by decide, by decide⟩ (rp_ev (e := .hang) trivial) (by decide)
  unfold t4__law_after_right
  simp only [ruleD]
  walk_at "wp"
  simp only [lstTr, ci]
  refine ⟨by simp; omega, ?_⟩
  unfold t5__law_after_right
  walk_at "wp"
  refine ⟨by simp; omega, lc_none (fun h' => h' = h2 ++ [.lst due]) _ _ rfl ?_ ?_⟩
  · rintro d hdd h1 rfl Q' E' q'
    obtain ⟨s, e, r, rfl, ha, rs, re, he, p, ep, sp⟩ := hdue d hdd
    unfold tt1__law_after_right
    walk_at "wp"
    unfold C__law_asked
    refine ⟨rows, ms, s, e, rfl, hr, hm, ha, rs, re, ?_⟩
    rw [he]
    refine small_reprD ep sp (by decide) (by decide) (small_reprD ep sp (by decide) (by decide) ?_)
    walk_at "wp"
    exact q' _ rfl
  · rintro h1 rfl
    have s0 : SeqAt.shaped (PyData.list []) = true := (smalls_nil (n := 1) (d := 0)).list.shaped (by decide)
    walk_at "wp"
    exact ⟨s0, s0, clean_end d2 (q _ d2)⟩
theorem after_mid {i : Nat} {rows : List Row} {ms : List Int} {x : Str} {thing : D} {o3 : Option D} {due : List D} {h h2 : Hs} {Q : PQ} {E : PX} (hr : RowsOk rows) (hm : MarksOk ms) (hx : isNameS x = true) (wt : WEv thing) (d2 : Dr h i h2) (hd : ∀ d ∈ due, DueA rows ms d) (hl : due.length ≤ 50) (q : ∀ h', Dr h i h' → Q (.bl true) h') :
    t2__law_after_right (endsC h Q E) [some (.ref i), some (ruleD rows ms), some (.str x), o3, some thing, some (.tup [.str (Str.ofString "out"), .str x, .int 4]), some (.ref h.length), none, none] (h2 ++ [.lst due]) := by
  have hh2 : h2.length = h.length := d2.2.1
  have ci : ∀ due, (h2 ++ [Cell.lst due])[h.length]? = some (.lst due) := fun due => by rw [← hh2]; exact cell_last
  have cs : ∀ due c, (h2 ++ [Cell.lst due]).set h.length c = h2 ++ [c] := fun due c => by rw [← hh2]; exact set_last
  have r3 : DueA rows ms (.tup [.int 3, thing, .tup [.str (Str.ofString "event"), .str (rpr thing), .bl true, .bl false]]) := dueA_event wt.1 wt.2.2.1 fun z => by rw [wt.2.1] at z; cases z.1
  unfold t2__law_after_right
  simp only [ruleD]
  walk_at "wp"
  refine ⟨by simp only [tyM, ci], rp_show wt.2.2.1 ?_⟩
  rw [ci]
  refine ⟨by omega, ?_⟩
  rw [cs]
  unfold t3__law_after_right
  walk_at "wp"
  have sh := fun w (hw : Wd w) => short_ev hw hx
  refine for_inv (fun ds env hh => ∃ due o7, hh = h2 ++ [.lst due] ∧ (∀ d ∈ due, DueA rows ms d) ∧ due.length + ds.length ≤ 60 ∧ (∀ d ∈ ds, EvArg d ∧ (∃ p, toP d = some p ∧ Small 20000 6 p) ∧ ¬(isEvD d = true ∧ evLen d ≠ 2)) ∧ env = [some (.ref i), some (.obj 0 [Str.ofString "steps", Str.ofString "bad"] [rowsD rows, marksD ms]), some (.str x), o3, some thing, some (.tup [.str (Str.ofString "out"), .str x, .int 4]), some (.ref h.length), o7, none]) ?_ ?_ _ _ _ ⟨_, _, rfl, all_app hd (all_cons r3 all_nil), by simp; omega, ?_, rfl⟩
  · rintro d ds env hh ⟨due, o7, rfl, hdd, hcnt, hds, rfl⟩ D' hrt hbk hex hnx hct
    obtain ⟨hd1, hd2, hd3⟩ := hds d (List.mem_cons_self ..)
    unfold lp1__law_after_right
    walk_at "wp"
    refine ⟨by simp only [tyM, ci], rp_reprD hd2 ?_⟩
    rw [ci]
    simp only [List.length_cons] at hcnt
    refine ⟨by omega, ?_⟩
    rw [cs]
    obtain ⟨p, ep, sp⟩ := hd2
    refine hnx _ _ ⟨_, _, rfl, all_app hdd (all_cons (dueA_event hd1 (.inl ⟨p, ep, sp⟩) hd3) all_nil), by simp; omega, fun e he => hds e (List.mem_cons_of_mem _ he), rfl⟩
  · rintro env hh ⟨due, o7, rfl, hdd, hcnt, -, rfl⟩
    exact after_end hr hm hx d2 hdd (by omega) q
  · have sh : ∀ w, Wd w → EvArg (.tup [.str w, .str x]) ∧ (∃ p, toP (.tup [.str w, .str x]) = some p ∧ Small 20000 6 p) ∧ ¬(isEvD (.tup [.str w, .str x]) = true ∧ evLen (.tup [.str w, .str x]) ≠ 2) := fun w hw =>
      ⟨ev_arg (e := .two w x) ⟨hw, hx⟩, ⟨_, toP_ev (.two w x), (small_ev (e := .two w x) ⟨hw, hx⟩).mono (by decide) (by decide)⟩, fun z => z.2 rfl⟩
    exact all_cons (sh _ (.inl rfl)) (all_cons (sh _ (.inr (.inl rfl))) (all_cons (sh _ (.inr (.inr (.inl rfl)))) (all_cons (sh _ (.inr (.inr (.inr rfl)))) all_nil)))
theorem vc__law_after_right : ∀ ds h Q E, ds.length = 3 → C__law_after_right ds h Q E → w__law_after_right (endsC h Q E) (ds.map some ++ List.replicate (9 - ds.length) none) h := by
  rintro ds h Q E hl ⟨i, rows, ms, x, rfl, hp, hr, hm, hx, q⟩
  unfold w__law_after_right
  simp only [ruleD]
  walk_at "wp"
  refine ⟨hp, fun odd h1 wo d1 => ⟨d1.1, hx, fun thing h2 wt d2 => ⟨_, _, _, rfl, ?_⟩⟩⟩
  have d02 := d1.trans d2
  have hh2 : h2.length = h.length := d02.2.1
  unfold t1__law_after_right
  walk_at "wp"
  refine rp_show wo.2.2.1 (rp_show wo.2.2.1 ?_)
  rw [hh2]
  have r1 : DueA rows ms (.tup [odd, .tup [.str (Str.ofString "out"), .str x, .int 4], .tup [.str (Str.ofString "state"), .str (rpr odd), .bl true, .bl false]]) := by
    have hg : Ev.ok (.three (Str.ofString "out") x 4) := ⟨.inr (.inr (.inl rfl)), hx, by decide⟩
    exact dueA_state wo (ev_arg hg) (rp_ev hg)
  have r2 : DueA rows ms (.tup [odd, thing, .tup [.str (Str.ofString "state"), .str (rpr odd), .bl true, .bl false]]) := dueA_state wo wt.1 wt.2.2.1
  exact after_mid hr hm hx wt d02 (all_cons r1 (all_cons r2 all_nil)) (Nat.le_of_ble_eq_true rfl) q
theorem right_end {i : Nat} {x : Str} {rows : List Row} {ms : List Int} {o5 : Option D} {h : Hs} {Q : PQ} {E : PX} (hp : HP h i) (hr8 : rows.length ≤ 8) (hr : RowsOk rows) (hm : MarksOk ms) (hx : isNameS x = true) (q : ∀ h', Dr h i h' → Q (.bl true) h') :
    t3__law_right (endsOf Q E) [some (.ref i), some (.str x), some (.lst (rows.map Row.d)), some (.lst (ms.map D.int)), none, o5] h := by
  unfold t3__law_right
  walk_at "wp"
  refine make_ini (ini_arg (rows_sa hr) (marks_ba hm)) rows_low marks_low (fun _ => ?_) fun c v e => by rw [ini_ok hr hm] at e; cases e
  unfold t4__law_right
  walk_at "wp"
  unfold C__law_made_right
  refine ⟨i, rows, ms, x, rfl, hp, hr8, hr, hm, hx, fun h1 d1 => ?_⟩
  walk_at "wp"
  unfold C__law_after_right
  refine ⟨i, rows, ms, x, rfl, d1.1, hr, hm, hx, fun h2 d2 => ?_⟩
  walk_at "wp"
  unfold t5__law_right
  walk_at "wp"
  have sm : Small 900000 4 (.list [.tuple (rows.map Row.p), .tuple (ms.map PyData.int)]) := (smalls_cons (small_rows hr) (smalls_cons ((small_marks hm).mono (m := 400100) (e := 3) (by decide) (by decide)) smalls_nil)).list.mono (by simp) (by decide)
  have e : toP (.lst [.tup (rows.map Row.d), .tup (ms.map D.int)]) = some (.list [.tuple (rows.map Row.p), .tuple (ms.map PyData.int)]) := by
    simp only [toP, toPs, toPs_rows, toPs_ints, Option.map_some]
  refine small_reprD e sm (by decide) (by decide) (small_reprD e sm (by decide) (by decide) ?_)
  walk_at "wp"
  have := q h2 (d1.trans d2)
  simpa using this
theorem vc__law_right : ∀ ds h Q E, ds.length = 1 → C__law_right ds h Q E → w__law_right (endsOf Q E) (ds.map some ++ List.replicate (6 - ds.length) none) h := by
  rintro ds h Q E hl ⟨i, rfl, hp, q⟩
  unfold w__law_right
  walk_at "wp"
  refine ⟨hp, by decide, fun v h1 v0 v1 d1 => ⟨d1.1, v0, by omega, fun x h2 hx d2 => ?_⟩⟩
  unfold t1__law_right
  walk_at "wp"
  refine ⟨d2.1, by decide, fun n h3 n0 n1 d3 => ?_⟩
  refine ⟨⟨by omega, by omega⟩, by rw [rangeD_len]; omega, ?_⟩
  refine lc_inv (fun acc h1 => h1 = h3 ∧ ∃ rows, acc = rows.map Row.d ∧ rows.length = acc.length ∧ ∀ r ∈ rows, r.ok) _ _ _ ⟨rfl, [], rfl, rfl, fun d hd => by cases hd⟩ ?_ ?_
  · rintro d hd acc h4 ⟨rfl, rows, rfl, hlen, hrows⟩ Q' E' q'
    obtain ⟨k, rfl, k0, k1⟩ := rangeD_mem hd
    unfold el1__law_right
    walk_at "wp"
    have hk : k < 5 := by omega
    have lg : (k - 1).natAbs.log2 < 1000 := Nat.lt_of_lt_of_le (log_small (v := k - 1) (b := 10) (by have e : (2 : Nat) ^ 10 = 1024 := by decide
                                                                                                     omega) (by decide) (by decide)) (by decide)
    refine q' _ _ ⟨rfl, rows ++ [⟨k, .three (Str.ofString "back") x (k - 1), k + 1⟩], by rw [List.map_append]; rfl, by simp, fun r hr => ?_⟩
    rcases List.mem_append.mp hr with hr | hr
    · exact hrows r hr
    · rw [List.mem_singleton.mp hr]
      exact ⟨⟨k0, by show k ≤ 99; omega⟩, ⟨.inr (.inr (.inr rfl)), hx, lg⟩, ⟨by show 0 ≤ k + 1; omega, by show k + 1 ≤ 99; omega⟩⟩
  rintro acc h4 hlen ⟨rfl, rows, rfl, -, hrows⟩
  rw [rangeD_len, List.length_map, List.length_nil] at hlen
  have hr8 : rows.length ≤ 8 := by omega
  have hr : RowsOk rows := ⟨by omega, hrows⟩
  unfold t2__law_right
  walk_at "wp"
  refine ⟨d3.1, by decide, fun v h5 v0 v1 d4 => ?_⟩
  have d04 := ((d1.trans d2).trans d3).trans d4
  refine menu_at (P := fun d => ∃ ms, d = .lst (ms.map D.int) ∧ MarksOk ms) v0 (cap rfl v1) ?_ ?_
  · refine all_cons ⟨[], rfl, by constructor <;> simp⟩ (all_cons ⟨[5], rfl, ?_⟩ (all_cons ⟨[5, 0], rfl, ?_⟩ (all_cons ⟨[99, 7, 1], rfl, ?_⟩ all_nil))) <;> exact ⟨by decide, by decide, by unfold St; decide⟩
  · rintro d ⟨ms, rfl, hm⟩
    exact right_end d04.1 hr8 hr hm hx fun h6 d6 => q h6 (d04.trans d6)
theorem mm63 (n : Nat) : ∃ z, (if (if 63 < (n : Int) then 63 else (n : Int)) > 2 then (if 63 < (n : Int) then 63 else (n : Int)) else (2 : Int)) = z ∧ 2 ≤ z ∧ z ≤ 63 := by
  refine ⟨_, rfl, ?_⟩
  split <;> split <;> omega
theorem vc_law : ∀ ds h Q E, ds.length = 1 → C_law ds h Q E → w_law (endsOf Q E) (ds.map some ++ List.replicate (2 - ds.length) none) h := by
  rintro ds h Q E hl ⟨ns, rfl, hn, q⟩
  unfold w_law
  walk_at "wp"
  obtain ⟨z, e, z2, z6⟩ := mm63 (ns.map D.int).length
  rw [e]
  refine ⟨⟨by omega, by omega⟩, by rw [rangeD_len]; omega, ?_⟩
  refine lc_true (fun _ => True) _ _ trivial ?_ ?_
  · rintro d hd h3 - Q' E' q'
    obtain ⟨k, rfl, k0, k1⟩ := rangeD_mem hd
    unfold el1_law
    walk_at "wp"
    exact ⟨hn, k0, by omega, fun s d n => ⟨⟨s, d, n, cell_last⟩, fun h4 _ => q' _ trivial⟩⟩
  · rintro n h3 -
    rw [blsL_rep]
    simp only [all_rep]
    exact q _
end My
namespace My
open PySem PySem.Spec PyProof.Rows L2 DL
theorem says : Says C_law 63 := fun ns hl _ Q E q => ⟨ns, rfl, hl, q⟩
theorem all_mk {P : Program} {w : World} {K : PySem.W.Frag} {h : Heap} {mg : Str → Option Value} {fa f1 f2 f3 f4 f5 f6 f7 f8 f9 f10 f11 f12 f13 f14 f15 f16 f17 f18 f19 C_0 C_1 C_2 C_3 C_4 C_5 C_6 C_7 : Addr} {od1 an1 : Option Addr} {sl1 : Array (Option Value)} {oc1 kV1 dc1 pm1 cd1 ct1 : Value} {od2 an2 : Option Addr} {sl2 : Array (Option Value)} {oc2 kV2 dc2 pm2 cd2 ct2 : Value} {od3 an3 : Option Addr} {sl3 : Array (Option Value)} {oc3 kV3 dc3 pm3 cd3 ct3 : Value} {od4 an4 : Option Addr} {sl4 : Array (Option Value)} {oc4 kV4 dc4 pm4 cd4 ct4 : Value} {od5 an5 : Option Addr} {sl5 : Array (Option Value)} {oc5 kV5 dc5 pm5 cd5 ct5 : Value} {od6 an6 : Option Addr} {sl6 : Array (Option Value)} {oc6 kV6 dc6 pm6 cd6 ct6 : Value} {od7 an7 : Option Addr} {sl7 : Array (Option Value)} {oc7 kV7 dc7 pm7 cd7 ct7 : Value} {od8 an8 : Option Addr} {sl8 : Array (Option Value)} {oc8 kV8 dc8 pm8 cd8 ct8 : Value} {od9 an9 : Option Addr} {sl9 : Array (Option Value)} {oc9 kV9 dc9 pm9 cd9 ct9 : Value} {od10 an10 : Option Addr} {sl10 : Array (Option Value)} {oc10 kV10 dc10 pm10 cd10 ct10 : Value} {od11 an11 : Option Addr} {sl11 : Array (Option Value)} {oc11 kV11 dc11 pm11 cd11 ct11 : Value} {od12 an12 : Option Addr} {sl12 : Array (Option Value)} {oc12 kV12 dc12 pm12 cd12 ct12 : Value} {od13 an13 : Option Addr} {sl13 : Array (Option Value)} {oc13 kV13 dc13 pm13 cd13 ct13 : Value} {od14 an14 : Option Addr} {sl14 : Array (Option Value)} {oc14 kV14 dc14 pm14 cd14 ct14 : Value} {od15 an15 : Option Addr} {sl15 : Array (Option Value)} {oc15 kV15 dc15 pm15 cd15 ct15 : Value} {od16 an16 : Option Addr} {sl16 : Array (Option Value)} {oc16 kV16 dc16 pm16 cd16 ct16 : Value} {od17 an17 : Option Addr} {sl17 : Array (Option Value)} {oc17 kV17 dc17 pm17 cd17 ct17 : Value} {od18 an18 : Option Addr} {sl18 : Array (Option Value)} {oc18 kV18 dc18 pm18 cd18 ct18 : Value} {od19 an19 : Option Addr} {sl19 : Array (Option Value)} {oc19 kV19 dc19 pm19 cd19 ct19 : Value} {fx_InvalidValue cda_InvalidValue cc_InvalidValue : Addr} {odx_InvalidValue anx_InvalidValue ox1_InvalidValue ox2_InvalidValue : Option Addr} {slx_InvalidValue osx1_InvalidValue osx2_InvalidValue : Array (Option Value)} {kVx_InvalidValue dcx_InvalidValue pmx_InvalidValue ctx_InvalidValue ocx1_InvalidValue ocx2_InvalidValue : Value} {vs_InvalidValue : Array Value} {file_InvalidValue : Str} {tkx_InvalidValue : Tok} {fx_InvalidMove cda_InvalidMove cc_InvalidMove : Addr} {odx_InvalidMove anx_InvalidMove ox1_InvalidMove ox2_InvalidMove : Option Addr} {slx_InvalidMove osx1_InvalidMove osx2_InvalidMove : Array (Option Value)} {kVx_InvalidMove dcx_InvalidMove pmx_InvalidMove ctx_InvalidMove ocx1_InvalidMove ocx2_InvalidMove : Value} {vs_InvalidMove : Array Value} {file_InvalidMove : Str} {tkx_InvalidMove : Tok} {fx_InvalidSteps cda_InvalidSteps cc_InvalidSteps : Addr} {odx_InvalidSteps anx_InvalidSteps ox1_InvalidSteps ox2_InvalidSteps : Option Addr} {slx_InvalidSteps osx1_InvalidSteps osx2_InvalidSteps : Array (Option Value)} {kVx_InvalidSteps dcx_InvalidSteps pmx_InvalidSteps ctx_InvalidSteps ocx1_InvalidSteps ocx2_InvalidSteps : Value} {vs_InvalidSteps : Array Value} {file_InvalidSteps : Str} {tkx_InvalidSteps : Tok} {fx_InvalidBad cda_InvalidBad cc_InvalidBad : Addr} {odx_InvalidBad anx_InvalidBad ox1_InvalidBad ox2_InvalidBad : Option Addr} {slx_InvalidBad osx1_InvalidBad osx2_InvalidBad : Array (Option Value)} {kVx_InvalidBad dcx_InvalidBad pmx_InvalidBad ctx_InvalidBad ocx1_InvalidBad ocx2_InvalidBad : Value} {vs_InvalidBad : Array Value} {file_InvalidBad : Str} {tkx_InvalidBad : Tok} {t_MAX_SIGNS : Tok} {t_LETTERS : Tok} {t_SIGNS : Tok} {t_MAX_STATE : Tok} {aG_WORDS : Addr} {oG_WORDS : Option Addr} {nG_WORDS : Nat} {sG_WORDS : Array (Option Value)} {t_WORDS_0 t_WORDS_1 t_WORDS_2 t_WORDS_3 : Tok} (X : K.In h) (G : h.Ns mainGlobals mg) (hfa : mg "law" = some (.ref fa))
    (aC_Rule : PySem.W.nsIn K mainGlobals "Rule" = some (some (.ref C_0)))
    (pg_Rule : PySem.W.plainGet K C_0 Str.empty = true)
    (hd_Rule : PySem.W.hasDictIn K C_0 = true)
    (po_Rule : PySem.W.plainOver K C_0 = true)
    (sa_Rule : PySem.W.findIn K (.ref C_0) "__setattr__" = some (some (.builtin "object.__setattr__")))
    (ha_Rule : PySem.W.findIn K (.ref C_0) "__class__" = some (some (.builtin "object.__class__")))
    (hm_Rule : PySem.W.mroIn K C_0 (.type "object") = some true)
    (hn_g : PySem.W.specialIn K (.builtin "object.__class__") "__get__" = some (some (.builtin "getset_descriptor.__get__")))
    (ht_g : PySem.W.takesIn K (.builtin "object.__class__") = some true)
    (aC_CalledinError : PySem.W.nsIn K mainGlobals "CalledinError" = some (some (.ref C_1)))
    (aC_StateError : PySem.W.nsIn K mainGlobals "StateError" = some (some (.ref C_2)))
    (aC_LimitError : PySem.W.nsIn K mainGlobals "LimitError" = some (some (.ref C_3)))
    (aC_InvalidValue : PySem.W.nsIn K mainGlobals "InvalidValue" = some (some (.ref C_4)))
    (aC_InvalidMove : PySem.W.nsIn K mainGlobals "InvalidMove" = some (some (.ref C_5)))
    (aC_InvalidSteps : PySem.W.nsIn K mainGlobals "InvalidSteps" = some (some (.ref C_6)))
    (aC_InvalidBad : PySem.W.nsIn K mainGlobals "InvalidBad" = some (some (.ref C_7)))
    (hd_InvalidValue : PySem.W.hasDictIn K C_4 = true)
    (xe_InvalidValue : PySem.W.subIn K (.ref C_4) (.type "BaseException") = some true)
    (xt_InvalidValue : PySem.W.typeIn K (.ref C_4) = some (.type "type"))
    (xga_InvalidValue : PySem.W.findIn K (.ref C_4) "__getattribute__" = some (some (.builtin "BaseException.__getattribute__")))
    (xgg_InvalidValue : PySem.W.findIn K (.ref C_4) "__getattr__" = some none)
    (ha_InvalidValue : PySem.W.findIn K (.ref C_4) "__class__" = some (some (.builtin "object.__class__")))
    (hm_InvalidValue : PySem.W.mroIn K C_4 (.type "object") = some true)
    (xq_InvalidValue : PySem.W.excInitIn K C_4 [.type "ValueError", .type "Exception", .type "BaseException", .type "object"] "ValueError.__new__" = true)
    (xo_InvalidValue : PySem.W.excOver K C_4 [.type "ValueError", .type "Exception", .type "BaseException", .type "object"] = true)
    (sa_InvalidValue : PySem.W.findIn K (.ref C_4) "__setattr__" = some (some (.builtin "object.__setattr__")))
    (xb_InvalidValue : PySem.W.subIn K (.ref C_4) (.type "ValueError") = some true)
    (xk_InvalidValue : PySem.W.keepIn K (.ref C_4) = true)
    (xi_InvalidValue : PySem.W.findIn K (.ref C_4) "__init__" = some (some (.ref fx_InvalidValue)))
    (xl_InvalidValue : K.lookup fx_InvalidValue = some ⟨.type "function", odx_InvalidValue, .func (PySem.W.ksFn "__init__" "InvalidValue.__init__" (defArgs s_InvalidValue____init__) (defBody s_InvalidValue____init__) (defScope s_InvalidValue____init__) .none kVx_InvalidValue dcx_InvalidValue pmx_InvalidValue anx_InvalidValue (.ref cda_InvalidValue) ctx_InvalidValue cc_InvalidValue), slx_InvalidValue⟩)
    (xd_InvalidValue : PySem.W.codeIn K (.ref cda_InvalidValue) "InvalidValue.__init__" = true)
    (xv_InvalidValue : K.lookup cda_InvalidValue = some ⟨ocx1_InvalidValue, ox1_InvalidValue, .fields vs_InvalidValue, osx1_InvalidValue⟩)
    (xc_InvalidValue : K.lookup cc_InvalidValue = some ⟨ocx2_InvalidValue, ox2_InvalidValue, .cell (some (.ref C_4)), osx2_InvalidValue⟩)
    (xm_InvalidValue : PySem.W.mroIn K C_4 (.ref C_4) = some true)
    (xs_InvalidValue : PySem.W.ks_superIn K C_4 C_4 "__init__" = some (some (.builtin "ValueError.__init__")))
    (xtk_InvalidValue_value : PySem.W.takerIn K C_4 "value" = some none)
    (xw_InvalidValue : vs_InvalidValue[2]? = some (.str file_InvalidValue tkx_InvalidValue))
    (xf_InvalidValue : ((P.main.file : Str) == file_InvalidValue) = true)
    (hd_InvalidMove : PySem.W.hasDictIn K C_5 = true)
    (xe_InvalidMove : PySem.W.subIn K (.ref C_5) (.type "BaseException") = some true)
    (xt_InvalidMove : PySem.W.typeIn K (.ref C_5) = some (.type "type"))
    (xga_InvalidMove : PySem.W.findIn K (.ref C_5) "__getattribute__" = some (some (.builtin "BaseException.__getattribute__")))
    (xgg_InvalidMove : PySem.W.findIn K (.ref C_5) "__getattr__" = some none)
    (ha_InvalidMove : PySem.W.findIn K (.ref C_5) "__class__" = some (some (.builtin "object.__class__")))
    (hm_InvalidMove : PySem.W.mroIn K C_5 (.type "object") = some true)
    (xq_InvalidMove : PySem.W.excInitIn K C_5 [.type "ValueError", .type "Exception", .type "BaseException", .type "object"] "ValueError.__new__" = true)
    (xo_InvalidMove : PySem.W.excOver K C_5 [.type "ValueError", .type "Exception", .type "BaseException", .type "object"] = true)
    (sa_InvalidMove : PySem.W.findIn K (.ref C_5) "__setattr__" = some (some (.builtin "object.__setattr__")))
    (xb_InvalidMove : PySem.W.subIn K (.ref C_5) (.type "ValueError") = some true)
    (xk_InvalidMove : PySem.W.keepIn K (.ref C_5) = true)
    (xi_InvalidMove : PySem.W.findIn K (.ref C_5) "__init__" = some (some (.ref fx_InvalidMove)))
    (xl_InvalidMove : K.lookup fx_InvalidMove = some ⟨.type "function", odx_InvalidMove, .func (PySem.W.ksFn "__init__" "InvalidMove.__init__" (defArgs s_InvalidMove____init__) (defBody s_InvalidMove____init__) (defScope s_InvalidMove____init__) .none kVx_InvalidMove dcx_InvalidMove pmx_InvalidMove anx_InvalidMove (.ref cda_InvalidMove) ctx_InvalidMove cc_InvalidMove), slx_InvalidMove⟩)
    (xd_InvalidMove : PySem.W.codeIn K (.ref cda_InvalidMove) "InvalidMove.__init__" = true)
    (xv_InvalidMove : K.lookup cda_InvalidMove = some ⟨ocx1_InvalidMove, ox1_InvalidMove, .fields vs_InvalidMove, osx1_InvalidMove⟩)
    (xc_InvalidMove : K.lookup cc_InvalidMove = some ⟨ocx2_InvalidMove, ox2_InvalidMove, .cell (some (.ref C_5)), osx2_InvalidMove⟩)
    (xm_InvalidMove : PySem.W.mroIn K C_5 (.ref C_5) = some true)
    (xs_InvalidMove : PySem.W.ks_superIn K C_5 C_5 "__init__" = some (some (.builtin "ValueError.__init__")))
    (xtk_InvalidMove_value : PySem.W.takerIn K C_5 "value" = some none)
    (xw_InvalidMove : vs_InvalidMove[2]? = some (.str file_InvalidMove tkx_InvalidMove))
    (xf_InvalidMove : ((P.main.file : Str) == file_InvalidMove) = true)
    (hd_InvalidSteps : PySem.W.hasDictIn K C_6 = true)
    (xe_InvalidSteps : PySem.W.subIn K (.ref C_6) (.type "BaseException") = some true)
    (xt_InvalidSteps : PySem.W.typeIn K (.ref C_6) = some (.type "type"))
    (xga_InvalidSteps : PySem.W.findIn K (.ref C_6) "__getattribute__" = some (some (.builtin "BaseException.__getattribute__")))
    (xgg_InvalidSteps : PySem.W.findIn K (.ref C_6) "__getattr__" = some none)
    (ha_InvalidSteps : PySem.W.findIn K (.ref C_6) "__class__" = some (some (.builtin "object.__class__")))
    (hm_InvalidSteps : PySem.W.mroIn K C_6 (.type "object") = some true)
    (xq_InvalidSteps : PySem.W.excInitIn K C_6 [.type "ValueError", .type "Exception", .type "BaseException", .type "object"] "ValueError.__new__" = true)
    (xo_InvalidSteps : PySem.W.excOver K C_6 [.type "ValueError", .type "Exception", .type "BaseException", .type "object"] = true)
    (sa_InvalidSteps : PySem.W.findIn K (.ref C_6) "__setattr__" = some (some (.builtin "object.__setattr__")))
    (xb_InvalidSteps : PySem.W.subIn K (.ref C_6) (.type "ValueError") = some true)
    (xk_InvalidSteps : PySem.W.keepIn K (.ref C_6) = true)
    (xi_InvalidSteps : PySem.W.findIn K (.ref C_6) "__init__" = some (some (.ref fx_InvalidSteps)))
    (xl_InvalidSteps : K.lookup fx_InvalidSteps = some ⟨.type "function", odx_InvalidSteps, .func (PySem.W.ksFn "__init__" "InvalidSteps.__init__" (defArgs s_InvalidSteps____init__) (defBody s_InvalidSteps____init__) (defScope s_InvalidSteps____init__) .none kVx_InvalidSteps dcx_InvalidSteps pmx_InvalidSteps anx_InvalidSteps (.ref cda_InvalidSteps) ctx_InvalidSteps cc_InvalidSteps), slx_InvalidSteps⟩)
    (xd_InvalidSteps : PySem.W.codeIn K (.ref cda_InvalidSteps) "InvalidSteps.__init__" = true)
    (xv_InvalidSteps : K.lookup cda_InvalidSteps = some ⟨ocx1_InvalidSteps, ox1_InvalidSteps, .fields vs_InvalidSteps, osx1_InvalidSteps⟩)
    (xc_InvalidSteps : K.lookup cc_InvalidSteps = some ⟨ocx2_InvalidSteps, ox2_InvalidSteps, .cell (some (.ref C_6)), osx2_InvalidSteps⟩)
    (xm_InvalidSteps : PySem.W.mroIn K C_6 (.ref C_6) = some true)
    (xs_InvalidSteps : PySem.W.ks_superIn K C_6 C_6 "__init__" = some (some (.builtin "ValueError.__init__")))
    (xtk_InvalidSteps_index : PySem.W.takerIn K C_6 "index" = some none)
    (xw_InvalidSteps : vs_InvalidSteps[2]? = some (.str file_InvalidSteps tkx_InvalidSteps))
    (xf_InvalidSteps : ((P.main.file : Str) == file_InvalidSteps) = true)
    (hd_InvalidBad : PySem.W.hasDictIn K C_7 = true)
    (xe_InvalidBad : PySem.W.subIn K (.ref C_7) (.type "BaseException") = some true)
    (xt_InvalidBad : PySem.W.typeIn K (.ref C_7) = some (.type "type"))
    (xga_InvalidBad : PySem.W.findIn K (.ref C_7) "__getattribute__" = some (some (.builtin "BaseException.__getattribute__")))
    (xgg_InvalidBad : PySem.W.findIn K (.ref C_7) "__getattr__" = some none)
    (ha_InvalidBad : PySem.W.findIn K (.ref C_7) "__class__" = some (some (.builtin "object.__class__")))
    (hm_InvalidBad : PySem.W.mroIn K C_7 (.type "object") = some true)
    (xq_InvalidBad : PySem.W.excInitIn K C_7 [.type "ValueError", .type "Exception", .type "BaseException", .type "object"] "ValueError.__new__" = true)
    (xo_InvalidBad : PySem.W.excOver K C_7 [.type "ValueError", .type "Exception", .type "BaseException", .type "object"] = true)
    (sa_InvalidBad : PySem.W.findIn K (.ref C_7) "__setattr__" = some (some (.builtin "object.__setattr__")))
    (xb_InvalidBad : PySem.W.subIn K (.ref C_7) (.type "ValueError") = some true)
    (xk_InvalidBad : PySem.W.keepIn K (.ref C_7) = true)
    (xi_InvalidBad : PySem.W.findIn K (.ref C_7) "__init__" = some (some (.ref fx_InvalidBad)))
    (xl_InvalidBad : K.lookup fx_InvalidBad = some ⟨.type "function", odx_InvalidBad, .func (PySem.W.ksFn "__init__" "InvalidBad.__init__" (defArgs s_InvalidBad____init__) (defBody s_InvalidBad____init__) (defScope s_InvalidBad____init__) .none kVx_InvalidBad dcx_InvalidBad pmx_InvalidBad anx_InvalidBad (.ref cda_InvalidBad) ctx_InvalidBad cc_InvalidBad), slx_InvalidBad⟩)
    (xd_InvalidBad : PySem.W.codeIn K (.ref cda_InvalidBad) "InvalidBad.__init__" = true)
    (xv_InvalidBad : K.lookup cda_InvalidBad = some ⟨ocx1_InvalidBad, ox1_InvalidBad, .fields vs_InvalidBad, osx1_InvalidBad⟩)
    (xc_InvalidBad : K.lookup cc_InvalidBad = some ⟨ocx2_InvalidBad, ox2_InvalidBad, .cell (some (.ref C_7)), osx2_InvalidBad⟩)
    (xm_InvalidBad : PySem.W.mroIn K C_7 (.ref C_7) = some true)
    (xs_InvalidBad : PySem.W.ks_superIn K C_7 C_7 "__init__" = some (some (.builtin "ValueError.__init__")))
    (xtk_InvalidBad_index : PySem.W.takerIn K C_7 "index" = some none)
    (xw_InvalidBad : vs_InvalidBad[2]? = some (.str file_InvalidBad tkx_InvalidBad))
    (xf_InvalidBad : ((P.main.file : Str) == file_InvalidBad) = true)
    (opq_g : PySem.W.nsIn K cStatics "thirdparty.any" = some none)
    (z_super : PySem.W.nsIn K mainGlobals "super" = some none)
    (xtop : (P.main.scope.names.lookup ("super" : Str)).isSome = false)
    (xio_InvalidValue_StateError : PySem.W.kitOne K (.ref C_4) (.ref C_2) = some false)
    (xio_InvalidMove_StateError : PySem.W.kitOne K (.ref C_5) (.ref C_2) = some false)
    (xio_InvalidSteps_StateError : PySem.W.kitOne K (.ref C_6) (.ref C_2) = some false)
    (xio_InvalidBad_StateError : PySem.W.kitOne K (.ref C_7) (.ref C_2) = some false)
    (xio_InvalidValue_LimitError : PySem.W.kitOne K (.ref C_4) (.ref C_3) = some false)
    (xio_InvalidMove_LimitError : PySem.W.kitOne K (.ref C_5) (.ref C_3) = some false)
    (xio_InvalidSteps_LimitError : PySem.W.kitOne K (.ref C_6) (.ref C_3) = some false)
    (xio_InvalidBad_LimitError : PySem.W.kitOne K (.ref C_7) (.ref C_3) = some false)
    (xio_InvalidValue_InvalidValue : PySem.W.kitOne K (.ref C_4) (.ref C_4) = some true)
    (xio_InvalidMove_InvalidValue : PySem.W.kitOne K (.ref C_5) (.ref C_4) = some false)
    (xio_InvalidSteps_InvalidValue : PySem.W.kitOne K (.ref C_6) (.ref C_4) = some false)
    (xio_InvalidBad_InvalidValue : PySem.W.kitOne K (.ref C_7) (.ref C_4) = some false)
    (xio_InvalidValue_InvalidSteps : PySem.W.kitOne K (.ref C_4) (.ref C_6) = some false)
    (xio_InvalidMove_InvalidSteps : PySem.W.kitOne K (.ref C_5) (.ref C_6) = some false)
    (xio_InvalidSteps_InvalidSteps : PySem.W.kitOne K (.ref C_6) (.ref C_6) = some true)
    (xio_InvalidBad_InvalidSteps : PySem.W.kitOne K (.ref C_7) (.ref C_6) = some false)
    (xio_InvalidValue_InvalidBad : PySem.W.kitOne K (.ref C_4) (.ref C_7) = some false)
    (xio_InvalidMove_InvalidBad : PySem.W.kitOne K (.ref C_5) (.ref C_7) = some false)
    (xio_InvalidSteps_InvalidBad : PySem.W.kitOne K (.ref C_6) (.ref C_7) = some false)
    (xio_InvalidBad_InvalidBad : PySem.W.kitOne K (.ref C_7) (.ref C_7) = some true)
    (xio_InvalidValue_ValueError : PySem.W.kitOne K (.ref C_4) (.type "ValueError") = some true)
    (xio_InvalidMove_ValueError : PySem.W.kitOne K (.ref C_5) (.type "ValueError") = some true)
    (xio_InvalidSteps_ValueError : PySem.W.kitOne K (.ref C_6) (.type "ValueError") = some true)
    (xio_InvalidBad_ValueError : PySem.W.kitOne K (.ref C_7) (.type "ValueError") = some true)
    (xio_InvalidValue_CalledinError : PySem.W.kitOne K (.ref C_4) (.ref C_1) = some true)
    (xio_InvalidMove_CalledinError : PySem.W.kitOne K (.ref C_5) (.ref C_1) = some true)
    (xio_InvalidSteps_CalledinError : PySem.W.kitOne K (.ref C_6) (.ref C_1) = some true)
    (xio_InvalidBad_CalledinError : PySem.W.kitOne K (.ref C_7) (.ref C_1) = some true)
    (xsu_InvalidValue_InvalidBad : PySem.W.subIn K (.ref C_4) (.ref C_7) = some false)
    (xsu_InvalidMove_InvalidBad : PySem.W.subIn K (.ref C_5) (.ref C_7) = some false)
    (xsu_InvalidSteps_InvalidBad : PySem.W.subIn K (.ref C_6) (.ref C_7) = some false)
    (xsu_InvalidBad_InvalidBad : PySem.W.subIn K (.ref C_7) (.ref C_7) = some true)
    (xsu_InvalidValue_InvalidSteps : PySem.W.subIn K (.ref C_4) (.ref C_6) = some false)
    (xsu_InvalidMove_InvalidSteps : PySem.W.subIn K (.ref C_5) (.ref C_6) = some false)
    (xsu_InvalidSteps_InvalidSteps : PySem.W.subIn K (.ref C_6) (.ref C_6) = some true)
    (xsu_InvalidBad_InvalidSteps : PySem.W.subIn K (.ref C_7) (.ref C_6) = some false)
    (xsu_InvalidValue_InvalidMove : PySem.W.subIn K (.ref C_4) (.ref C_5) = some false)
    (xsu_InvalidMove_InvalidMove : PySem.W.subIn K (.ref C_5) (.ref C_5) = some true)
    (xsu_InvalidSteps_InvalidMove : PySem.W.subIn K (.ref C_6) (.ref C_5) = some false)
    (xsu_InvalidBad_InvalidMove : PySem.W.subIn K (.ref C_7) (.ref C_5) = some false)
    (xsu_InvalidValue_InvalidValue : PySem.W.subIn K (.ref C_4) (.ref C_4) = some true)
    (xsu_InvalidMove_InvalidValue : PySem.W.subIn K (.ref C_5) (.ref C_4) = some false)
    (xsu_InvalidSteps_InvalidValue : PySem.W.subIn K (.ref C_6) (.ref C_4) = some false)
    (xsu_InvalidBad_InvalidValue : PySem.W.subIn K (.ref C_7) (.ref C_4) = some false)
    (xn_InvalidBad_index : PySem.W.findIn K (.ref C_7) "index" = some none)
    (xn_InvalidSteps_index : PySem.W.findIn K (.ref C_6) "index" = some none)
    (xn_InvalidMove_value : PySem.W.findIn K (.ref C_5) "value" = some none)
    (xn_InvalidValue_value : PySem.W.findIn K (.ref C_4) "value" = some none)
    (n_Rule_steps : PySem.W.findIn K (.ref C_0) "steps" = some none)
    (n_Rule_bad : PySem.W.findIn K (.ref C_0) "bad" = some none)
    (mk1_Rule : PySem.W.makesIn K C_0 = true)
    (mk2_Rule : PySem.W.keepIn K (.ref C_0) = true)
    (a1 : PySem.W.nsIn K mainGlobals "is_integer" = some (some (.ref f1)))
    (l1 : K.lookup f1 = some ⟨oc1, od1, .func (PySem.W.fnOf "is_integer" "is_integer" (defArgs s_is_integer) (defBody s_is_integer) (defScope s_is_integer) .none kV1 dc1 pm1 an1 cd1 ct1), sl1⟩)
    (d1 : PySem.W.codeIn K cd1 "is_integer" = true)
    (k1 : PySem.W.keepIn K (.ref f1) = true)
    (a2 : PySem.W.nsIn K mainGlobals "is_name" = some (some (.ref f2)))
    (l2 : K.lookup f2 = some ⟨oc2, od2, .func (PySem.W.fnOf "is_name" "is_name" (defArgs s_is_name) (defBody s_is_name) (defScope s_is_name) .none kV2 dc2 pm2 an2 cd2 ct2), sl2⟩)
    (d2 : PySem.W.codeIn K cd2 "is_name" = true)
    (k2 : PySem.W.keepIn K (.ref f2) = true)
    (a3 : PySem.W.nsIn K mainGlobals "is_state" = some (some (.ref f3)))
    (l3 : K.lookup f3 = some ⟨oc3, od3, .func (PySem.W.fnOf "is_state" "is_state" (defArgs s_is_state) (defBody s_is_state) (defScope s_is_state) .none kV3 dc3 pm3 an3 cd3 ct3), sl3⟩)
    (d3 : PySem.W.codeIn K cd3 "is_state" = true)
    (k3 : PySem.W.keepIn K (.ref f3) = true)
    (a4 : PySem.W.nsIn K mainGlobals "is_event" = some (some (.ref f4)))
    (l4 : K.lookup f4 = some ⟨oc4, od4, .func (PySem.W.fnOf "is_event" "is_event" (defArgs s_is_event) (defBody s_is_event) (defScope s_is_event) .none kV4 dc4 pm4 an4 cd4 ct4), sl4⟩)
    (d4 : PySem.W.codeIn K cd4 "is_event" = true)
    (k4 : PySem.W.keepIn K (.ref f4) = true)
    (a5 : PySem.W.nsIn K mainGlobals "is_step" = some (some (.ref f5)))
    (l5 : K.lookup f5 = some ⟨oc5, od5, .func (PySem.W.fnOf "is_step" "is_step" (defArgs s_is_step) (defBody s_is_step) (defScope s_is_step) .none kV5 dc5 pm5 an5 cd5 ct5), sl5⟩)
    (d5 : PySem.W.codeIn K cd5 "is_step" = true)
    (k5 : PySem.W.keepIn K (.ref f5) = true)
    (am_Rule___init__ : PySem.W.findIn K (.ref C_0) "__init__" = some (some (.ref f6)))
    (fn6 : PySem.W.isFn K (.ref f6) = true)
    (l6 : K.lookup f6 = some ⟨oc6, od6, .func (PySem.W.fnOf "__init__" "Rule.__init__" (defArgs s_Rule____init__) (defBody s_Rule____init__) (defScope s_Rule____init__) .none kV6 dc6 pm6 an6 cd6 ct6), sl6⟩)
    (d6 : PySem.W.codeIn K cd6 "Rule.__init__" = true)
    (k6 : PySem.W.keepIn K (.ref f6) = true)
    (am_Rule_after : PySem.W.findIn K (.ref C_0) "after" = some (some (.ref f7)))
    (fn7 : PySem.W.isFn K (.ref f7) = true)
    (l7 : K.lookup f7 = some ⟨oc7, od7, .func (PySem.W.fnOf "after" "Rule.after" (defArgs s_Rule__after) (defBody s_Rule__after) (defScope s_Rule__after) .none kV7 dc7 pm7 an7 cd7 ct7), sl7⟩)
    (d7 : PySem.W.codeIn K cd7 "Rule.after" = true)
    (k7 : PySem.W.keepIn K (.ref f7) = true)
    (a8 : PySem.W.nsIn K mainGlobals "_law_bag" = some (some (.ref f8)))
    (l8 : K.lookup f8 = some ⟨oc8, od8, .func (PySem.W.fnOf "_law_bag" "_law_bag" (defArgs s__law_bag) (defBody s__law_bag) (defScope s__law_bag) .none kV8 dc8 pm8 an8 cd8 ct8), sl8⟩)
    (d8 : PySem.W.codeIn K cd8 "_law_bag" = true)
    (k8 : PySem.W.keepIn K (.ref f8) = true)
    (a9 : PySem.W.nsIn K mainGlobals "_law_pick" = some (some (.ref f9)))
    (l9 : K.lookup f9 = some ⟨oc9, od9, .func (PySem.W.fnOf "_law_pick" "_law_pick" (defArgs s__law_pick) (defBody s__law_pick) (defScope s__law_pick) .none kV9 dc9 pm9 an9 cd9 ct9), sl9⟩)
    (d9 : PySem.W.codeIn K cd9 "_law_pick" = true)
    (k9 : PySem.W.keepIn K (.ref f9) = true)
    (a10 : PySem.W.nsIn K mainGlobals "_law_name" = some (some (.ref f10)))
    (l10 : K.lookup f10 = some ⟨oc10, od10, .func (PySem.W.fnOf "_law_name" "_law_name" (defArgs s__law_name) (defBody s__law_name) (defScope s__law_name) .none kV10 dc10 pm10 an10 cd10 ct10), sl10⟩)
    (d10 : PySem.W.codeIn K cd10 "_law_name" = true)
    (k10 : PySem.W.keepIn K (.ref f10) = true)
    (a11 : PySem.W.nsIn K mainGlobals "_law_wrong_state" = some (some (.ref f11)))
    (l11 : K.lookup f11 = some ⟨oc11, od11, .func (PySem.W.fnOf "_law_wrong_state" "_law_wrong_state" (defArgs s__law_wrong_state) (defBody s__law_wrong_state) (defScope s__law_wrong_state) .none kV11 dc11 pm11 an11 cd11 ct11), sl11⟩)
    (d11 : PySem.W.codeIn K cd11 "_law_wrong_state" = true)
    (k11 : PySem.W.keepIn K (.ref f11) = true)
    (a12 : PySem.W.nsIn K mainGlobals "_law_wrong_event" = some (some (.ref f12)))
    (l12 : K.lookup f12 = some ⟨oc12, od12, .func (PySem.W.fnOf "_law_wrong_event" "_law_wrong_event" (defArgs s__law_wrong_event) (defBody s__law_wrong_event) (defScope s__law_wrong_event) .none kV12 dc12 pm12 an12 cd12 ct12), sl12⟩)
    (d12 : PySem.W.codeIn K cd12 "_law_wrong_event" = true)
    (k12 : PySem.W.keepIn K (.ref f12) = true)
    (a13 : PySem.W.nsIn K mainGlobals "_law_wrong_step" = some (some (.ref f13)))
    (l13 : K.lookup f13 = some ⟨oc13, od13, .func (PySem.W.fnOf "_law_wrong_step" "_law_wrong_step" (defArgs s__law_wrong_step) (defBody s__law_wrong_step) (defScope s__law_wrong_step) .none kV13 dc13 pm13 an13 cd13 ct13), sl13⟩)
    (d13 : PySem.W.codeIn K cd13 "_law_wrong_step" = true)
    (k13 : PySem.W.keepIn K (.ref f13) = true)
    (a14 : PySem.W.nsIn K mainGlobals "_law_error" = some (some (.ref f14)))
    (l14 : K.lookup f14 = some ⟨oc14, od14, .func (PySem.W.fnOf "_law_error" "_law_error" (defArgs s__law_error) (defBody s__law_error) (defScope s__law_error) .none kV14 dc14 pm14 an14 cd14 ct14), sl14⟩)
    (d14 : PySem.W.codeIn K cd14 "_law_error" = true)
    (k14 : PySem.W.keepIn K (.ref f14) = true)
    (a15 : PySem.W.nsIn K mainGlobals "_law_asked" = some (some (.ref f15)))
    (l15 : K.lookup f15 = some ⟨oc15, od15, .func (PySem.W.fnOf "_law_asked" "_law_asked" (defArgs s__law_asked) (defBody s__law_asked) (defScope s__law_asked) .none kV15 dc15 pm15 an15 cd15 ct15), sl15⟩)
    (d15 : PySem.W.codeIn K cd15 "_law_asked" = true)
    (k15 : PySem.W.keepIn K (.ref f15) = true)
    (a16 : PySem.W.nsIn K mainGlobals "_law_made_right" = some (some (.ref f16)))
    (l16 : K.lookup f16 = some ⟨oc16, od16, .func (PySem.W.fnOf "_law_made_right" "_law_made_right" (defArgs s__law_made_right) (defBody s__law_made_right) (defScope s__law_made_right) .none kV16 dc16 pm16 an16 cd16 ct16), sl16⟩)
    (d16 : PySem.W.codeIn K cd16 "_law_made_right" = true)
    (k16 : PySem.W.keepIn K (.ref f16) = true)
    (a17 : PySem.W.nsIn K mainGlobals "_law_after_right" = some (some (.ref f17)))
    (l17 : K.lookup f17 = some ⟨oc17, od17, .func (PySem.W.fnOf "_law_after_right" "_law_after_right" (defArgs s__law_after_right) (defBody s__law_after_right) (defScope s__law_after_right) .none kV17 dc17 pm17 an17 cd17 ct17), sl17⟩)
    (d17 : PySem.W.codeIn K cd17 "_law_after_right" = true)
    (k17 : PySem.W.keepIn K (.ref f17) = true)
    (a18 : PySem.W.nsIn K mainGlobals "_law_right" = some (some (.ref f18)))
    (l18 : K.lookup f18 = some ⟨oc18, od18, .func (PySem.W.fnOf "_law_right" "_law_right" (defArgs s__law_right) (defBody s__law_right) (defScope s__law_right) .none kV18 dc18 pm18 an18 cd18 ct18), sl18⟩)
    (d18 : PySem.W.codeIn K cd18 "_law_right" = true)
    (k18 : PySem.W.keepIn K (.ref f18) = true)
    (a19 : PySem.W.nsIn K mainGlobals "law" = some (some (.ref f19)))
    (l19 : K.lookup f19 = some ⟨oc19, od19, .func (PySem.W.fnOf "law" "law" (defArgs s_law) (defBody s_law) (defScope s_law) .none kV19 dc19 pm19 an19 cd19 ct19), sl19⟩)
    (d19 : PySem.W.codeIn K cd19 "law" = true)
    (k19 : PySem.W.keepIn K (.ref f19) = true)
    (z_int : PySem.W.nsIn K mainGlobals "int" = some none)
    (z_isinstance : PySem.W.nsIn K mainGlobals "isinstance" = some none)
    (z_bool : PySem.W.nsIn K mainGlobals "bool" = some none)
    (z_str : PySem.W.nsIn K mainGlobals "str" = some none)
    (z_len : PySem.W.nsIn K mainGlobals "len" = some none)
    (z_all : PySem.W.nsIn K mainGlobals "all" = some none)
    (z_tuple : PySem.W.nsIn K mainGlobals "tuple" = some none)
    (z_enumerate : PySem.W.nsIn K mainGlobals "enumerate" = some none)
    (z_divmod : PySem.W.nsIn K mainGlobals "divmod" = some none)
    (z_range : PySem.W.nsIn K mainGlobals "range" = some none)
    (z_ValueError : PySem.W.nsIn K mainGlobals "ValueError" = some none)
    (z_repr : PySem.W.nsIn K mainGlobals "repr" = some none)
    (z_list : PySem.W.nsIn K mainGlobals "list" = some none)
    (z_min : PySem.W.nsIn K mainGlobals "min" = some none)
    (z_max : PySem.W.nsIn K mainGlobals "max" = some none)
    (g_MAX_SIGNS : PySem.W.nsIn K mainGlobals "MAX_SIGNS" = some (some (.int 8 t_MAX_SIGNS)))
    (g_LETTERS : PySem.W.nsIn K mainGlobals "LETTERS" = some (some (.str "abcdefghijklmnopqrstuvwxyz" t_LETTERS)))
    (g_SIGNS : PySem.W.nsIn K mainGlobals "SIGNS" = some (some (.str "abcdefghijklmnopqrstuvwxyz0123456789" t_SIGNS)))
    (g_MAX_STATE : PySem.W.nsIn K mainGlobals "MAX_STATE" = some (some (.int 99 t_MAX_STATE)))
    (g_WORDS : PySem.W.nsIn K mainGlobals "WORDS" = some (some (.ref aG_WORDS)))
    (gl_WORDS : K.lookup aG_WORDS = some ⟨.type "tuple", oG_WORDS, .seq ([.str "call" t_WORDS_0, .str "answer" t_WORDS_1, .str "out" t_WORDS_2, .str "back" t_WORDS_3] : List Value).toArray nG_WORDS, sG_WORDS⟩)
    : ∃ (CA : Nat → Addr) (fd : FuncData), (∀ (s : Shared) (v : Value), BindsTo s fd ⟨[v], []⟩ [("script", v)]) ∧ ∀ base : Heap, K.In base → base.Ns mainGlobals mg → FnG P w K mg base (L2N.CX P w) 9 fa fd ["script"] (spD K CA 1 C_law) := by
  have e := hfa.symm.trans (PySem.W.mg_of X G a19)
  cases e
  have kc_Rule : ClsD K (caf [C_0, C_1, C_2, C_3, C_4, C_5, C_6, C_7]) 0 := ⟨⟨pg_Rule, hd_Rule, po_Rule, sa_Rule⟩, ha_Rule, hn_g, ht_g, hm_Rule⟩
  have xx_InvalidValue : XcD K (caf [C_0, C_1, C_2, C_3, C_4, C_5, C_6, C_7]) 4 := ⟨xga_InvalidValue, xgg_InvalidValue, xe_InvalidValue, hd_InvalidValue, ha_InvalidValue, hn_g, ht_g, hm_InvalidValue⟩
  have xx_InvalidMove : XcD K (caf [C_0, C_1, C_2, C_3, C_4, C_5, C_6, C_7]) 5 := ⟨xga_InvalidMove, xgg_InvalidMove, xe_InvalidMove, hd_InvalidMove, ha_InvalidMove, hn_g, ht_g, hm_InvalidMove⟩
  have xx_InvalidSteps : XcD K (caf [C_0, C_1, C_2, C_3, C_4, C_5, C_6, C_7]) 6 := ⟨xga_InvalidSteps, xgg_InvalidSteps, xe_InvalidSteps, hd_InvalidSteps, ha_InvalidSteps, hn_g, ht_g, hm_InvalidSteps⟩
  have xx_InvalidBad : XcD K (caf [C_0, C_1, C_2, C_3, C_4, C_5, C_6, C_7]) 7 := ⟨xga_InvalidBad, xgg_InvalidBad, xe_InvalidBad, hd_InvalidBad, ha_InvalidBad, hn_g, ht_g, hm_InvalidBad⟩
  have xcl_InvalidSteps : DLX.XCls K C_6 "ValueError" "ValueError.__new__" "ValueError.__init__" [.type "ValueError", .type "Exception", .type "BaseException", .type "object"] := ⟨PySem.F.excBase_ValueError, PySem.F.store_ValueError, PySem.W.kxs_ValueError, xq_InvalidSteps, xo_InvalidSteps, sa_InvalidSteps, hd_InvalidSteps, xb_InvalidSteps, opq_g⟩
  have xfn_InvalidSteps : DLX.XFn P K mg C_6 ["index"] (defBody s_InvalidSteps____init__) fx_InvalidSteps _ _ (defScope s_InvalidSteps____init__) cda_InvalidSteps cc_InvalidSteps := ⟨xi_InvalidSteps, ⟨_, _, _, xl_InvalidSteps, rfl⟩, rfl, rfl, rfl, rfl, fun _ => rfl, xd_InvalidSteps, ⟨_, rfl, rfl⟩, fun s u us hl => match us, hl with | [_], _ => .of_eq rfl, ⟨_, _, _, _, _, _, xv_InvalidSteps, xw_InvalidSteps, xf_InvalidSteps⟩, ⟨_, _, _, xc_InvalidSteps⟩, xm_InvalidSteps, PySem.W.mg_none_of X G z_super, xtop, rfl, rfl, by decide, by decide, rfl, rfl, rfl, (by intro f hf; simp only [List.mem_cons, List.not_mem_nil, or_false] at hf; subst hf; exact xtk_InvalidSteps_index), by decide⟩
  have xmk_InvalidSteps : XMaker P w K mg (caf [C_0, C_1, C_2, C_3, C_4, C_5, C_6, C_7]) "InvalidSteps" 6 ["index"] := ⟨DLX.xmk1 (by rfl) xcl_InvalidSteps xs_InvalidSteps xfn_InvalidSteps, PySem.W.mg_of X G aC_InvalidSteps, xk_InvalidSteps, xe_InvalidSteps, xt_InvalidSteps⟩
  have xcl_InvalidBad : DLX.XCls K C_7 "ValueError" "ValueError.__new__" "ValueError.__init__" [.type "ValueError", .type "Exception", .type "BaseException", .type "object"] := ⟨PySem.F.excBase_ValueError, PySem.F.store_ValueError, PySem.W.kxs_ValueError, xq_InvalidBad, xo_InvalidBad, sa_InvalidBad, hd_InvalidBad, xb_InvalidBad, opq_g⟩
  have xfn_InvalidBad : DLX.XFn P K mg C_7 ["index"] (defBody s_InvalidBad____init__) fx_InvalidBad _ _ (defScope s_InvalidBad____init__) cda_InvalidBad cc_InvalidBad := ⟨xi_InvalidBad, ⟨_, _, _, xl_InvalidBad, rfl⟩, rfl, rfl, rfl, rfl, fun _ => rfl, xd_InvalidBad, ⟨_, rfl, rfl⟩, fun s u us hl => match us, hl with | [_], _ => .of_eq rfl, ⟨_, _, _, _, _, _, xv_InvalidBad, xw_InvalidBad, xf_InvalidBad⟩, ⟨_, _, _, xc_InvalidBad⟩, xm_InvalidBad, PySem.W.mg_none_of X G z_super, xtop, rfl, rfl, by decide, by decide, rfl, rfl, rfl, (by intro f hf; simp only [List.mem_cons, List.not_mem_nil, or_false] at hf; subst hf; exact xtk_InvalidBad_index), by decide⟩
  have xmk_InvalidBad : XMaker P w K mg (caf [C_0, C_1, C_2, C_3, C_4, C_5, C_6, C_7]) "InvalidBad" 7 ["index"] := ⟨DLX.xmk1 (by rfl) xcl_InvalidBad xs_InvalidBad xfn_InvalidBad, PySem.W.mg_of X G aC_InvalidBad, xk_InvalidBad, xe_InvalidBad, xt_InvalidBad⟩
  have xcl_InvalidValue : DLX.XCls K C_4 "ValueError" "ValueError.__new__" "ValueError.__init__" [.type "ValueError", .type "Exception", .type "BaseException", .type "object"] := ⟨PySem.F.excBase_ValueError, PySem.F.store_ValueError, PySem.W.kxs_ValueError, xq_InvalidValue, xo_InvalidValue, sa_InvalidValue, hd_InvalidValue, xb_InvalidValue, opq_g⟩
  have xfn_InvalidValue : DLX.XFn P K mg C_4 ["value"] (defBody s_InvalidValue____init__) fx_InvalidValue _ _ (defScope s_InvalidValue____init__) cda_InvalidValue cc_InvalidValue := ⟨xi_InvalidValue, ⟨_, _, _, xl_InvalidValue, rfl⟩, rfl, rfl, rfl, rfl, fun _ => rfl, xd_InvalidValue, ⟨_, rfl, rfl⟩, fun s u us hl => match us, hl with | [_], _ => .of_eq rfl, ⟨_, _, _, _, _, _, xv_InvalidValue, xw_InvalidValue, xf_InvalidValue⟩, ⟨_, _, _, xc_InvalidValue⟩, xm_InvalidValue, PySem.W.mg_none_of X G z_super, xtop, rfl, rfl, by decide, by decide, rfl, rfl, rfl, (by intro f hf; simp only [List.mem_cons, List.not_mem_nil, or_false] at hf; subst hf; exact xtk_InvalidValue_value), by decide⟩
  have xmk_InvalidValue : XMaker P w K mg (caf [C_0, C_1, C_2, C_3, C_4, C_5, C_6, C_7]) "InvalidValue" 4 ["value"] := ⟨DLX.xmk1 (by rfl) xcl_InvalidValue xs_InvalidValue xfn_InvalidValue, PySem.W.mg_of X G aC_InvalidValue, xk_InvalidValue, xe_InvalidValue, xt_InvalidValue⟩
  have xcl_InvalidMove : DLX.XCls K C_5 "ValueError" "ValueError.__new__" "ValueError.__init__" [.type "ValueError", .type "Exception", .type "BaseException", .type "object"] := ⟨PySem.F.excBase_ValueError, PySem.F.store_ValueError, PySem.W.kxs_ValueError, xq_InvalidMove, xo_InvalidMove, sa_InvalidMove, hd_InvalidMove, xb_InvalidMove, opq_g⟩
  have xfn_InvalidMove : DLX.XFn P K mg C_5 ["value"] (defBody s_InvalidMove____init__) fx_InvalidMove _ _ (defScope s_InvalidMove____init__) cda_InvalidMove cc_InvalidMove := ⟨xi_InvalidMove, ⟨_, _, _, xl_InvalidMove, rfl⟩, rfl, rfl, rfl, rfl, fun _ => rfl, xd_InvalidMove, ⟨_, rfl, rfl⟩, fun s u us hl => match us, hl with | [_], _ => .of_eq rfl, ⟨_, _, _, _, _, _, xv_InvalidMove, xw_InvalidMove, xf_InvalidMove⟩, ⟨_, _, _, xc_InvalidMove⟩, xm_InvalidMove, PySem.W.mg_none_of X G z_super, xtop, rfl, rfl, by decide, by decide, rfl, rfl, rfl, (by intro f hf; simp only [List.mem_cons, List.not_mem_nil, or_false] at hf; subst hf; exact xtk_InvalidMove_value), by decide⟩
  have xmk_InvalidMove : XMaker P w K mg (caf [C_0, C_1, C_2, C_3, C_4, C_5, C_6, C_7]) "InvalidMove" 5 ["value"] := ⟨DLX.xmk1 (by rfl) xcl_InvalidMove xs_InvalidMove xfn_InvalidMove, PySem.W.mg_of X G aC_InvalidMove, xk_InvalidMove, xe_InvalidMove, xt_InvalidMove⟩
  have T : Txt K mg (caf [C_0, C_1, C_2, C_3, C_4, C_5, C_6, C_7]) := {
    z_int := PySem.W.mg_none_of X G z_int
    z_isinstance := PySem.W.mg_none_of X G z_isinstance
    z_bool := PySem.W.mg_none_of X G z_bool
    z_str := PySem.W.mg_none_of X G z_str
    z_len := PySem.W.mg_none_of X G z_len
    z_all := PySem.W.mg_none_of X G z_all
    z_tuple := PySem.W.mg_none_of X G z_tuple
    z_enumerate := PySem.W.mg_none_of X G z_enumerate
    z_divmod := PySem.W.mg_none_of X G z_divmod
    z_range := PySem.W.mg_none_of X G z_range
    z_ValueError := PySem.W.mg_none_of X G z_ValueError
    z_repr := PySem.W.mg_none_of X G z_repr
    z_list := PySem.W.mg_none_of X G z_list
    z_min := PySem.W.mg_none_of X G z_min
    z_max := PySem.W.mg_none_of X G z_max
    g_MAX_SIGNS := ⟨⟨_, .int 8, PySem.W.mg_of X G g_MAX_SIGNS, ⟨_, rfl⟩, fun _ _ => rfl⟩⟩
    g_LETTERS := ⟨⟨_, .str "abcdefghijklmnopqrstuvwxyz", PySem.W.mg_of X G g_LETTERS, ⟨_, rfl⟩, fun _ _ => rfl⟩⟩
    g_SIGNS := ⟨⟨_, .str "abcdefghijklmnopqrstuvwxyz0123456789", PySem.W.mg_of X G g_SIGNS, ⟨_, rfl⟩, fun _ _ => rfl⟩⟩
    g_MAX_STATE := ⟨⟨_, .int 99, PySem.W.mg_of X G g_MAX_STATE, ⟨_, rfl⟩, fun _ _ => rfl⟩⟩
    g_WORDS := glob_tup (ds := [(.str "call"), (.str "answer"), (.str "out"), (.str "back")]) (vs := [.str "call", .str "answer", .str "out", .str "back"]) (PySem.W.mg_of X G g_WORDS) gl_WORDS (by simp [sizeLine_eq]) (.cons ⟨_, rfl⟩ (.cons ⟨_, rfl⟩ (.cons ⟨_, rfl⟩ (.cons ⟨_, rfl⟩ .nil)))) (fun _ _ => (Reps.cons rfl (Reps.cons rfl (Reps.cons rfl (Reps.cons rfl Reps.nil)))))
    k_Rule := kc_Rule
    m_Rule := PySem.W.mg_of X G aC_Rule
    n_Rule_steps := n_Rule_steps
    n_Rule_bad := n_Rule_bad
    xm_InvalidBad := PySem.W.mg_of X G aC_InvalidBad
    xm_InvalidSteps := PySem.W.mg_of X G aC_InvalidSteps
    xm_StateError := PySem.W.mg_of X G aC_StateError
    xm_LimitError := PySem.W.mg_of X G aC_LimitError
    xm_InvalidValue := PySem.W.mg_of X G aC_InvalidValue
    xm_CalledinError := PySem.W.mg_of X G aC_CalledinError
    xm_InvalidMove := PySem.W.mg_of X G aC_InvalidMove
    j_StateError := ⟨(lk_cons ⟨xx_InvalidValue, xio_InvalidValue_StateError⟩ (lk_cons ⟨xx_InvalidMove, xio_InvalidMove_StateError⟩ (lk_cons ⟨xx_InvalidSteps, xio_InvalidSteps_StateError⟩ (lk_cons ⟨xx_InvalidBad, xio_InvalidBad_StateError⟩ lk_nil))))⟩
    j_LimitError := ⟨(lk_cons ⟨xx_InvalidValue, xio_InvalidValue_LimitError⟩ (lk_cons ⟨xx_InvalidMove, xio_InvalidMove_LimitError⟩ (lk_cons ⟨xx_InvalidSteps, xio_InvalidSteps_LimitError⟩ (lk_cons ⟨xx_InvalidBad, xio_InvalidBad_LimitError⟩ lk_nil))))⟩
    j_InvalidValue := ⟨(lk_cons ⟨xx_InvalidValue, xio_InvalidValue_InvalidValue⟩ (lk_cons ⟨xx_InvalidMove, xio_InvalidMove_InvalidValue⟩ (lk_cons ⟨xx_InvalidSteps, xio_InvalidSteps_InvalidValue⟩ (lk_cons ⟨xx_InvalidBad, xio_InvalidBad_InvalidValue⟩ lk_nil))))⟩
    j_InvalidSteps := ⟨(lk_cons ⟨xx_InvalidValue, xio_InvalidValue_InvalidSteps⟩ (lk_cons ⟨xx_InvalidMove, xio_InvalidMove_InvalidSteps⟩ (lk_cons ⟨xx_InvalidSteps, xio_InvalidSteps_InvalidSteps⟩ (lk_cons ⟨xx_InvalidBad, xio_InvalidBad_InvalidSteps⟩ lk_nil))))⟩
    j_InvalidBad := ⟨(lk_cons ⟨xx_InvalidValue, xio_InvalidValue_InvalidBad⟩ (lk_cons ⟨xx_InvalidMove, xio_InvalidMove_InvalidBad⟩ (lk_cons ⟨xx_InvalidSteps, xio_InvalidSteps_InvalidBad⟩ (lk_cons ⟨xx_InvalidBad, xio_InvalidBad_InvalidBad⟩ lk_nil))))⟩
    j_ValueError := ⟨(lk_cons ⟨xx_InvalidValue, xio_InvalidValue_ValueError⟩ (lk_cons ⟨xx_InvalidMove, xio_InvalidMove_ValueError⟩ (lk_cons ⟨xx_InvalidSteps, xio_InvalidSteps_ValueError⟩ (lk_cons ⟨xx_InvalidBad, xio_InvalidBad_ValueError⟩ lk_nil))))⟩
    j_CalledinError := ⟨(lk_cons ⟨xx_InvalidValue, xio_InvalidValue_CalledinError⟩ (lk_cons ⟨xx_InvalidMove, xio_InvalidMove_CalledinError⟩ (lk_cons ⟨xx_InvalidSteps, xio_InvalidSteps_CalledinError⟩ (lk_cons ⟨xx_InvalidBad, xio_InvalidBad_CalledinError⟩ lk_nil))))⟩
    x_InvalidBad := xx_InvalidBad
    x_InvalidSteps := xx_InvalidSteps
    x_InvalidMove := xx_InvalidMove
    x_InvalidValue := xx_InvalidValue
    xn_InvalidBad_index := xn_InvalidBad_index
    xn_InvalidSteps_index := xn_InvalidSteps_index
    xn_InvalidMove_value := xn_InvalidMove_value
    xn_InvalidValue_value := xn_InvalidValue_value
    e_InvalidBad := (lk_cons (PySem.W.exm_ref xe_InvalidBad hd_InvalidBad xt_InvalidBad xsu_InvalidValue_InvalidBad) (lk_cons (PySem.W.exm_ref xe_InvalidBad hd_InvalidBad xt_InvalidBad xsu_InvalidMove_InvalidBad) (lk_cons (PySem.W.exm_ref xe_InvalidBad hd_InvalidBad xt_InvalidBad xsu_InvalidSteps_InvalidBad) (lk_cons (PySem.W.exm_ref xe_InvalidBad hd_InvalidBad xt_InvalidBad xsu_InvalidBad_InvalidBad) lk_nil))))
    e_InvalidSteps := (lk_cons (PySem.W.exm_ref xe_InvalidSteps hd_InvalidSteps xt_InvalidSteps xsu_InvalidValue_InvalidSteps) (lk_cons (PySem.W.exm_ref xe_InvalidSteps hd_InvalidSteps xt_InvalidSteps xsu_InvalidMove_InvalidSteps) (lk_cons (PySem.W.exm_ref xe_InvalidSteps hd_InvalidSteps xt_InvalidSteps xsu_InvalidSteps_InvalidSteps) (lk_cons (PySem.W.exm_ref xe_InvalidSteps hd_InvalidSteps xt_InvalidSteps xsu_InvalidBad_InvalidSteps) lk_nil))))
    e_InvalidMove := (lk_cons (PySem.W.exm_ref xe_InvalidMove hd_InvalidMove xt_InvalidMove xsu_InvalidValue_InvalidMove) (lk_cons (PySem.W.exm_ref xe_InvalidMove hd_InvalidMove xt_InvalidMove xsu_InvalidMove_InvalidMove) (lk_cons (PySem.W.exm_ref xe_InvalidMove hd_InvalidMove xt_InvalidMove xsu_InvalidSteps_InvalidMove) (lk_cons (PySem.W.exm_ref xe_InvalidMove hd_InvalidMove xt_InvalidMove xsu_InvalidBad_InvalidMove) lk_nil))))
    e_InvalidValue := (lk_cons (PySem.W.exm_ref xe_InvalidValue hd_InvalidValue xt_InvalidValue xsu_InvalidValue_InvalidValue) (lk_cons (PySem.W.exm_ref xe_InvalidValue hd_InvalidValue xt_InvalidValue xsu_InvalidMove_InvalidValue) (lk_cons (PySem.W.exm_ref xe_InvalidValue hd_InvalidValue xt_InvalidValue xsu_InvalidSteps_InvalidValue) (lk_cons (PySem.W.exm_ref xe_InvalidValue hd_InvalidValue xt_InvalidValue xsu_InvalidBad_InvalidValue) lk_nil)))) }
  refine ⟨(caf [C_0, C_1, C_2, C_3, C_4, C_5, C_6, C_7]), PySem.W.fnOf "law" "law" (defArgs s_law) (defBody s_law) (defScope s_law) .none kV19 dc19 pm19 an19 cd19 ct19, fun s v => .of_eq rfl, fun base _ _ => ?_⟩
  have F1 := fun_mk (st := s_is_integer) l1 d1 k1
  have g1 := fnD (P := P) (w := w) (mg := mg) (base := base) (CA := (caf [C_0, C_1, C_2, C_3, C_4, C_5, C_6, C_7])) (k := 0) (C := C_is_integer) F1 sc_is_integer (fun cdv A outer s H E hr => b_is_integer T  hr) vc_is_integer
  have c_is_integer : Callee P w K mg base (caf [C_0, C_1, C_2, C_3, C_4, C_5, C_6, C_7]) 1 "is_integer" 1 [] C_is_integer := callee_mk (PySem.W.mg_of X G a1) k1 (F1.binds (ps := ["value"]) fun _ _ _ _ _ _ us hl => match us, hl with | [_], _ => rfl) g1
  have F2 := fun_mk (st := s_is_name) l2 d2 k2
  have g2 := fnD (P := P) (w := w) (mg := mg) (base := base) (CA := (caf [C_0, C_1, C_2, C_3, C_4, C_5, C_6, C_7])) (k := 0) (C := C_is_name) F2 sc_is_name (fun cdv A outer s H E hr => b_is_name T  hr) vc_is_name
  have c_is_name : Callee P w K mg base (caf [C_0, C_1, C_2, C_3, C_4, C_5, C_6, C_7]) 1 "is_name" 1 [] C_is_name := callee_mk (PySem.W.mg_of X G a2) k2 (F2.binds (ps := ["value"]) fun _ _ _ _ _ _ us hl => match us, hl with | [_], _ => rfl) g2
  have F3 := fun_mk (st := s_is_state) l3 d3 k3
  have g3 := fnD (P := P) (w := w) (mg := mg) (base := base) (CA := (caf [C_0, C_1, C_2, C_3, C_4, C_5, C_6, C_7])) (k := 1) (C := C_is_state) F3 sc_is_state (fun cdv A outer s H E hr => b_is_state T c_is_integer hr) vc_is_state
  have c_is_state : Callee P w K mg base (caf [C_0, C_1, C_2, C_3, C_4, C_5, C_6, C_7]) 2 "is_state" 1 [] C_is_state := callee_mk (PySem.W.mg_of X G a3) k3 (F3.binds (ps := ["value"]) fun _ _ _ _ _ _ us hl => match us, hl with | [_], _ => rfl) g3
  have F4 := fun_mk (st := s_is_event) l4 d4 k4
  have g4 := fnD (P := P) (w := w) (mg := mg) (base := base) (CA := (caf [C_0, C_1, C_2, C_3, C_4, C_5, C_6, C_7])) (k := 1) (C := C_is_event) F4 sc_is_event (fun cdv A outer s H E hr => b_is_event T c_is_name c_is_integer hr) vc_is_event
  have c_is_event : Callee P w K mg base (caf [C_0, C_1, C_2, C_3, C_4, C_5, C_6, C_7]) 2 "is_event" 1 [] C_is_event := callee_mk (PySem.W.mg_of X G a4) k4 (F4.binds (ps := ["value"]) fun _ _ _ _ _ _ us hl => match us, hl with | [_], _ => rfl) g4
  have F5 := fun_mk (st := s_is_step) l5 d5 k5
  have g5 := fnD (P := P) (w := w) (mg := mg) (base := base) (CA := (caf [C_0, C_1, C_2, C_3, C_4, C_5, C_6, C_7])) (k := 2) (C := C_is_step) F5 sc_is_step (fun cdv A outer s H E hr => b_is_step T c_is_state c_is_event hr) vc_is_step
  have c_is_step : Callee P w K mg base (caf [C_0, C_1, C_2, C_3, C_4, C_5, C_6, C_7]) 3 "is_step" 1 [] C_is_step := callee_mk (PySem.W.mg_of X G a5) k5 (F5.binds (ps := ["value"]) fun _ _ _ _ _ _ us hl => match us, hl with | [_], _ => rfl) g5
  have xm_InvalidSteps_6 := xmk_InvalidSteps
  have xm_InvalidBad_6 := xmk_InvalidBad
  have F6 := fun_mk (st := s_Rule____init__) l6 d6 k6
  have g6 := fnD (P := P) (w := w) (mg := mg) (base := base) (CA := (caf [C_0, C_1, C_2, C_3, C_4, C_5, C_6, C_7])) (k := 3) (C := C_Rule____init__) F6 sc_Rule____init__ (fun cdv A outer s H E hr => b_Rule____init__ T c_is_step c_is_state xm_InvalidSteps_6 xm_InvalidBad_6 hr) vc_Rule____init__
  have xm_InvalidValue_7 := xmk_InvalidValue
  have xm_InvalidMove_7 := xmk_InvalidMove
  have F7 := fun_mk (st := s_Rule__after) l7 d7 k7
  have g7 := fnD (P := P) (w := w) (mg := mg) (base := base) (CA := (caf [C_0, C_1, C_2, C_3, C_4, C_5, C_6, C_7])) (k := 2) (C := C_Rule__after) F7 sc_Rule__after (fun cdv A outer s H E hr => b_Rule__after T c_is_state c_is_event xm_InvalidValue_7 xm_InvalidMove_7 hr) vc_Rule__after
  have F8 := fun_mk (st := s__law_bag) l8 d8 k8
  have g8 := fnD (P := P) (w := w) (mg := mg) (base := base) (CA := (caf [C_0, C_1, C_2, C_3, C_4, C_5, C_6, C_7])) (k := 0) (C := C__law_bag) F8 sc__law_bag (fun cdv A outer s H E hr => b__law_bag T  hr) vc__law_bag
  have c__law_bag : Callee P w K mg base (caf [C_0, C_1, C_2, C_3, C_4, C_5, C_6, C_7]) 1 "_law_bag" 2 [] C__law_bag := callee_mk (PySem.W.mg_of X G a8) k8 (F8.binds (ps := ["script", "k"]) fun _ _ _ _ _ _ us hl => match us, hl with | [_, _], _ => rfl) g8
  have F9 := fun_mk (st := s__law_pick) l9 d9 k9
  have g9 := fnD (P := P) (w := w) (mg := mg) (base := base) (CA := (caf [C_0, C_1, C_2, C_3, C_4, C_5, C_6, C_7])) (k := 0) (C := C__law_pick) F9 sc__law_pick (fun cdv A outer s H E hr => b__law_pick T  hr) vc__law_pick
  have c__law_pick : Callee P w K mg base (caf [C_0, C_1, C_2, C_3, C_4, C_5, C_6, C_7]) 1 "_law_pick" 2 [] C__law_pick := callee_mk (PySem.W.mg_of X G a9) k9 (F9.binds (ps := ["bag", "many"]) fun _ _ _ _ _ _ us hl => match us, hl with | [_, _], _ => rfl) g9
  have F10 := fun_mk (st := s__law_name) l10 d10 k10
  have g10 := fnD (P := P) (w := w) (mg := mg) (base := base) (CA := (caf [C_0, C_1, C_2, C_3, C_4, C_5, C_6, C_7])) (k := 1) (C := C__law_name) F10 sc__law_name (fun cdv A outer s H E hr => b__law_name T c__law_pick hr) vc__law_name
  have c__law_name : Callee P w K mg base (caf [C_0, C_1, C_2, C_3, C_4, C_5, C_6, C_7]) 2 "_law_name" 2 [] C__law_name := callee_mk (PySem.W.mg_of X G a10) k10 (F10.binds (ps := ["bag", "k"]) fun _ _ _ _ _ _ us hl => match us, hl with | [_, _], _ => rfl) g10
  have F11 := fun_mk (st := s__law_wrong_state) l11 d11 k11
  have g11 := fnD (P := P) (w := w) (mg := mg) (base := base) (CA := (caf [C_0, C_1, C_2, C_3, C_4, C_5, C_6, C_7])) (k := 1) (C := C__law_wrong_state) F11 sc__law_wrong_state (fun cdv A outer s H E hr => b__law_wrong_state T c__law_pick hr) vc__law_wrong_state
  have c__law_wrong_state : Callee P w K mg base (caf [C_0, C_1, C_2, C_3, C_4, C_5, C_6, C_7]) 2 "_law_wrong_state" 1 [] C__law_wrong_state := callee_mk (PySem.W.mg_of X G a11) k11 (F11.binds (ps := ["bag"]) fun _ _ _ _ _ _ us hl => match us, hl with | [_], _ => rfl) g11
  have F12 := fun_mk (st := s__law_wrong_event) l12 d12 k12
  have g12 := fnD (P := P) (w := w) (mg := mg) (base := base) (CA := (caf [C_0, C_1, C_2, C_3, C_4, C_5, C_6, C_7])) (k := 1) (C := C__law_wrong_event) F12 sc__law_wrong_event (fun cdv A outer s H E hr => b__law_wrong_event T c__law_pick hr) vc__law_wrong_event
  have c__law_wrong_event : Callee P w K mg base (caf [C_0, C_1, C_2, C_3, C_4, C_5, C_6, C_7]) 2 "_law_wrong_event" 2 [] C__law_wrong_event := callee_mk (PySem.W.mg_of X G a12) k12 (F12.binds (ps := ["bag", "name"]) fun _ _ _ _ _ _ us hl => match us, hl with | [_, _], _ => rfl) g12
  have F13 := fun_mk (st := s__law_wrong_step) l13 d13 k13
  have g13 := fnD (P := P) (w := w) (mg := mg) (base := base) (CA := (caf [C_0, C_1, C_2, C_3, C_4, C_5, C_6, C_7])) (k := 2) (C := C__law_wrong_step) F13 sc__law_wrong_step (fun cdv A outer s H E hr => b__law_wrong_step T c__law_pick c__law_wrong_state c__law_wrong_event hr) vc__law_wrong_step
  have c__law_wrong_step : Callee P w K mg base (caf [C_0, C_1, C_2, C_3, C_4, C_5, C_6, C_7]) 3 "_law_wrong_step" 2 [] C__law_wrong_step := callee_mk (PySem.W.mg_of X G a13) k13 (F13.binds (ps := ["bag", "name"]) fun _ _ _ _ _ _ us hl => match us, hl with | [_, _], _ => rfl) g13
  have mk_Rule_14 : Maker P w K mg base (caf [C_0, C_1, C_2, C_3, C_4, C_5, C_6, C_7]) 4 "Rule" 0 3 [] C_Rule____init__ := ⟨⟨_, _, _, [], [], PySem.W.mg_of X G aC_Rule, ⟨mk1_Rule, am_Rule___init__, fn6, mk2_Rule⟩, rfl, (F6.binds (ps := ["self", "steps", "bad"]) fun _ _ _ _ _ _ us hl => match us, hl with | [_, _, _], _ => rfl), .nil, fun _ _ => Reps.nil, g6.mono (by decide)⟩⟩
  have F14 := fun_mk (st := s__law_error) l14 d14 k14
  have g14 := fnD (P := P) (w := w) (mg := mg) (base := base) (CA := (caf [C_0, C_1, C_2, C_3, C_4, C_5, C_6, C_7])) (k := 5) (C := C__law_error) F14 sc__law_error (fun cdv A outer s H E hr => b__law_error T  mk_Rule_14 hr) vc__law_error
  have c__law_error : Callee P w K mg base (caf [C_0, C_1, C_2, C_3, C_4, C_5, C_6, C_7]) 6 "_law_error" 2 [] C__law_error := callee_mk (PySem.W.mg_of X G a14) k14 (F14.binds (ps := ["rows", "marks"]) fun _ _ _ _ _ _ us hl => match us, hl with | [_, _], _ => rfl) g14
  have cm_Rule_after_15 : CalleeM P w K mg base (caf [C_0, C_1, C_2, C_3, C_4, C_5, C_6, C_7]) 3 0 "after" 3 [] C_Rule__after := ⟨⟨_, _, _, [], [], kc_Rule.cl, ⟨am_Rule_after, fn7, k7⟩, rfl, (F7.binds (ps := ["self", "state", "event"]) fun _ _ _ _ _ _ us hl => match us, hl with | [_, _, _], _ => rfl), .nil, fun _ _ => Reps.nil, g7.mono (by decide)⟩⟩
  have F15 := fun_mk (st := s__law_asked) l15 d15 k15
  have g15 := fnD (P := P) (w := w) (mg := mg) (base := base) (CA := (caf [C_0, C_1, C_2, C_3, C_4, C_5, C_6, C_7])) (k := 3) (C := C__law_asked) F15 sc__law_asked (fun cdv A outer s H E hr => b__law_asked T  cm_Rule_after_15 hr) vc__law_asked
  have c__law_asked : Callee P w K mg base (caf [C_0, C_1, C_2, C_3, C_4, C_5, C_6, C_7]) 4 "_law_asked" 3 [] C__law_asked := callee_mk (PySem.W.mg_of X G a15) k15 (F15.binds (ps := ["rule", "here", "happens"]) fun _ _ _ _ _ _ us hl => match us, hl with | [_, _, _], _ => rfl) g15
  have F16 := fun_mk (st := s__law_made_right) l16 d16 k16
  have g16 := fnD (P := P) (w := w) (mg := mg) (base := base) (CA := (caf [C_0, C_1, C_2, C_3, C_4, C_5, C_6, C_7])) (k := 6) (C := C__law_made_right) F16 sc__law_made_right (fun cdv A outer s H E hr => b__law_made_right T c__law_pick c__law_wrong_step c__law_wrong_state c__law_error hr) vc__law_made_right
  have c__law_made_right : Callee P w K mg base (caf [C_0, C_1, C_2, C_3, C_4, C_5, C_6, C_7]) 7 "_law_made_right" 4 [] C__law_made_right := callee_mk (PySem.W.mg_of X G a16) k16 (F16.binds (ps := ["bag", "rows", "marks", "name"]) fun _ _ _ _ _ _ us hl => match us, hl with | [_, _, _, _], _ => rfl) g16
  have F17 := fun_mk (st := s__law_after_right) l17 d17 k17
  have g17 := fnC (P := P) (w := w) (mg := mg) (base := base) (CA := (caf [C_0, C_1, C_2, C_3, C_4, C_5, C_6, C_7])) (k := 4) (C := C__law_after_right) F17 sc__law_after_right (fun cdv A outer s H E hr => b__law_after_right T c__law_wrong_event c__law_wrong_state c__law_asked hr) vc__law_after_right
  have c__law_after_right : Callee P w K mg base (caf [C_0, C_1, C_2, C_3, C_4, C_5, C_6, C_7]) 5 "_law_after_right" 3 [] C__law_after_right := callee_mk (PySem.W.mg_of X G a17) k17 (F17.binds (ps := ["bag", "rule", "name"]) fun _ _ _ _ _ _ us hl => match us, hl with | [_, _, _], _ => rfl) g17
  have mk_Rule_18 : Maker P w K mg base (caf [C_0, C_1, C_2, C_3, C_4, C_5, C_6, C_7]) 4 "Rule" 0 3 [] C_Rule____init__ := ⟨⟨_, _, _, [], [], PySem.W.mg_of X G aC_Rule, ⟨mk1_Rule, am_Rule___init__, fn6, mk2_Rule⟩, rfl, (F6.binds (ps := ["self", "steps", "bad"]) fun _ _ _ _ _ _ us hl => match us, hl with | [_, _, _], _ => rfl), .nil, fun _ _ => Reps.nil, g6.mono (by decide)⟩⟩
  have F18 := fun_mk (st := s__law_right) l18 d18 k18
  have g18 := fnD (P := P) (w := w) (mg := mg) (base := base) (CA := (caf [C_0, C_1, C_2, C_3, C_4, C_5, C_6, C_7])) (k := 7) (C := C__law_right) F18 sc__law_right (fun cdv A outer s H E hr => b__law_right T c__law_name c__law_pick c__law_made_right c__law_after_right mk_Rule_18 hr) vc__law_right
  have c__law_right : Callee P w K mg base (caf [C_0, C_1, C_2, C_3, C_4, C_5, C_6, C_7]) 8 "_law_right" 1 [] C__law_right := callee_mk (PySem.W.mg_of X G a18) k18 (F18.binds (ps := ["bag"]) fun _ _ _ _ _ _ us hl => match us, hl with | [_], _ => rfl) g18
  have F19 := fun_mk (st := s_law) l19 d19 k19
  have g19 := fnD (P := P) (w := w) (mg := mg) (base := base) (CA := (caf [C_0, C_1, C_2, C_3, C_4, C_5, C_6, C_7])) (k := 8) (C := C_law) F19 sc_law (fun cdv A outer s H E hr => b_law T c__law_right c__law_bag hr) vc_law
  exact g19
end My
open PySem PySem.W PyProof.Rows
set_option maxRecDepth 100000 in
set_option maxHeartbeats 0 in
theorem PySem.Challenge.cw_calledin_k26_rules_refused_holds : PySem.Challenge.rw_calledin_k26_rules_refused.Holds := by
  w_on; o_law; k_head; (case hw => w_witness2)
  k_fill
  refine DL.walk (l := PySem.Challenge.rw_calledin_k26_rules_refused) (n := 63) (k := 9) (x := "script") (C := My.C_law) rfl (by decide) rfl ⟨⟨rfl, by decide, by decide⟩, rfl⟩ (fun w h Y => PySem.W.kIn_of Y) ?F My.says
  case F =>
    intro w mg fa h KX G hmg
    refine' My.all_mk KX G hmg ?aC_Rule ?pg_Rule ?hd_Rule ?po_Rule ?sa_Rule ?ha_Rule ?hm_Rule ?hn_g ?ht_g ?aC_CalledinError ?aC_StateError ?aC_LimitError ?aC_InvalidValue ?aC_InvalidMove ?aC_InvalidSteps ?aC_InvalidBad ?hd_InvalidValue ?xe_InvalidValue ?xt_InvalidValue ?xga_InvalidValue ?xgg_InvalidValue ?ha_InvalidValue ?hm_InvalidValue ?xq_InvalidValue ?xo_InvalidValue ?sa_InvalidValue ?xb_InvalidValue ?xk_InvalidValue ?xi_InvalidValue ?xl_InvalidValue ?xd_InvalidValue ?xv_InvalidValue ?xc_InvalidValue ?xm_InvalidValue ?xs_InvalidValue ?xtk_InvalidValue_value ?xw_InvalidValue ?xf_InvalidValue ?hd_InvalidMove ?xe_InvalidMove ?xt_InvalidMove ?xga_InvalidMove ?xgg_InvalidMove ?ha_InvalidMove ?hm_InvalidMove ?xq_InvalidMove ?xo_InvalidMove ?sa_InvalidMove ?xb_InvalidMove ?xk_InvalidMove ?xi_InvalidMove ?xl_InvalidMove ?xd_InvalidMove ?xv_InvalidMove ?xc_InvalidMove ?xm_InvalidMove ?xs_InvalidMove ?xtk_InvalidMove_value ?xw_InvalidMove ?xf_InvalidMove ?hd_InvalidSteps ?xe_InvalidSteps ?xt_InvalidSteps ?xga_InvalidSteps ?xgg_InvalidSteps ?ha_InvalidSteps ?hm_InvalidSteps ?xq_InvalidSteps ?xo_InvalidSteps ?sa_InvalidSteps ?xb_InvalidSteps ?xk_InvalidSteps ?xi_InvalidSteps ?xl_InvalidSteps ?xd_InvalidSteps ?xv_InvalidSteps ?xc_InvalidSteps ?xm_InvalidSteps ?xs_InvalidSteps ?xtk_InvalidSteps_index ?xw_InvalidSteps ?xf_InvalidSteps ?hd_InvalidBad ?xe_InvalidBad ?xt_InvalidBad ?xga_InvalidBad ?xgg_InvalidBad ?ha_InvalidBad ?hm_InvalidBad ?xq_InvalidBad ?xo_InvalidBad ?sa_InvalidBad ?xb_InvalidBad ?xk_InvalidBad ?xi_InvalidBad ?xl_InvalidBad ?xd_InvalidBad ?xv_InvalidBad ?xc_InvalidBad ?xm_InvalidBad ?xs_InvalidBad ?xtk_InvalidBad_index ?xw_InvalidBad ?xf_InvalidBad ?opq_g ?z_super ?xtop ?xio_InvalidValue_StateError ?xio_InvalidMove_StateError ?xio_InvalidSteps_StateError ?xio_InvalidBad_StateError ?xio_InvalidValue_LimitError ?xio_InvalidMove_LimitError ?xio_InvalidSteps_LimitError ?xio_InvalidBad_LimitError ?xio_InvalidValue_InvalidValue ?xio_InvalidMove_InvalidValue ?xio_InvalidSteps_InvalidValue ?xio_InvalidBad_InvalidValue ?xio_InvalidValue_InvalidSteps ?xio_InvalidMove_InvalidSteps ?xio_InvalidSteps_InvalidSteps ?xio_InvalidBad_InvalidSteps ?xio_InvalidValue_InvalidBad ?xio_InvalidMove_InvalidBad ?xio_InvalidSteps_InvalidBad ?xio_InvalidBad_InvalidBad ?xio_InvalidValue_ValueError ?xio_InvalidMove_ValueError ?xio_InvalidSteps_ValueError ?xio_InvalidBad_ValueError ?xio_InvalidValue_CalledinError ?xio_InvalidMove_CalledinError ?xio_InvalidSteps_CalledinError ?xio_InvalidBad_CalledinError ?xsu_InvalidValue_InvalidBad ?xsu_InvalidMove_InvalidBad ?xsu_InvalidSteps_InvalidBad ?xsu_InvalidBad_InvalidBad ?xsu_InvalidValue_InvalidSteps ?xsu_InvalidMove_InvalidSteps ?xsu_InvalidSteps_InvalidSteps ?xsu_InvalidBad_InvalidSteps ?xsu_InvalidValue_InvalidMove ?xsu_InvalidMove_InvalidMove ?xsu_InvalidSteps_InvalidMove ?xsu_InvalidBad_InvalidMove ?xsu_InvalidValue_InvalidValue ?xsu_InvalidMove_InvalidValue ?xsu_InvalidSteps_InvalidValue ?xsu_InvalidBad_InvalidValue ?xn_InvalidBad_index ?xn_InvalidSteps_index ?xn_InvalidMove_value ?xn_InvalidValue_value ?n_Rule_steps ?n_Rule_bad ?mk1_Rule ?mk2_Rule ?a1 ?l1 ?d1 ?k1 ?a2 ?l2 ?d2 ?k2 ?a3 ?l3 ?d3 ?k3 ?a4 ?l4 ?d4 ?k4 ?a5 ?l5 ?d5 ?k5 ?am_Rule___init__ ?fn6 ?l6 ?d6 ?k6 ?am_Rule_after ?fn7 ?l7 ?d7 ?k7 ?a8 ?l8 ?d8 ?k8 ?a9 ?l9 ?d9 ?k9 ?a10 ?l10 ?d10 ?k10 ?a11 ?l11 ?d11 ?k11 ?a12 ?l12 ?d12 ?k12 ?a13 ?l13 ?d13 ?k13 ?a14 ?l14 ?d14 ?k14 ?a15 ?l15 ?d15 ?k15 ?a16 ?l16 ?d16 ?k16 ?a17 ?l17 ?d17 ?k17 ?a18 ?l18 ?d18 ?k18 ?a19 ?l19 ?d19 ?k19 ?z_int ?z_isinstance ?z_bool ?z_str ?z_len ?z_all ?z_tuple ?z_enumerate ?z_divmod ?z_range ?z_ValueError ?z_repr ?z_list ?z_min ?z_max ?g_MAX_SIGNS ?g_LETTERS ?g_SIGNS ?g_MAX_STATE ?g_WORDS ?gl_WORDS
    (case aC_Rule => k_is)
    (case pg_Rule => k_is)
    (case hd_Rule => k_is)
    (case po_Rule => k_is)
    (case sa_Rule => k_is)
    (case ha_Rule => k_is)
    (case hm_Rule => k_is)
    (case hn_g => k_is)
    (case ht_g => k_is)
    (case aC_CalledinError => k_is)
    (case aC_StateError => k_is)
    (case aC_LimitError => k_is)
    (case aC_InvalidValue => k_is)
    (case aC_InvalidMove => k_is)
    (case aC_InvalidSteps => k_is)
    (case aC_InvalidBad => k_is)
    (case hd_InvalidValue => k_is)
    (case xe_InvalidValue => k_is)
    (case xt_InvalidValue => k_is)
    (case xga_InvalidValue => k_is)
    (case xgg_InvalidValue => k_is)
    (case ha_InvalidValue => k_is)
    (case hm_InvalidValue => k_is)
    (case xq_InvalidValue => kx_is)
    (case xo_InvalidValue => kx_is)
    (case sa_InvalidValue => k_is)
    (case xb_InvalidValue => k_is)
    (case xk_InvalidValue => k_is)
    (case xi_InvalidValue => k_is)
    (case xl_InvalidValue => k_is)
    (case xd_InvalidValue => k_is)
    (case xv_InvalidValue => k_is)
    (case xc_InvalidValue => k_is)
    (case xm_InvalidValue => k_is)
    (case xs_InvalidValue => ks_is)
    (case xtk_InvalidValue_value => k_is)
    (case xw_InvalidValue => rfl)
    (case xf_InvalidValue => rfl)
    (case hd_InvalidMove => k_is)
    (case xe_InvalidMove => k_is)
    (case xt_InvalidMove => k_is)
    (case xga_InvalidMove => k_is)
    (case xgg_InvalidMove => k_is)
    (case ha_InvalidMove => k_is)
    (case hm_InvalidMove => k_is)
    (case xq_InvalidMove => kx_is)
    (case xo_InvalidMove => kx_is)
    (case sa_InvalidMove => k_is)
    (case xb_InvalidMove => k_is)
    (case xk_InvalidMove => k_is)
    (case xi_InvalidMove => k_is)
    (case xl_InvalidMove => k_is)
    (case xd_InvalidMove => k_is)
    (case xv_InvalidMove => k_is)
    (case xc_InvalidMove => k_is)
    (case xm_InvalidMove => k_is)
    (case xs_InvalidMove => ks_is)
    (case xtk_InvalidMove_value => k_is)
    (case xw_InvalidMove => rfl)
    (case xf_InvalidMove => rfl)
    (case hd_InvalidSteps => k_is)
    (case xe_InvalidSteps => k_is)
    (case xt_InvalidSteps => k_is)
    (case xga_InvalidSteps => k_is)
    (case xgg_InvalidSteps => k_is)
    (case ha_InvalidSteps => k_is)
    (case hm_InvalidSteps => k_is)
    (case xq_InvalidSteps => kx_is)
    (case xo_InvalidSteps => kx_is)
    (case sa_InvalidSteps => k_is)
    (case xb_InvalidSteps => k_is)
    (case xk_InvalidSteps => k_is)
    (case xi_InvalidSteps => k_is)
    (case xl_InvalidSteps => k_is)
    (case xd_InvalidSteps => k_is)
    (case xv_InvalidSteps => k_is)
    (case xc_InvalidSteps => k_is)
    (case xm_InvalidSteps => k_is)
    (case xs_InvalidSteps => ks_is)
    (case xtk_InvalidSteps_index => k_is)
    (case xw_InvalidSteps => rfl)
    (case xf_InvalidSteps => rfl)
    (case hd_InvalidBad => k_is)
    (case xe_InvalidBad => k_is)
    (case xt_InvalidBad => k_is)
    (case xga_InvalidBad => k_is)
    (case xgg_InvalidBad => k_is)
    (case ha_InvalidBad => k_is)
    (case hm_InvalidBad => k_is)
    (case xq_InvalidBad => kx_is)
    (case xo_InvalidBad => kx_is)
    (case sa_InvalidBad => k_is)
    (case xb_InvalidBad => k_is)
    (case xk_InvalidBad => k_is)
    (case xi_InvalidBad => k_is)
    (case xl_InvalidBad => k_is)
    (case xd_InvalidBad => k_is)
    (case xv_InvalidBad => k_is)
    (case xc_InvalidBad => k_is)
    (case xm_InvalidBad => k_is)
    (case xs_InvalidBad => ks_is)
    (case xtk_InvalidBad_index => k_is)
    (case xw_InvalidBad => rfl)
    (case xf_InvalidBad => rfl)
    (case opq_g => k_is)
    (case z_super => k_is)
    (case xtop => decide +kernel)
    (case xio_InvalidValue_StateError => kit_is)
    (case xio_InvalidMove_StateError => kit_is)
    (case xio_InvalidSteps_StateError => kit_is)
    (case xio_InvalidBad_StateError => kit_is)
    (case xio_InvalidValue_LimitError => kit_is)
    (case xio_InvalidMove_LimitError => kit_is)
    (case xio_InvalidSteps_LimitError => kit_is)
    (case xio_InvalidBad_LimitError => kit_is)
    (case xio_InvalidValue_InvalidValue => kit_is)
    (case xio_InvalidMove_InvalidValue => kit_is)
    (case xio_InvalidSteps_InvalidValue => kit_is)
    (case xio_InvalidBad_InvalidValue => kit_is)
    (case xio_InvalidValue_InvalidSteps => kit_is)
    (case xio_InvalidMove_InvalidSteps => kit_is)
    (case xio_InvalidSteps_InvalidSteps => kit_is)
    (case xio_InvalidBad_InvalidSteps => kit_is)
    (case xio_InvalidValue_InvalidBad => kit_is)
    (case xio_InvalidMove_InvalidBad => kit_is)
    (case xio_InvalidSteps_InvalidBad => kit_is)
    (case xio_InvalidBad_InvalidBad => kit_is)
    (case xio_InvalidValue_ValueError => kit_is)
    (case xio_InvalidMove_ValueError => kit_is)
    (case xio_InvalidSteps_ValueError => kit_is)
    (case xio_InvalidBad_ValueError => kit_is)
    (case xio_InvalidValue_CalledinError => kit_is)
    (case xio_InvalidMove_CalledinError => kit_is)
    (case xio_InvalidSteps_CalledinError => kit_is)
    (case xio_InvalidBad_CalledinError => kit_is)
    (case xsu_InvalidValue_InvalidBad => k_is)
    (case xsu_InvalidMove_InvalidBad => k_is)
    (case xsu_InvalidSteps_InvalidBad => k_is)
    (case xsu_InvalidBad_InvalidBad => k_is)
    (case xsu_InvalidValue_InvalidSteps => k_is)
    (case xsu_InvalidMove_InvalidSteps => k_is)
    (case xsu_InvalidSteps_InvalidSteps => k_is)
    (case xsu_InvalidBad_InvalidSteps => k_is)
    (case xsu_InvalidValue_InvalidMove => k_is)
    (case xsu_InvalidMove_InvalidMove => k_is)
    (case xsu_InvalidSteps_InvalidMove => k_is)
    (case xsu_InvalidBad_InvalidMove => k_is)
    (case xsu_InvalidValue_InvalidValue => k_is)
    (case xsu_InvalidMove_InvalidValue => k_is)
    (case xsu_InvalidSteps_InvalidValue => k_is)
    (case xsu_InvalidBad_InvalidValue => k_is)
    (case xn_InvalidBad_index => k_is)
    (case xn_InvalidSteps_index => k_is)
    (case xn_InvalidMove_value => k_is)
    (case xn_InvalidValue_value => k_is)
    (case n_Rule_steps => k_is)
    (case n_Rule_bad => k_is)
    (case mk1_Rule => k_is)
    (case mk2_Rule => k_is)
    (case a1 => k_is)
    (case l1 => k_is)
    (case d1 => k_is)
    (case k1 => k_is)
    (case a2 => k_is)
    (case l2 => k_is)
    (case d2 => k_is)
    (case k2 => k_is)
    (case a3 => k_is)
    (case l3 => k_is)
    (case d3 => k_is)
    (case k3 => k_is)
    (case a4 => k_is)
    (case l4 => k_is)
    (case d4 => k_is)
    (case k4 => k_is)
    (case a5 => k_is)
    (case l5 => k_is)
    (case d5 => k_is)
    (case k5 => k_is)
    (case am_Rule___init__ => k_is)
    (case fn6 => k_is)
    (case l6 => k_is)
    (case d6 => k_is)
    (case k6 => k_is)
    (case am_Rule_after => k_is)
    (case fn7 => k_is)
    (case l7 => k_is)
    (case d7 => k_is)
    (case k7 => k_is)
    (case a8 => k_is)
    (case l8 => k_is)
    (case d8 => k_is)
    (case k8 => k_is)
    (case a9 => k_is)
    (case l9 => k_is)
    (case d9 => k_is)
    (case k9 => k_is)
    (case a10 => k_is)
    (case l10 => k_is)
    (case d10 => k_is)
    (case k10 => k_is)
    (case a11 => k_is)
    (case l11 => k_is)
    (case d11 => k_is)
    (case k11 => k_is)
    (case a12 => k_is)
    (case l12 => k_is)
    (case d12 => k_is)
    (case k12 => k_is)
    (case a13 => k_is)
    (case l13 => k_is)
    (case d13 => k_is)
    (case k13 => k_is)
    (case a14 => k_is)
    (case l14 => k_is)
    (case d14 => k_is)
    (case k14 => k_is)
    (case a15 => k_is)
    (case l15 => k_is)
    (case d15 => k_is)
    (case k15 => k_is)
    (case a16 => k_is)
    (case l16 => k_is)
    (case d16 => k_is)
    (case k16 => k_is)
    (case a17 => k_is)
    (case l17 => k_is)
    (case d17 => k_is)
    (case k17 => k_is)
    (case a18 => k_is)
    (case l18 => k_is)
    (case d18 => k_is)
    (case k18 => k_is)
    (case a19 => k_is)
    (case l19 => k_is)
    (case d19 => k_is)
    (case k19 => k_is)
    (case z_int => k_is)
    (case z_isinstance => k_is)
    (case z_bool => k_is)
    (case z_str => k_is)
    (case z_len => k_is)
    (case z_all => k_is)
    (case z_tuple => k_is)
    (case z_enumerate => k_is)
    (case z_divmod => k_is)
    (case z_range => k_is)
    (case z_ValueError => k_is)
    (case z_repr => k_is)
    (case z_list => k_is)
    (case z_min => k_is)
    (case z_max => k_is)
    (case g_MAX_SIGNS => k_is)
    (case g_LETTERS => k_is)
    (case g_SIGNS => k_is)
    (case g_MAX_STATE => k_is)
    (case g_WORDS => k_is)
    (case gl_WORDS => k_is)
