import PyProof.Rows.All
import Wide.All
import OpenK.AllK
import Wide.FinOn
import HandS.ForMost
import HandS.ForExc
import HandS.ExcCtx
import HandS.CallSlots
import HandS.Codes
import HandS.ExcInit
import HandS.Wide
import HandS.IsInst
import HandS.StrMore
import HandS.FStr
import HandS.Style
import HandS.Flow
import HandS.Strs
import HandS.Conv
import HandS.More
import HandS.Walk
import PyProof.ReprRoads
import HandS.TupAny
import HandS.Ends
import HandS.EndBits
import PySem.Challenge.RW_calledin_k02_names_and_sizes
set_option Elab.async false
set_option linter.all false
set_option autoImplicit false
set_option maxRecDepth 100000
/-! DL0: plain data D over the hand layer: how a datum lies in the abstract heap (Rep), cells that change (Hs), the state's relation (GRel, ERel), how it grows (Ext), readings over plain data (rd, rdS). -/
namespace DL
open PySem L2

inductive D where
  | non | bl (b : Bool) | int (i : Int) | str (x : Str) | ty (n : String) | gl (a : Addr)
  | tup (ds : List D) | lst (ds : List D) | rol (ds : List D) | dic (ks : List Key) (ds : List D)
  | obj (c : Nat) (ns : List Str) (ds : List D) | ref (i : Nat)
inductive Cell where
  | lst (ds : List D) | ins (c : Nat) (ns : List Str) (ds : List D) | dic (ks : List Key) (ds : List D) | dead
abbrev Env := List (Option D)
abbrev Hs := List Cell
inductive EC where
  | own (c : Nat) | bt (n : String)
structure Exc where
  c : EC
  ns : List Str
  ds : List D
abbrev PQ := D → Hs → Prop
abbrev PL := List D → Hs → Prop
abbrev PX := Exc → Hs → Prop
abbrev wE := Env → Hs → PQ → PX → Prop
abbrev wL := Env → Hs → PL → PX → Prop
abbrev wT := Env → Hs → (Bool → Hs → Prop) → PX → Prop
structure Dn where
  nx : Env → Hs → Prop
  rt : PQ
  bk : Env → Hs → Prop := fun _ _ => False
  ct : Env → Hs → Prop := fun _ _ => False
  ex : Exc → Env → Hs → Prop := fun _ _ _ => False
abbrev wS := Dn → Env → Hs → Prop
/-- a def's contract: arguments, cells, what is wanted of the result, of an exception -/
abbrev Ct := List D → Hs → PQ → PX → Prop

mutual
def Rep (K : PySem.W.Frag) (CA : Nat → Addr) (ρ : List Addr) (F : Hp) : D → V → Prop
  | .non, v => v = .non
  | .bl b, v => v = .bl b
  | .int i, v => v = .int i
  | .str x, v => v = .str x
  | .ty n, v => v = .ty n
  | .gl a, v => v = .ref a
  | .tup ds, v => ∃ a xs, v = .ref a ∧ SqT K F a xs ∧ Reps K CA ρ F ds xs
  | .lst ds, v => ∃ a xs, v = .ref a ∧ F a = some (.lst xs) ∧ Reps K CA ρ F ds xs
  | .rol ds, v => ∃ a xs, v = .ref a ∧ SqL K F a xs ∧ Reps K CA ρ F ds xs
  | .dic ks ds, v => ∃ a xs, v = .ref a ∧ F a = some (.dK (ks.zip xs)) ∧ ks.length = ds.length ∧ Reps K CA ρ F ds xs
  | .obj c ns ds, v => ∃ a dx xs, v = .ref a ∧ F a = some (.ins (CA c) dx (ns.zip xs)) ∧ ns.length = ds.length ∧ Reps K CA ρ F ds xs
  | .ref i, v => ∃ a, ρ[i]? = some a ∧ v = .ref a
def Reps (K : PySem.W.Frag) (CA : Nat → Addr) (ρ : List Addr) (F : Hp) : List D → List V → Prop
  | [], xs => xs = []
  | d :: ds, xs => ∃ v r, xs = v :: r ∧ Rep K CA ρ F d v ∧ Reps K CA ρ F ds r
end

section
variable {K : PySem.W.Frag} {CA : Nat → Addr} {ρ ρ' ρ1 ρ2 : List Addr} {F F' F1 F2 : Hp} {H H' H1 H2 : Hp} {h h' : Hs} {a : Addr} {u : HO}

theorem Rd.sub (s : ∀ a o, F a = some o → F' a = some o) (r : Rd F a u) : Rd F' a u := by
  rcases r with r | ⟨o, r⟩
  · exact .inl (s _ _ r)
  · exact .inr ⟨o, s _ _ r⟩
theorem SqL.sub {xs : List V} (s : ∀ a o, F a = some o → F' a = some o) (r : SqL K F a xs) : SqL K F' a xs := by
  rcases r with r | r
  · exact .inl (Rd.sub s r)
  · exact .inr r
theorem SqT.sub {xs : List V} (s : ∀ a o, F a = some o → F' a = some o) (r : SqT K F a xs) : SqT K F' a xs := by
  rcases r with r | r
  · exact .inl (Rd.sub s r)
  · exact .inr r
mutual
theorem Rep.sub (hp : ∃ l, ρ' = ρ ++ l) (s : ∀ a o, F a = some o → F' a = some o) : ∀ (d : D) (v : V), Rep K CA ρ F d v → Rep K CA ρ' F' d v
  | .non, _, r => r
  | .bl _, _, r => r
  | .int _, _, r => r
  | .str _, _, r => r
  | .ty _, _, r => r
  | .gl _, _, r => r
  | .tup ds, v, ⟨a, xs, e, q, r⟩ => ⟨a, xs, e, SqT.sub s q, Reps.sub hp s ds xs r⟩
  | .lst ds, v, ⟨a, xs, e, q, r⟩ => ⟨a, xs, e, s _ _ q, Reps.sub hp s ds xs r⟩
  | .rol ds, v, ⟨a, xs, e, q, r⟩ => ⟨a, xs, e, SqL.sub s q, Reps.sub hp s ds xs r⟩
  | .dic ks ds, v, ⟨a, xs, e, q, l, r⟩ => ⟨a, xs, e, s _ _ q, l, Reps.sub hp s ds xs r⟩
  | .obj c ns ds, v, ⟨a, dx, xs, e, q, l, r⟩ => ⟨a, dx, xs, e, s _ _ q, l, Reps.sub hp s ds xs r⟩
  | .ref i, v, ⟨a, e, r⟩ => ⟨a, by
      obtain ⟨l, rfl⟩ := hp
      rw [List.getElem?_append_left (List.getElem?_eq_some_iff.mp e).1]
      exact e, r⟩
theorem Reps.sub (hp : ∃ l, ρ' = ρ ++ l) (s : ∀ a o, F a = some o → F' a = some o) : ∀ (ds : List D) (xs : List V), Reps K CA ρ F ds xs → Reps K CA ρ' F' ds xs
  | [], _, r => r
  | d :: ds, xs, ⟨v, r, e, q, t⟩ => ⟨v, r, e, Rep.sub hp s d v q, Reps.sub hp s ds r t⟩
end
theorem Reps.length : ∀ {ds : List D} {xs : List V}, Reps K CA ρ F ds xs → ds.length = xs.length
  | [], xs, e => (show xs = [] from e) ▸ rfl
  | d :: ds, _, ⟨v, r, e, _, t⟩ => by rw [e, List.length_cons, List.length_cons, Reps.length t]
theorem Reps.get : ∀ {ds : List D} {xs : List V} {i : Nat} {d : D}, Reps K CA ρ F ds xs → ds[i]? = some d → ∃ v, xs[i]? = some v ∧ Rep K CA ρ F d v
  | [], _, _, _, _, e => by simp at e
  | d :: ds, _, 0, _, ⟨v, r, e, q, t⟩, z => by
    simp at z
    subst z
    exact ⟨v, by rw [e]; rfl, q⟩
  | d :: ds, _, i + 1, _, ⟨v, r, e, q, t⟩, z => by
    obtain ⟨v', h1, h2⟩ := Reps.get (i := i) t (by simpa using z)
    exact ⟨v', by rw [e]; simpa using h1, h2⟩
theorem Reps.get' : ∀ {ds : List D} {xs : List V} {i : Nat} {v : V}, Reps K CA ρ F ds xs → xs[i]? = some v → ∃ d, ds[i]? = some d ∧ Rep K CA ρ F d v := fun {ds xs i v} r e => by
  have hl := r.length
  have hi : i < ds.length := by
    rw [hl]
    exact (List.getElem?_eq_some_iff.mp e).1
  obtain ⟨v', h1, h2⟩ := r.get (i := i) (d := ds[i]) (by simp [hi])
  rw [e] at h1
  cases h1
  exact ⟨ds[i], by simp [hi], h2⟩
theorem Reps.nil : Reps K CA ρ F [] [] := rfl
theorem Reps.cons {d : D} {v : V} {ds : List D} {xs : List V} (r : Rep K CA ρ F d v) (t : Reps K CA ρ F ds xs) : Reps K CA ρ F (d :: ds) (v :: xs) := ⟨v, xs, rfl, r, t⟩
theorem Reps.append : ∀ {ds es : List D} {xs ys : List V}, Reps K CA ρ F ds xs → Reps K CA ρ F es ys → Reps K CA ρ F (ds ++ es) (xs ++ ys)
  | [], _, _, _, e, t => by
    have e' : _ = [] := e
    rw [e']
    exact t
  | _ :: _, _, _, _, ⟨v, r, e, q, t⟩, t2 => by
    rw [e]
    exact ⟨v, r ++ _, rfl, q, Reps.append t t2⟩
theorem Reps.take : ∀ {ds : List D} {xs : List V} (n : Nat), Reps K CA ρ F ds xs → Reps K CA ρ F (ds.take n) (xs.take n)
  | _, _, 0, _ => by rw [List.take_zero, List.take_zero]; exact Reps.nil
  | [], _, _ + 1, e => by
    have e' : _ = [] := e
    rw [e']
    exact Reps.nil
  | _ :: _, _, n + 1, ⟨v, r, e, q, t⟩ => by
    rw [e]
    exact ⟨v, r.take n, rfl, q, Reps.take n t⟩
theorem Reps.drop : ∀ {ds : List D} {xs : List V} (n : Nat), Reps K CA ρ F ds xs → Reps K CA ρ F (ds.drop n) (xs.drop n)
  | _, _, 0, r => r
  | [], _, _ + 1, e => by
    have e' : _ = [] := e
    rw [e']
    exact Reps.nil
  | _ :: _, _, n + 1, ⟨v, r, e, q, t⟩ => by
    rw [e]
    exact Reps.drop n t
theorem Reps.set {d : D} {v : V} (q : Rep K CA ρ F d v) : ∀ {ds : List D} {xs : List V} (n : Nat), Reps K CA ρ F ds xs → Reps K CA ρ F (ds.set n d) (xs.set n v)
  | [], _, _, e => by
    have e' : _ = [] := e
    rw [e']
    exact Reps.nil
  | _ :: _, _, 0, ⟨v', r, e, _, t⟩ => by
    rw [e]
    exact ⟨v, r, rfl, q, t⟩
  | _ :: _, _, n + 1, ⟨v', r, e, q', t⟩ => by
    rw [e]
    exact ⟨v', r.set n v, rfl, q', Reps.set q n t⟩

theorem nodup_inj : ∀ {l : List Addr} {i j : Nat} {x : Addr}, l.Nodup → l[i]? = some x → l[j]? = some x → i = j
  | [], _, _, _, _, e, _ => by simp at e
  | y :: l, 0, 0, _, _, _, _ => rfl
  | y :: l, 0, j + 1, x, n, e, e' => by
    simp at e e'
    subst e
    exact absurd (List.mem_of_getElem? e') (List.nodup_cons.mp n).1
  | y :: l, i + 1, 0, x, n, e, e' => by
    simp at e e'
    subst e'
    exact absurd (List.mem_of_getElem? e) (List.nodup_cons.mp n).1
  | y :: l, i + 1, j + 1, x, n, e, e' => by
    simp at e e'
    rw [nodup_inj (List.nodup_cons.mp n).2 e e']
/-- a cell that lives -/
def CellOk (K : PySem.W.Frag) (CA : Nat → Addr) (ρ : List Addr) (F : Hp) (a : Addr) (H : Hp) : Cell → Prop
  | .lst ds => ∃ xs, H a = some (.lst xs) ∧ Reps K CA ρ F ds xs
  | .ins c ns ds => ∃ dx xs, H a = some (.ins (CA c) dx (ns.zip xs)) ∧ F dx = some (.own a) ∧ ns.length = ds.length ∧ Reps K CA ρ F ds xs
  | .dic ks ds => ∃ xs, H a = some (.dK (ks.zip xs)) ∧ ks.length = ds.length ∧ Reps K CA ρ F ds xs
  | .dead => True
structure GRel (K : PySem.W.Frag) (CA : Nat → Addr) (ρ : List Addr) (F : Hp) (h : Hs) (H : Hp) : Prop where
  sub : ∀ a o, F a = some o → H a = some o
  len : ρ.length = h.length
  nd : ρ.Nodup
  off : ∀ a ∈ ρ, F a = none
  there : ∀ a ∈ ρ, ∃ o, H a = some o
  cell : ∀ (i : Nat) (c : Cell) (a : Addr), h[i]? = some c → ρ[i]? = some a → CellOk K CA ρ F a H c
def ERel (K : PySem.W.Frag) (CA : Nat → Addr) (ρ : List Addr) (F : Hp) (env : Env) (σ : L2.St) : Prop :=
  env.length = σ.length ∧ ∀ (k : Nat) (d : D), env[k]? = some (some d) → ∃ v, σ[k]? = some (some v) ∧ Rep K CA ρ F d v
structure Ext (ρ : List Addr) (F H : Hp) (ρ' : List Addr) (F' H' : Hp) : Prop where
  pre : ∃ l, ρ' = ρ ++ l
  sub : ∀ a o, F a = some o → F' a = some o
  frame : ∀ a o, H a = some o → a ∉ ρ → H' a = some o
  new : ∀ a, (a ∈ ρ' ∨ F' a ≠ none) → a ∈ ρ ∨ F a ≠ none ∨ H a = none
  off : ∀ a ∈ ρ', F' a = none
theorem Ext.refl (G : GRel K CA ρ F h H) : Ext ρ F H ρ F H where
  pre := ⟨[], by simp⟩
  sub := fun _ _ e => e
  frame := fun _ _ e _ => e
  new := fun a z => z.elim .inl fun z => .inr (.inl z)
  off := G.off
theorem Ext.trans (x : Ext ρ F H ρ1 F1 H1) (y : Ext ρ1 F1 H1 ρ2 F2 H2) : Ext ρ F H ρ2 F2 H2 where
  pre := by
    obtain ⟨l, e⟩ := x.pre
    obtain ⟨m, e'⟩ := y.pre
    exact ⟨l ++ m, by rw [e', e, List.append_assoc]⟩
  sub := fun a o e => y.sub a o (x.sub a o e)
  frame := fun a o e n => by
    refine y.frame a o (x.frame a o e n) fun z => ?_
    rcases x.new a (.inl z) with q | q | q
    · exact n q
    · cases e2 : F a with
      | none => exact q e2
      | some o' =>
        have := x.sub a o' e2
        rw [x.off a z] at this
        cases this
    · rw [e] at q
      cases q
  new := fun a z => by
    rcases y.new a z with q | q | q
    · exact x.new a (.inl q)
    · exact x.new a (.inr q)
    · cases e : H a with
      | none => exact .inr (.inr rfl)
      | some o =>
        by_cases n : a ∈ ρ
        · exact .inl n
        · rw [x.frame a o e n] at q
          cases q
  off := y.off
theorem Rep.ext (x : Ext ρ F H ρ' F' H') {d : D} {v : V} (r : Rep K CA ρ F d v) : Rep K CA ρ' F' d v := Rep.sub x.pre x.sub d v r
theorem Reps.ext (x : Ext ρ F H ρ' F' H') {ds : List D} {xs : List V} (r : Reps K CA ρ F ds xs) : Reps K CA ρ' F' ds xs := Reps.sub x.pre x.sub ds xs r
theorem ERel.ext (x : Ext ρ F H ρ' F' H') {env : Env} {σ : L2.St} (r : ERel K CA ρ F env σ) : ERel K CA ρ' F' env σ :=
  ⟨r.1, fun k d e => let ⟨v, h1, h2⟩ := r.2 k d e; ⟨v, h1, h2.ext x⟩⟩
theorem GRel.sqL (G : GRel K CA ρ F h H) {xs : List V} (r : SqL K F a xs) : SqL K H a xs := SqL.sub G.sub r
theorem GRel.sqT (G : GRel K CA ρ F h H) {xs : List V} (r : SqT K F a xs) : SqT K H a xs := SqT.sub G.sub r
theorem CellOk.sub {c : Cell} (hp : ∃ l, ρ' = ρ ++ l) (s : ∀ a o, F a = some o → F' a = some o) (hH : H' a = H a) (r : CellOk K CA ρ F a H c) : CellOk K CA ρ' F' a H' c := by
  cases c with
  | lst ds => obtain ⟨xs, e, q⟩ := r; exact ⟨xs, hH.trans e, Reps.sub hp s _ _ q⟩
  | ins c ns ds => obtain ⟨dx, xs, e, d, l, q⟩ := r; exact ⟨dx, xs, hH.trans e, s _ _ d, l, Reps.sub hp s _ _ q⟩
  | dic ks ds => obtain ⟨xs, e, l, q⟩ := r; exact ⟨xs, hH.trans e, l, Reps.sub hp s _ _ q⟩
  | dead => trivial
theorem GRel.free (G : GRel K CA ρ F h H) (hp : H a = none) : F a = none ∧ a ∉ ρ := by
  refine ⟨?_, fun z => ?_⟩
  · cases e : F a with
    | none => rfl
    | some o =>
      rw [G.sub _ _ e] at hp
      cases hp
  · obtain ⟨o, e⟩ := G.there a z
    rw [e] at hp
    cases hp
/-- a new object that stays as it is -/
theorem GRel.frozen (G : GRel K CA ρ F h H) (hp : H a = none) (o : HO) : GRel K CA ρ (upd F a o) h (upd H a o) ∧ Ext ρ F H ρ (upd F a o) (upd H a o) := by
  obtain ⟨f0, nr⟩ := G.free hp
  have sub : ∀ b u, F b = some u → upd F a o b = some u := fun b u e => by
    rw [upd_ne (ne_of_none e f0)]
    exact e
  have ne : ∀ b, b ∈ ρ → b ≠ a := fun b hb e => nr (e ▸ hb)
  refine ⟨⟨fun b u e => ?_, G.len, G.nd, fun b hb => ?_, fun b hb => ?_, fun i c b hi hb => ?_⟩, ⟨[], by simp⟩, sub, fun b u e _ => ?_, fun b z => ?_, fun b hb => ?_⟩
  · by_cases hb : b = a
    · subst hb
      rw [upd_same] at e ⊢
      exact e
    · rw [upd_ne hb] at e ⊢
      exact G.sub _ _ e
  · rw [upd_ne (ne b hb)]
    exact G.off b hb
  · rw [upd_ne (ne b hb)]
    exact G.there b hb
  · exact (G.cell i c b hi hb).sub ⟨[], by simp⟩ sub (upd_ne (ne b (List.mem_of_getElem? hb)))
  · rw [upd_ne (ne_of_none e hp)]
    exact e
  · rcases z with z | z
    · exact .inl z
    · by_cases hb : b = a
      · subst hb
        exact .inr (.inr hp)
      · rw [upd_ne hb] at z
        exact .inr (.inl z)
  · rw [upd_ne (ne b hb)]
    exact G.off b hb
/-- a new cell -/
theorem GRel.cellNew (G : GRel K CA ρ F h H) (hp : H a = none) (o : HO) (c : Cell) (hc : CellOk K CA (ρ ++ [a]) F a (upd H a o) c) :
    GRel K CA (ρ ++ [a]) F (h ++ [c]) (upd H a o) ∧ Ext ρ F H (ρ ++ [a]) F (upd H a o) := by
  obtain ⟨f0, nr⟩ := G.free hp
  have ne : ∀ b, b ∈ ρ → b ≠ a := fun b hb e => nr (e ▸ hb)
  have off : ∀ b ∈ ρ ++ [a], F b = none := fun b hb => by
    rcases List.mem_append.mp hb with z | z
    · exact G.off b z
    · rw [List.mem_singleton.mp z]
      exact f0
  refine ⟨⟨fun b u e => ?_, ?_, ?_, off, fun b hb => ?_, fun i c' b hi hb => ?_⟩, ⟨[a], rfl⟩, fun _ _ e => e, fun b u e _ => ?_, fun b z => ?_, off⟩
  · rw [upd_ne (ne_of_none e f0)]
    exact G.sub _ _ e
  · rw [List.length_append, List.length_append, G.len]
    rfl
  · rw [List.nodup_append]
    exact ⟨G.nd, by simp, fun x hx y hy => by
      rw [List.mem_singleton.mp hy]
      exact ne x hx⟩
  · rcases List.mem_append.mp hb with z | z
    · rw [upd_ne (ne b z)]
      exact G.there b z
    · rw [List.mem_singleton.mp z, upd_same]
      exact ⟨_, rfl⟩
  · by_cases hl : i < h.length
    · rw [List.getElem?_append_left hl] at hi
      rw [List.getElem?_append_left (by rw [G.len]; exact hl)] at hb
      exact (G.cell i c' b hi hb).sub ⟨[a], rfl⟩ (fun _ _ e => e) (upd_ne (ne b (List.mem_of_getElem? hb)))
    · have hl1 : i < (h ++ [c]).length := (List.getElem?_eq_some_iff.mp hi).1
      rw [List.length_append, List.length_singleton] at hl1
      have he : i = h.length := by omega
      subst he
      rw [List.getElem?_append_right (Nat.le_refl _), Nat.sub_self] at hi
      rw [List.getElem?_append_right (by rw [G.len]; exact Nat.le_refl _), G.len, Nat.sub_self] at hb
      simp at hi hb
      subst hi hb
      exact hc
  · rw [upd_ne (ne_of_none e hp)]
    exact e
  · rcases z with z | z
    · rcases List.mem_append.mp z with z | z
      · exact .inl z
      · rw [List.mem_singleton.mp z]
        exact .inr (.inr hp)
    · exact .inr (.inl z)
/-- a cell changes -/
theorem GRel.cellSet (G : GRel K CA ρ F h H) {i : Nat} {c0 c : Cell} (hi : h[i]? = some c0) (hb : ρ[i]? = some a) (o : HO) (hc : CellOk K CA ρ F a (upd H a o) c) :
    GRel K CA ρ F (h.set i c) (upd H a o) ∧ Ext ρ F H ρ F (upd H a o) := by
  have ha : a ∈ ρ := List.mem_of_getElem? hb
  have f0 := G.off a ha
  refine ⟨⟨fun b u e => ?_, ?_, G.nd, G.off, fun b hb' => ?_, fun j c' b hj hb' => ?_⟩, ⟨[], by simp⟩, fun _ _ e => e, fun b u e nb => ?_, fun b z => z.elim .inl fun z => .inr (.inl z), G.off⟩
  · rw [upd_ne (ne_of_none e f0)]
    exact G.sub _ _ e
  · rw [List.length_set]
    exact G.len
  · by_cases e : b = a
    · rw [e, upd_same]
      exact ⟨_, rfl⟩
    · rw [upd_ne e]
      exact G.there b hb'
  · by_cases e : i = j
    · subst e
      rw [hb] at hb'
      cases hb'
      rw [List.getElem?_set_self (List.getElem?_eq_some_iff.mp hi).1] at hj
      cases hj
      exact hc
    · rw [List.getElem?_set_ne e] at hj
      have nba : b ≠ a := fun z => by
        subst z
        exact e (nodup_inj G.nd hb hb')
      exact (G.cell j c' b hj hb').sub ⟨[], by simp⟩ (fun _ _ e => e) (upd_ne nba)
  · rw [upd_ne (fun z => nb (by rw [z]; exact ha))]
    exact e
end
end DL
/-! DL1: readings over plain data (rd, rdS), the judgements SE, SA, ST, SS, SSs, and the first rules. -/
namespace DL
open PySem L2

section
variable {K : PySem.W.Frag} {CA : Nat → Addr} {ρ ρ' ρ1 : List Addr} {F F' F1 : Hp} {H H' H1 : Hp} {h h' : Hs} {σ : L2.St} {env : Env}

def ecV (CA : Nat → Addr) : EC → Value
  | .own c => .ref (CA c)
  | .bt n => .type n
/-- an exception: its class, its own dict with its fields -/
def XRep (K : PySem.W.Frag) (CA : Nat → Addr) (ρ : List Addr) (F : Hp) (x : Exc) (cls : Value) (dd : Option Addr) (H : Hp) : Prop :=
  cls = ecV CA x.c ∧ ((x.ns = [] ∧ x.ds = []) ∨ ∃ d xs, dd = some d ∧ H d = some (exd d (x.ns.zip xs)) ∧ x.ns.length = x.ds.length ∧ Reps K CA ρ F x.ds xs)

def Go (K : PySem.W.Frag) (CA : Nat → Addr) (ρ : List Addr) (F H : Hp) (Qd : PQ) (Q : VK) : Prop := ∀ d h' ρ' F' v H', Qd d h' → Ext ρ F H ρ' F' H' → GRel K CA ρ' F' h' H' → Rep K CA ρ' F' d v → Q v H'
def GoL (K : PySem.W.Frag) (CA : Nat → Addr) (ρ : List Addr) (F H : Hp) (Qd : PL) (Q : List V → Hp → Prop) : Prop := ∀ ds h' ρ' F' vs H', Qd ds h' → Ext ρ F H ρ' F' H' → GRel K CA ρ' F' h' H' → Reps K CA ρ' F' ds vs → Q vs H'
def GoB (K : PySem.W.Frag) (CA : Nat → Addr) (ρ : List Addr) (F H : Hp) (Qd : Bool → Hs → Prop) (Q : Bool → Hp → Prop) : Prop := ∀ b h' ρ' F' H', Qd b h' → Ext ρ F H ρ' F' H' → GRel K CA ρ' F' h' H' → Q b H'
def GoX (K : PySem.W.Frag) (CA : Nat → Addr) (ρ : List Addr) (F H : Hp) (Ed : PX) (E : XK) : Prop := ∀ x h' ρ' F' H' cls dd, Ed x h' → Ext ρ F H ρ' F' H' → GRel K CA ρ' F' h' H' → XRep K CA ρ' F' x cls dd H' → E cls dd H'
def GoS (K : PySem.W.Frag) (CA : Nat → Addr) (ρ : List Addr) (F H : Hp) (q : Env → Hs → Prop) (Q : L2.St → Hp → Prop) : Prop := ∀ env' h' ρ' F' σ' H', q env' h' → Ext ρ F H ρ' F' H' → GRel K CA ρ' F' h' H' → ERel K CA ρ' F' env' σ' → Q σ' H'
def GoXS (K : PySem.W.Frag) (CA : Nat → Addr) (ρ : List Addr) (F H : Hp) (Ed : Exc → Env → Hs → Prop) (W : WX) : Prop := ∀ x env' h' ρ' F' σ' H' cls dd, Ed x env' h' → Ext ρ F H ρ' F' H' → GRel K CA ρ' F' h' H' → ERel K CA ρ' F' env' σ' → XRep K CA ρ' F' x cls dd H' → W cls dd σ' H'
theorem Go.on {Qd : PQ} {Q : VK} (g : Go K CA ρ F H Qd Q) (x : Ext ρ F H ρ1 F1 H1) : Go K CA ρ1 F1 H1 Qd Q := fun d h' ρ' F' v H' q y => g d h' ρ' F' v H' q (x.trans y)
theorem GoL.on {Qd : PL} {Q : List V → Hp → Prop} (g : GoL K CA ρ F H Qd Q) (x : Ext ρ F H ρ1 F1 H1) : GoL K CA ρ1 F1 H1 Qd Q := fun d h' ρ' F' v H' q y => g d h' ρ' F' v H' q (x.trans y)
theorem GoB.on {Qd : Bool → Hs → Prop} {Q : Bool → Hp → Prop} (g : GoB K CA ρ F H Qd Q) (x : Ext ρ F H ρ1 F1 H1) : GoB K CA ρ1 F1 H1 Qd Q := fun d h' ρ' F' H' q y => g d h' ρ' F' H' q (x.trans y)
theorem GoX.on {Ed : PX} {E : XK} (g : GoX K CA ρ F H Ed E) (x : Ext ρ F H ρ1 F1 H1) : GoX K CA ρ1 F1 H1 Ed E := fun d h' ρ' F' H' c dd q y => g d h' ρ' F' H' c dd q (x.trans y)
theorem GoS.on {q : Env → Hs → Prop} {Q : L2.St → Hp → Prop} (g : GoS K CA ρ F H q Q) (x : Ext ρ F H ρ1 F1 H1) : GoS K CA ρ1 F1 H1 q Q := fun e h' ρ' F' s H' q y => g e h' ρ' F' s H' q (x.trans y)
theorem GoXS.on {Ed : Exc → Env → Hs → Prop} {W : WX} (g : GoXS K CA ρ F H Ed W) (x : Ext ρ F H ρ1 F1 H1) : GoXS K CA ρ1 F1 H1 Ed W := fun d e h' ρ' F' s H' c dd q y => g d e h' ρ' F' s H' c dd q (x.trans y)
/-- within an expression: the slots stay -/
theorem GoXS.at {Ed : Exc → Env → Hs → Prop} {W : WX} (g : GoXS K CA ρ F H Ed W) (E : ERel K CA ρ F env σ) : GoX K CA ρ F H (fun x h1 => Ed x env h1) (WE W σ) :=
  fun x h' ρ' F' H' cls dd q y G r => g x env h' ρ' F' σ H' cls dd q y G (E.ext y) r

def rd (K : PySem.W.Frag) (CA : Nat → Addr) (W : WX) (t : wE) : TE := fun σ H Q => ∃ ρ F env h Qd Ed, GRel K CA ρ F h H ∧ ERel K CA ρ F env σ ∧ t env h Qd Ed ∧ Go K CA ρ F H Qd Q ∧ GoX K CA ρ F H Ed (WE W σ)
def rdL (K : PySem.W.Frag) (CA : Nat → Addr) (W : WX) (t : wL) : TA := fun σ H Q => ∃ ρ F env h Qd Ed, GRel K CA ρ F h H ∧ ERel K CA ρ F env σ ∧ t env h Qd Ed ∧ GoL K CA ρ F H Qd Q ∧ GoX K CA ρ F H Ed (WE W σ)
def rdT (K : PySem.W.Frag) (CA : Nat → Addr) (W : WX) (t : wT) : TT := fun σ H Q => ∃ ρ F env h Qd Ed, GRel K CA ρ F h H ∧ ERel K CA ρ F env σ ∧ t env h Qd Ed ∧ GoB K CA ρ F H Qd Q ∧ GoX K CA ρ F H Ed (WE W σ)
structure GoD (K : PySem.W.Frag) (CA : Nat → Addr) (W : WX) (ρ : List Addr) (F H : Hp) (Dd : Dn) (D : Ends) : Prop where
  nx : GoS K CA ρ F H Dd.nx D.nx
  rt : Go K CA ρ F H Dd.rt D.rt
  bk : GoS K CA ρ F H Dd.bk D.bk
  ct : GoS K CA ρ F H Dd.ct D.ct
  ex : GoXS K CA ρ F H Dd.ex W
theorem GoD.on {W : WX} {Dd : Dn} {D : Ends} (g : GoD K CA W ρ F H Dd D) (x : Ext ρ F H ρ1 F1 H1) : GoD K CA W ρ1 F1 H1 Dd D := ⟨g.nx.on x, g.rt.on x, g.bk.on x, g.ct.on x, g.ex.on x⟩
def rdS (K : PySem.W.Frag) (CA : Nat → Addr) (W : WX) (t : wS) : TS := fun D σ H => ∃ ρ F env h Dd, GRel K CA ρ F h H ∧ ERel K CA ρ F env σ ∧ t Dd env h ∧ GoD K CA W ρ F H Dd D

structure SE (X : Cx) (CA : Nat → Addr) (e : Expr) (t : wE) : Prop where
  run : ∀ W, L2N.Takes X W → PE X e (rd X.K CA W t)
structure ST (X : Cx) (CA : Nat → Addr) (e : Expr) (t : wT) : Prop where
  run : ∀ W, L2N.Takes X W → PT X e (rdT X.K CA W t)
structure SW (X : Cx) (CA : Nat → Addr) (e : Expr) (t : wT) : Prop where
  run : ∀ W, L2N.Takes X W → PW X e (rdT X.K CA W t)
structure SA (X : Cx) (CA : Nat → Addr) (es : List Expr) (t : wL) : Prop where
  run : ∀ W, L2N.Takes X W → PA X es (rdL X.K CA W t)
structure SS (X : Cx) (CA : Nat → Addr) (s : Stmt) (t : wS) : Prop where
  run : ∀ W, L2N.Takes X W → PS X s (rdS X.K CA W t)
structure SSs (X : Cx) (CA : Nat → Addr) (s : List Stmt) (t : wS) : Prop where
  run : ∀ W, L2N.Takes X W → PSs X s (rdS X.K CA W t)
end

theorem PE.of {X : Cx} {e : Expr} {t t' : TE} (h : PE X e t) (i : ∀ σ H Q, t' σ H Q → t σ H Q) : PE X e t' := ⟨fun pins s σ H Q I w => h.run pins s σ H Q I (i σ H Q w)⟩
theorem PT.of {X : Cx} {e : Expr} {t t' : TT} (h : PT X e t) (i : ∀ σ H Q, t' σ H Q → t σ H Q) : PT X e t' := ⟨fun pins s σ H Q I w => h.run pins s σ H Q I (i σ H Q w)⟩
theorem PW.of {X : Cx} {e : Expr} {t t' : TT} (h : PW X e t) (i : ∀ σ H Q, t' σ H Q → t σ H Q) : PW X e t' := ⟨fun wh pins s σ H Q I w => h.run wh pins s σ H Q I (i σ H Q w)⟩
theorem PA.of {X : Cx} {es : List Expr} {t t' : TA} (h : PA X es t) (i : ∀ σ H Q, t' σ H Q → t σ H Q) : PA X es t' := ⟨fun p pins s σ H Q I w => h.run p pins s σ H Q I (i σ H Q w)⟩
theorem PS.of {X : Cx} {st : Stmt} {t t' : TS} (h : PS X st t) (i : ∀ D σ H, t' D σ H → t D σ H) : PS X st t' := ⟨fun pins s σ H D I w => h.run pins s σ H D I (i D σ H w)⟩
theorem PSs.of {X : Cx} {st : List Stmt} {t t' : TS} (h : PSs X st t) (i : ∀ D σ H, t' D σ H → t D σ H) : PSs X st t' := ⟨fun pins s σ H D I w => h.run pins s σ H D I (i D σ H w)⟩

/-! ### names, constants -/
def onSlot (o : Option (Option D)) (p : D → Prop) : Prop :=
  match o with
  | some (some d) => p d
  | _ => False
def wVar (i : Nat) : wE := fun env h Q _ => onSlot env[i]? fun d => Q d h
def wC (d : D) : wE := fun _ h Q _ => Q d h
section
variable {X : Cx} {CA : Nat → Addr} {pos : Pos}
theorem se_var (i : Nat) {x : Str} (hN : X.N[i]? = some x := by rfl) (hv : Vis X.env.scope x := by first | exact Or.inl rfl | exact Or.inr (Or.inl rfl) | exact Or.inr (Or.inr rfl))
    (hd : (x == ("__debug__" : Str)) = false := by decide) (hcd : (x == ("__classdict__" : Str)) = false := by decide) : SE X CA (.Name x pos) (wVar i) := ⟨fun W tk => PE.of (pe_var hN hv hd hcd) (by
  rintro σ H Q ⟨ρ, F, env, h, Qd, Ed, G, E, w, gq, gx⟩
  unfold wVar onSlot at w
  split at w
  · rename_i d e
    obtain ⟨v, e1, r⟩ := E.2 i d e
    exact ⟨v, e1, gq d h ρ F v H w (Ext.refl G) G r⟩
  · exact w.elim)⟩
theorem se_of {e : Expr} {d : D} {v : V} (h : PE X e (tC v)) (r : ∀ ρ F, Rep X.K CA ρ F d v) : SE X CA e (wC d) := ⟨fun W tk => PE.of h (by
  rintro σ H Q ⟨ρ, F, env, h, Qd, Ed, G, E, w, gq, gx⟩
  exact gq d h ρ F v H w (Ext.refl G) G (r ρ F))⟩
theorem se_int {i j} : SE X CA (.Constant (.int i) j pos) (wC (.int i)) := se_of pe_int fun _ _ => rfl
theorem se_bl {b j} : SE X CA (.Constant (.bool b) j pos) (wC (.bl b)) := se_of pe_bl fun _ _ => rfl
theorem se_non {j} : SE X CA (.Constant .none j pos) (wC .non) := se_of pe_non fun _ _ => rfl
theorem se_str {x j} : SE X CA (.Constant (.str x) j pos) (wC (.str x)) := se_of pe_str fun _ _ => rfl
/-- a constant of the module -/
structure GlobD (K : PySem.W.Frag) (CA : Nat → Addr) (mg : Str → Option Value) (x : Str) (d : D) : Prop where
  ex : ∃ u v, mg x = some u ∧ RelV v u ∧ ∀ ρ F, Rep K CA ρ F d v
theorem se_glob {x : Str} {d : D} (g : GlobD X.K CA X.mg x d) (hg : Gl X x := by rfl) (hd : (x == ("__debug__" : Str)) = false := by decide) : SE X CA (.Name x pos) (wC d) := by
  obtain ⟨u, v, hm, r, k⟩ := g.ex
  exact se_of (C8.pe_gc hg ⟨u, hm, r⟩ hd) k
theorem se_nox {e : Expr} {t : wE} (h : SE X.nox CA e t) (K1 : X.nox.K = X.K := by rfl) : SE X CA e (fun env h Q _ => t env h Q (fun _ _ => False)) := ⟨fun W tk => PE.of (PE.nox (h.run (fun _ _ _ _ => False) (by
  intro u s' x
  obtain ⟨_, _, _, _, _, _, _, _, _, _, _, _, _, _, _, _, z⟩ := x
  exact z.elim))) (by
  rintro σ H Q ⟨ρ, F, env, h, Qd, Ed, G, E, w, gq, gx⟩
  exact ⟨ρ, F, env, h, Qd, _, G, E, w, gq, fun _ _ _ _ _ _ _ z => z.elim⟩)⟩

/-! ### operators on values -/
/-- what a two-place rule does on data -/
abbrev fO := D → D → Hs → PQ → Prop
abbrev fU := D → Hs → PQ → Prop
abbrev fL := List D → Hs → PQ → Prop
def OpD (K : PySem.W.Frag) (CA : Nat → Addr) (f : fO) (r : R2) : Prop := ∀ ρ F h H x y v u Qd Q, GRel K CA ρ F h H → Rep K CA ρ F x v → Rep K CA ρ F y u → f x y h Qd → Go K CA ρ F H Qd Q → r v u H Q
def UnD (K : PySem.W.Frag) (CA : Nat → Addr) (f : fU) (r : V → Hp → VK → Prop) : Prop := ∀ ρ F h H x v Qd Q, GRel K CA ρ F h H → Rep K CA ρ F x v → f x h Qd → Go K CA ρ F H Qd Q → r v H Q
def LiD (K : PySem.W.Frag) (CA : Nat → Addr) (f : fL) (r : List V → Hp → VK → Prop) : Prop := ∀ ρ F h H xs vs Qd Q, GRel K CA ρ F h H → Reps K CA ρ F xs vs → f xs h Qd → Go K CA ρ F H Qd Q → r vs H Q
/-- a method of a built-in: the object, the arguments -/
def MtD (K : PySem.W.Frag) (CA : Nat → Addr) (f : D → List D → Hs → PQ → Prop) (r : V → List V → Hp → VK → Prop) : Prop := ∀ ρ F h H x v xs vs Qd Q, GRel K CA ρ F h H → Rep K CA ρ F x v → Reps K CA ρ F xs vs → f x xs h Qd → Go K CA ρ F H Qd Q → r v vs H Q
def wOp (f : fO) (ta tb : wE) : wE := fun env h Q E => ta env h (fun x h1 => tb env h1 (fun y h2 => f x y h2 Q) E) E
def wUn (f : fU) (ta : wE) : wE := fun env h Q E => ta env h (fun x h1 => f x h1 Q) E
def wLi (f : fL) (ta : wL) : wE := fun env h Q E => ta env h (fun x h1 => f x h1 Q) E
theorem opD_imp {K : PySem.W.Frag} {W : WX} {f : fO} {r : R2} (hf : OpD K CA f r) {ta tb : wE} : ∀ σ H Q, rd K CA W (wOp f ta tb) σ H Q → tOp r (rd K CA W ta) (rd K CA W tb) σ H Q := by
  rintro σ H Q ⟨ρ, F, env, h, Qd, Ed, G, E, w, gq, gx⟩
  refine ⟨ρ, F, env, h, _, Ed, G, E, w, ?_, gx⟩
  intro x h1 ρ1 F1 v H1 hq X1 G1 R1
  refine ⟨ρ1, F1, env, h1, _, Ed, G1, E.ext X1, hq, ?_, gx.on X1⟩
  intro y h2 ρ2 F2 u H2 hq2 X2 G2 R2
  exact hf _ _ _ _ _ _ _ _ _ _ G2 (R1.ext X2) R2 hq2 ((gq.on X1).on X2)
theorem unD_imp {K : PySem.W.Frag} {W : WX} {f : fU} {r : V → Hp → VK → Prop} (hf : UnD K CA f r) {ta : wE} : ∀ σ H Q, rd K CA W (wUn f ta) σ H Q → tUn r (rd K CA W ta) σ H Q := by
  rintro σ H Q ⟨ρ, F, env, h, Qd, Ed, G, E, w, gq, gx⟩
  refine ⟨ρ, F, env, h, _, Ed, G, E, w, ?_, gx⟩
  intro x h1 ρ1 F1 v H1 hq X1 G1 R1
  exact hf _ _ _ _ _ _ _ _ G1 R1 hq (gq.on X1)
theorem liD_imp {K : PySem.W.Frag} {W : WX} {f : fL} {r : List V → Hp → VK → Prop} (hf : LiD K CA f r) {ta : wL} : ∀ σ H Q, rd K CA W (wLi f ta) σ H Q → tCB r (rdL K CA W ta) σ H Q := by
  rintro σ H Q ⟨ρ, F, env, h, Qd, Ed, G, E, w, gq, gx⟩
  refine ⟨ρ, F, env, h, _, Ed, G, E, w, ?_, gx⟩
  intro x h1 ρ1 F1 v H1 hq X1 G1 R1
  exact hf _ _ _ _ _ _ _ _ G1 R1 hq (gq.on X1)
theorem se_op {op : Operator} {a b : Expr} {ta tb : wE} {f : fO} {r : R2} (ho : OpR X (binaryOp op) r) (hf : OpD X.K CA f r) (ha : SE X CA a ta) (hb : SE X CA b tb) : SE X CA (.BinOp a op b pos) (wOp f ta tb) :=
  ⟨fun W tk => PE.of (pe_op ho (ha.run W tk) (hb.run W tk)) (opD_imp hf)⟩
theorem se_un {op : UnaryOp} {a : Expr} {ta : wE} {f : fU} {r : V → Hp → VK → Prop} (ho : UnR X (unaryOp op) r) (hf : UnD X.K CA f r) (ha : SE X CA a ta) : SE X CA (.UnaryOp op a pos) (wUn f ta) :=
  ⟨fun W tk => PE.of (pe_un ho (ha.run W tk)) (unD_imp hf)⟩
theorem se_cmp {op : CmpOp} {a b : Expr} {ta tb : wE} {f : fO} {r : R2} (ho : OpR X (compareOp op) r) (hf : OpD X.K CA f r) (ha : SE X CA a ta) (hb : SE X CA b tb) (hm : behindInMarks op b = false) : SE X CA (.Compare a [op] [b] pos) (wOp f ta tb) :=
  ⟨fun W tk => PE.of (pe_cmpR ho (ha.run W tk) (hb.run W tk) hm) (opD_imp hf)⟩
theorem se_ix {a b : Expr} {ta tb : wE} {f : fO} {r : R2} (ho : IxR X r) (hf : OpD X.K CA f r) (ha : SE X CA a ta) (hb : SE X CA b tb) (hs : PlainIx b := by exact fun _ _ => rfl) : SE X CA (.Subscript a b pos) (wOp f ta tb) :=
  ⟨fun W tk => PE.of (pe_ix ho (ha.run W tk) (hb.run W tk) hs) (opD_imp hf)⟩

/-! ### arguments -/
def wNil : wL := fun _ h Q _ => Q [] h
def wCons (ta : wE) (tr : wL) : wL := fun env h Q E => ta env h (fun x h1 => tr env h1 (fun xs h2 => Q (x :: xs) h2) E) E
theorem sa_nil : SA X CA [] wNil := ⟨fun W tk => PA.of pa_nil (by
  rintro σ H Q ⟨ρ, F, env, h, Qd, Ed, G, E, w, gq, gx⟩
  exact gq [] h ρ F [] H w (Ext.refl G) G Reps.nil)⟩
theorem sa_cons {e : Expr} {es : List Expr} {te : wE} {t : wL} (ha : SE X CA e te) (hr : SA X CA es t) (hs : starEach (e :: es) X.env = (false, eval e X.env) :: starEach es X.env := by rfl) : SA X CA (e :: es) (wCons te t) := ⟨fun W tk => PA.of (pa_cons (ha.run W tk) (hr.run W tk) hs) (by
  rintro σ H Q ⟨ρ, F, env, h, Qd, Ed, G, E, w, gq, gx⟩
  refine ⟨ρ, F, env, h, _, Ed, G, E, w, ?_, gx⟩
  intro x h1 ρ1 F1 v H1 hq X1 G1 R1
  refine ⟨ρ1, F1, env, h1, _, Ed, G1, E.ext X1, hq, ?_, gx.on X1⟩
  intro y h2 ρ2 F2 u H2 hq2 X2 G2 R2
  exact gq (x :: y) h2 ρ2 F2 (v :: u) H2 hq2 (X1.trans X2) G2 (Reps.cons (R1.ext X2) R2))⟩
theorem len_line {n : Nat} (h : n ≤ 16777216) : n ≤ sizeLine := by
  rw [sizeLine_eq]
  exact h
def wTup (ta : wL) : wE := fun env h Q E => ta env h (fun ds h1 => ds.length ≤ 16777216 ∧ Q (.tup ds) h1) E
def wLst (ta : wL) : wE := fun env h Q E => ta env h (fun ds h1 => ds.length ≤ 16777216 ∧ Q (.lst ds) h1) E
/-- a display that is a cell -/
def wLstC (ta : wL) : wE := fun env h Q E => ta env h (fun ds h1 => ds.length ≤ 16777216 ∧ Q (.ref h1.length) (h1 ++ [.lst ds])) E
theorem se_tup {es : List Expr} {t : wL} {x1} (ha : SA X CA es t) : SE X CA (.Tuple es x1 pos) (wTup t) := ⟨fun W tk => PE.of (pe_tup (ha.run W tk)) (by
  rintro σ H Q ⟨ρ, F, env, h, Qd, Ed, G, E, w, gq, gx⟩
  refine ⟨ρ, F, env, h, _, Ed, G, E, w, ?_, gx⟩
  rintro ds h1 ρ1 F1 vs H1 ⟨hl, hq⟩ X1 G1 R1
  refine ⟨by rw [← R1.length]; exact len_line hl, fun p hp => ?_⟩
  obtain ⟨G2, X2⟩ := G1.frozen hp (.tup vs)
  exact gq _ h1 ρ1 _ _ _ hq (X1.trans X2) G2 ⟨p, vs, rfl, SqT.of upd_same, R1.ext X2⟩)⟩
theorem se_lst {es : List Expr} {t : wL} (ha : SA X CA es t) : SE X CA (.List es pos) (wLst t) := ⟨fun W tk => PE.of (pe_lst (ha.run W tk)) (by
  rintro σ H Q ⟨ρ, F, env, h, Qd, Ed, G, E, w, gq, gx⟩
  refine ⟨ρ, F, env, h, _, Ed, G, E, w, ?_, gx⟩
  rintro ds h1 ρ1 F1 vs H1 ⟨hl, hq⟩ X1 G1 R1
  refine ⟨by rw [← R1.length]; exact len_line hl, fun p hp => ?_⟩
  obtain ⟨G2, X2⟩ := G1.frozen hp (.lst vs)
  exact gq _ h1 ρ1 _ _ _ hq (X1.trans X2) G2 ⟨p, vs, rfl, upd_same, R1.ext X2⟩)⟩
theorem se_lstC {es : List Expr} {t : wL} (ha : SA X CA es t) : SE X CA (.List es pos) (wLstC t) := ⟨fun W tk => PE.of (pe_lst (ha.run W tk)) (by
  rintro σ H Q ⟨ρ, F, env, h, Qd, Ed, G, E, w, gq, gx⟩
  refine ⟨ρ, F, env, h, _, Ed, G, E, w, ?_, gx⟩
  rintro ds h1 ρ1 F1 vs H1 ⟨hl, hq⟩ X1 G1 R1
  refine ⟨by rw [← R1.length]; exact len_line hl, fun p hp => ?_⟩
  obtain ⟨G2, X2⟩ := G1.cellNew hp (.lst vs) (.lst ds) ⟨vs, upd_same, Reps.sub ⟨[p], rfl⟩ (fun _ _ e => e) _ _ R1⟩
  refine gq _ _ _ _ _ _ hq (X1.trans X2) G2 ⟨p, ?_, rfl⟩
  rw [← G1.len]
  simp)⟩

end
/-! ### calls of defs -/
/-- a def's promise from its contract -/
def spD (K : PySem.W.Frag) (CA : Nat → Addr) (n : Nat) (C : Ct) : Sp := fun vs H Q E => vs.length = n ∧ ∃ ρ F h ds Qd Ed, GRel K CA ρ F h H ∧ Reps K CA ρ F ds vs ∧ C ds h Qd Ed ∧ Go K CA ρ F H Qd Q ∧ GoX K CA ρ F H Ed E
/-- room, and no repr under way -/
structure Rm (k : Nat) (A : Around) : Prop where
  room : Room k A
  gd : A.guards = some []
theorem Rm.mono {j k : Nat} {A : Around} (r : Rm k A) (h : j ≤ k) : Rm j A := ⟨r.room.mono h, r.gd⟩
/-- the def at f keeps its promise, wherever no repr is under way -/
structure FnG (P : Program) (w : World) (K : PySem.W.Frag) (mg : Str → Option Value) (base : Heap) (CX : CXT) (k : Nat) (f : Addr) (fd : FuncData) (ps : List Str) (sp : Sp) : Prop where
  len : ∀ vs H Q E, sp vs H Q E → vs.length = ps.length
  run : ∀ (A : Around) (outer : List PySem.Env) (s : Shared) (H : Hp) (args : Args) (us : List Value) (vs : List V) (Q : VK) (E : XK), Rm k A → Env0 P w K mg base A outer s H → BindsTo s fd args (ps.zip us) → Vals vs us → sp vs H Q E →
    codeAny (model P w) A (.call (.ref f) args) (CR CX outer P w H s Q E) s
section
variable {P : Program} {w : World} {K : PySem.W.Frag} {mg : Str → Option Value} {base : Heap} {CX : CXT} {j k : Nat} {f : Addr} {fd : FuncData} {ps : List Str} {sp sp' : Sp}
theorem FnG.mono (F : FnG P w K mg base CX j f fd ps sp) (h : j ≤ k) : FnG P w K mg base CX k f fd ps sp := ⟨F.len, fun A outer s H args us vs Q E hr => F.run A outer s H args us vs Q E (hr.mono h)⟩
theorem FnG.imp (F : FnG P w K mg base CX k f fd ps sp) (h : ∀ vs H Q E, sp' vs H Q E → sp vs H Q E) : FnG P w K mg base CX k f fd ps sp' :=
  ⟨fun vs H Q E q => F.len vs H Q E (h _ _ _ _ q), fun A outer s H args us vs Q E hr he hb hv hs => F.run A outer s H args us vs Q E hr he hb hv (h _ _ _ _ hs)⟩
end
theorem run_fnG {X : Cx} {CX : CXT} {k : Nat} {f : Addr} {fd : FuncData} {ps : List Str} {sp : Sp} {dvs : List V} {ds : List Value} {E : XK} {pins : List (Addr × Obj)} {σ : L2.St} {H : Hp} {s : Shared} {Q : VK} {us : List Value} {vs : List V}
    (F : FnG X.prog X.w X.K X.mg X.base CX k f fd ps sp) (hr : Rm k X.A) (hb : Binds X.K fd ps ds) (hd : Vals dvs ds) (hx : PassesAt CX X σ E) (I : Inv X pins σ H s) (r : Vals vs us) (hs : sp (vs ++ dvs) H Q E) :
    wpAny (model X.prog X.w) X.A (call (.ref f) us) (EP X pins σ Q) X.xe s := by
  have rr : Vals (vs ++ dvs) (us ++ ds) := r.append hd
  have hl : (us ++ ds).length = ps.length := rr.length.symm.trans (F.len _ _ _ _ hs)
  refine wpAny_call (codeAny_mono (F.run X.A X.stack s H ⟨us, []⟩ (us ++ ds) (vs ++ dvs) Q E hr I.env0 (hb s us I.kIn hl) rr hs) fun res s' hq => ?_)
  match res, hq with
  | .error e, hq => exact hx pins H s e s' I hq
  | .ok (.ret u), hq => exact I.after hq
  | .ok .next, hq => exact hq.elim
  | .ok .brk, hq => exact hq.elim
  | .ok .cont, hq => exact hq.elim
/-- a def of the module that keeps a contract; dd: the defaults that such a call leaves to it -/
structure Callee (P : Program) (w : World) (K : PySem.W.Frag) (mg : Str → Option Value) (base : Heap) (CA : Nat → Addr) (k : Nat) (x : Str) (n : Nat) (dd : List D) (C : Ct) : Prop where
  ex : ∃ f fd ps ds dvs, mg x = some (.ref f) ∧ PySem.W.keepIn K (.ref f) = true ∧ ps.length = n ∧ Binds K fd ps ds ∧ Vals dvs ds ∧ (∀ ρ F, Reps K CA ρ F dd dvs) ∧ FnG P w K mg base (L2N.CX P w) k f fd ps (spD K CA n C)
def wCall (C : Ct) (n : Nat) (dd : List D) (ta : wL) : wE := fun env h Q E => ta env h (fun ds h1 => ds.length + dd.length = n ∧ C (ds ++ dd) h1 Q E) E
section
variable {X : Cx} {CA : Nat → Addr} {pos : Pos}
theorem se_call {k n : Nat} {x : Str} {dd : List D} {C : Ct} {p : Pos} {e : Expr} {es : List Expr} {t : wL} (c : Callee X.prog X.w X.K X.mg X.base CA k x n dd C) (hr : Rm k X.A) (ha : SA X CA (e :: es) t) (hg : Gl X x := by rfl) (hdb : (x == ("__debug__" : Str)) = false := by decide)
    (he : starEach (e :: es) X.env = (false, eval e X.env) :: starEach es X.env := by rfl) (hpl : (backTo pos (starEach es X.env)).any (·.1) = false := by rfl) :
    SE X CA (.Call (.Name x p) (e :: es) [] pos) (wCall C n dd t) := ⟨fun W tk => by
  obtain ⟨f, fd, ps, ds, dvs, hm, hk, hn, hb, hd, hrep, Fo⟩ := c.ex
  refine ⟨fun pins s σ H Q I hw => ?_⟩
  refine wpAny_Call_Name_kw (ld_glob I hg hm ?_ hdb)
  obtain ⟨ρ, F, env, h, Qd, Ed, G, E, w, gq, gx⟩ := hw
  refine PySem.W.callWith_K (h₀ := X.base) I.ok.mod.kin hk (thn ((ha.run W tk).run pos pins s σ H (fun vs H1 => spD X.K CA n C (vs ++ dvs) H1 Q (WE W σ)) I ⟨ρ, F, env, h, _, Ed, G, E, w, ?_, gx⟩) fun us s1 ⟨vs, H1, I1, r, q⟩ => ⟨I1.kIn, run_fnG Fo hr hb hd (L2N.passAt tk σ) I1 r q⟩) he hpl
  rintro as h1 ρ1 F1 vs H1 ⟨hl, hq⟩ X1 G1 R1
  refine ⟨?_, ρ1, F1, h1, as ++ dd, Qd, Ed, G1, Reps.append R1 (hrep _ _), hq, gq.on X1, gx.on X1⟩
  rw [List.length_append, ← R1.length, ← (hrep ρ1 F1).length]
  exact hl⟩
theorem se_call0 {k n : Nat} {x : Str} {dd : List D} {C : Ct} {p : Pos} (c : Callee X.prog X.w X.K X.mg X.base CA k x n dd C) (hr : Rm k X.A) (hg : Gl X x := by rfl) (hdb : (x == ("__debug__" : Str)) = false := by decide) :
    SE X CA (.Call (.Name x p) [] [] pos) (wCall C n dd wNil) := ⟨fun W tk => by
  obtain ⟨f, fd, ps, ds, dvs, hm, hk, hn, hb, hd, hrep, Fo⟩ := c.ex
  refine ⟨fun pins s σ H Q I hw => ?_⟩
  obtain ⟨ρ, F, env, h, Qd, Ed, G, E, w, gq, gx⟩ := hw
  refine wpAny_Call_Name_kw (ld_glob I hg hm ?_ hdb)
  refine PySem.W.callWith_K0 I.kIn hk (run_fnG (us := []) (E := WE W σ) Fo hr hb hd (L2N.passAt tk σ) I .nil ?_)
  refine ⟨?_, ρ, F, h, [] ++ dd, Qd, Ed, G, Reps.append Reps.nil (hrep _ _), w.2, gq, gx⟩
  have := w.1
  rw [List.nil_append, ← (hrep ρ F).length]
  simpa using this⟩
/-- calls of built-ins by name, of built-in classes -/
theorem se_callB {x : Str} {id : String} {f : fL} {r : List V → Hp → VK → Prop} {p : Pos} {e : Expr} {es : List Expr} {t : wL} (hc : CallR X (.builtin id) r) (hf : LiD X.K CA f r) (hm : X.mg x = none) (hv : bootBuiltins x = some (.builtin id)) (ha : SA X CA (e :: es) t) (hg : Gl X x := by rfl) (hn : x ≠ "__name__" := by decide) (hdb : (x == ("__debug__" : Str)) = false := by decide)
    (he : starEach (e :: es) X.env = (false, eval e X.env) :: starEach es X.env := by rfl) (hpl : (backTo pos (starEach es X.env)).any (·.1) = false := by rfl) :
    SE X CA (.Call (.Name x p) (e :: es) [] pos) (wLi f t) := ⟨fun W tk => PE.of (pe_callB hc hg hm hv (ha.run W tk) hn hdb he hpl) (liD_imp hf)⟩
theorem se_callTy {x : Str} {T : String} {f : fL} {r : List V → Hp → VK → Prop} {p : Pos} {e : Expr} {es : List Expr} {t : wL} (hc : CallR X (.type T) r) (hf : LiD X.K CA f r) (hm : X.mg x = none) (hv : bootBuiltins x = some (.type T)) (ha : SA X CA (e :: es) t) (hg : Gl X x := by rfl) (hn : x ≠ "__name__" := by decide) (hdb : (x == ("__debug__" : Str)) = false := by decide)
    (he : starEach (e :: es) X.env = (false, eval e X.env) :: starEach es X.env := by rfl) (hpl : (backTo pos (starEach es X.env)).any (·.1) = false := by rfl) :
    SE X CA (.Call (.Name x p) (e :: es) [] pos) (wLi f t) := ⟨fun W tk => PE.of (pe_callTy hc hg hm hv (ha.run W tk) hn hdb he hpl) (liD_imp hf)⟩
end
end DL
/-! DL2: tests, statements, loops, the rule for a def. -/
namespace DL
open PySem PySem.Spec PyProof.Rows L2

/-! ### tests -/
def asB (d : D) (p : Bool → Prop) : Prop := match d with
  | .bl b => p b
  | _ => False
def lstOf (h : Hs) : D → Option (List D)
  | .lst ds => some ds
  | .rol ds => some ds
  | .ref i => match h[i]? with
    | some (.lst ds) => some ds
    | _ => none
  | _ => none
/-- a datum's truth -/
def truD (h : Hs) (d : D) (p : Bool → Prop) : Prop := match d with
  | .non => p false
  | .bl b => p b
  | .int i => p (i != 0)
  | .str x => x.length ≤ 16777216 ∧ p ((x.length : Int) != 0)
  | .tup ds => p (!ds.isEmpty)
  | .dic ks _ => p (!ks.isEmpty)
  | .lst ds => p (!ds.isEmpty)
  | .rol ds => p (!ds.isEmpty)
  | .ref i => match h[i]? with
    | some (.lst ds) => p (!ds.isEmpty)
    | some (.dic ks _) => p (!ks.isEmpty)
    | _ => False
  | _ => False
def wB (te : wE) : wT := fun env h Q E => te env h (fun d h1 => asB d fun b => Q b h1) E
def wTru (te : wE) : wT := fun env h Q E => te env h (fun d h1 => truD h1 d fun b => Q b h1) E
def wAnd (a b : wT) : wT := fun env h Q E => a env h (fun c h1 => if c = true then b env h1 Q E else Q false h1) E
def wOr (a b : wT) : wT := fun env h Q E => a env h (fun c h1 => if c = true then Q true h1 else b env h1 Q E) E
def wNot (a : wT) : wT := fun env h Q E => a env h (fun c h1 => Q (!c) h1) E
section
variable {K : PySem.W.Frag} {CA : Nat → Addr} {ρ : List Addr} {F H : Hp} {h : Hs}
theorem isE_rep {ds : List D} {xs : List V} (r : Reps K CA ρ F ds xs) : (!ds.isEmpty) = !xs.isEmpty := by
  have := r.length
  cases ds <;> cases xs <;> simp at this ⊢
theorem lst_at {d : D} {v : V} {ds : List D} (G : GRel K CA ρ F h H) (r : Rep K CA ρ F d v) (e : lstOf h d = some ds) : ∃ a xs, v = .ref a ∧ SqL K H a xs ∧ Reps K CA ρ F ds xs := by
  cases d with
  | lst es =>
    cases e
    obtain ⟨a, xs, e, q, r⟩ := r
    exact ⟨a, xs, e, SqL.of (G.sub _ _ q), r⟩
  | rol es =>
    cases e
    obtain ⟨a, xs, e, q, r⟩ := r
    exact ⟨a, xs, e, G.sqL q, r⟩
  | ref i =>
    obtain ⟨a, ha, e2⟩ := r
    simp only [lstOf] at e
    split at e
    · rename_i ds' hc
      cases e
      obtain ⟨xs, q, r⟩ := G.cell i _ a hc ha
      exact ⟨a, xs, e2, SqL.of q, r⟩
    · cases e
  | _ => cases e
/-- a list that may be handed to a rule that wants a tracked one -/
def lstTr (h : Hs) : D → Option (List D)
  | .lst ds => some ds
  | .ref i => match h[i]? with
    | some (.lst ds) => some ds
    | _ => none
  | _ => none
theorem lst_tr {d : D} {v : V} {ds : List D} (G : GRel K CA ρ F h H) (r : Rep K CA ρ F d v) (e : lstTr h d = some ds) : ∃ a xs, v = .ref a ∧ H a = some (.lst xs) ∧ Reps K CA ρ F ds xs := by
  cases d with
  | lst es =>
    cases e
    obtain ⟨a, xs, e, q, r⟩ := r
    exact ⟨a, xs, e, G.sub _ _ q, r⟩
  | ref i =>
    obtain ⟨a, ha, e2⟩ := r
    simp only [lstTr] at e
    split at e
    · rename_i ds' hc
      cases e
      obtain ⟨xs, q, r⟩ := G.cell i _ a hc ha
      exact ⟨a, xs, e2, q, r⟩
    · cases e
  | _ => cases e
theorem tru_at {d : D} {v : V} {p : Bool → Prop} (G : GRel K CA ρ F h H) (r : Rep K CA ρ F d v) (e : truD h d p) : ∃ k, TruV K v H k ∧ p k := by
  cases d with
  | non =>
    cases (show v = .non from r)
    exact ⟨false, rfl, e⟩
  | bl b =>
    cases (show v = .bl b from r)
    exact ⟨b, rfl, e⟩
  | int i =>
    cases (show v = .int i from r)
    exact ⟨_, rfl, e⟩
  | str x =>
    cases (show v = .str x from r)
    exact ⟨_, ⟨len_line e.1, rfl⟩, e.2⟩
  | tup ds =>
    obtain ⟨a, xs, e1, q, r⟩ := r
    subst e1
    exact ⟨_, .inr (.inl ⟨xs, G.sqT q, isE_rep r⟩), e⟩
  | lst ds =>
    obtain ⟨a, xs, e1, q, r'⟩ := lst_at (d := .lst ds) G r rfl
    subst e1
    exact ⟨_, .inl ⟨xs, q, isE_rep r'⟩, e⟩
  | rol ds =>
    obtain ⟨a, xs, e1, q, r'⟩ := lst_at (d := .rol ds) G r rfl
    subst e1
    exact ⟨_, .inl ⟨xs, q, isE_rep r'⟩, e⟩
  | dic ks ds =>
    obtain ⟨a, xs, e1, q, l, r⟩ := r
    subst e1
    refine ⟨_, .inr (.inr ⟨_, G.sub _ _ q, ?_⟩), e⟩
    have := r.length
    cases ks <;> cases xs <;> simp_all
  | ref i =>
    simp only [truD] at e
    split at e
    · rename_i ds hc
      obtain ⟨a, ha, e2⟩ := r
      obtain ⟨xs, q, r⟩ := G.cell i _ a hc ha
      subst e2
      exact ⟨_, .inl ⟨xs, SqL.of q, isE_rep r⟩, e⟩
    · rename_i ks ds hc
      obtain ⟨a, ha, e2⟩ := r
      obtain ⟨xs, q, l, r⟩ := G.cell i _ a hc ha
      subst e2
      refine ⟨_, .inr (.inr ⟨_, q, ?_⟩), e⟩
      have := r.length
      cases ks <;> cases xs <;> simp_all
    · exact e.elim
  | _ => exact e.elim
end
section
variable {X : Cx} {CA : Nat → Addr} {pos : Pos} {a b c : Expr} {ta tb tc : wE} {tA tB tC : wT}
theorem asB_imp {K : PySem.W.Frag} {W : WX} {te : wE} : ∀ σ H Q, rdT K CA W (wB te) σ H Q → tTest (rd K CA W te) σ H Q := by
  rintro σ H Q ⟨ρ, F, env, h, Qd, Ed, G, E, w, gq, gx⟩
  refine ⟨ρ, F, env, h, _, Ed, G, E, w, ?_, gx⟩
  intro x h1 ρ1 F1 v H1 hq X1 G1 R1
  cases x with
  | bl k =>
    cases (show v = .bl k from R1)
    exact ⟨k, rfl, gq k h1 ρ1 F1 H1 hq X1 G1⟩
  | _ => exact (show False from hq).elim
theorem st_cmp {op : CmpOp} {f : fO} {r : R2} (ho : OpR X (compareOp op) r) (hf : OpD X.K CA f r) (ha : SE X CA a ta) (hb : SE X CA b tb) (hm : behindInMarks op b = false) : ST X CA (.Compare a [op] [b] pos) (wB (wOp f ta tb)) :=
  ⟨fun W tk => PT.of (pt_cmpR ho (ha.run W tk) (hb.run W tk) hm) fun σ H Q w => by
    obtain ⟨ρ, F, env, h, Qd, Ed, G, E, w, gq, gx⟩ := asB_imp σ H Q w
    exact opD_imp hf σ H _ ⟨ρ, F, env, h, Qd, Ed, G, E, w, gq, gx⟩⟩
/-- an expression's truth (names, calls, subscripts, attributes) -/
theorem st_tru {e : Expr} {te : wE} (he : SE X CA e te) (hi : ∀ whole, isTrue e X.env whole = (do let v ← whole; standAt e.pos; holding [v] (truthy v)) := by intro _; rfl) : ST X CA e (wTru te) :=
  ⟨fun W tk => PT.of (pt_truth (he.run W tk) hi) (by
    rintro σ H Q ⟨ρ, F, env, h, Qd, Ed, G, E, w, gq, gx⟩
    refine ⟨ρ, F, env, h, _, Ed, G, E, w, ?_, gx⟩
    intro x h1 ρ1 F1 v H1 hq X1 G1 R1
    obtain ⟨k, t, q⟩ := tru_at G1 R1 hq
    exact ⟨k, t, gq k h1 ρ1 F1 H1 q X1 G1⟩)⟩
theorem SW.st {e : Expr} {t : wT} (h : SW X CA e t) : ST X CA e t := ⟨fun W tk => (h.run W tk).pt⟩
theorem sw_and1 (ha : ST X CA a tA) : SW X CA (.BoolOp .And [a] pos) tA := ⟨fun W tk => pw_and1 (ha.run W tk)⟩
theorem sw_or1 (ha : ST X CA a tA) : SW X CA (.BoolOp .Or [a] pos) tA := ⟨fun W tk => pw_or1 (ha.run W tk)⟩
theorem sw_and {rest : List Expr} (ha : ST X CA a tA) (hb : SW X CA (.BoolOp .And (b :: rest) pos) tB) : SW X CA (.BoolOp .And (a :: b :: rest) pos) (wAnd tA tB) := ⟨fun W tk => PW.of (pw_and (ha.run W tk) (hb.run W tk)) (by
  rintro σ H Q ⟨ρ, F, env, h, Qd, Ed, G, E, w, gq, gx⟩
  refine ⟨ρ, F, env, h, _, Ed, G, E, w, ?_, gx⟩
  intro k h1 ρ1 F1 H1 hq X1 G1
  cases k with
  | true => exact ⟨ρ1, F1, env, h1, Qd, Ed, G1, E.ext X1, hq, gq.on X1, gx.on X1⟩
  | false => exact gq false h1 ρ1 F1 H1 hq X1 G1)⟩
theorem sw_or {rest : List Expr} (ha : ST X CA a tA) (hb : SW X CA (.BoolOp .Or (b :: rest) pos) tB) : SW X CA (.BoolOp .Or (a :: b :: rest) pos) (wOr tA tB) := ⟨fun W tk => PW.of (pw_or (ha.run W tk) (hb.run W tk)) (by
  rintro σ H Q ⟨ρ, F, env, h, Qd, Ed, G, E, w, gq, gx⟩
  refine ⟨ρ, F, env, h, _, Ed, G, E, w, ?_, gx⟩
  intro k h1 ρ1 F1 H1 hq X1 G1
  cases k with
  | false => exact ⟨ρ1, F1, env, h1, Qd, Ed, G1, E.ext X1, hq, gq.on X1, gx.on X1⟩
  | true => exact gq true h1 ρ1 F1 H1 hq X1 G1)⟩
theorem st_not (ha : ST X CA a tA) : ST X CA (.UnaryOp .Not a pos) (wNot tA) := ⟨fun W tk => PT.of (pt_not (ha.run W tk)) (by
  rintro σ H Q ⟨ρ, F, env, h, Qd, Ed, G, E, w, gq, gx⟩
  refine ⟨ρ, F, env, h, _, Ed, G, E, w, ?_, gx⟩
  intro k h1 ρ1 F1 H1 hq X1 G1
  exact gq (!k) h1 ρ1 F1 H1 hq X1 G1)⟩
def wIf (t : wT) (ta tb : wE) : wE := fun env h Q E => t env h (fun c h1 => if c = true then ta env h1 Q E else tb env h1 Q E) E
theorem se_if (hc : ST X CA c tC) (ha : SE X CA a ta) (hb : SE X CA b tb) : SE X CA (.IfExp c a b pos) (wIf tC ta tb) := ⟨fun W tk => PE.of (pe_ifExp (hc.run W tk) (ha.run W tk) (hb.run W tk)) (by
  rintro σ H Q ⟨ρ, F, env, h, Qd, Ed, G, E, w, gq, gx⟩
  refine ⟨ρ, F, env, h, _, Ed, G, E, w, ?_, gx⟩
  intro k h1 ρ1 F1 H1 hq X1 G1
  cases k with
  | true => exact ⟨ρ1, F1, env, h1, Qd, Ed, G1, E.ext X1, hq, gq.on X1, gx.on X1⟩
  | false => exact ⟨ρ1, F1, env, h1, Qd, Ed, G1, E.ext X1, hq, gq.on X1, gx.on X1⟩)⟩
/-- and, or, not as values; all but the last are True or False -/
def wAndV (ta tb : wE) : wE := fun env h Q E => ta env h (fun d h1 => asB d fun c => if c = true then tb env h1 Q E else Q (.bl false) h1) E
def wOrV (ta tb : wE) : wE := fun env h Q E => ta env h (fun d h1 => asB d fun c => if c = true then Q (.bl true) h1 else tb env h1 Q E) E
def wNotV (ta : wE) : wE := fun env h Q E => ta env h (fun d h1 => asB d fun c => Q (.bl (!c)) h1) E
theorem se_one {op : BoolOp} (ha : SE X CA a ta) : SE X CA (.BoolOp op [a] pos) ta := ⟨fun W tk => pe_one (ha.run W tk)⟩
theorem se_and {rest : List Expr} (ha : SE X CA a ta) (hb : SE X CA (.BoolOp .And (b :: rest) pos) tb) : SE X CA (.BoolOp .And (a :: b :: rest) pos) (wAndV ta tb) := ⟨fun W tk => PE.of (pe_and (ha.run W tk) (hb.run W tk)) (by
  rintro σ H Q ⟨ρ, F, env, h, Qd, Ed, G, E, w, gq, gx⟩
  refine ⟨ρ, F, env, h, _, Ed, G, E, w, ?_, gx⟩
  intro x h1 ρ1 F1 v H1 hq X1 G1 R1
  cases x with
  | bl k =>
    cases (show v = .bl k from R1)
    refine ⟨k, rfl, ?_⟩
    cases k with
    | true => exact ⟨ρ1, F1, env, h1, Qd, Ed, G1, E.ext X1, hq, gq.on X1, gx.on X1⟩
    | false => exact gq (.bl false) h1 ρ1 F1 _ H1 hq X1 G1 rfl
  | _ => exact (show False from hq).elim)⟩
theorem se_or {rest : List Expr} (ha : SE X CA a ta) (hb : SE X CA (.BoolOp .Or (b :: rest) pos) tb) : SE X CA (.BoolOp .Or (a :: b :: rest) pos) (wOrV ta tb) := ⟨fun W tk => PE.of (pe_or (ha.run W tk) (hb.run W tk)) (by
  rintro σ H Q ⟨ρ, F, env, h, Qd, Ed, G, E, w, gq, gx⟩
  refine ⟨ρ, F, env, h, _, Ed, G, E, w, ?_, gx⟩
  intro x h1 ρ1 F1 v H1 hq X1 G1 R1
  cases x with
  | bl k =>
    cases (show v = .bl k from R1)
    refine ⟨k, rfl, ?_⟩
    cases k with
    | false => exact ⟨ρ1, F1, env, h1, Qd, Ed, G1, E.ext X1, hq, gq.on X1, gx.on X1⟩
    | true => exact gq (.bl true) h1 ρ1 F1 _ H1 hq X1 G1 rfl
  | _ => exact (show False from hq).elim)⟩
theorem se_not (ha : SE X CA a ta) : SE X CA (.UnaryOp .Not a pos) (wNotV ta) := ⟨fun W tk => PE.of (pe_not (ha.run W tk)) (by
  rintro σ H Q ⟨ρ, F, env, h, Qd, Ed, G, E, w, gq, gx⟩
  refine ⟨ρ, F, env, h, _, Ed, G, E, w, ?_, gx⟩
  intro x h1 ρ1 F1 v H1 hq X1 G1 R1
  cases x with
  | bl k =>
    cases (show v = .bl k from R1)
    exact ⟨k, rfl, gq (.bl (!k)) h1 ρ1 F1 _ H1 hq X1 G1 rfl⟩
  | _ => exact (show False from hq).elim)⟩
/-- a < b < c -/
def wChain (f g : fO) (ta tb tc : wE) : wE := fun env h Q E => ta env h (fun x h1 => tb env h1 (fun y h2 => f x y h2 (fun z h3 => asB z fun k => if k = true then tc env h3 (fun w h4 => g y w h4 Q) E else Q (.bl false) h3)) E) E
theorem chain_imp {K : PySem.W.Frag} {W : WX} {f g : fO} {r r' : R2} (hf : OpD K CA f r) (hg : OpD K CA g r') : ∀ σ H Q, rd K CA W (wChain f g ta tb tc) σ H Q → tChain r r' (rd K CA W ta) (rd K CA W tb) (rd K CA W tc) σ H Q := by
  rintro σ H Q ⟨ρ, F, env, h, Qd, Ed, G, E, w, gq, gx⟩
  refine ⟨ρ, F, env, h, _, Ed, G, E, w, ?_, gx⟩
  intro x h1 ρ1 F1 v H1 hq X1 G1 R1
  refine ⟨ρ1, F1, env, h1, _, Ed, G1, E.ext X1, hq, ?_, gx.on X1⟩
  intro y h2 ρ2 F2 u H2 hq2 X2 G2 R2
  refine hf _ _ _ _ _ _ _ _ _ _ G2 (R1.ext X2) R2 hq2 ?_
  intro z h3 ρ3 F3 t H3 hq3 X3 G3 R3
  cases z with
  | bl k =>
    cases (show t = .bl k from R3)
    refine ⟨k, rfl, ?_⟩
    cases k with
    | false => exact gq (.bl false) h3 ρ3 F3 _ H3 hq3 ((X1.trans X2).trans X3) G3 rfl
    | true =>
      rw [if_pos rfl]
      refine ⟨ρ3, F3, env, h3, _, Ed, G3, E.ext ((X1.trans X2).trans X3), hq3, ?_, gx.on ((X1.trans X2).trans X3)⟩
      intro w' h4 ρ4 F4 t' H4 hq4 X4 G4 R4
      exact hg _ _ _ _ _ _ _ _ _ _ G4 ((R2.ext X3).ext X4) R4 hq4 (gq.on (((X1.trans X2).trans X3).trans X4))
  | _ => exact (show False from hq3).elim
theorem se_chain {op op' : CmpOp} {f g : fO} {r r' : R2} (ho : OpR X (compareOp op) r) (hf : OpD X.K CA f r) (ho' : OpR X (compareOp op') r') (hg : OpD X.K CA g r') (ha : SE X CA a ta) (hb : SE X CA b tb) (hc : SE X CA c tc)
    (hm : lastMarks [op, op'] [b, c] = false := by with_unfolding_all rfl) : SE X CA (.Compare a [op, op'] [b, c] pos) (wChain f g ta tb tc) :=
  ⟨fun W tk => PE.of (pe_chain ho ho' (ha.run W tk) (hb.run W tk) (hc.run W tk) hm) (chain_imp hf hg)⟩
theorem st_chain {op op' : CmpOp} {f g : fO} {r r' : R2} (ho : OpR X (compareOp op) r) (hf : OpD X.K CA f r) (ho' : OpR X (compareOp op') r') (hg : OpD X.K CA g r') (ha : SE X CA a ta) (hb : SE X CA b tb) (hc : SE X CA c tc)
    (hm : lastMarks [op, op'] [b, c] = false := by with_unfolding_all rfl) : ST X CA (.Compare a [op, op'] [b, c] pos) (wB (wChain f g ta tb tc)) :=
  ⟨fun W tk => PT.of (pt_chain ho ho' (ha.run W tk) (hb.run W tk) (hc.run W tk) hm) fun σ H Q w => by
    obtain ⟨ρ, F, env, h, Qd, Ed, G, E, w, gq, gx⟩ := asB_imp σ H Q w
    exact chain_imp hf hg σ H _ ⟨ρ, F, env, h, Qd, Ed, G, E, w, gq, gx⟩⟩
end

/-! ### statements -/
section
variable {X : Cx} {CA : Nat → Addr} {pos : Pos}
def wNext : wS := fun D env h => D.nx env h
def wSeq (t u : wS) : wS := fun D env h => t { D with nx := u D } env h
def wRet (te : wE) : wS := fun D env h => te env h D.rt (fun x h1 => D.ex x env h1)
def wRetN : wS := fun D _ h => D.rt .non h
def wAsg (i : Nat) (te : wE) : wS := fun D env h => te env h (fun d h1 => D.nx (env.set i (some d)) h1) (fun x h1 => D.ex x env h1)
def wDrop (te : wE) : wS := fun D env h => te env h (fun _ h1 => D.nx env h1) (fun x h1 => D.ex x env h1)
def wIfS (tt : wT) (t u : wS) : wS := fun D env h => tt env h (fun b h1 => if b = true then t D env h1 else u D env h1) (fun x h1 => D.ex x env h1)
theorem GoXS.atE {K : PySem.W.Frag} {ρ : List Addr} {F H : Hp} {env : Env} {σ : L2.St} {Ed : Exc → Env → Hs → Prop} {W : WX} (g : GoXS K CA ρ F H Ed W) (E : ERel K CA ρ F env σ) : GoX K CA ρ F H (fun x h1 => Ed x env h1) (WE W σ) := g.at E
theorem ERel.set {K : PySem.W.Frag} {ρ : List Addr} {F : Hp} {env : Env} {σ : L2.St} (E : ERel K CA ρ F env σ) {d : D} {v : V} (r : Rep K CA ρ F d v) (i : Nat) : ERel K CA ρ F (env.set i (some d)) (σ.set i (some v)) := by
  refine ⟨by rw [List.length_set, List.length_set]; exact E.1, fun k d' e => ?_⟩
  by_cases hk : i = k
  · subst hk
    have hl : i < env.length := by
      have := (List.getElem?_eq_some_iff.mp e).1
      rw [List.length_set] at this
      exact this
    rw [List.getElem?_set_self hl] at e
    cases e
    exact ⟨v, by rw [List.getElem?_set_self (by rw [← E.1]; exact hl)], r⟩
  · rw [List.getElem?_set_ne hk] at e
    rw [List.getElem?_set_ne hk]
    exact E.2 k d' e
theorem sss_nil : SSs X CA [] wNext := ⟨fun W tk => PSs.of pss_nil (by
  rintro D σ H ⟨ρ, F, env, h, Dd, G, E, w, g⟩
  exact g.nx env h ρ F σ H w (Ext.refl G) G E)⟩
theorem ss_pass : SS X CA (.Pass pos) wNext := ⟨fun W tk => PS.of ps_pass (by
  rintro D σ H ⟨ρ, F, env, h, Dd, G, E, w, g⟩
  exact g.nx env h ρ F σ H w (Ext.refl G) G E)⟩
theorem ss_doc {x : Str} {j : Nat} {p p' : Pos} : SS X CA (.Expr (.Constant (.str x) j p) p') wNext := ⟨fun W tk => PS.of ps_doc (by
  rintro D σ H ⟨ρ, F, env, h, Dd, G, E, w, g⟩
  exact g.nx env h ρ F σ H w (Ext.refl G) G E)⟩
def wBrk : wS := fun D env h => D.bk env h
def wCnt : wS := fun D env h => D.ct env h
theorem ss_break : SS X CA (.Break pos) wBrk := ⟨fun W tk => PS.of ps_break (by
  rintro D σ H ⟨ρ, F, env, h, Dd, G, E, w, g⟩
  exact g.bk env h ρ F σ H w (Ext.refl G) G E)⟩
theorem ss_continue : SS X CA (.Continue pos) wCnt := ⟨fun W tk => PS.of ps_continue (by
  rintro D σ H ⟨ρ, F, env, h, Dd, G, E, w, g⟩
  exact g.ct env h ρ F σ H w (Ext.refl G) G E)⟩
theorem seq_imp {K : PySem.W.Frag} {W : WX} {t u : wS} : ∀ D σ H, rdS K CA W (wSeq t u) D σ H → tSeq (rdS K CA W t) (rdS K CA W u) D σ H := by
  rintro D σ H ⟨ρ, F, env, h, Dd, G, E, w, g⟩
  refine ⟨ρ, F, env, h, { Dd with nx := u Dd }, G, E, w, ⟨?_, g.rt, g.bk, g.ct, g.ex⟩⟩
  intro env' h' ρ' F' σ' H' hq X1 G1 E1
  exact ⟨ρ', F', env', h', Dd, G1, E1, hq, g.on X1⟩
theorem sss_cons {s : Stmt} {ss : List Stmt} {t u : wS} (h1 : SS X CA s t) (h2 : SSs X CA ss u) : SSs X CA (s :: ss) (wSeq t u) := ⟨fun W tk => PSs.of (pss_cons (h1.run W tk) (h2.run W tk)) seq_imp⟩
theorem sss_one {s : Stmt} {t : wS} (h1 : SS X CA s t) : SSs X CA [s] t := ⟨fun W tk => pss_one (h1.run W tk)⟩
/-- a statement that is not reached -/
def wNever : wS := fun _ _ _ => False
theorem ss_never {s : Stmt} : SS X CA s wNever := ⟨fun W tk => PS.of ps_never (by
  rintro D σ H ⟨ρ, F, env, h, Dd, G, E, w, g⟩
  exact (show False from w).elim)⟩
theorem sss_never {s : List Stmt} : SSs X CA s wNever := ⟨fun W tk => PSs.of pss_never (by
  rintro D σ H ⟨ρ, F, env, h, Dd, G, E, w, g⟩
  exact (show False from w).elim)⟩
theorem ss_ret {e : Expr} {te : wE} (he : SE X CA e te) : SS X CA (.Return (some e) pos) (wRet te) := ⟨fun W tk => PS.of (ps_ret (he.run W tk)) (by
  rintro D σ H ⟨ρ, F, env, h, Dd, G, E, w, g⟩
  exact ⟨ρ, F, env, h, Dd.rt, _, G, E, w, g.rt, g.ex.at E⟩)⟩
theorem ss_retN : SS X CA (.Return none pos) wRetN := ⟨fun W tk => PS.of ps_retN (by
  rintro D σ H ⟨ρ, F, env, h, Dd, G, E, w, g⟩
  exact g.rt .non h ρ F .non H w (Ext.refl G) G rfl)⟩
theorem ss_set {i : Nat} {x : Str} {e : Expr} {te : wE} {pos' : Pos} (he : SE X CA e te) (hN : X.N.Nodup) (hi : X.N[i]? = some x := by rfl) (hx : Loc X.env.scope x := by first | exact Or.inl rfl | exact Or.inr rfl)
    (hs : swapsWith e (some (.Name x pos')) pos.line X.env = pure false := by rfl) (hf : X.fn x = true ∨ X.env.scope.names.lookup x = some .local := by first | exact .inl rfl | exact .inr rfl) : SS X CA (.Assign [.Name x pos'] e pos) (wAsg i te) :=
  ⟨fun W tk => PS.of (ps_set hN hi hx (he.run W tk) hs hf) (by
    rintro D σ H ⟨ρ, F, env, h, Dd, G, E, w, g⟩
    refine ⟨ρ, F, env, h, _, _, G, E, w, ?_, g.ex.at E⟩
    intro d h1 ρ1 F1 v H1 hq X1 G1 R1
    exact g.nx _ _ _ _ _ _ hq X1 G1 ((E.ext X1).set R1 i))⟩
theorem ss_expr {e : Expr} {te : wE} (he : SE X CA e te) (hs : swapsWith e none pos.line X.env = pure false := by rfl) : SS X CA (.Expr e pos) (wDrop te) := ⟨fun W tk => PS.of (ps_expr (he.run W tk) hs) (by
  rintro D σ H ⟨ρ, F, env, h, Dd, G, E, w, g⟩
  refine ⟨ρ, F, env, h, _, _, G, E, w, ?_, g.ex.at E⟩
  intro d h1 ρ1 F1 v H1 hq X1 G1 R1
  exact g.nx _ _ _ _ _ _ hq X1 G1 (E.ext X1))⟩
theorem ss_if {c : Expr} {a b : List Stmt} {tc : wT} {t u : wS} (hc : ST X CA c tc) (ha : SSs X CA a t) (hb : SSs X CA b u) : SS X CA (.If c a b pos) (wIfS tc t u) := ⟨fun W tk => PS.of (ps_if (hc.run W tk) (ha.run W tk) (hb.run W tk)) (by
  rintro D σ H ⟨ρ, F, env, h, Dd, G, E, w, g⟩
  refine ⟨ρ, F, env, h, _, _, G, E, w, ?_, g.ex.at E⟩
  intro k h1 ρ1 F1 H1 hq X1 G1
  cases k with
  | true => exact ⟨ρ1, F1, env, h1, Dd, G1, E.ext X1, hq, g.on X1⟩
  | false => exact ⟨ρ1, F1, env, h1, Dd, G1, E.ext X1, hq, g.on X1⟩)⟩
/-- a, b = e1, e2 | a, b, c = e1, e2, e3 -/
def wPar (i j : Nat) (ta : wL) : wS := fun D env h => ta env h (fun ds h1 => ∃ a b, ds = [a, b] ∧ D.nx ((env.set i (some a)).set j (some b)) h1) (fun x h1 => D.ex x env h1)
def wPar3 (i j l : Nat) (ta : wL) : wS := fun D env h => ta env h (fun ds h1 => ∃ a b c, ds = [a, b, c] ∧ D.nx (((env.set i (some a)).set j (some b)).set l (some c)) h1) (fun x h1 => D.ex x env h1)
theorem ss_par {i j : Nat} {x y : Str} {a b : Expr} {ta : wL} {px py pt : Pos} {kt k2 pt2} (ha : SA X CA [a, b] ta) (hN : X.N.Nodup) (hi : X.N[i]? = some x := by rfl) (hj : X.N[j]? = some y := by rfl) (hij : i ≠ j := by decide)
    (hx : X.env.scope.names.lookup x = some .local := by rfl) (hy : X.env.scope.names.lookup y = some .local := by rfl)
    (hw : swappedStores [.Tuple [.Name x px, .Name y py] kt pt] (.Tuple [a, b] k2 pt2) X.env = pure (some [x, y]) := by rfl)
    (hs : swapsWithSole [.Tuple [.Name x px, .Name y py] kt pt] (.Tuple [a, b] k2 pt2) pos.line X.env = pure false := by rfl) (hc : X.calm = true := by rfl) :
    SS X CA (.Assign [.Tuple [.Name x px, .Name y py] kt pt] (.Tuple [a, b] k2 pt2) pos) (wPar i j ta) := ⟨fun W tk => PS.of (ps_par hc hN hi hj hij hx hy (ha.run W tk) hw hs) (by
  rintro D σ H ⟨ρ, F, env, h, Dd, G, E, w, g⟩
  refine ⟨ρ, F, env, h, _, _, G, E, w, ?_, g.ex.at E⟩
  rintro ds h1 ρ1 F1 vs H1 ⟨d1, d2, rfl, hq⟩ X1 G1 R1
  obtain ⟨v1, r1, rfl, R1, v2, r2, rfl, R2, e⟩ := R1
  cases (show r2 = [] from e)
  exact ⟨v1, v2, rfl, g.nx _ _ _ _ _ _ hq X1 G1 (((E.ext X1).set R1 i).set R2 j)⟩)⟩
theorem ss_par3 {i j l : Nat} {x y z : Str} {a b c : Expr} {ta : wL} {px py pz pt : Pos} {kt k2 pt2} (ha : SA X CA [a, b, c] ta) (hN : X.N.Nodup) (hi : X.N[i]? = some x := by rfl) (hj : X.N[j]? = some y := by rfl) (hl : X.N[l]? = some z := by rfl) (hij : i ≠ j := by decide) (hil : i ≠ l := by decide) (hjl : j ≠ l := by decide)
    (hx : X.env.scope.names.lookup x = some .local := by rfl) (hy : X.env.scope.names.lookup y = some .local := by rfl) (hz : X.env.scope.names.lookup z = some .local := by rfl)
    (hw : swappedStores [.Tuple [.Name x px, .Name y py, .Name z pz] kt pt] (.Tuple [a, b, c] k2 pt2) X.env = pure (some [x, y, z]) := by rfl)
    (hs : swapsWithSole [.Tuple [.Name x px, .Name y py, .Name z pz] kt pt] (.Tuple [a, b, c] k2 pt2) pos.line X.env = pure false := by rfl) (hc : X.calm = true := by rfl) :
    SS X CA (.Assign [.Tuple [.Name x px, .Name y py, .Name z pz] kt pt] (.Tuple [a, b, c] k2 pt2) pos) (wPar3 i j l ta) := ⟨fun W tk => PS.of (ps_par3 hc hN hi hj hl hij hil hjl hx hy hz (ha.run W tk) hw hs) (by
  rintro D σ H ⟨ρ, F, env, h, Dd, G, E, w, g⟩
  refine ⟨ρ, F, env, h, _, _, G, E, w, ?_, g.ex.at E⟩
  rintro ds h1 ρ1 F1 vs H1 ⟨d1, d2, d3, rfl, hq⟩ X1 G1 R1
  obtain ⟨v1, r1, rfl, R1, v2, r2, rfl, R2, v3, r3, rfl, R3, e⟩ := R1
  cases (show r3 = [] from e)
  exact ⟨v1, v2, v3, rfl, g.nx _ _ _ _ _ _ hq X1 G1 ((((E.ext X1).set R1 i).set R2 j).set R3 l)⟩)⟩
/-- x op= e -/
def wAug (i : Nat) (te : wE) (f : fO) : wS := fun D env h => onSlot env[i]? fun d => te env h (fun e h1 => f d e h1 (fun r h2 => D.nx (env.set i (some r)) h2)) (fun x h1 => D.ex x env h1)
theorem ss_aug {i : Nat} {x : Str} {e : Expr} {te : wE} {op : Operator} {f : fO} {ti : TIp} {pos' : Pos} (ho : PIp X op ti) (hf : OpD X.K CA f ti) (he : SE X CA e te) (hN : X.N.Nodup) (hi : X.N[i]? = some x := by rfl) (hx : Loc X.env.scope x := by first | exact Or.inl rfl | exact Or.inr rfl)
    (hfn : X.fn x = true ∨ X.env.scope.names.lookup x = some .local := by first | exact .inl rfl | exact .inr rfl) : SS X CA (.AugAssign (.Name x pos') op e pos) (wAug i te f) := ⟨fun W tk => PS.of (ps_aug hN hi hx (he.run W tk) ho hfn) (by
  rintro D σ H ⟨ρ, F, env, h, Dd, G, E, w, g⟩
  unfold wAug onSlot at w
  split at w
  · rename_i d e1
    obtain ⟨v, e2, r⟩ := E.2 i d e1
    refine ⟨v, e2, ρ, F, env, h, _, _, G, E, w, ?_, g.ex.at E⟩
    intro d2 h1 ρ1 F1 v2 H1 hq X1 G1 R1
    refine hf _ _ _ _ _ _ _ _ _ _ G1 (r.ext X1) R1 hq ?_
    intro d3 h2 ρ2 F2 v3 H2 hq2 X2 G2 R2
    exact g.nx _ _ _ _ _ _ hq2 (X1.trans X2) G2 (((E.ext X1).ext X2).set R2 i)
  · exact w.elim)⟩
/-- o[i] = e, o a cell of a list -/
def setIxD (o i v : D) (h : Hs) (p : Hs → Prop) : Prop := match o, i with
  | .ref j, .int k => match h[j]? with
    | some (.lst ds) => match ixN ds.length k with
      | some n => p (h.set j (.lst (ds.set n v)))
      | none => False
    | _ => False
  | _, _ => False
def wSetIx (to ti te : wE) : wS := fun D env h => te env h (fun v h1 => to env h1 (fun o h2 => ti env h2 (fun i h3 => setIxD o i v h3 (fun h4 => D.nx env h4)) (fun x h1 => D.ex x env h1)) (fun x h1 => D.ex x env h1)) (fun x h1 => D.ex x env h1)
theorem ss_setIx {o i e : Expr} {to ti te : wE} {p : Pos} (he : SE X CA e te) (ho : SE X CA o to) (hi : SE X CA i ti) (hs : swapsWithSole [.Subscript o i p] e pos.line X.env = pure false := by rfl) (hw : swappedStores [.Subscript o i p] e X.env = pure none := by rfl)
    (h1 : (assignEach [.Subscript o i p] X.env).map (·.2) = [assign (.Subscript o i p) X.env] := by rfl)
    (ha : ∀ v, assign (.Subscript o i p) X.env v = (do
      let ov ← holding [v] (eval o X.env)
      let iv ← holding [v, ov] (eval i X.env)
      standAt p
      holding [v, ov, iv] (setItem ov iv v)
      release [v, ov, iv] []) := by intro _; rfl) : SS X CA (.Assign [.Subscript o i p] e pos) (wSetIx to ti te) := ⟨fun W tk => PS.of (ps_asg (he.run W tk) (pg_sub (ho.run W tk) (hi.run W tk) set_list ha) hs hw h1) (by
  rintro D σ H ⟨ρ, F, env, h, Dd, G, E, w, g⟩
  refine ⟨ρ, F, env, h, _, _, G, E, w, ?_, g.ex.at E⟩
  intro d h1 ρ1 F1 v H1 hq X1 G1 R1
  refine ⟨ρ1, F1, env, h1, _, _, G1, E.ext X1, hq, ?_, (g.ex.on X1).at (E.ext X1)⟩
  intro d2 h2 ρ2 F2 v2 H2 hq2 X2 G2 R2
  refine ⟨ρ2, F2, env, h2, _, _, G2, E.ext (X1.trans X2), hq2, ?_, (g.ex.on (X1.trans X2)).at (E.ext (X1.trans X2))⟩
  intro d3 h3 ρ3 F3 v3 H3 hq3 X3 G3 R3
  unfold setIxD at hq3
  split at hq3
  · rename_i j k
    split at hq3
    · rename_i ds hc
      split at hq3
      · rename_i n hn
        obtain ⟨a, ha, rfl⟩ := R2.ext X3
        cases (show v3 = .int k from R3)
        obtain ⟨xs, hx, r⟩ := G3.cell j _ a hc ha
        refine ⟨a, xs, k, n, rfl, rfl, hx, by rw [← r.length]; exact hn, ?_⟩
        have rv := (R1.ext X2).ext X3
        obtain ⟨G4, X4⟩ := G3.cellSet hc ha (.lst (xs.set n v)) (c := .lst (ds.set n d)) ⟨_, upd_same, Reps.set rv n r⟩
        exact g.nx _ _ _ _ _ _ hq3 (((X1.trans X2).trans X3).trans X4) G4 (E.ext (((X1.trans X2).trans X3).trans X4))
      · exact hq3.elim
    · exact hq3.elim
  · exact hq3.elim)⟩
end

/-! ### the rule for a def -/
section
variable {P : Program} {w : World} {K : PySem.W.Frag} {mg : Str → Option Value} {base : Heap} {CA : Nat → Addr}
def endsOf (Q : PQ) (E : PX) : Dn := { nx := fun _ h => Q .non h, rt := Q, ex := fun x _ h => E x h }
theorem erel_start {ρ : List Addr} {F : Hp} {N : List Str} {ds : List D} {vs : List V} (r : Reps K CA ρ F ds vs) : ERel K CA ρ F (ds.map some ++ List.replicate (N.length - ds.length) none) (L2.start N vs) := by
  refine ⟨?_, fun k d e => ?_⟩
  · unfold L2.start
    rw [List.length_append, List.length_append, List.length_map, List.length_map, r.length]
    simp
  · unfold L2.start
    by_cases hk : k < ds.length
    · rw [List.getElem?_append_left (by simpa using hk), List.getElem?_map] at e
      cases e2 : ds[k]? with
      | none =>
        rw [e2] at e
        cases e
      | some d2 =>
        rw [e2] at e
        cases e
        obtain ⟨v, h1, h2⟩ := r.get e2
        refine ⟨v, ?_, h2⟩
        rw [List.getElem?_append_left (by rw [List.length_map, ← r.length]; exact hk), List.getElem?_map, h1]
        rfl
    · rw [List.getElem?_append_right (by simpa using hk)] at e
      have := List.mem_of_getElem? e
      simp at this
theorem fnD {x qual : Str} {st : Stmt} {f : Addr} {fd : FuncData} {N ps : List Str} {k : Nat} {C : Ct} {t : wS} (Fo : Fun K x qual st f fd) (S : FnScope N ps (defScope st))
    (hb : ∀ cdv A outer s H E, Rm k (A.deeper (envOfC qual (defScope st) s.heap.objs.size f cdv)) → SSs (cxOf (L2N.CX P w) P w K mg base N qual (defScope st) f cdv A outer s H E) CA (defBody st) t)
    (vc : ∀ ds h Q E, ds.length = ps.length → C ds h Q E → t (endsOf Q E) (ds.map some ++ List.replicate (N.length - ds.length) none) h) :
    FnG P w K mg base (L2N.CX P w) (k + 1) f fd ps (spD K CA ps.length C) := by
  obtain ⟨oc, od, kV, doc, pm, an, cdv, ct, osl, rfl, lk, hcd⟩ := Fo.ex
  refine ⟨fun vs H Q E h => h.1, fun A outer s H args us vs Q E hr e0 hbd r hsp => ?_⟩
  have hl := hsp.1
  have KX : K.In s.heap := e0.mod.kin.keeps fun b o e => (e0.bs b o e).1
  have lim : s.heap.NoLimit := e0.mod.nolimit.keeps fun b o e => (e0.bs b o e).1
  have kinds : ∀ y ∈ ps.zip us, (defScope st).names.lookup y.1 = some .local ∨ ((defScope st).names.lookup y.1 = some .cell ∧ ((cellsFrom (s.heap.objs.size + 1) (defScope st).names []).lookup y.1).isSome = true) := fun y hy => by
    rcases S.par y.1 (List.of_mem_zip (a := y.1) (b := y.2) hy).1 with q | q
    · exact .inl q
    · exact .inr ⟨q, PySem.W.cellsFrom_some _ _ _ (.inl q)⟩
  refine codeAny_call_function hr.room.depth (KX _ _ lk) rfl S.co S.gen rfl (PySem.W.codeRec_of KX hcd) (hbd _ _ _ _ ?_)
  refine wpAny_newFunctionEnv_cells S.kind kinds fun env he s1 x => ?_
  subst he
  refine ⟨lim.keeps x.toInCall.keep, codeAny_func ?_⟩
  have I : Inv (cxOf (L2N.CX P w) P w K mg base N qual (defScope st) f cdv A outer s H E) [] (L2.start N vs) H s1 := inv_start S hr.room.hd e0 hl r x
  obtain ⟨_, ρ, F, h, ds, Qd, Ed, G, R, c, gq, gx⟩ := hsp
  have hq : rdS K CA (fun cls d _ H => E cls d H) t { nx := fun _ H' => Q .non H', rt := Q } (L2.start N vs) H := by
    refine ⟨ρ, F, _, h, endsOf Qd Ed, G, erel_start R, vc ds h Qd Ed (by rw [R.length]; exact hl) c, ?_⟩
    refine ⟨fun env' h' ρ' F' σ' H' hq X1 G1 E1 => gq .non h' ρ' F' .non H' hq X1 G1 rfl, gq, fun _ _ _ _ _ _ hq => hq.elim, fun _ _ _ _ _ _ hq => hq.elim, fun xx env' h' ρ' F' σ' H' cls dd hq X1 G1 E1 R1 => gx xx h' ρ' F' H' cls dd hq X1 G1 R1⟩
  have hrd : Rm k (A.deeper (envOfC qual (defScope st) s.heap.objs.size f cdv)) := ⟨hr.room.deeper _, hr.gd⟩
  refine wpAny_mono (((hb cdv A outer s H E hrd).run _ (L2N.takes_of rfl rfl rfl rfl)).run [] s1 (L2.start N vs) H _ I hq) (fun fl s' hs => ?_) fun e s' hs => hs
  have fin : ∀ {σ' : L2.St} {H' : Hp} {v : V} {u : Value}, Inv (cxOf (L2N.CX P w) P w K mg base N qual (defScope st) f cdv A outer s H E) [] σ' H' s' → RelV v u → Q v H' → CE outer P w H s Q u s' :=
    fun {σ' H' v u} J rv q => ⟨v, H', J.os, J.bare, J.base, J.hok, rv, q⟩
  match fl, hs with
  | .ret u, ⟨v, σ', H', J, rv, q⟩ => exact fin J rv q
  | .next, ⟨σ', H', J, q⟩ => exact fin (v := V.non) (u := Value.none) J rfl q
  | .brk, ⟨_, _, _, q⟩ => exact q.elim
  | .cont, ⟨_, _, _, q⟩ => exact q.elim
/-- a weaker contract -/
theorem Callee.imp {k n : Nat} {x : Str} {dd : List D} {C C' : Ct} (c : Callee P w K mg base CA k x n dd C) (i : ∀ ds h Q E, C' ds h Q E → C ds h Q E) : Callee P w K mg base CA k x n dd C' := by
  obtain ⟨f, fd, ps, ds, dvs, hm, hk, hn, hb, hd, hrep, Fo⟩ := c.ex
  exact ⟨f, fd, ps, ds, dvs, hm, hk, hn, hb, hd, hrep, Fo.imp fun vs H Q E ⟨l, ρ, F, h, es, Qd, Ed, G, R, q, r⟩ => ⟨l, ρ, F, h, es, Qd, Ed, G, R, i _ _ _ _ q, r⟩⟩
theorem Callee.mono {k k' n : Nat} {x : Str} {dd : List D} {C : Ct} (c : Callee P w K mg base CA k x n dd C) (i : k ≤ k') : Callee P w K mg base CA k' x n dd C := by
  obtain ⟨f, fd, ps, ds, dvs, hm, hk, hn, hb, hd, hrep, Fo⟩ := c.ex
  exact ⟨f, fd, ps, ds, dvs, hm, hk, hn, hb, hd, hrep, Fo.mono i⟩
theorem callee_mk {x : Str} {f : Addr} {fd : FuncData} {ps : List Str} {k : Nat} {C : Ct} (hm : mg x = some (.ref f)) (hk : PySem.W.keepIn K (.ref f) = true) (hb : Binds K fd ps []) (Fo : FnG P w K mg base (L2N.CX P w) k f fd ps (spD K CA ps.length C)) : Callee P w K mg base CA k x ps.length [] C :=
  ⟨f, fd, ps, [], [], hm, hk, rfl, hb, .nil, fun _ _ => Reps.nil, Fo⟩
end
end DL
/-! DL3: what a loop or a comprehension walks (IterD, SI), targets (SG), for, while, list comprehensions. -/
namespace DL
open PySem PySem.Spec PyProof.Rows L2

/-- J gives the data ds, one by one, at every later state -/
def IterD (K : PySem.W.Frag) (CA : Nat → Addr) (ρ : List Addr) (F H : Hp) (J : It) (ds : List D) : Prop :=
  ∀ ρ1 F1 h1 H1, Ext ρ F H ρ1 F1 H1 → GRel K CA ρ1 F1 h1 H1 → (∀ i, i < ds.length → J.go i H1) ∧ J.stop ds.length H1 ∧
    ∀ i x H2, i < ds.length → J.yld i H1 x H2 → ∃ F2 d, Ext ρ1 F1 H1 ρ1 F2 H2 ∧ GRel K CA ρ1 F2 h1 H2 ∧ ds[i]? = some d ∧ Rep K CA ρ1 F2 d x
def rdI (K : PySem.W.Frag) (CA : Nat → Addr) (W : WX) (t : wL) : TI := fun σ H R => ∃ ρ F env h Qd Ed, GRel K CA ρ F h H ∧ ERel K CA ρ F env σ ∧ t env h Qd Ed ∧
  (∀ ds h' ρ' F' H' J, Qd ds h' → Ext ρ F H ρ' F' H' → GRel K CA ρ' F' h' H' → IterD K CA ρ' F' H' J ds → R J H') ∧ GoX K CA ρ F H Ed (WE W σ)
structure SI (X : Cx) (CA : Nat → Addr) (tg iter : Expr) (t : wL) : Prop where
  run : ∀ W, L2N.Takes X W → PI X tg iter (rdI X.K CA W t)
/-- a target by data -/
abbrev wG := D → Env → (Env → Prop) → Prop
def rdG (K : PySem.W.Frag) (CA : Nat → Addr) (g : wG) : TG := fun v σ H Q => ∃ ρ F h env d Qd, GRel K CA ρ F h H ∧ ERel K CA ρ F env σ ∧ Rep K CA ρ F d v ∧ g d env Qd ∧ ∀ env' σ', Qd env' → ERel K CA ρ F env' σ' → Q σ' H
structure SG (X : Cx) (CA : Nat → Addr) (tg : Expr) (g : wG) : Prop where
  run : PG X tg (rdG X.K CA g)
abbrev wGs := List D → Env → (Env → Prop) → Prop
def rdGs (K : PySem.W.Frag) (CA : Nat → Addr) (g : wGs) : TGs := fun vs σ H Q => ∃ ρ F h env ds Qd, GRel K CA ρ F h H ∧ ERel K CA ρ F env σ ∧ Reps K CA ρ F ds vs ∧ g ds env Qd ∧ ∀ env' σ', Qd env' → ERel K CA ρ F env' σ' → Q σ' H
structure SGs (X : Cx) (CA : Nat → Addr) (tgs : List Expr) (g : wGs) : Prop where
  run : PGs X tgs (rdGs X.K CA g)
section
variable {X : Cx} {CA : Nat → Addr} {pos : Pos}
theorem PG.of {tg : Expr} {t t' : TG} (h : PG X tg t) (i : ∀ v σ H Q, t' v σ H Q → t v σ H Q) : PG X tg t' := ⟨fun pins s σ H v u Q I r w => h.run pins s σ H v u Q I r (i v σ H Q w)⟩
theorem PGs.of {tg : List Expr} {t t' : TGs} (h : PGs X tg t) (i : ∀ v σ H Q, t' v σ H Q → t v σ H Q) : PGs X tg t' := ⟨fun pins s σ H v u Q I r w => h.run pins s σ H v u Q I r (i v σ H Q w)⟩
def wGn (i : Nat) : wG := fun d env k => k (env.set i (some d))
def wGnil : wGs := fun ds env k => ds = [] ∧ k env
def wGcons (g : wG) (gs : wGs) : wGs := fun ds env k => match ds with
  | d :: r => g d env fun env' => gs r env' k
  | [] => False
def wGtup (n : Nat) (gs : wGs) : wG := fun d env k => match d with
  | .tup ds => ds.length = n ∧ gs ds env k
  | _ => False
theorem sg_name {i : Nat} {x : Str} (hN : X.N.Nodup) (hi : X.N[i]? = some x := by rfl) (hx : Loc X.env.scope x := by first | exact Or.inl rfl | exact Or.inr rfl) (hf : X.fn x = true ∨ X.env.scope.names.lookup x = some .local := by first | exact .inl rfl | exact .inr rfl) :
    SG X CA (.Name x pos) (wGn i) := ⟨PG.of (pg_name hN hi hx hf) (by
  rintro v σ H Q ⟨ρ, F, h, env, d, Qd, G, E, R, w, k⟩
  exact k _ _ w (E.set R i))⟩
theorem sgs_nil : SGs X CA [] wGnil := ⟨PGs.of pgs_nil (by
  rintro v σ H Q ⟨ρ, F, h, env, ds, Qd, G, E, R, w, k⟩
  obtain ⟨rfl, w⟩ := w
  exact ⟨R, k _ _ w E⟩)⟩
theorem sgs_cons {e : Expr} {es : List Expr} {g : wG} {gs : wGs} (h1 : SG X CA e g) (h2 : SGs X CA es gs) (hs : (assignEach (e :: es) X.env).map (·.2) = assign e X.env :: (assignEach es X.env).map (·.2) := by rfl) : SGs X CA (e :: es) (wGcons g gs) := ⟨PGs.of (pgs_cons h1.run h2.run hs) (by
  rintro v σ H Q ⟨ρ, F, h, env, ds, Qd, G, E, R, w, k⟩
  cases ds with
  | nil => exact (show False from w).elim
  | cons d r =>
    obtain ⟨v1, r1, rfl, R1, R2⟩ := R
    refine ⟨v1, r1, rfl, ρ, F, h, env, d, _, G, E, R1, w, ?_⟩
    intro env' σ' hq E'
    exact ⟨ρ, F, h, env', r, Qd, G, E', R2, hq, k⟩)⟩
theorem sg_tup {es : List Expr} {kk : Nat} {gs : wGs} {n : Nat} (hg : SGs X CA es gs) (hc : X.calm = true := by rfl) (hn : (assignEach es X.env).length = n := by rfl) (hst : (assignEach es X.env).findIdx? (·.1) = none := by rfl) : SG X CA (.Tuple es kk pos) (wGtup n gs) := ⟨PG.of (pg_tup hc hg.run hn hst) (by
  rintro v σ H Q ⟨ρ, F, h, env, d, Qd, G, E, R, w, k⟩
  cases d with
  | tup ds =>
    obtain ⟨a, xs, rfl, q, r⟩ := R
    exact ⟨a, xs, rfl, G.sqT q, by rw [← r.length]; exact w.1, ρ, F, h, env, ds, Qd, G, E, r, w.2, k⟩
  | _ => exact (show False from w).elim)⟩
/-- target = e -/
def wAsgG (te : wE) (g : wG) : wS := fun D env h => te env h (fun d h1 => g d env fun env' => D.nx env' h1) (fun x h1 => D.ex x env h1)
theorem ss_asg {tg e : Expr} {te : wE} {g : wG} (he : SE X CA e te) (hg : SG X CA tg g) (hs : swapsWithSole [tg] e pos.line X.env = pure false := by rfl) (hw : swappedStores [tg] e X.env = pure none := by rfl)
    (h1 : (assignEach [tg] X.env).map (·.2) = [assign tg X.env] := by rfl) : SS X CA (.Assign [tg] e pos) (wAsgG te g) := ⟨fun W tk => PS.of (ps_asg (he.run W tk) hg.run hs hw h1) (by
  rintro D σ H ⟨ρ, F, env, h, Dd, G, E, w, g⟩
  refine ⟨ρ, F, env, h, _, _, G, E, w, ?_, g.ex.at E⟩
  intro d h1 ρ1 F1 v H1 hq X1 G1 R1
  exact ⟨ρ1, F1, h1, env, d, _, G1, E.ext X1, R1, hq, fun env' σ' hq' E' => g.nx _ _ _ _ _ _ hq' X1 G1 E'⟩)⟩

/-! ### sources -/
theorem PI.of {tg iter : Expr} {t t' : TI} (h : PI X tg iter t) (i : ∀ σ H R, t' σ H R → t σ H R) : PI X tg iter t' := ⟨fun pins s σ H R I w => h.run pins s σ H R I (i σ H R w)⟩
/-- what a sequence's items are -/
def seqOf (h : Hs) : D → Option (List D)
  | .lst ds => some ds
  | .rol ds => some ds
  | .tup ds => some ds
  | .str x => some (x.cps.toList.map fun c => .str ⟨#[c]⟩)
  | _ => none
def wSeqI (te : wE) : wL := fun env h Q E => te env h (fun d h1 => match seqOf h1 d with
  | some ds => Q ds h1
  | none => False) E
theorem iterD_walk {K : PySem.W.Frag} {ρ : List Addr} {F H : Hp} {J : It} {ds : List D} {n : Nat} {Gd : Hp → Prop} {Y : Nat → Hp → V → Hp → Prop} (wk : Walk J n Gd Y) (hn : n = ds.length)
    (hG : ∀ ρ1 F1 h1 H1, Ext ρ F H ρ1 F1 H1 → GRel K CA ρ1 F1 h1 H1 → Gd H1)
    (hY : ∀ ρ1 F1 h1 H1, Ext ρ F H ρ1 F1 H1 → GRel K CA ρ1 F1 h1 H1 → ∀ i x H2, i < n → Y i H1 x H2 → ∃ F2 d, Ext ρ1 F1 H1 ρ1 F2 H2 ∧ GRel K CA ρ1 F2 h1 H2 ∧ ds[i]? = some d ∧ Rep K CA ρ1 F2 d x) : IterD K CA ρ F H J ds := by
  subst hn
  intro ρ1 F1 h1 H1 X1 G1
  have g := hG ρ1 F1 h1 H1 X1 G1
  exact ⟨fun i hi => wk.goes i H1 hi g, wk.stops H1 g, fun i x H2 hi y => hY ρ1 F1 h1 H1 X1 G1 i x H2 hi (wk.yields i H1 x H2 hi g y)⟩
theorem iterD_at {K : PySem.W.Frag} {ρ : List Addr} {F H : Hp} {J : It} {ds : List D} {xs : List V} {Gd : Hp → Prop} (wk : Walk J xs.length Gd (YAt xs)) (r : Reps K CA ρ F ds xs)
    (hG : ∀ ρ1 F1 h1 H1, Ext ρ F H ρ1 F1 H1 → GRel K CA ρ1 F1 h1 H1 → Gd H1) : IterD K CA ρ F H J ds := iterD_walk wk r.length.symm hG fun ρ1 F1 h1 H1 X1 G1 i x H2 hi y => by
  obtain ⟨rfl, y⟩ := y
  obtain ⟨d, e, q⟩ := (r.ext X1).get' y
  exact ⟨F1, d, Ext.refl G1, G1, e, q⟩
/-- a list, a tuple, a text -/
def iSeq (K : PySem.W.Frag) (tl : TE) : TI := fun σ H R => tl σ H fun x H1 => (∃ a, x = .ref a ∧ (∃ xs, SqL K H1 a xs) ∧ R (Itl K a) H1) ∨ (∃ a, x = .ref a ∧ (∃ xs, SqT K H1 a xs) ∧ R (Itt K a) H1) ∨ ∃ z, x = .str z ∧ R (Its z) H1
theorem pi_seq {tg l : Expr} {tl : TE} (hl : PE X l tl) : PI X tg l (iSeq X.K tl) := by
  refine ⟨fun pins s σ H R I hw => ?_⟩
  refine thn (hl.run pins s σ H _ I hw) fun v s1 ⟨x, H1, J1, rx, q1⟩ => ?_
  have fresh : ∀ b : Addr, b ∈ [s1.heap.objs.size] → FpOk X pins H1 b := fun b hb => by
    rw [List.mem_singleton.mp hb]
    exact J1.fpOk (Nat.le_refl _) (J1.hok.fresh (Nat.le_refl _))
  rcases q1 with ⟨a, e, ⟨xs, sq⟩, q⟩ | ⟨a, e, ⟨xs, sq⟩, q⟩ | ⟨z, e, q⟩
  · subst e
    cases rx
    obtain ⟨its, rv, pl, _⟩ := J1.list sq
    refine wpAny_pyIter_list pl.isList ⟨_, [s1.heap.objs.size], _, _, H1, rfl, J1.kept (t' := s1.toks) fun _ _ e => Heap.get?_push_of_some _ e, turn_list a _, ⟨_, Heap.get?_push_size _ rfl, rfl, rfl⟩, fresh, q⟩
  · subst e
    cases rx
    obtain ⟨its, rv, pl, _⟩ := J1.tuple sq
    refine wpAny_pyIter_tuple (show s1.heap.IsTuple a its.toArray from pl) ⟨_, [s1.heap.objs.size], _, _, H1, rfl, J1.kept (t' := s1.toks) fun _ _ e => Heap.get?_push_of_some _ e, turn_tuple a _, ⟨_, Heap.get?_push_size _ rfl, rfl, rfl⟩, fresh, q⟩
  · subst e
    obtain ⟨t, rfl⟩ := rx
    cases asc : z.cps.all (· < 128)
    · exact wpAny_pyIter_wide asc (pi_one (tk := s1.toks) J1 _ (turn_str _ z t "str_iterator" (.inr rfl)) ⟨_, Heap.get?_push_size _ rfl, rfl, rfl⟩ q)
    · exact wpAny_pyIter_ascii asc (pi_one (tk := s1.toks) J1 _ (turn_str _ z t "str_ascii_iterator" (.inl rfl)) ⟨_, Heap.get?_push_size _ rfl, rfl, rfl⟩ q)
theorem si_seq {tg e : Expr} {te : wE} (he : SE X CA e te) : SI X CA tg e (wSeqI te) := ⟨fun W tk => PI.of (pi_seq (he.run W tk)) (by
  rintro σ H R ⟨ρ, F, env, h, Qd, Ed, G, E, w, gq, gx⟩
  refine ⟨ρ, F, env, h, _, Ed, G, E, w, ?_, gx⟩
  intro d h1 ρ1 F1 v H1 hq X1 G1 R1
  cases d with
  | lst ds =>
    obtain ⟨a, xs, rfl, q, r⟩ := R1
    exact .inl ⟨a, rfl, ⟨xs, SqL.of (G1.sub _ _ q)⟩, gq _ _ _ _ _ _ hq X1 G1 (iterD_at walk_list r fun ρ2 F2 h2 H2 X2 G2 => SqL.of (G2.sub _ _ (X2.sub _ _ q)))⟩
  | rol ds =>
    obtain ⟨a, xs, rfl, q, r⟩ := R1
    exact .inl ⟨a, rfl, ⟨xs, G1.sqL q⟩, gq _ _ _ _ _ _ hq X1 G1 (iterD_at walk_list r fun ρ2 F2 h2 H2 X2 G2 => G2.sqL (SqL.sub X2.sub q))⟩
  | tup ds =>
    obtain ⟨a, xs, rfl, q, r⟩ := R1
    exact .inr (.inl ⟨a, rfl, ⟨xs, G1.sqT q⟩, gq _ _ _ _ _ _ hq X1 G1 (iterD_at walk_tup r fun ρ2 F2 h2 H2 X2 G2 => G2.sqT (SqT.sub X2.sub q))⟩)
  | str z =>
    cases (show v = .str z from R1)
    refine .inr (.inr ⟨z, rfl, gq _ _ _ _ _ _ hq X1 G1 (iterD_walk walk_str (by simp) (fun _ _ _ _ _ _ => trivial) ?_)⟩)
    rintro ρ2 F2 h2 H2 X2 G2 i x H3 hi ⟨rfl, c, e, rfl⟩
    refine ⟨F2, .str ⟨#[c]⟩, Ext.refl G2, G2, ?_, rfl⟩
    rw [List.getElem?_map, Array.getElem?_toList, e]
    rfl
  | _ => exact (show False from hq).elim)⟩
/-- range(a), range(a, b) -/
def rangeD (lo : Int) (n : Nat) : List D := (List.range n).map fun (i : Nat) => D.int (lo + i)
def wRng1 (ta : wL) : wL := fun env h Q E => ta env h (fun ds h1 => match ds with
  | [.int j] => (-(2 ^ 62) ≤ j ∧ j < 2 ^ 62) ∧ Q (rangeD 0 j.toNat) h1
  | _ => False) E
def wRng2 (ta : wL) : wL := fun env h Q E => ta env h (fun ds h1 => match ds with
  | [.int i, .int j] => (-(2 ^ 62) ≤ i ∧ i < 2 ^ 62 ∧ -(2 ^ 62) ≤ j ∧ j < 2 ^ 62) ∧ Q (rangeD i (j - i).toNat) h1
  | _ => False) E
theorem iterD_range {K : PySem.W.Frag} {ρ : List Addr} {F H : Hp} {lo : Int} {n : Nat} : IterD K CA ρ F H (Itr lo n) (rangeD lo n) := iterD_walk walk_range (by unfold rangeD; simp) (fun _ _ _ _ _ _ => trivial) (by
  rintro ρ2 F2 h2 H2 X2 G2 i x H3 hi ⟨rfl, rfl⟩
  refine ⟨F2, .int (lo + i), Ext.refl G2, G2, ?_, rfl⟩
  unfold rangeD
  simp [hi])
theorem si_range1 {tg a : Expr} {ta : wL} {p : Pos} (hm : X.mg "range" = none) (ha : SA X CA [a] ta) (hg : Gl X "range" := by rfl) (hs : starEach [a] X.env = [(false, eval a X.env)] := by rfl) : SI X CA tg (.Call (.Name "range" p) [a] [] pos) (wRng1 ta) := ⟨fun W tk => PI.of (pi_range1 hg hm (ha.run W tk) hs) (by
  rintro σ H R ⟨ρ, F, env, h, Qd, Ed, G, E, w, gq, gx⟩
  refine ⟨ρ, F, env, h, _, Ed, G, E, w, ?_, gx⟩
  intro ds h1 ρ1 F1 vs H1 hq X1 G1 R1
  split at hq
  · obtain ⟨v, r, rfl, e, e2⟩ := R1
    cases (show r = [] from e2)
    cases (show v = .int _ from e)
    exact ⟨_, rfl, hq.1.1, hq.1.2, gq _ _ _ _ _ _ hq.2 X1 G1 iterD_range⟩
  · exact hq.elim)⟩
theorem si_range2 {tg a b : Expr} {ta : wL} {p : Pos} (hm : X.mg "range" = none) (ha : SA X CA [a, b] ta) (hg : Gl X "range" := by rfl) (hs : starEach [a, b] X.env = [(false, eval a X.env), (false, eval b X.env)] := by rfl) (hs2 : starEach [b] X.env = [(false, eval b X.env)] := by rfl) : SI X CA tg (.Call (.Name "range" p) [a, b] [] pos) (wRng2 ta) := ⟨fun W tk => PI.of (pi_range2 hg hm (ha.run W tk) hs hs2) (by
  rintro σ H R ⟨ρ, F, env, h, Qd, Ed, G, E, w, gq, gx⟩
  refine ⟨ρ, F, env, h, _, Ed, G, E, w, ?_, gx⟩
  intro ds h1 ρ1 F1 vs H1 hq X1 G1 R1
  split at hq
  · obtain ⟨v, r, rfl, e, v2, r2, rfl, e2, e3⟩ := R1
    cases (show r2 = [] from e3)
    cases (show v = .int _ from e)
    cases (show v2 = .int _ from e2)
    exact ⟨_, _, rfl, hq.1, gq _ _ _ _ _ _ hq.2 X1 G1 iterD_range⟩
  · exact hq.elim)⟩

/-! ### for, while -/
def wForL (g : wG) (tb : wS) : List D → wS
  | [] => fun D env h => D.nx env h
  | d :: ds => fun D env h => g d env fun env' => tb { D with nx := wForL g tb ds D, ct := wForL g tb ds D, bk := D.nx } env' h
def wFor (ti : wL) (g : wG) (tb : wS) : wS := fun D env h => ti env h (fun ds h1 => wForL g tb ds D env h1) (fun x h1 => D.ex x env h1)
theorem ss_for {tg iter : Expr} {body : List Stmt} {ti : wL} {g : wG} {tb : wS} (hi : SI X CA tg iter ti) (hg : SG X CA tg g) (hb : SSs X CA body tb) (hp : PassesOwn (model X.prog X.w) X.A X.env X.xe) (hc : X.calm = true := by rfl)
    (hs : ∀ x, foldedSetIterable iter X.env x = pure x := by intro _; rfl) : SS X CA (.For tg iter body [] pos) (wFor ti g tb) := ⟨fun W tk => PS.of (ps_for hp hc (hi.run W tk) hg.run (hb.run W tk) hs) (by
  rintro D σ H ⟨ρ, F, env, h, Dd, G, E, w, gd⟩
  refine ⟨ρ, F, env, h, _, _, G, E, w, ?_, gd.ex.at E⟩
  intro ds h0 ρ0 F0 H0 J hq X0 G0 IT
  refine ⟨fun i m σ H => m = ds.length - i ∧ i ≤ ds.length ∧ ∃ ρ1 F1 env1 h1, Ext ρ0 F0 H0 ρ1 F1 H ∧ GRel X.K CA ρ1 F1 h1 H ∧ ERel X.K CA ρ1 F1 env1 σ ∧ wForL g tb (ds.drop i) Dd env1 h1, ⟨ds.length, by simp, Nat.zero_le _, ρ0, F0, env, h0, Ext.refl G0, G0, E.ext X0, by simpa using hq⟩, ?_⟩
  rintro i m σ1 H1 ⟨rfl, hi, ρ1, F1, env1, h1, X1, G1, E1, w1⟩
  obtain ⟨go, stop, yl⟩ := IT ρ1 F1 h1 H1 X1 G1
  by_cases hlt : i < ds.length
  · refine .inr ⟨go i hlt, fun σ' H' => i + 1 ≤ ds.length ∧ ∃ ρ2 F2 env2 h2, Ext ρ0 F0 H0 ρ2 F2 H' ∧ GRel X.K CA ρ2 F2 h2 H' ∧ ERel X.K CA ρ2 F2 env2 σ' ∧ wForL g tb (ds.drop (i + 1)) Dd env2 h2, fun σ' H' z => ⟨ds.length - (i + 1), by omega, rfl, z⟩, fun x H2 y => ?_⟩
    obtain ⟨F2, d, X2, G2, ed, R2⟩ := yl i x H2 hlt y
    have hd : ds.drop i = d :: ds.drop (i + 1) := by
      rw [List.drop_eq_getElem_cons hlt]
      congr 1
      rw [List.getElem?_eq_getElem hlt] at ed
      exact Option.some.inj ed
    rw [hd] at w1
    refine ⟨ρ1, F2, h1, env1, d, _, G2, E1.ext X2, R2, w1, ?_⟩
    intro env3 σ3 w3 E3
    have X02 := X1.trans X2
    refine ⟨ρ1, F2, env3, h1, _, G2, E3, w3, ⟨?_, (gd.on X0).rt.on X02, (gd.on X0).nx.on X02, ?_, (gd.on X0).ex.on X02⟩⟩
    · intro env4 h4 ρ4 F4 σ4 H4 w4 X4 G4 E4
      exact ⟨hlt, ρ4, F4, env4, h4, X02.trans X4, G4, E4, w4⟩
    · intro env4 h4 ρ4 F4 σ4 H4 w4 X4 G4 E4
      exact ⟨hlt, ρ4, F4, env4, h4, X02.trans X4, G4, E4, w4⟩
  · have e : i = ds.length := by omega
    subst e
    rw [List.drop_length] at w1
    exact .inl ⟨stop, (gd.on X0).nx _ _ _ _ _ _ w1 X1 G1 E1⟩)⟩
/-- while: some number of turns is enough -/
def wWhN (tt : wT) (tb : wS) : Nat → wS
  | 0 => fun _ _ _ => False
  | n + 1 => fun D env h => tt env h (fun b h1 => if b = true then tb { D with nx := wWhN tt tb n D, ct := wWhN tt tb n D, bk := D.nx } env h1 else D.nx env h1) (fun x h1 => D.ex x env h1)
def wWh (tt : wT) (tb : wS) : wS := fun D env h => ∃ n, wWhN tt tb n D env h
theorem ss_while {c : Expr} {body : List Stmt} {tc : wT} {tb : wS} (hc : ST X CA c tc) (hb : SSs X CA body tb) (hp : PassesOwn (model X.prog X.w) X.A X.env X.xe) : SS X CA (.While c body [] pos) (wWh tc tb) := ⟨fun W tk => PS.of (ps_while hp (hc.run W tk) (hb.run W tk)) (by
  rintro D σ H ⟨ρ, F, env, h, Dd, G, E, ⟨n0, w⟩, gd⟩
  refine ⟨fun m σ H => ∃ ρ1 F1 env1 h1, GRel X.K CA ρ1 F1 h1 H ∧ ERel X.K CA ρ1 F1 env1 σ ∧ GoD X.K CA W ρ1 F1 H Dd D ∧ wWhN tc tb m Dd env1 h1, ⟨n0, ρ, F, env, h, G, E, gd, w⟩, ?_⟩
  rintro m σ1 H1 ⟨ρ1, F1, env1, h1, G1, E1, gd1, w1⟩
  cases m with
  | zero => exact (show False from w1).elim
  | succ n =>
    refine ⟨ρ1, F1, env1, h1, _, _, G1, E1, w1, ?_, gd1.ex.at E1⟩
    intro b h2 ρ2 F2 H2 hq X2 G2
    cases b with
    | false =>
      rw [if_neg Bool.false_ne_true]
      exact gd1.nx _ _ _ _ _ _ hq X2 G2 (E1.ext X2)
    | true =>
      rw [if_pos rfl]
      refine ⟨fun σ' H' => ∃ ρ3 F3 env3 h3, GRel X.K CA ρ3 F3 h3 H' ∧ ERel X.K CA ρ3 F3 env3 σ' ∧ GoD X.K CA W ρ3 F3 H' Dd D ∧ wWhN tc tb n Dd env3 h3, fun σ' H' z => ⟨n, Nat.lt_succ_self n, z⟩, ρ2, F2, env1, h2, _, G2, E1.ext X2, hq, ⟨?_, gd1.rt.on X2, gd1.nx.on X2, ?_, gd1.ex.on X2⟩⟩
      · intro env4 h4 ρ4 F4 σ4 H4 w4 X4 G4 E4
        exact ⟨ρ4, F4, env4, h4, G4, E4, gd1.on (X2.trans X4), w4⟩
      · intro env4 h4 ρ4 F4 σ4 H4 w4 X4 G4 E4
        exact ⟨ρ4, F4, env4, h4, G4, E4, gd1.on (X2.trans X4), w4⟩)⟩

/-! ### list comprehensions -/
def wipeD (env : Env) : List Nat → Env
  | [] => env
  | v :: vs => (wipeD env vs).set v none
theorem ERel.unset {K : PySem.W.Frag} {ρ : List Addr} {F : Hp} {env : Env} {σ : L2.St} (E : ERel K CA ρ F env σ) (i : Nat) : ERel K CA ρ F (env.set i none) (σ.set i none) := by
  refine ⟨by rw [List.length_set, List.length_set]; exact E.1, fun k d' e => ?_⟩
  by_cases hk : i = k
  · subst hk
    by_cases hl : i < env.length
    · rw [List.getElem?_set_self hl] at e
      cases e
    · rw [List.getElem?_eq_none (by simpa using hl)] at e
      cases e
  · rw [List.getElem?_set_ne hk] at e
    rw [List.getElem?_set_ne hk]
    exact E.2 k d' e
theorem ERel.wipe {K : PySem.W.Frag} {ρ : List Addr} {F : Hp} {env : Env} {σ : L2.St} (E : ERel K CA ρ F env σ) : ∀ vs : List Nat, ERel K CA ρ F (wipeD env vs) (L2.wipe σ vs)
  | [] => E
  | v :: vs => (E.wipe vs).unset v
structure SP (X : Cx) (CA : Nat → Addr) (ifs : List Expr) (t : wT) : Prop where
  run : ∀ W, L2N.Takes X W → PTs X ifs (rdT X.K CA W t)
def wYes : wT := fun _ h Q _ => Q true h
theorem PTs.of {es : List Expr} {t t' : TT} (h : PTs X es t) (i : ∀ σ H Q, t' σ H Q → t σ H Q) : PTs X es t' := ⟨fun pins s σ H Q I w => h.run pins s σ H Q I (i σ H Q w)⟩
theorem sp_nil : SP X CA [] wYes := ⟨fun W tk => PTs.of pts_nil (by
  rintro σ H Q ⟨ρ, F, env, h, Qd, Ed, G, E, w, gq, gx⟩
  exact gq true h ρ F H w (Ext.refl G) G)⟩
theorem sp_one {c : Expr} {t : wT} (h : ST X CA c t) : SP X CA [c] t := ⟨fun W tk => pts_one (h.run W tk)⟩
/-- the items, one by one; acc: what is made so far -/
def wLcL (g : wG) (tt : wT) (te : wE) (env : Env) : List D → List D → Hs → PL → Prop
  | [], acc, h, Q => Q acc h
  | d :: ds, acc, h, Q => g d env fun env' => tt env' h (fun b h1 => if b = true then te env' h1 (fun y h2 => wLcL g tt te env ds (acc ++ [y]) h2 Q) (fun _ _ => False) else wLcL g tt te env ds acc h1 Q) (fun _ _ => False)
def wLc (vs : List Nat) (ti : wL) (g : wG) (tt : wT) (te : wE) : wE := fun env h Q E => ti env h (fun ds h1 => ds.length ≤ 16777216 ∧ wLcL g tt te (wipeD env vs) ds [] h1 (fun acc h2 => Q (.lst acc) h2)) E
/-- the block's context -/
abbrev Blk (X : Cx) (scope : Scope) (s : Shared) (H : Hp) (C : Addr) (cl : List (Str × Addr)) (fp : List Addr) : Cx := X.blk s H scope (compEnvC scope cl C X.env) fp
/-- the target stores to the block's own names alone -/
def OwnG (vs : List Nat) (g : TG) : Prop := ∀ v σ H Q, g v σ H Q → g v σ H fun σ' H' => L2.wipe σ' vs = L2.wipe σ vs ∧ Q σ' H'
theorem takes_no {Y : Cx} {W : WX} (hx : Y.xe = fun _ _ => False) : L2N.Takes { Y with xe := fun _ _ => False } (fun _ _ _ _ => False) := fun u s' x => by
  obtain ⟨_, _, _, _, _, _, _, _, _, _, _, _, _, _, _, _, z⟩ := x
  exact z
end
end DL
/-! DL4: the rule for list comprehensions. -/
namespace DL
open PySem PySem.Spec PyProof.Rows L2

section
variable {K : PySem.W.Frag} {CA : Nat → Addr} {ρ ρ1 : List Addr} {F F1 H H1 : Hp} {h : Hs} {p : Addr}
/-- an object that is no datum's yet -/
theorem GRel.aside (G : GRel K CA ρ F h H) (f0 : F p = none) (nr : p ∉ ρ) (o : HO) : GRel K CA ρ F h (upd H p o) := by
  have ne : ∀ b, b ∈ ρ → b ≠ p := fun b hb e => nr (e ▸ hb)
  refine ⟨fun b u e => ?_, G.len, G.nd, G.off, fun b hb => ?_, fun i c b hi hb => ?_⟩
  · rw [upd_ne (ne_of_none e f0)]
    exact G.sub _ _ e
  · rw [upd_ne (ne b hb)]
    exact G.there b hb
  · exact (G.cell i c b hi hb).sub ⟨[], by simp⟩ (fun _ _ e => e) (upd_ne (ne b (List.mem_of_getElem? hb)))
theorem Ext.aside (x : Ext ρ F H ρ1 F1 H1) (hp : H p = none) (o : HO) : Ext ρ F H ρ1 F1 (upd H1 p o) :=
  ⟨x.pre, x.sub, fun a u e n => by
    rw [upd_ne (ne_of_none e hp)]
    exact x.frame a u e n, x.new, x.off⟩
/-- .. becomes a datum's -/
theorem GRel.adopt (G : GRel K CA ρ F h H) (f0 : F p = none) (nr : p ∉ ρ) {o : HO} (hp : H p = some o) : GRel K CA ρ (upd F p o) h H := by
  have sub : ∀ b u, F b = some u → upd F p o b = some u := fun b u e => by
    rw [upd_ne (ne_of_none e f0)]
    exact e
  refine ⟨fun b u e => ?_, G.len, G.nd, fun b hb => ?_, G.there, fun i c b hi hb => (G.cell i c b hi hb).sub ⟨[], by simp⟩ sub rfl⟩
  · by_cases hb : b = p
    · subst hb
      rw [upd_same] at e
      cases e
      exact hp
    · rw [upd_ne hb] at e
      exact G.sub _ _ e
  · rw [upd_ne (fun e => nr (by rw [← e]; exact hb))]
    exact G.off b hb
theorem Ext.adopt (x : Ext ρ F H ρ1 F1 H1) (hp : H p = none) (f0 : F1 p = none) (nr : p ∉ ρ1) (o : HO) : Ext ρ F H ρ1 (upd F1 p o) H1 :=
  ⟨x.pre, fun a u e => by
    have e1 := x.sub a u e
    rw [upd_ne (ne_of_none e1 f0)]
    exact e1, x.frame, fun a z => by
    rcases z with z | z
    · exact x.new a (.inl z)
    · by_cases ha : a = p
      · subst ha
        exact .inr (.inr hp)
      · rw [upd_ne ha] at z
        exact x.new a (.inr z), fun a ha => by
    rw [upd_ne (fun e => nr (by rw [← e]; exact ha))]
    exact x.off a ha⟩
theorem Ext.still (x : Ext ρ F H ρ1 F1 H1) {o : HO} (hp : H p = some o) (f0 : F p = none) (nr : p ∉ ρ) : F1 p = none ∧ p ∉ ρ1 ∧ H1 p = some o := by
  refine ⟨?_, fun z => ?_, x.frame p o hp nr⟩
  · cases e : F1 p with
    | none => rfl
    | some u =>
      rcases x.new p (.inr (by rw [e]; intro q; cases q)) with q | q | q
      · exact absurd q nr
      · exact absurd f0 q
      · rw [hp] at q
        cases q
  · rcases x.new p (.inl z) with q | q | q
    · exact nr q
    · exact q f0
    · rw [hp] at q
      cases q
end
theorem wipe_get (σ : L2.St) (k : Nat) : ∀ vs : List Nat, (L2.wipe σ vs)[k]? = if k ∈ vs then (σ[k]?).map (fun _ => none) else σ[k]?
  | [] => by simp [L2.wipe]
  | v :: vs => by
    show ((L2.wipe σ vs).set v none)[k]? = _
    have ih := wipe_get σ k vs
    by_cases hv : v = k
    · subst hv
      rw [if_pos (List.mem_cons_self ..)]
      by_cases hl : v < (L2.wipe σ vs).length
      · rw [List.getElem?_set_self hl]
        rw [L2.wipe_length] at hl
        rw [List.getElem?_eq_getElem hl]
        rfl
      · have hl2 : ¬ v < σ.length := by
          rw [L2.wipe_length] at hl
          exact hl
        rw [List.getElem?_eq_none (by rw [List.length_set]; omega), List.getElem?_eq_none (by omega)]
        rfl
    · rw [List.getElem?_set_ne hv, ih]
      by_cases hm : k ∈ vs
      · rw [if_pos hm, if_pos (List.mem_cons_of_mem _ hm)]
      · rw [if_neg hm, if_neg (by simp only [List.mem_cons, not_or]; exact ⟨fun e => hv e.symm, hm⟩)]
theorem wipe_set {σ : L2.St} {i : Nat} {x : Option V} {vs : List Nat} (h : i ∈ vs) : L2.wipe (σ.set i x) vs = L2.wipe σ vs := by
  apply List.ext_getElem?
  intro k
  rw [wipe_get, wipe_get]
  by_cases hk : i = k
  · subst hk
    rw [if_pos h, if_pos h]
    by_cases hl : i < σ.length
    · rw [List.getElem?_set_self hl, List.getElem?_eq_getElem hl]
      rfl
    · rw [List.getElem?_eq_none (by rw [List.length_set]; omega), List.getElem?_eq_none (by omega)]
  · rw [List.getElem?_set_ne hk]
theorem wipe_wipe {σ : L2.St} {vs : List Nat} : L2.wipe (L2.wipe σ vs) vs = L2.wipe σ vs := by
  apply List.ext_getElem?
  intro k
  rw [wipe_get, wipe_get]
  by_cases h : k ∈ vs
  · rw [if_pos h, if_pos h, Option.map_map]
    rfl
  · rw [if_neg h, if_neg h]

/-- a block's target: it stores to the block's own names alone -/
def rdGo (K : PySem.W.Frag) (CA : Nat → Addr) (vs : List Nat) (g : wG) : TG := fun v σ H Q => ∃ ρ F h env d Qd, GRel K CA ρ F h H ∧ ERel K CA ρ F env σ ∧ Rep K CA ρ F d v ∧ g d env Qd ∧ ∀ env' σ', Qd env' → ERel K CA ρ F env' σ' → L2.wipe σ' vs = L2.wipe σ vs → Q σ' H
def rdGso (K : PySem.W.Frag) (CA : Nat → Addr) (vs : List Nat) (g : wGs) : TGs := fun xs σ H Q => ∃ ρ F h env ds Qd, GRel K CA ρ F h H ∧ ERel K CA ρ F env σ ∧ Reps K CA ρ F ds xs ∧ g ds env Qd ∧ ∀ env' σ', Qd env' → ERel K CA ρ F env' σ' → L2.wipe σ' vs = L2.wipe σ vs → Q σ' H
structure SGo (X : Cx) (CA : Nat → Addr) (vs : List Nat) (tg : Expr) (g : wG) : Prop where
  run : PG X tg (rdGo X.K CA vs g)
structure SGso (X : Cx) (CA : Nat → Addr) (vs : List Nat) (tgs : List Expr) (g : wGs) : Prop where
  run : PGs X tgs (rdGso X.K CA vs g)
section
variable {X : Cx} {CA : Nat → Addr} {pos : Pos} {vs : List Nat}
theorem sgo_name {i : Nat} {x : Str} (hN : X.N.Nodup) (hi : X.N[i]? = some x := by rfl) (hx : Loc X.env.scope x := by first | exact Or.inl rfl | exact Or.inr rfl) (hf : X.fn x = true ∨ X.env.scope.names.lookup x = some .local := by first | exact .inl rfl | exact .inr rfl) (hv : i ∈ vs := by decide) :
    SGo X CA vs (.Name x pos) (wGn i) := ⟨PG.of (pg_name hN hi hx hf) (by
  rintro v σ H Q ⟨ρ, F, h, env, d, Qd, G, E, R, w, k⟩
  exact k _ _ w (E.set R i) (wipe_set hv))⟩
theorem sgso_nil : SGso X CA vs [] wGnil := ⟨PGs.of pgs_nil (by
  rintro v σ H Q ⟨ρ, F, h, env, ds, Qd, G, E, R, w, k⟩
  obtain ⟨rfl, w⟩ := w
  exact ⟨R, k _ _ w E rfl⟩)⟩
theorem sgso_cons {e : Expr} {es : List Expr} {g : wG} {gs : wGs} (h1 : SGo X CA vs e g) (h2 : SGso X CA vs es gs) (hs : (assignEach (e :: es) X.env).map (·.2) = assign e X.env :: (assignEach es X.env).map (·.2) := by rfl) : SGso X CA vs (e :: es) (wGcons g gs) := ⟨PGs.of (pgs_cons h1.run h2.run hs) (by
  rintro v σ H Q ⟨ρ, F, h, env, ds, Qd, G, E, R, w, k⟩
  cases ds with
  | nil => exact (show False from w).elim
  | cons d r =>
    obtain ⟨v1, r1, rfl, R1, R2⟩ := R
    refine ⟨v1, r1, rfl, ρ, F, h, env, d, _, G, E, R1, w, ?_⟩
    intro env' σ' hq E' e1
    exact ⟨ρ, F, h, env', r, Qd, G, E', R2, hq, fun env2 σ2 hq2 E2 e2 => k env2 σ2 hq2 E2 (e2.trans e1)⟩)⟩
theorem sgo_tup {es : List Expr} {kk : Nat} {gs : wGs} {n : Nat} (hg : SGso X CA vs es gs) (hc : X.calm = true := by rfl) (hn : (assignEach es X.env).length = n := by rfl) (hst : (assignEach es X.env).findIdx? (·.1) = none := by rfl) : SGo X CA vs (.Tuple es kk pos) (wGtup n gs) := ⟨PG.of (pg_tup hc hg.run hn hst) (by
  rintro v σ H Q ⟨ρ, F, h, env, d, Qd, G, E, R, w, k⟩
  cases d with
  | tup ds =>
    obtain ⟨a, xs, rfl, q, r⟩ := R
    exact ⟨a, xs, rfl, G.sqT q, by rw [← r.length]; exact w.1, ρ, F, h, env, ds, Qd, G, E, r, w.2, k⟩
  | _ => exact (show False from w).elim)⟩
theorem takes_blk {s : Shared} {H : Hp} {scope : Scope} {C : Addr} {cl : List (Str × Addr)} {fp : List Addr} : L2N.Takes (Blk X scope s H C cl fp) (fun _ _ _ _ => False) := fun u s' x => by
  obtain ⟨_, _, _, _, _, _, _, _, _, _, _, _, _, _, _, _, z⟩ := x
  exact z.elim
theorem goX_no {K : PySem.W.Frag} {ρ : List Addr} {F H : Hp} {E : XK} : GoX K CA ρ F H (fun _ _ => False) E := fun _ _ _ _ _ _ _ z => z.elim
theorem lc_imp {K : PySem.W.Frag} {W : WX} {ti : wL} {g : wG} {tt : wT} {te : wE} : ∀ σ H Q, rd K CA W (wLc vs ti g tt te) σ H Q → tLc (rdI K CA W ti) (rdGo K CA vs g) (rdT K CA (fun _ _ _ _ => False) tt) (rd K CA (fun _ _ _ _ => False) te) vs σ H Q := by
  rintro σ H Q ⟨ρ, F, env, h, Qd, Ed, G, E, w, gq, gx⟩
  refine ⟨ρ, F, env, h, _, Ed, G, E, w, ?_, gx⟩
  rintro ds h0 ρ0 F0 H0 J ⟨hlen, hq⟩ X0 G0 IT D hD
  obtain ⟨fD, nD⟩ := G0.free hD
  refine ⟨fun i m Hx => m = ds.length - i ∧ i ≤ ds.length ∧ ∃ ρ1 F1 h1 acc accV, Ext ρ0 F0 H0 ρ1 F1 Hx ∧ GRel K CA ρ1 F1 h1 Hx ∧ Hx D = some (.lst accV) ∧ Reps K CA ρ1 F1 acc accV ∧ acc.length ≤ i ∧ F1 D = none ∧ D ∉ ρ1 ∧ wLcL g tt te (wipeD env vs) (ds.drop i) acc h1 (fun acc h2 => Qd (.lst acc) h2),
    ⟨ds.length, by simp, Nat.zero_le _, ρ0, F0, h0, [], [], (Ext.refl G0).aside hD _, G0.aside fD nD _, upd_same, Reps.nil, Nat.le_refl _, fD, nD, by simpa using hq⟩, ?_⟩
  rintro i m H1 ⟨rfl, hi, ρ1, F1, h1, acc, accV, X1, G1, eD, RA, lA, f1, n1, w1⟩
  obtain ⟨go, stop, yl⟩ := IT ρ1 F1 h1 H1 X1 G1
  by_cases hlt : i < ds.length
  · refine .inr ⟨go i hlt, fun Hx => i + 1 ≤ ds.length ∧ ∃ ρ2 F2 h2 acc accV, Ext ρ0 F0 H0 ρ2 F2 Hx ∧ GRel K CA ρ2 F2 h2 Hx ∧ Hx D = some (.lst accV) ∧ Reps K CA ρ2 F2 acc accV ∧ acc.length ≤ i + 1 ∧ F2 D = none ∧ D ∉ ρ2 ∧ wLcL g tt te (wipeD env vs) (ds.drop (i + 1)) acc h2 (fun acc h2 => Qd (.lst acc) h2),
      fun Hx z => ⟨ds.length - (i + 1), by omega, rfl, z⟩, fun x H2 y => ?_⟩
    obtain ⟨F2, d, X2, G2, ed, R2⟩ := yl i x H2 hlt y
    have hd : ds.drop i = d :: ds.drop (i + 1) := by
      rw [List.drop_eq_getElem_cons hlt]
      congr 1
      rw [List.getElem?_eq_getElem hlt] at ed
      exact Option.some.inj ed
    rw [hd] at w1
    have X02 := X1.trans X2
    obtain ⟨f2, n2, eD2⟩ := X2.still eD f1 n1
    refine ⟨ρ1, F2, h1, wipeD env vs, d, _, G2, ((E.ext X0).ext X02).wipe vs, R2, w1, ?_⟩
    intro env3 σ3 w3 E3 es
    refine ⟨es.trans wipe_wipe, ρ1, F2, env3, h1, _, _, G2, E3, w3, ?_, goX_no⟩
    intro b h4 ρ4 F4 H4 w4 X4 G4
    obtain ⟨f4, n4, eD4⟩ := X4.still eD2 f2 n2
    have RA4 := (RA.ext X2).ext X4
    cases b with
    | false =>
      rw [if_neg Bool.false_ne_true]
      rw [if_neg Bool.false_ne_true] at w4
      exact ⟨hlt, ρ4, F4, h4, acc, accV, X02.trans X4, G4, eD4, RA4, by omega, f4, n4, w4⟩
    | true =>
      rw [if_pos rfl]
      rw [if_pos rfl] at w4
      refine ⟨ρ4, F4, env3, h4, _, _, G4, E3.ext X4, w4, ?_, goX_no⟩
      intro d5 h5 ρ5 F5 v5 H5 w5 X5 G5 R5
      obtain ⟨f5, n5, eD5⟩ := X5.still eD4 f4 n4
      refine ⟨accV, eD5, ?_, hlt, ρ5, F5, h5, acc ++ [d5], accV ++ [v5], ((X02.trans X4).trans X5).aside hD _, G5.aside f5 n5 _, upd_same, Reps.append (RA4.ext X5) (Reps.cons R5 Reps.nil), ?_, f5, n5, w5⟩
      · rw [← RA.length]
        exact Nat.lt_of_lt_of_le (Nat.lt_of_le_of_lt lA hlt) (len_line hlen)
      · rw [List.length_append, List.length_singleton]
        omega
  · have e : i = ds.length := by omega
    subst e
    rw [List.drop_length] at w1
    exact .inl ⟨stop, gq _ _ _ _ _ _ w1 (X0.trans (X1.adopt hD f1 n1 _)) (G1.adopt f1 n1 eD) ⟨D, accV, rfl, upd_same, Reps.sub ⟨[], by simp⟩ (fun b u e => by
      rw [upd_ne (ne_of_none e f1)]
      exact e) _ _ RA⟩⟩
theorem se_lc {elt tg iter : Expr} {ifs : List Expr} {scope : Scope} {ti : wL} {g : wG} {tt : wT} {te : wE} (N : List Str) (sc : Scope) (own : List (Str × Nat)) (hi : SI X CA tg iter ti) (ok : blkC N sc scope own = true)
    (hg : ∀ (s : Shared) (H : Hp) (C : Addr) (cl : List (Str × Addr)) (fp : List Addr), SGo (Blk X scope s H C cl fp) CA (own.map (·.2)) tg g) (ht : ∀ (s : Shared) (H : Hp) (C : Addr) (cl : List (Str × Addr)) (fp : List Addr), SP (Blk X scope s H C cl fp) CA ifs tt)
    (he : ∀ (s : Shared) (H : Hp) (C : Addr) (cl : List (Str × Addr)) (fp : List Addr), SE (Blk X scope s H C cl fp) CA elt te) (hN : X.N.Nodup) (e1 : X.N = N := by rfl) (e2 : X.env.scope = sc := by rfl) (hc : X.calm = true := by rfl) (hs : ∀ x, foldedSetIterable iter X.env x = pure x := by intro _; rfl) :
    SE X CA (.ListComp elt [⟨tg, iter, ifs, 0⟩] scope pos) (wLc (own.map (·.2)) ti g tt te) :=
  ⟨fun W tk => PE.of (pe_lc hc hN (hi.run W tk) (by subst e1 e2; exact blkOk_by ok) (fun s H C cl fp => (hg s H C cl fp).run) (fun s H C cl fp => (ht s H C cl fp).run _ takes_blk) (fun s H C cl fp => (he s H C cl fp).run _ takes_blk) hs) lc_imp⟩
/-- y = [..] on one line -/
theorem ss_setLc {i : Nat} {y : Str} {py spos : Pos} {elt tg iter : Expr} {ifs : List Expr} {scope : Scope} {ti : wL} {g : wG} {tt : wT} {te : wE} (N : List Str) (sc : Scope) (own : List (Str × Nat)) (hi : SI X CA tg iter ti) (ok : blkC N sc scope own = true)
    (hg : ∀ (s : Shared) (H : Hp) (C : Addr) (cl : List (Str × Addr)) (fp : List Addr), SGo (Blk X scope s H C cl fp) CA (own.map (·.2)) tg g) (ht : ∀ (s : Shared) (H : Hp) (C : Addr) (cl : List (Str × Addr)) (fp : List Addr), SP (Blk X scope s H C cl fp) CA ifs tt)
    (he : ∀ (s : Shared) (H : Hp) (C : Addr) (cl : List (Str × Addr)) (fp : List Addr), SE (Blk X scope s H C cl fp) CA elt te) (hN : X.N.Nodup) (e1 : X.N = N := by rfl) (e2 : X.env.scope = sc := by rfl) (hc : X.calm = true := by rfl)
    (hy : X.N[i]? = some y := by rfl) (hyl : X.env.scope.names.lookup y = some .local := by rfl)
    (hsw : swapsWith (.ListComp elt [⟨tg, iter, ifs, 0⟩] scope pos) (some (.Name y py)) spos.line X.env = pure true := by exact sw_true rfl rfl rfl (by decide +kernel)) (hs : ∀ x, foldedSetIterable iter X.env x = pure x := by intro _; rfl) :
    SS X CA (.Assign [.Name y py] (.ListComp elt [⟨tg, iter, ifs, 0⟩] scope pos) spos) (wAsg i (wLc (own.map (·.2)) ti g tt te)) :=
  ⟨fun W tk => PS.of (ps_setLc hc hN hy hyl hsw (hi.run W tk) (by subst e1 e2; exact blkOk_by ok) (fun s H C cl fp => (hg s H C cl fp).run) (fun s H C cl fp => (ht s H C cl fp).run _ takes_blk) (fun s H C cl fp => (he s H C cl fp).run _ takes_blk) hs) (by
    rintro D σ H ⟨ρ, F, env, h, Dd, G, E, w, gd⟩
    refine lc_imp σ H _ ⟨ρ, F, env, h, _, _, G, E, w, ?_, gd.ex.at E⟩
    intro d h1 ρ1 F1 v H1 hq X1 G1 R1
    exact gd.nx _ _ _ _ _ _ hq X1 G1 ((E.ext X1).set R1 i))⟩
end
end DL
/-! DL5: operators, subscripts, built-ins, methods on plain data. -/
namespace DL
open PySem PySem.Spec PyProof.Rows L2

section
variable {X : Cx} {CA : Nat → Addr}

/-! ### numbers -/
def addD : fO := fun x y h Q => match x, y with
  | .int i, .int j => Q (.int (i + j)) h
  | .str a, .str b => a.length + b.length ≤ 16777216 ∧ Q (.str (a ++ b)) h
  | .tup a, .tup b => a.length + b.length ≤ 16777216 ∧ Q (.tup (a ++ b)) h
  | x, y => match lstTr h x, lstTr h y with
    | some a, some b => a.length + b.length ≤ 16777216 ∧ Q (.lst (a ++ b)) h
    | _, _ => False
def rAddD (K : PySem.W.Frag) : R2 := fun x y H Q => (rI0 (fun i j => .int (i + j)) x y H Q) ∨ ((∃ i j, x = .str i ∧ y = .str j ∧ i.length + j.length ≤ sizeLine ∧ Q (.str (i ++ j)) H) ∨ (rCatA K x y H Q ∨ rCat x y H Q))
theorem op_addD : OpR X (binaryOp .Add) (rAddD X.K) := OpR.or op_add (OpR.or op_add_str (OpR.or op_catA op_cat))
theorem od_add {K : PySem.W.Frag} : OpD K CA addD (rAddD K) := by
  intro ρ F h H x y v u Qd Q G R1 R2 w g
  unfold addD at w
  split at w
  · cases (show v = .int _ from R1)
    cases (show u = .int _ from R2)
    exact .inl ⟨_, _, rfl, rfl, g _ _ _ _ _ _ w (Ext.refl G) G rfl⟩
  · cases (show v = .str _ from R1)
    cases (show u = .str _ from R2)
    exact .inr (.inl ⟨_, _, rfl, rfl, len_line w.1, g _ _ _ _ _ _ w.2 (Ext.refl G) G rfl⟩)
  · rename_i a b
    obtain ⟨p, xs, rfl, q1, r1⟩ := R1
    obtain ⟨p2, ys, rfl, q2, r2⟩ := R2
    refine .inr (.inr (.inl ⟨p, p2, xs, ys, rfl, rfl, G.sqT q1, G.sqT q2, by rw [← r1.length, ← r2.length]; exact len_line w.1, fun e => ?_, fun _ e => ?_, fun _ _ z hz => ?_⟩))
    · subst e
      have e0 : a = [] := List.eq_nil_of_length_eq_zero r1.length
      subst e0
      exact g _ _ _ _ _ _ w.2 (Ext.refl G) G ⟨p2, ys, rfl, q2, r2⟩
    · subst e
      have e0 : b = [] := List.eq_nil_of_length_eq_zero r2.length
      subst e0
      refine g _ _ _ _ _ _ w.2 (Ext.refl G) G ⟨p, xs, rfl, q1, ?_⟩
      rw [List.append_nil]
      exact r1
    · obtain ⟨G2, X2⟩ := G.frozen hz (.tup (xs ++ ys))
      exact g _ _ _ _ _ _ w.2 X2 G2 ⟨z, _, rfl, SqT.of upd_same, Reps.append (r1.ext X2) (r2.ext X2)⟩
  · split at w
    · rename_i a b e1 e2
      obtain ⟨p, xs, rfl, q1, r1⟩ := lst_tr G R1 e1
      obtain ⟨p2, ys, rfl, q2, r2⟩ := lst_tr G R2 e2
      refine .inr (.inr (.inr ⟨p, p2, xs, ys, rfl, rfl, q1, q2, by rw [← r1.length, ← r2.length]; exact len_line w.1, fun z hz => ?_⟩))
      obtain ⟨G2, X2⟩ := G.frozen hz (.lst (xs ++ ys))
      exact g _ _ _ _ _ _ w.2 X2 G2 ⟨z, _, rfl, upd_same, Reps.append (r1.ext X2) (r2.ext X2)⟩
    · exact w.elim
/-- two ints, a condition, a result -/
def intD (C : Int → Int → Prop) (f : Int → Int → D) : fO := fun x y h Q => match x, y with
  | .int i, .int j => C i j ∧ Q (f i j) h
  | _, _ => False
theorem od_int {K : PySem.W.Frag} {C : Int → Int → Prop} {f : Int → Int → D} {r : R2} (vv : Int → Int → V) (hr : ∀ i j H (Q : VK), C i j → Q (vv i j) H → r (.int i) (.int j) H Q) (hv : ∀ i j (ρ : List Addr) (F : Hp), Rep K CA ρ F (f i j) (vv i j)) : OpD K CA (intD C f) r := by
  intro ρ F h H x y v u Qd Q G R1 R2 w g
  unfold intD at w
  split at w
  · cases (show v = .int _ from R1)
    cases (show u = .int _ from R2)
    exact hr _ _ _ _ w.1 (g _ _ _ _ _ _ w.2 (Ext.refl G) G (hv _ _ _ _))
  · exact w.elim
def subD : fO := intD (fun _ _ => True) fun i j => .int (i - j)
def mulD : fO := intD (fun i j => CMul i j ∨ CMulW i j) fun i j => .int (i * j)
def fdivD : fO := intD CDivW fun i j => .int (i / j)
def modD : fO := intD (fun _ j => 0 < j) fun i j => .int (i % j)
def powD : fO := intD CPow fun i j => .int (i ^ j.toNat)
def ltD : fO := intD (fun _ _ => True) fun i j => .bl (decide (i < j))
def leD : fO := intD (fun _ _ => True) fun i j => .bl (decide (i ≤ j))
def gtD : fO := intD (fun _ _ => True) fun i j => .bl (decide (j < i))
def geD : fO := intD (fun _ _ => True) fun i j => .bl (decide (j ≤ i))
theorem op_mulD : OpR X (binaryOp .Mult) (fun x y H Q => rI CMul (fun i j => .int (i * j)) x y H Q ∨ rI CMulW (fun i j => .int (i * j)) x y H Q) := OpR.or op_mul op_mulW
theorem od_sub {K : PySem.W.Frag} : OpD K CA subD (rI0 fun i j => .int (i - j)) := od_int (fun i j => .int (i - j)) (fun i j H Q _ q => ⟨i, j, rfl, rfl, q⟩) fun _ _ _ _ => rfl
theorem od_mul {K : PySem.W.Frag} : OpD K CA mulD (fun x y H Q => rI CMul (fun i j => .int (i * j)) x y H Q ∨ rI CMulW (fun i j => .int (i * j)) x y H Q) := od_int (fun i j => .int (i * j)) (fun i j H Q c q => c.elim (fun c => .inl ⟨i, j, rfl, rfl, c, q⟩) fun c => .inr ⟨i, j, rfl, rfl, c, q⟩) fun _ _ _ _ => rfl
theorem od_fdiv {K : PySem.W.Frag} : OpD K CA fdivD (rI CDivW fun i j => .int (i / j)) := od_int (fun i j => .int (i / j)) (fun i j H Q c q => ⟨i, j, rfl, rfl, c, q⟩) fun _ _ _ _ => rfl
theorem od_mod {K : PySem.W.Frag} : OpD K CA modD (rI (fun _ j => 0 < j) fun i j => .int (i % j)) := od_int (fun i j => .int (i % j)) (fun i j H Q c q => ⟨i, j, rfl, rfl, c, q⟩) fun _ _ _ _ => rfl
theorem od_pow {K : PySem.W.Frag} : OpD K CA powD (rI CPow fun i j => .int (i ^ j.toNat)) := od_int (fun i j => .int (i ^ j.toNat)) (fun i j H Q c q => ⟨i, j, rfl, rfl, c, q⟩) fun _ _ _ _ => rfl
theorem od_lt {K : PySem.W.Frag} : OpD K CA ltD (rI0 fun i j => .bl (decide (i < j))) := od_int (fun i j => .bl (decide (i < j))) (fun i j H Q _ q => ⟨i, j, rfl, rfl, q⟩) fun _ _ _ _ => rfl
theorem od_le {K : PySem.W.Frag} : OpD K CA leD (rI0 fun i j => .bl (decide (i ≤ j))) := od_int (fun i j => .bl (decide (i ≤ j))) (fun i j H Q _ q => ⟨i, j, rfl, rfl, q⟩) fun _ _ _ _ => rfl
theorem od_gt {K : PySem.W.Frag} : OpD K CA gtD (rI0 fun i j => .bl (decide (j < i))) := od_int (fun i j => .bl (decide (j < i))) (fun i j H Q _ q => ⟨i, j, rfl, rfl, q⟩) fun _ _ _ _ => rfl
theorem od_ge {K : PySem.W.Frag} : OpD K CA geD (rI0 fun i j => .bl (decide (j ≤ i))) := od_int (fun i j => .bl (decide (j ≤ i))) (fun i j H Q _ q => ⟨i, j, rfl, rfl, q⟩) fun _ _ _ _ => rfl
def negD : fU := fun x h Q => match x with
  | .int i => Q (.int (-i)) h
  | _ => False
theorem ud_neg {K : PySem.W.Frag} : UnD K CA negD (rU fun i => .int (-i)) := by
  intro ρ F h H x v Qd Q G R1 w g
  unfold negD at w
  split at w
  · cases (show v = .int _ from R1)
    exact ⟨_, rfl, g _ _ _ _ _ _ w (Ext.refl G) G rfl⟩
  · exact w.elim

/-! ### data as a whole: ==, repr -/
mutual
def toP : D → Option PyData
  | .non => some .none
  | .bl b => some (.bool b)
  | .int i => some (.int i)
  | .str x => some (.str x)
  | .tup ds => (toPs ds).map .tuple
  | .lst ds => (toPs ds).map .list
  | .rol ds => (toPs ds).map .list
  | _ => none
def toPs : List D → Option (List PyData)
  | [] => some []
  | d :: ds => match toP d, toPs ds with
    | some p, some ps => some (p :: ps)
    | _, _ => none
end
def toPh (h : Hs) : D → Option PyData
  | .ref i => match h[i]? with
    | some (.lst ds) => (toPs ds).map .list
    | _ => none
  | d => toP d
section
variable {K : PySem.W.Frag} {ρ : List Addr} {F H : Hp} {h : Hs}
mutual
theorem dp_of (G : GRel K CA ρ F h H) : ∀ (d : D) (v : V) (p : PyData), Rep K CA ρ F d v → toP d = some p → Dp K H v p
  | .non, v, p, r, e => by
    cases e
    cases (show v = .non from r)
    exact .non
  | .bl b, v, p, r, e => by
    cases e
    cases (show v = .bl b from r)
    exact .bl b
  | .int b, v, p, r, e => by
    cases e
    cases (show v = .int b from r)
    exact .int b
  | .str b, v, p, r, e => by
    cases e
    cases (show v = .str b from r)
    exact .str b
  | .tup ds, v, p, ⟨a, xs, e1, q, r⟩, e => by
    subst e1
    rw [toP] at e
    cases e2 : toPs ds with
    | none =>
      rw [e2] at e
      cases e
    | some ps =>
      rw [e2] at e
      cases e
      exact .tup (G.sqT q) (dps_of G ds xs ps r e2)
  | .lst ds, v, p, ⟨a, xs, e1, q, r⟩, e => by
    subst e1
    rw [toP] at e
    cases e2 : toPs ds with
    | none =>
      rw [e2] at e
      cases e
    | some ps =>
      rw [e2] at e
      cases e
      exact .lst (SqL.of (G.sub _ _ q)) (dps_of G ds xs ps r e2)
  | .rol ds, v, p, ⟨a, xs, e1, q, r⟩, e => by
    subst e1
    rw [toP] at e
    cases e2 : toPs ds with
    | none =>
      rw [e2] at e
      cases e
    | some ps =>
      rw [e2] at e
      cases e
      exact .lst (G.sqL q) (dps_of G ds xs ps r e2)
  | .ty _, _, _, _, e => by cases e
  | .gl _, _, _, _, e => by cases e
  | .dic _ _, _, _, _, e => by cases e
  | .obj _ _ _, _, _, _, e => by cases e
  | .ref _, _, _, _, e => by cases e
theorem dps_of (G : GRel K CA ρ F h H) : ∀ (ds : List D) (xs : List V) (ps : List PyData), Reps K CA ρ F ds xs → toPs ds = some ps → DpAll K H xs ps
  | [], xs, ps, r, e => by
    cases e
    cases (show xs = [] from r)
    exact .nil
  | d :: ds, xs, ps, ⟨v, t, e1, q, r⟩, e => by
    subst e1
    rw [toPs] at e
    split at e
    · rename_i p ps' e2 e3
      cases e
      exact .cons (dp_of G d v p q e2) (dps_of G ds t ps' r e3)
    · cases e
end
theorem dph_of (G : GRel K CA ρ F h H) {d : D} {v : V} {p : PyData} (r : Rep K CA ρ F d v) (e : toPh h d = some p) : Dp K H v p := by
  cases d with
  | ref i =>
    obtain ⟨a, ha, e2⟩ := r
    simp only [toPh] at e
    split at e
    · rename_i ds hc
      obtain ⟨xs, q, r⟩ := G.cell i _ a hc ha
      subst e2
      cases e3 : toPs ds with
      | none =>
        rw [e3] at e
        cases e
      | some ps =>
        rw [e3] at e
        cases e
        exact .lst (SqL.of q) (dps_of G ds xs ps r e3)
    · cases e
  | _ => exact dp_of G _ _ _ r e
end
/-- == : scalars by value, else data as a whole; b: the answer is turned (!=) -/
def eqD (neg : Bool) : fO := fun x y h Q => match x, y with
  | .int i, .int j => Q (.bl (neg ^^ decide (i = j))) h
  | .str a, .str b => Q (.bl (neg ^^ decide (a = b))) h
  | .bl a, .bl b => Q (.bl (neg ^^ decide (a = b))) h
  | x, y => match toPh h x, toPh h y with
    | some p, some q => SeqAt.shaped p = true ∧ SeqAt.shaped q = true ∧ Q (.bl (neg ^^ PyData.eqv p q)) h
    | _, _ => False
theorem op_eqDD (hu : X.A.units + 64 < cLine) : OpR X (compareOp .Eq) (fun x y H Q => rEq x y H Q ∨ rEqD X.K x y H Q) := OpR.or op_eq (op_eqD hu)
theorem op_neDD (hu : X.A.units + 64 < cLine) : OpR X (compareOp .NotEq) (fun x y H Q => rNe x y H Q ∨ rNeD X.K x y H Q) := OpR.or op_ne (op_neD hu)
theorem decI {i j : Int} : decide (V.int i = V.int j) = decide (i = j) := by
  by_cases e : i = j
  · rw [e, decide_eq_true rfl, decide_eq_true rfl]
  · rw [decide_eq_false e, decide_eq_false (fun q => e (V.int.inj q))]
theorem decS {i j : Str} : decide (V.str i = V.str j) = decide (i = j) := by
  by_cases e : i = j
  · rw [e, decide_eq_true rfl, decide_eq_true rfl]
  · rw [decide_eq_false e, decide_eq_false (fun q => e (V.str.inj q))]
theorem decB {i j : Bool} : decide (V.bl i = V.bl j) = decide (i = j) := by
  by_cases e : i = j
  · rw [e, decide_eq_true rfl, decide_eq_true rfl]
  · rw [decide_eq_false e, decide_eq_false (fun q => e (V.bl.inj q))]
theorem od_eq {K : PySem.W.Frag} : OpD K CA (eqD false) (fun x y H Q => rEq x y H Q ∨ rEqD K x y H Q) := by
  intro ρ F h H x y v u Qd Q G R1 R2 w g
  unfold eqD at w
  split at w
  · cases (show v = .int _ from R1)
    cases (show u = .int _ from R2)
    exact .inl ⟨rfl, by
      rw [decI]
      exact g _ _ _ _ _ _ w (Ext.refl G) G (by rw [Bool.false_xor]; rfl)⟩
  · cases (show v = .str _ from R1)
    cases (show u = .str _ from R2)
    exact .inl ⟨rfl, by
      rw [decS]
      exact g _ _ _ _ _ _ w (Ext.refl G) G (by rw [Bool.false_xor]; rfl)⟩
  · cases (show v = .bl _ from R1)
    cases (show u = .bl _ from R2)
    exact .inl ⟨rfl, by
      rw [decB]
      exact g _ _ _ _ _ _ w (Ext.refl G) G (by rw [Bool.false_xor]; rfl)⟩
  · split at w
    · rename_i p q e1 e2
      exact .inr ⟨p, q, dph_of G R1 e1, dph_of G R2 e2, w.1, w.2.1, g _ _ _ _ _ _ w.2.2 (Ext.refl G) G (by rw [Bool.false_xor]; rfl)⟩
    · exact w.elim
theorem od_ne {K : PySem.W.Frag} : OpD K CA (eqD true) (fun x y H Q => rNe x y H Q ∨ rNeD K x y H Q) := by
  intro ρ F h H x y v u Qd Q G R1 R2 w g
  unfold eqD at w
  split at w
  · cases (show v = .int _ from R1)
    cases (show u = .int _ from R2)
    exact .inl ⟨rfl, by
      rw [decI]
      exact g _ _ _ _ _ _ w (Ext.refl G) G (by rw [Bool.true_xor]; rfl)⟩
  · cases (show v = .str _ from R1)
    cases (show u = .str _ from R2)
    exact .inl ⟨rfl, by
      rw [decS]
      exact g _ _ _ _ _ _ w (Ext.refl G) G (by rw [Bool.true_xor]; rfl)⟩
  · cases (show v = .bl _ from R1)
    cases (show u = .bl _ from R2)
    exact .inl ⟨rfl, by
      rw [decB]
      exact g _ _ _ _ _ _ w (Ext.refl G) G (by rw [Bool.true_xor]; rfl)⟩
  · split at w
    · rename_i p q e1 e2
      exact .inr ⟨p, q, dph_of G R1 e1, dph_of G R2 e2, w.1, w.2.1, g _ _ _ _ _ _ w.2.2 (Ext.refl G) G (by rw [Bool.true_xor]; rfl)⟩
    · exact w.elim
/-- repr of data -/
def rReprD (K : PySem.W.Frag) : List V → Hp → VK → Prop := fun xs H Q => ∃ x p, xs = [x] ∧ Dp K H x p ∧ p.showable = true ∧ p.hasDict = false ∧ p.depth ≤ 62 ∧ p.shown.length ≤ sizeLine ∧ Q (.str p.shown) H
theorem call_reprD (hu : X.A.units + 64 < cLine) (hg : X.A.guards = some []) : CallR X (.builtin "repr") (rReprD X.K) := by
  intro pins s σ H xs us Q I r hw
  obtain ⟨x, p, rfl, hp, hs, hd, hl, hz, q⟩ := hw
  obtain ⟨u, rfl, ru⟩ := vals1 r
  obtain ⟨as, rd⟩ := Dp.reads I p x u hp ru
  have fin : ∀ (h' : Heap) (t : Tok) (tk : Nat), (∀ b o, s.heap.get? b = some o → h'.get? b = some o) → EP X pins σ Q (.str p.shown t) { s with heap := h', toks := tk } := fun h' t tk k => ⟨.str p.shown, H, I.kept k, ⟨_, rfl⟩, q⟩
  cases hp with
  | non =>
    cases ru
    exact PySem.P.repr_of_none (fin s.heap _ _ fun _ _ e => e)
  | bl b =>
    cases ru
    refine PySem.P.repr_of_bool ?_
    have := fin s.heap s.toks (s.toks + 1) fun _ _ e => e
    rw [PyData.shown_bool] at this
    cases b <;> exact this
  | int i =>
    obtain ⟨t, rfl⟩ := ru
    refine PySem.P.repr_of_int ?_ ?_
    · simpa [PyData.showable] using hs
    · have := fin s.heap s.toks (s.toks + 1) fun _ _ e => e
      rw [PyData.shown_int] at this
      exact this
  | str z =>
    obtain ⟨t, rfl⟩ := ru
    refine PySem.P.repr_of_str ?_ (by rw [PyData.shown_str] at hz; exact hz)
    have := fin s.heap s.toks (s.toks + 1) fun _ _ e => e
    rw [PyData.shown_str] at this
    exact this
  | lst hq hall =>
    cases ru
    exact repr_of_reads' rd hs (PyData.noDict_hsm hd) hg (by omega) (fun _ _ e => e) (fun h' u tk k => fin h' u tk k) hz
  | tup hq hall =>
    cases ru
    exact repr_of_reads' rd hs (PyData.noDict_hsm hd) hg (by omega) (fun _ _ e => e) (fun h' u tk k => fin h' u tk k) hz
def reprD : fL := fun xs h Q => match xs with
  | [x] => match toPh h x with
    | some p => p.showable = true ∧ p.hasDict = false ∧ p.depth ≤ 62 ∧ p.shown.length ≤ 16777216 ∧ Q (.str p.shown) h
    | none => False
  | _ => False
theorem ld_repr {K : PySem.W.Frag} : LiD K CA reprD (rReprD K) := by
  intro ρ F h H xs vs Qd Q G R w g
  unfold reprD at w
  split at w
  · obtain ⟨v, r, rfl, R1, e⟩ := R
    cases (show r = [] from e)
    split at w
    · rename_i p e1
      exact ⟨v, p, rfl, dph_of G R1 e1, w.1, w.2.1, w.2.2.1, len_line w.2.2.2.1, g _ _ _ _ _ _ w.2.2.2.2 (Ext.refl G) G rfl⟩
    · exact w.elim
  · exact w.elim

/-! ### subscripts, slices -/
def ixD : fO := fun x y h Q => match y with
  | .int i => match x with
    | .str z => z.length ≤ 16777216 ∧ (match atI z.cps.toList i with
      | some c => Q (.str ⟨#[c]⟩) h
      | none => False)
    | .tup ds => (match atI ds i with
      | some d => Q d h
      | none => False)
    | x => match lstOf h x with
      | some ds => (match atI ds i with
        | some d => Q d h
        | none => False)
      | none => False
  | _ => False
theorem atI_rep {K : PySem.W.Frag} {ρ : List Addr} {F : Hp} {ds : List D} {xs : List V} {i : Int} {d : D} (r : Reps K CA ρ F ds xs) (e : atI ds i = some d) : ∃ v, atI xs i = some v ∧ Rep K CA ρ F d v := by
  unfold atI at e ⊢
  rw [← r.length]
  cases h : ixN ds.length i with
  | none =>
    rw [h] at e
    cases e
  | some j =>
    rw [h] at e
    exact r.get e
theorem od_ix {K : PySem.W.Frag} : OpD K CA ixD (rIx K) := by
  intro ρ F h H x y v u Qd Q G R1 R2 w g
  unfold ixD at w
  split at w
  · cases (show u = .int _ from R2)
    split at w
    · cases (show v = .str _ from R1)
      obtain ⟨hz, w⟩ := w
      split at w
      · rename_i c e
        exact .inr (.inr ⟨_, _, c, rfl, rfl, len_line hz, e, g _ _ _ _ _ _ w (Ext.refl G) G rfl⟩)
      · exact w.elim
    · obtain ⟨a, xs, rfl, q, r⟩ := R1
      split at w
      · rename_i d e
        obtain ⟨v, e2, r2⟩ := atI_rep r e
        exact .inr (.inl ⟨a, xs, _, v, rfl, rfl, G.sqT q, e2, g _ _ _ _ _ _ w (Ext.refl G) G r2⟩)
      · exact w.elim
    · split at w
      · rename_i ds e
        obtain ⟨a, xs, rfl, q, r⟩ := lst_at G R1 e
        split at w
        · rename_i d e1
          obtain ⟨v, e2, r2⟩ := atI_rep r e1
          exact .inl ⟨a, xs, _, v, rfl, rfl, q, e2, g _ _ _ _ _ _ w (Ext.refl G) G r2⟩
        · exact w.elim
      · exact w.elim
  · exact w.elim
abbrev wO := Env → Hs → (Option Int → Hs → Prop) → PX → Prop
def rdO (K : PySem.W.Frag) (CA : Nat → Addr) (W : WX) (t : wO) : TO := fun σ H Q => ∃ ρ F env h Qd Ed, GRel K CA ρ F h H ∧ ERel K CA ρ F env σ ∧ t env h Qd Ed ∧ (∀ o h' ρ' F' H', Qd o h' → Ext ρ F H ρ' F' H' → GRel K CA ρ' F' h' H' → Q o H') ∧ GoX K CA ρ F H Ed (WE W σ)
structure SO (X : Cx) (CA : Nat → Addr) (e : Option Expr) (t : wO) : Prop where
  run : ∀ W, L2N.Takes X W → PO X e (rdO X.K CA W t)
def wOn : wO := fun _ h Q _ => Q none h
def wOs (te : wE) : wO := fun env h Q E => te env h (fun d h1 => match d with
  | .int i => Q (some i) h1
  | _ => False) E
theorem PO.of {e : Option Expr} {t t' : TO} (h : PO X e t) (i : ∀ σ H Q, t' σ H Q → t σ H Q) : PO X e t' := ⟨fun pins s σ H Q I w => h.run pins s σ H Q I (i σ H Q w)⟩
theorem so_none : SO X CA none wOn := ⟨fun W tk => PO.of po_none (by
  rintro σ H Q ⟨ρ, F, env, h, Qd, Ed, G, E, w, gq, gx⟩
  exact gq none h ρ F H w (Ext.refl G) G)⟩
theorem so_some {e : Expr} {te : wE} (he : SE X CA e te) : SO X CA (some e) (wOs te) := ⟨fun W tk => PO.of (po_some (he.run W tk)) (by
  rintro σ H Q ⟨ρ, F, env, h, Qd, Ed, G, E, w, gq, gx⟩
  refine ⟨ρ, F, env, h, _, Ed, G, E, w, ?_, gx⟩
  intro d h1 ρ1 F1 v H1 hq X1 G1 R1
  split at hq
  · cases (show v = .int _ from R1)
    exact ⟨_, rfl, gq _ _ _ _ _ hq X1 G1⟩
  · exact hq.elim)⟩
/-- the items of xs[lo:hi] -/
def cutL {α : Type} (xs : List α) (lo hi : Option Int) : List α := (xs.drop (HT.sIx xs.length 0 lo)).take (HT.sIx xs.length xs.length hi - HT.sIx xs.length 0 lo)
theorem cut_rep {K : PySem.W.Frag} {ρ : List Addr} {F : Hp} {ds : List D} {xs : List V} {lo hi : Option Int} (r : Reps K CA ρ F ds xs) : Reps K CA ρ F (cutL ds lo hi) (cutV xs lo hi) := by
  unfold cutL cutV
  rw [← r.length]
  exact (r.drop _).take _
def slD (x : D) (lo hi : Option Int) (h : Hs) (Q : PQ) : Prop := match x with
  | .str z => z.length ≤ 16777216 ∧ Q (.str (cutS z lo hi)) h
  | .tup ds => Q (.tup (cutL ds lo hi)) h
  | x => match lstOf h x with
    | some ds => Q (.lst (cutL ds lo hi)) h
    | none => False
def wSl (te : wE) (tl th : wO) : wE := fun env h Q E => te env h (fun x h1 => tl env h1 (fun l h2 => th env h2 (fun u h3 => slD x l u h3 Q) E) E) E
def rSlD (K : PySem.W.Frag) : V → Option Int → Option Int → Hp → VK → Prop := fun x lo hi H Q => rSlS x lo hi H Q ∨ (rSlA K x lo hi H Q ∨ rSlL K x lo hi H Q)
theorem sl_any : SlR X (rSlD X.K) := SlR.or sl_str (SlR.or sl_tupA sl_list)
theorem se_slice {e : Expr} {lo hi : Option Expr} {te : wE} {tl th : wO} {p2 pos : Pos} (he : SE X CA e te) (hl : SO X CA lo tl) (hh : SO X CA hi th) : SE X CA (.Subscript e (.Slice lo hi none p2) pos) (wSl te tl th) := ⟨fun W tk => PE.of (pe_slice sl_any (he.run W tk) (hl.run W tk) (hh.run W tk)) (by
  rintro σ H Q ⟨ρ, F, env, h, Qd, Ed, G, E, w, gq, gx⟩
  refine ⟨ρ, F, env, h, _, Ed, G, E, w, ?_, gx⟩
  intro d h1 ρ1 F1 v H1 hq X1 G1 R1
  refine ⟨ρ1, F1, env, h1, _, Ed, G1, E.ext X1, hq, ?_, gx.on X1⟩
  intro l h2 ρ2 F2 H2 hq2 X2 G2
  refine ⟨ρ2, F2, env, h2, _, Ed, G2, E.ext (X1.trans X2), hq2, ?_, gx.on (X1.trans X2)⟩
  intro u h3 ρ3 F3 H3 hq3 X3 G3
  have X13 := (X1.trans X2).trans X3
  have R3 := (R1.ext X2).ext X3
  unfold slD at hq3
  split at hq3
  · cases (show v = .str _ from R3)
    exact .inl ⟨_, rfl, len_line hq3.1, gq _ _ _ _ _ _ hq3.2 X13 G3 rfl⟩
  · obtain ⟨a, xs, rfl, q, r⟩ := R3
    refine .inr (.inl ⟨a, xs, rfl, G3.sqT q, ?_⟩)
    refine ⟨fun e => ?_, fun _ p hp => ?_⟩
    · refine gq _ _ _ _ _ _ hq3 X13 G3 ⟨a, _, rfl, q, ?_⟩
      have e3 : cutV xs l u = xs := by
        unfold cutV
        rw [e.1, e.2, List.drop_zero, Nat.sub_zero, List.take_length]
      have c := cut_rep (lo := l) (hi := u) r
      rw [e3] at c
      exact c
    · obtain ⟨G4, X4⟩ := G3.frozen hp (.tup (cutV xs l u))
      exact gq _ _ _ _ _ _ hq3 (X13.trans X4) G4 ⟨p, _, rfl, SqT.of upd_same, (cut_rep r).ext X4⟩
  · split at hq3
    · rename_i ds e
      obtain ⟨a, xs, rfl, q, r⟩ := lst_at G3 R3 e
      refine .inr (.inr ⟨a, xs, rfl, q, fun p hp => ?_⟩)
      obtain ⟨G4, X4⟩ := G3.frozen hp (.lst (cutV xs l u))
      exact gq _ _ _ _ _ _ hq3 (X13.trans X4) G4 ⟨p, _, rfl, upd_same, (cut_rep r).ext X4⟩
    · exact hq3.elim)⟩

/-! ### is, in -/
def isNon : D → Bool
  | .non => true
  | _ => false
def isD (neg : Bool) : fO := fun x y h Q => match y with
  | .non => Q (.bl (neg ^^ isNon x)) h
  | .bl b => (match x with
    | .bl a => Q (.bl (neg ^^ decide (a = b))) h
    | _ => False)
  | _ => False
theorem isNon_rep {K : PySem.W.Frag} {ρ : List Addr} {F : Hp} {x : D} {v : V} (r : Rep K CA ρ F x v) : decide (v = .non) = isNon x := by
  cases x with
  | non =>
    cases (show v = .non from r)
    rfl
  | bl b =>
    cases (show v = .bl b from r)
    rfl
  | int b =>
    cases (show v = .int b from r)
    rfl
  | str b =>
    cases (show v = .str b from r)
    rfl
  | ty b =>
    cases (show v = .ty b from r)
    rfl
  | gl b =>
    cases (show v = .ref b from r)
    rfl
  | tup ds =>
    obtain ⟨a, xs, rfl, _⟩ := r
    rfl
  | lst ds =>
    obtain ⟨a, xs, rfl, _⟩ := r
    rfl
  | rol ds =>
    obtain ⟨a, xs, rfl, _⟩ := r
    rfl
  | dic ks ds =>
    obtain ⟨a, xs, rfl, _⟩ := r
    rfl
  | obj c ns ds =>
    obtain ⟨a, dx, xs, rfl, _⟩ := r
    rfl
  | ref i =>
    obtain ⟨a, _, rfl⟩ := r
    rfl
theorem op_isDD : OpR X (compareOp .Is) (fun x y H Q => (y = .non ∧ Q (.bl (decide (x = .non))) H) ∨ rIsB x y H Q) := OpR.or op_isN op_isBl
theorem op_notDD : OpR X (compareOp .IsNot) (fun x y H Q => (y = .non ∧ Q (.bl (!decide (x = .non))) H) ∨ rNotB x y H Q) := OpR.or op_notN op_notBl
theorem od_is {K : PySem.W.Frag} : OpD K CA (isD false) (fun x y H Q => (y = .non ∧ Q (.bl (decide (x = .non))) H) ∨ rIsB x y H Q) := by
  intro ρ F h H x y v u Qd Q G R1 R2 w g
  unfold isD at w
  split at w
  · refine .inl ⟨R2, g _ _ _ _ _ _ w (Ext.refl G) G ?_⟩
    rw [isNon_rep R1, Bool.false_xor]
    rfl
  · cases (show u = .bl _ from R2)
    split at w
    · cases (show v = .bl _ from R1)
      exact .inr ⟨_, _, rfl, rfl, g _ _ _ _ _ _ w (Ext.refl G) G (by rw [Bool.false_xor]; rfl)⟩
    · exact w.elim
  · exact w.elim
theorem od_isNot {K : PySem.W.Frag} : OpD K CA (isD true) (fun x y H Q => (y = .non ∧ Q (.bl (!decide (x = .non))) H) ∨ rNotB x y H Q) := by
  intro ρ F h H x y v u Qd Q G R1 R2 w g
  unfold isD at w
  split at w
  · refine .inl ⟨R2, g _ _ _ _ _ _ w (Ext.refl G) G ?_⟩
    rw [isNon_rep R1, Bool.true_xor]
    rfl
  · cases (show u = .bl _ from R2)
    split at w
    · cases (show v = .bl _ from R1)
      exact .inr ⟨_, _, rfl, rfl, g _ _ _ _ _ _ w (Ext.refl G) G (by rw [Bool.true_xor]; rfl)⟩
    · exact w.elim
  · exact w.elim
/-- a flat datum as a value -/
def flD : D → Option V
  | .non => some .non
  | .bl b => some (.bl b)
  | .int i => some (.int i)
  | .str x => some (.str x)
  | _ => none
def flDs : List D → Option (List V)
  | [] => some []
  | d :: ds => match flD d, flDs ds with
    | some v, some vs => some (v :: vs)
    | _, _ => none
theorem flD_rep {K : PySem.W.Frag} {ρ : List Addr} {F : Hp} {d : D} {v w : V} (r : Rep K CA ρ F d v) (e : flD d = some w) : v = w ∧ flatV v = true := by
  cases d with
  | non =>
    cases (show v = .non from r)
    cases e
    exact ⟨rfl, rfl⟩
  | bl b =>
    cases (show v = .bl b from r)
    cases e
    exact ⟨rfl, rfl⟩
  | int b =>
    cases (show v = .int b from r)
    cases e
    exact ⟨rfl, rfl⟩
  | str b =>
    cases (show v = .str b from r)
    cases e
    exact ⟨rfl, rfl⟩
  | _ => cases e
theorem flDs_rep {K : PySem.W.Frag} {ρ : List Addr} {F : Hp} : ∀ {ds : List D} {vs ws : List V}, Reps K CA ρ F ds vs → flDs ds = some ws → vs = ws ∧ vs.all flatV = true
  | [], vs, ws, r, e => by
    cases (show vs = [] from r)
    cases e
    exact ⟨rfl, rfl⟩
  | d :: ds, vs, ws, ⟨v, t, e1, q, r⟩, e => by
    subst e1
    rw [flDs] at e
    split at e
    · rename_i v' vs' e2 e3
      cases e
      obtain ⟨h1, h2⟩ := flD_rep q e2
      obtain ⟨h3, h4⟩ := flDs_rep r e3
      exact ⟨by rw [h1, h3], by rw [List.all_cons, h2, h4]; rfl⟩
    · cases e
/-- one sign in a text; a flat datum in a list or tuple of flat data -/
def inD (neg : Bool) : fO := fun x y h Q => match y with
  | .str z => (match x with
    | .str s => (match s.cps.toList with
      | [c] => Q (.bl (neg ^^ decide (c ∈ z.cps.toList))) h
      | _ => False)
    | _ => False)
  | .tup ds => (match flD x, flDs ds with
    | some v, some vs => Q (.bl (neg ^^ inV v vs)) h
    | _, _ => False)
  | y => match lstOf h y with
    | some ds => (match flD x, flDs ds with
      | some v, some vs => Q (.bl (neg ^^ inV v vs)) h
      | _, _ => False)
    | none => False
def rInD (K : PySem.W.Frag) : R2 := fun x y H Q => (∃ (c : Nat) (z : Str), x = .str ⟨#[c]⟩ ∧ y = .str z ∧ Q (.bl (decide (c ∈ z.cps.toList))) H) ∨ rIn K false x y H Q
def rNotInD (K : PySem.W.Frag) : R2 := fun x y H Q => (∃ (c : Nat) (z : Str), x = .str ⟨#[c]⟩ ∧ y = .str z ∧ Q (.bl (!decide (c ∈ z.cps.toList))) H) ∨ rIn K true x y H Q
theorem op_inDD : OpR X (compareOp .In) (rInD X.K) := OpR.or op_in_sign op_in_seq
theorem op_notInDD : OpR X (compareOp .NotIn) (rNotInD X.K) := OpR.or op_notIn_sign op_notIn_seq
theorem str_of_cps {s : Str} {c : Nat} (e : s.cps.toList = [c]) : s = ⟨#[c]⟩ := by
  obtain ⟨a⟩ := s
  have : a = #[c] := Array.toList_inj.mp e
  rw [this]
theorem od_in {K : PySem.W.Frag} : OpD K CA (inD false) (rInD K) := by
  intro ρ F h H x y v u Qd Q G R1 R2 w g
  unfold inD at w
  split at w
  · cases (show u = .str _ from R2)
    split at w
    · cases (show v = .str _ from R1)
      split at w
      · rename_i c e
        refine .inl ⟨c, _, by rw [str_of_cps e], rfl, g _ _ _ _ _ _ w (Ext.refl G) G (by rw [Bool.false_xor]; rfl)⟩
      · exact w.elim
    · exact w.elim
  · obtain ⟨a, xs, rfl, q, r⟩ := R2
    split at w
    · rename_i v' vs' e1 e2
      obtain ⟨h1, h2⟩ := flD_rep R1 e1
      obtain ⟨h3, h4⟩ := flDs_rep r e2
      subst h1 h3
      exact .inr ⟨a, _, rfl, .inr (G.sqT q), h2, h4, g _ _ _ _ _ _ w (Ext.refl G) G (by rw [Bool.false_xor]; rfl)⟩
    · exact w.elim
  · split at w
    · rename_i ds e
      obtain ⟨a, xs, rfl, q, r⟩ := lst_at G R2 e
      split at w
      · rename_i v' vs' e1 e2
        obtain ⟨h1, h2⟩ := flD_rep R1 e1
        obtain ⟨h3, h4⟩ := flDs_rep r e2
        subst h1 h3
        exact .inr ⟨a, _, rfl, .inl q, h2, h4, g _ _ _ _ _ _ w (Ext.refl G) G (by rw [Bool.false_xor]; rfl)⟩
      · exact w.elim
    · exact w.elim
theorem od_notIn {K : PySem.W.Frag} : OpD K CA (inD true) (rNotInD K) := by
  intro ρ F h H x y v u Qd Q G R1 R2 w g
  unfold inD at w
  split at w
  · cases (show u = .str _ from R2)
    split at w
    · cases (show v = .str _ from R1)
      split at w
      · rename_i c e
        refine .inl ⟨c, _, by rw [str_of_cps e], rfl, g _ _ _ _ _ _ w (Ext.refl G) G (by rw [Bool.true_xor]; rfl)⟩
      · exact w.elim
    · exact w.elim
  · obtain ⟨a, xs, rfl, q, r⟩ := R2
    split at w
    · rename_i v' vs' e1 e2
      obtain ⟨h1, h2⟩ := flD_rep R1 e1
      obtain ⟨h3, h4⟩ := flDs_rep r e2
      subst h1 h3
      exact .inr ⟨a, _, rfl, .inr (G.sqT q), h2, h4, g _ _ _ _ _ _ w (Ext.refl G) G (by rw [Bool.true_xor]; rfl)⟩
    · exact w.elim
  · split at w
    · rename_i ds e
      obtain ⟨a, xs, rfl, q, r⟩ := lst_at G R2 e
      split at w
      · rename_i v' vs' e1 e2
        obtain ⟨h1, h2⟩ := flD_rep R1 e1
        obtain ⟨h3, h4⟩ := flDs_rep r e2
        subst h1 h3
        exact .inr ⟨a, _, rfl, .inl q, h2, h4, g _ _ _ _ _ _ w (Ext.refl G) G (by rw [Bool.true_xor]; rfl)⟩
      · exact w.elim
    · exact w.elim
end
end DL
/-! DL6: built-in functions and methods on plain data. -/
namespace DL
open PySem PySem.Spec PyProof.Rows L2

section
variable {X : Cx} {CA : Nat → Addr} {K : PySem.W.Frag}
/-! ### one argument -/
theorem one_rep {ρ : List Addr} {F : Hp} {x : D} {vs : List V} (R : Reps K CA ρ F [x] vs) : ∃ v, vs = [v] ∧ Rep K CA ρ F x v := by
  obtain ⟨v, r, rfl, R1, e⟩ := R
  cases (show r = [] from e)
  exact ⟨v, rfl, R1⟩
theorem two_rep {ρ : List Addr} {F : Hp} {x y : D} {vs : List V} (R : Reps K CA ρ F [x, y] vs) : ∃ v w, vs = [v, w] ∧ Rep K CA ρ F x v ∧ Rep K CA ρ F y w := by
  obtain ⟨v, r, rfl, R1, w, r2, rfl, R2, e⟩ := R
  cases (show r2 = [] from e)
  exact ⟨v, w, rfl, R1, R2⟩
def lenD : fL := fun xs h Q => match xs with
  | [.str z] => z.length ≤ 16777216 ∧ Q (.int z.length) h
  | [.tup ds] => Q (.int ds.length) h
  | [x] => (match lstOf h x with
    | some ds => Q (.int ds.length) h
    | none => False)
  | _ => False
theorem ld_len : LiD K CA lenD (fun xs H Q => (∃ z, xs = [.str z] ∧ z.length ≤ sizeLine ∧ Q (.int z.length) H) ∨ ∃ p ys, xs = [.ref p] ∧ (SqL K H p ys ∨ SqT K H p ys) ∧ Q (.int ys.length) H) := by
  intro ρ F h H xs vs Qd Q G R w g
  unfold lenD at w
  split at w
  · obtain ⟨v, rfl, R1⟩ := one_rep R
    cases (show v = .str _ from R1)
    exact .inl ⟨_, rfl, len_line w.1, g _ _ _ _ _ _ w.2 (Ext.refl G) G rfl⟩
  · obtain ⟨v, rfl, a, ys, rfl, q, r⟩ := one_rep R
    exact .inr ⟨a, ys, rfl, .inr (G.sqT q), g _ _ _ _ _ _ w (Ext.refl G) G (by rw [r.length]; rfl)⟩
  · obtain ⟨v, rfl, R1⟩ := one_rep R
    split at w
    · rename_i ds e
      obtain ⟨a, ys, rfl, q, r⟩ := lst_at G R1 e
      exact .inr ⟨a, ys, rfl, .inl q, g _ _ _ _ _ _ w (Ext.refl G) G (by rw [r.length]; rfl)⟩
    · exact w.elim
  · exact w.elim
theorem call_lenDD : CallR X (.builtin "len") (fun xs H Q => (∃ z, xs = [.str z] ∧ z.length ≤ sizeLine ∧ Q (.int z.length) H) ∨ ∃ p ys, xs = [.ref p] ∧ (SqL X.K H p ys ∨ SqT X.K H p ys) ∧ Q (.int ys.length) H) := CallR.or call_len_str call_len_seq
/-- int(..) of an int or a bool -/
def toIntD : fL := fun xs h Q => match xs with
  | [.int i] => Q (.int i) h
  | [.bl k] => Q (.int (if k then 1 else 0)) h
  | _ => False
theorem ld_toInt : LiD K CA toIntD (fun xs H Q => (∃ i, xs = [.int i] ∧ Q (.int i) H) ∨ ∃ k, xs = [.bl k] ∧ Q (.int (if k then 1 else 0)) H) := by
  intro ρ F h H xs vs Qd Q G R w g
  unfold toIntD at w
  split at w
  · obtain ⟨v, rfl, R1⟩ := one_rep R
    cases (show v = .int _ from R1)
    exact .inl ⟨_, rfl, g _ _ _ _ _ _ w (Ext.refl G) G rfl⟩
  · obtain ⟨v, rfl, R1⟩ := one_rep R
    cases (show v = .bl _ from R1)
    exact .inr ⟨_, rfl, g _ _ _ _ _ _ w (Ext.refl G) G rfl⟩
  · exact w.elim
def absD : fL := fun xs h Q => match xs with
  | [.int i] => Q (.int (if i < 0 then -i else i)) h
  | _ => False
theorem ld_abs : LiD K CA absD (fun xs H Q => ∃ i, xs = [.int i] ∧ Q (.int (if i < 0 then -i else i)) H) := by
  intro ρ F h H xs vs Qd Q G R w g
  unfold absD at w
  split at w
  · obtain ⟨v, rfl, R1⟩ := one_rep R
    cases (show v = .int _ from R1)
    exact ⟨_, rfl, g _ _ _ _ _ _ w (Ext.refl G) G rfl⟩
  · exact w.elim
def max2D : fL := fun xs h Q => match xs with
  | [.int i, .int j] => Q (.int (if j > i then j else i)) h
  | _ => False
def min2D : fL := fun xs h Q => match xs with
  | [.int i, .int j] => Q (.int (if j < i then j else i)) h
  | _ => False
theorem ld_max2 : LiD K CA max2D (fun xs H Q => ∃ i j, xs = [.int i, .int j] ∧ Q (.int (if j > i then j else i)) H) := by
  intro ρ F h H xs vs Qd Q G R w g
  unfold max2D at w
  split at w
  · obtain ⟨v, v2, rfl, R1, R2⟩ := two_rep R
    cases (show v = .int _ from R1)
    cases (show v2 = .int _ from R2)
    exact ⟨_, _, rfl, g _ _ _ _ _ _ w (Ext.refl G) G rfl⟩
  · exact w.elim
theorem ld_min2 : LiD K CA min2D (fun xs H Q => ∃ i j, xs = [.int i, .int j] ∧ Q (.int (if j < i then j else i)) H) := by
  intro ρ F h H xs vs Qd Q G R w g
  unfold min2D at w
  split at w
  · obtain ⟨v, v2, rfl, R1, R2⟩ := two_rep R
    cases (show v = .int _ from R1)
    cases (show v2 = .int _ from R2)
    exact ⟨_, _, rfl, g _ _ _ _ _ _ w (Ext.refl G) G rfl⟩
  · exact w.elim
/-- a list of bools, numbers, texts as such -/
def blsL : List D → Option (List Bool)
  | [] => some []
  | .bl b :: r => (blsL r).map (b :: ·)
  | _ => none
def intsL : List D → Option (List Int)
  | [] => some []
  | .int b :: r => (intsL r).map (b :: ·)
  | _ => none
def strsL : List D → Option (List Str)
  | [] => some []
  | .str b :: r => (strsL r).map (b :: ·)
  | _ => none
theorem bls_rep {ρ : List Addr} {F : Hp} : ∀ {ds : List D} {vs : List V} {bs : List Bool}, Reps K CA ρ F ds vs → blsL ds = some bs → vs = bs.map V.bl
  | [], vs, bs, r, e => by
    cases (show vs = [] from r)
    cases e
    rfl
  | d :: ds, vs, bs, ⟨v, t, e1, q, r⟩, e => by
    subst e1
    cases d with
    | bl b =>
      rw [blsL] at e
      cases e2 : blsL ds with
      | none =>
        rw [e2] at e
        cases e
      | some cs =>
        rw [e2] at e
        cases e
        rw [bls_rep r e2, show v = .bl b from q]
        rfl
    | _ => cases e
theorem ints_rep {ρ : List Addr} {F : Hp} : ∀ {ds : List D} {vs : List V} {bs : List Int}, Reps K CA ρ F ds vs → intsL ds = some bs → vs = bs.map V.int
  | [], vs, bs, r, e => by
    cases (show vs = [] from r)
    cases e
    rfl
  | d :: ds, vs, bs, ⟨v, t, e1, q, r⟩, e => by
    subst e1
    cases d with
    | int b =>
      rw [intsL] at e
      cases e2 : intsL ds with
      | none =>
        rw [e2] at e
        cases e
      | some cs =>
        rw [e2] at e
        cases e
        rw [ints_rep r e2, show v = .int b from q]
        rfl
    | _ => cases e
theorem strs_rep {ρ : List Addr} {F : Hp} : ∀ {ds : List D} {vs : List V} {bs : List Str}, Reps K CA ρ F ds vs → strsL ds = some bs → vs = bs.map V.str
  | [], vs, bs, r, e => by
    cases (show vs = [] from r)
    cases e
    rfl
  | d :: ds, vs, bs, ⟨v, t, e1, q, r⟩, e => by
    subst e1
    cases d with
    | str b =>
      rw [strsL] at e
      cases e2 : strsL ds with
      | none =>
        rw [e2] at e
        cases e
      | some cs =>
        rw [e2] at e
        cases e
        rw [strs_rep r e2, show v = .str b from q]
        rfl
    | _ => cases e
theorem bls_map (bs : List Bool) : blsL (bs.map D.bl) = some bs := by
  induction bs with
  | nil => rfl
  | cons b r ih => rw [List.map_cons, blsL, ih]; rfl
theorem ints_map (bs : List Int) : intsL (bs.map D.int) = some bs := by
  induction bs with
  | nil => rfl
  | cons b r ih => rw [List.map_cons, intsL, ih]; rfl
theorem strs_map (bs : List Str) : strsL (bs.map D.str) = some bs := by
  induction bs with
  | nil => rfl
  | cons b r ih => rw [List.map_cons, strsL, ih]; rfl
def allD : fL := fun xs h Q => match xs with
  | [x] => (match (lstOf h x).bind blsL with
    | some bs => Q (.bl (bs.all id)) h
    | none => False)
  | _ => False
def anyD : fL := fun xs h Q => match xs with
  | [x] => (match (lstOf h x).bind blsL with
    | some bs => Q (.bl (bs.any id)) h
    | none => False)
  | _ => False
def sumD : fL := fun xs h Q => match xs with
  | [x] => (match (lstOf h x).bind intsL with
    | some bs => Q (.int bs.sum) h
    | none => False)
  | _ => False
theorem bind_some {α β : Type} {o : Option α} {f : α → Option β} {b : β} (e : o.bind f = some b) : ∃ a, o = some a ∧ f a = some b := by
  cases o with
  | none => cases e
  | some a => exact ⟨a, rfl, e⟩
theorem ld_all : LiD K CA allD (rAll K) := by
  intro ρ F h H xs vs Qd Q G R w g
  unfold allD at w
  split at w
  · obtain ⟨v, rfl, R1⟩ := one_rep R
    split at w
    · rename_i bs e
      obtain ⟨ds, e1, e2⟩ := bind_some e
      obtain ⟨a, ys, rfl, q, r⟩ := lst_at G R1 e1
      have := bls_rep r e2
      subst this
      exact ⟨a, bs, rfl, q, g _ _ _ _ _ _ w (Ext.refl G) G rfl⟩
    · exact w.elim
  · exact w.elim
theorem ld_any : LiD K CA anyD (rAny K) := by
  intro ρ F h H xs vs Qd Q G R w g
  unfold anyD at w
  split at w
  · obtain ⟨v, rfl, R1⟩ := one_rep R
    split at w
    · rename_i bs e
      obtain ⟨ds, e1, e2⟩ := bind_some e
      obtain ⟨a, ys, rfl, q, r⟩ := lst_at G R1 e1
      have := bls_rep r e2
      subst this
      exact ⟨a, bs, rfl, q, g _ _ _ _ _ _ w (Ext.refl G) G rfl⟩
    · exact w.elim
  · exact w.elim
theorem ld_sum : LiD K CA sumD (rSum K) := by
  intro ρ F h H xs vs Qd Q G R w g
  unfold sumD at w
  split at w
  · obtain ⟨v, rfl, R1⟩ := one_rep R
    split at w
    · rename_i bs e
      obtain ⟨ds, e1, e2⟩ := bind_some e
      obtain ⟨a, ys, rfl, q, r⟩ := lst_at G R1 e1
      have := ints_rep r e2
      subst this
      exact ⟨a, bs, rfl, q, g _ _ _ _ _ _ w (Ext.refl G) G rfl⟩
    · exact w.elim
  · exact w.elim
/-- tuple(..), list(..) of a list or tuple -/
def toTupD : fL := fun xs h Q => match xs with
  | [.tup ds] => Q (.tup ds) h
  | [x] => (match lstOf h x with
    | some ds => Q (.tup ds) h
    | none => False)
  | _ => False
def toLstD : fL := fun xs h Q => match xs with
  | [.tup ds] => Q (.lst ds) h
  | [x] => (match lstOf h x with
    | some ds => Q (.lst ds) h
    | none => False)
  | _ => False
theorem ld_toTup : LiD K CA toTupD (fun xs H Q => ∃ p ys, xs = [.ref p] ∧ ((SqL K H p ys ∧ ∀ l, H l = none → Q (.ref l) (upd H l (.tup ys))) ∨ (SqT K H p ys ∧ Q (.ref p) H))) := by
  intro ρ F h H xs vs Qd Q G R w g
  unfold toTupD at w
  split at w
  · obtain ⟨v, rfl, a, ys, rfl, q, r⟩ := one_rep R
    exact ⟨a, ys, rfl, .inr ⟨G.sqT q, g _ _ _ _ _ _ w (Ext.refl G) G ⟨a, ys, rfl, q, r⟩⟩⟩
  · obtain ⟨v, rfl, R1⟩ := one_rep R
    split at w
    · rename_i ds e
      obtain ⟨a, ys, rfl, q, r⟩ := lst_at G R1 e
      refine ⟨a, ys, rfl, .inl ⟨q, fun l hl => ?_⟩⟩
      obtain ⟨G2, X2⟩ := G.frozen hl (.tup ys)
      exact g _ _ _ _ _ _ w X2 G2 ⟨l, ys, rfl, SqT.of upd_same, r.ext X2⟩
    · exact w.elim
  · exact w.elim
theorem ld_toLst : LiD K CA toLstD (fun xs H Q => ∃ p ys, xs = [.ref p] ∧ (SqL K H p ys ∨ SqT K H p ys) ∧ ∀ l, H l = none → Q (.ref l) (upd H l (.lst ys))) := by
  intro ρ F h H xs vs Qd Q G R w g
  unfold toLstD at w
  split at w
  · obtain ⟨v, rfl, a, ys, rfl, q, r⟩ := one_rep R
    refine ⟨a, ys, rfl, .inr (G.sqT q), fun l hl => ?_⟩
    obtain ⟨G2, X2⟩ := G.frozen hl (.lst ys)
    exact g _ _ _ _ _ _ w X2 G2 ⟨l, ys, rfl, upd_same, r.ext X2⟩
  · obtain ⟨v, rfl, R1⟩ := one_rep R
    split at w
    · rename_i ds e
      obtain ⟨a, ys, rfl, q, r⟩ := lst_at G R1 e
      refine ⟨a, ys, rfl, .inl q, fun l hl => ?_⟩
      obtain ⟨G2, X2⟩ := G.frozen hl (.lst ys)
      exact g _ _ _ _ _ _ w X2 G2 ⟨l, ys, rfl, upd_same, r.ext X2⟩
    · exact w.elim
  · exact w.elim
/-- str(..) of an int -/
def strIntD : fL := fun xs h Q => match xs with
  | [.int i] => i.natAbs.log2 < 1920 ∧ Q (.str (toString i)) h
  | _ => False
theorem ld_strInt : LiD K CA strIntD (fun xs H Q => ∃ i, xs = [.int i] ∧ i.natAbs.log2 < 1920 ∧ Q (.str (toString i)) H) := by
  intro ρ F h H xs vs Qd Q G R w g
  unfold strIntD at w
  split at w
  · obtain ⟨v, rfl, R1⟩ := one_rep R
    cases (show v = .int _ from R1)
    exact ⟨_, rfl, w.1, g _ _ _ _ _ _ w.2 (Ext.refl G) G rfl⟩
  · exact w.elim

/-! ### isinstance of a built-in class -/
def tyN (h : Hs) : D → Option String
  | .non => some "NoneType"
  | .bl _ => some "bool"
  | .int _ => some "int"
  | .str _ => some "str"
  | .tup _ => some "tuple"
  | .lst _ => some "list"
  | .dic _ _ => some "dict"
  | .ref i => match h[i]? with
    | some (.lst _) => some "list"
    | some (.dic _ _) => some "dict"
    | _ => none
  | _ => none
theorem tyN_rep {ρ : List Addr} {F H : Hp} {h : Hs} {d : D} {v : V} {n : String} (G : GRel K CA ρ F h H) (r : Rep K CA ρ F d v) (e : tyN h d = some n) : TyX K H v (.type n) := by
  cases d with
  | non =>
    cases e
    cases (show v = .non from r)
    exact .base .non
  | bl b =>
    cases e
    cases (show v = .bl b from r)
    exact .base (.bl b)
  | int b =>
    cases e
    cases (show v = .int b from r)
    exact .base (.int b)
  | str b =>
    cases e
    cases (show v = .str b from r)
    exact .base (.str b)
  | tup ds =>
    cases e
    obtain ⟨a, xs, rfl, q, r⟩ := r
    rcases G.sqT q with (q | ⟨o, q⟩) | ⟨o, its, n, hk, hc, _⟩
    · exact .base (.tup q)
    · exact .fTuple q
    · exact .kTuple hk hc
  | lst ds =>
    cases e
    obtain ⟨a, xs, rfl, q, r⟩ := r
    exact .base (.lst (G.sub _ _ q))
  | dic ks ds =>
    cases e
    obtain ⟨a, xs, rfl, q, r⟩ := r
    exact .base (.dK (G.sub _ _ q))
  | ref i =>
    obtain ⟨a, ha, rfl⟩ := r
    simp only [tyN] at e
    split at e
    · rename_i ds hc
      cases e
      obtain ⟨xs, q, r⟩ := G.cell i _ a hc ha
      exact .base (.lst q)
    · rename_i ks ds hc
      cases e
      obtain ⟨xs, q, r⟩ := G.cell i _ a hc ha
      exact .base (.dK q)
    · cases e
  | _ => cases e
def isiD : fL := fun xs h Q => match xs with
  | [x, .ty b] => (match tyN h x with
    | some a => (match kitB a b with
      | some r => Q (.bl r) h
      | none => False)
    | none => False)
  | _ => False
theorem ld_isi : LiD K CA isiD (rIsi K) := by
  intro ρ F h H xs vs Qd Q G R w g
  unfold isiD at w
  split at w
  · obtain ⟨v, v2, rfl, R1, R2⟩ := two_rep R
    cases (show v2 = .ty _ from R2)
    split at w
    · rename_i a e
      split at w
      · rename_i r e2
        exact ⟨v, _, _, _, r, rfl, .ty _, tyN_rep G R1 e, kit_ty e2, g _ _ _ _ _ _ w (Ext.refl G) G rfl⟩
      · exact w.elim
    · exact w.elim
  · exact w.elim
/-- the name of a built-in class as a value -/
theorem se_ty {x : Str} {n : String} {pos : Pos} (hm : X.mg x = none) (hv : bootBuiltins x = some (.type n)) (hg : Gl X x := by rfl) (hn : x ≠ "__name__" := by decide) (hdb : (x == ("__debug__" : Str)) = false := by decide) : SE X CA (.Name x pos) (wC (.ty n)) :=
  se_of (pe_bltn hg hm hv (v := .ty n) rfl hn hdb) fun _ _ => rfl

/-! ### methods -/
def tyM (T : String) (h : Hs) (x : D) : Prop := match x with
  | .str _ => T = "str"
  | .lst _ => T = "list"
  | .rol _ => T = "list"
  | .dic _ _ => T = "dict"
  | .ref i => match h[i]? with
    | some (.lst _) => T = "list"
    | some (.dic _ _) => T = "dict"
    | _ => False
  | _ => False
theorem tyM_rep {ρ : List Addr} {F H : Hp} {h : Hs} {d : D} {v : V} {T : String} (G : GRel K CA ρ F h H) (r : Rep K CA ρ F d v) (e : tyM T h d) : tyV K T v H := by
  cases d with
  | str b =>
    cases (show v = .str b from r)
    exact e
  | lst ds =>
    obtain ⟨a, xs, rfl, q, r⟩ := r
    exact .inl ⟨e, xs, SqL.of (G.sub _ _ q)⟩
  | rol ds =>
    obtain ⟨a, xs, rfl, q, r⟩ := r
    exact .inl ⟨e, xs, G.sqL q⟩
  | dic ks ds =>
    obtain ⟨a, xs, rfl, q, r⟩ := r
    exact .inr (.inr (.inl ⟨e, .inl ⟨_, G.sub _ _ q⟩⟩))
  | ref i =>
    obtain ⟨a, ha, rfl⟩ := r
    simp only [tyM] at e
    split at e
    · rename_i ds hc
      obtain ⟨xs, q, r⟩ := G.cell i _ a hc ha
      exact .inl ⟨e, xs, SqL.of q⟩
    · rename_i ks ds hc
      obtain ⟨xs, q, r⟩ := G.cell i _ a hc ha
      exact .inr (.inr (.inl ⟨e, .inl ⟨_, q⟩⟩))
    · exact e.elim
  | _ => exact (show False from e).elim
abbrev fM := D → List D → Hs → PQ → Prop
def wBM0 (T : String) (f : fM) (to : wE) : wE := fun env h Q E => to env h (fun x h1 => tyM T h1 x ∧ f x [] h1 Q) E
def wBM (T : String) (f : fM) (to : wE) (ta : wL) : wE := fun env h Q E => to env h (fun x h1 => tyM T h1 x ∧ ta env h1 (fun xs h2 => f x xs h2 Q) E) E
theorem se_bm0 {o : Expr} {to : wE} {name : Str} {apos pos : Pos} {T id : String} {f : fM} {r : V → List V → Hp → VK → Prop} (pa : PlainAttrs T) (slot : Slot T name id) (hty : typeOf (.builtin id) = pure (.type "method_descriptor")) (hm : MtR X id r) (hf : MtD X.K CA f r) (ho : SE X CA o to)
    (hbase : attributeBase o name X.env (eval o X.env) = eval o X.env := by rfl) (hline : (apos.endLine == pos.line) = true := by rfl) : SE X CA (.Call (.Attribute o name apos) [] [] pos) (wBM0 T f to) := ⟨fun W tk => PE.of (pe_bm0 pa slot hty hm (ho.run W tk) hbase hline) (by
  rintro σ H Q ⟨ρ, F, env, h, Qd, Ed, G, E, w, gq, gx⟩
  refine ⟨ρ, F, env, h, _, Ed, G, E, w, ?_, gx⟩
  rintro x h1 ρ1 F1 v H1 ⟨ht, hq⟩ X1 G1 R1
  exact ⟨tyM_rep G1 R1 ht, hf _ _ _ _ _ _ _ _ _ _ G1 R1 Reps.nil hq (gq.on X1)⟩)⟩
theorem se_bm {o e : Expr} {es : List Expr} {to : wE} {ta : wL} {name : Str} {apos pos : Pos} {T id : String} {f : fM} {r : V → List V → Hp → VK → Prop} (pa : PlainAttrs T) (slot : Slot T name id) (hty : typeOf (.builtin id) = pure (.type "method_descriptor")) (hm : MtR X id r) (hf : MtD X.K CA f r) (ho : SE X CA o to) (ha : SA X CA (e :: es) ta)
    (hbase : attributeBase o name X.env (eval o X.env) = eval o X.env := by rfl)
    (hfew : ((backTo pos (starEach (e :: es) X.env)).all (fun x => !x.1) && (backToKw pos (keywordEach [] X.env)).all (fun x => x.1.isSome)
      && decide ((e :: es).length + ([] : List Keyword).length + (if ([] : List Keyword).isEmpty then 0 else 1) < 30)) = true := by rfl)
    (hline : (apos.endLine == pos.line) = true := by rfl) (hs : starEach (e :: es) X.env = (false, eval e X.env) :: starEach es X.env := by rfl) (hplain : (backTo pos (starEach es X.env)).any (·.1) = false := by rfl) :
    SE X CA (.Call (.Attribute o name apos) (e :: es) [] pos) (wBM T f to ta) := ⟨fun W tk => PE.of (pe_bm pa slot hty hm (ho.run W tk) (ha.run W tk) hbase hfew hline hs hplain) (by
  rintro σ H Q ⟨ρ, F, env, h, Qd, Ed, G, E, w, gq, gx⟩
  refine ⟨ρ, F, env, h, _, Ed, G, E, w, ?_, gx⟩
  rintro x h1 ρ1 F1 v H1 ⟨ht, hq⟩ X1 G1 R1
  refine ⟨tyM_rep G1 R1 ht, ρ1, F1, env, h1, _, Ed, G1, E.ext X1, hq, ?_, gx.on X1⟩
  intro xs h2 ρ2 F2 vs H2 hq2 X2 G2 R2
  exact hf _ _ _ _ _ _ _ _ _ _ G2 (R1.ext X2) R2 hq2 ((gq.on X1).on X2))⟩
def joinD : fM := fun x xs h Q => match x, xs with
  | .str a, [y] => (match (lstOf h y).bind strsL with
    | some ys => (ys.map (·.length)).sum + ys.length * a.length ≤ 16777216 ∧ Q (.str (Txt.join a ys)) h
    | none => match y with
      | .tup ds => (match strsL ds with
        | some ys => (ys.map (·.length)).sum + ys.length * a.length ≤ 16777216 ∧ Q (.str (Txt.join a ys)) h
        | none => False)
      | _ => False)
  | _, _ => False
theorem md_join : MtD K CA joinD (fun x xs H Q => ∃ a p, ∃ ys : List Str, x = .str a ∧ xs = [.ref p] ∧ (SqL K H p (ys.map V.str) ∨ SqT K H p (ys.map V.str)) ∧ (ys.map (·.length)).sum + ys.length * a.length ≤ 16777216 ∧ Q (.str (Txt.join a ys)) H) := by
  intro ρ F h H x v xs vs Qd Q G R1 R2 w g
  unfold joinD at w
  split at w
  · cases (show v = .str _ from R1)
    obtain ⟨v, rfl, R3⟩ := one_rep R2
    split at w
    · rename_i ys e
      obtain ⟨ds, e1, e2⟩ := bind_some e
      obtain ⟨a, zs, rfl, q, r⟩ := lst_at G R3 e1
      have := strs_rep r e2
      subst this
      exact ⟨_, a, ys, rfl, rfl, .inl q, w.1, g _ _ _ _ _ _ w.2 (Ext.refl G) G rfl⟩
    · split at w
      · split at w
        · rename_i ds ys e
          obtain ⟨a, zs, rfl, q, r⟩ := R3
          have := strs_rep r e
          subst this
          exact ⟨_, a, ys, rfl, rfl, .inr (G.sqT q), w.1, g _ _ _ _ _ _ w.2 (Ext.refl G) G rfl⟩
        · exact w.elim
      · exact w.elim
  · exact w.elim
def str1D (C : Str → Prop) (f : Str → D) : fM := fun x xs h Q => match x, xs with
  | .str a, [] => C a ∧ Q (f a) h
  | _, _ => False
theorem md_upper : MtD K CA (str1D (fun a => a.length ≤ 5592405) fun a => .str (Txt.upper a)) (fun x xs H Q => ∃ a, x = .str a ∧ xs = [] ∧ a.length ≤ 5592405 ∧ Q (.str (Txt.upper a)) H) := by
  intro ρ F h H x v xs vs Qd Q G R1 R2 w g
  unfold str1D at w
  split at w
  · cases (show v = .str _ from R1)
    cases (show vs = [] from R2)
    exact ⟨_, rfl, rfl, w.1, g _ _ _ _ _ _ w.2 (Ext.refl G) G rfl⟩
  · exact w.elim
/-- xs.append(e), xs a cell -/
def appD : fM := fun x xs h Q => match x, xs with
  | .ref i, [y] => (match h[i]? with
    | some (.lst ds) => ds.length < 16777216 ∧ Q .non (h.set i (.lst (ds ++ [y])))
    | _ => False)
  | _, _ => False
theorem md_app : MtD K CA appD rAppend := by
  intro ρ F h H x v xs vs Qd Q G R1 R2 w g
  unfold appD at w
  split at w
  · rename_i i y
    obtain ⟨u, rfl, R3⟩ := one_rep R2
    split at w
    · rename_i ds hc
      obtain ⟨a, ha, rfl⟩ := R1
      obtain ⟨zs, q, r⟩ := G.cell i _ a hc ha
      refine ⟨a, zs, u, rfl, rfl, q, by rw [← r.length, sizeLine_eq]; exact w.1, ?_⟩
      obtain ⟨G2, X2⟩ := G.cellSet hc ha (.lst (zs ++ [u])) (c := .lst (ds ++ [y])) ⟨_, upd_same, Reps.append r (Reps.cons R3 Reps.nil)⟩
      exact g _ _ _ _ _ _ w.2 X2 G2 rfl
    · exact w.elim
  · exact w.elim
end
end DL
/-! DL7: calls by name, dict displays, == of dicts. -/
namespace DL
open PySem PySem.Spec PyProof.Rows L2

/-! ### keywords -/
structure SK (X : Cx) (CA : Nat → Addr) (kws : List Keyword) (t : wL) : Prop where
  run : ∀ W, L2N.Takes X W → PK X kws (rdL X.K CA W t)
theorem PK.of {X : Cx} {kws : List Keyword} {t t' : TA} (h : PK X kws t) (i : ∀ σ H Q, t' σ H Q → t σ H Q) : PK X kws t' := ⟨fun p pins s σ H Q I w => h.run p pins s σ H Q I (i σ H Q w)⟩
section
variable {X : Cx} {CA : Nat → Addr} {pos : Pos}
theorem sk_nil : SK X CA [] wNil := ⟨fun W tk => PK.of pk_nil (by
  rintro σ H Q ⟨ρ, F, env, h, Qd, Ed, G, E, w, gq, gx⟩
  exact gq [] h ρ F [] H w (Ext.refl G) G Reps.nil)⟩
theorem sk_cons {e : Expr} {te : wE} {t : wL} {kws : List Keyword} {nm : Option Str} {kpos : Pos} (ha : SE X CA e te) (hr : SK X CA kws t) : SK X CA (⟨nm, e, kpos⟩ :: kws) (wCons te t) := ⟨fun W tk => PK.of (pk_cons (ha.run W tk) (hr.run W tk)) (by
  rintro σ H Q ⟨ρ, F, env, h, Qd, Ed, G, E, w, gq, gx⟩
  refine ⟨ρ, F, env, h, _, Ed, G, E, w, ?_, gx⟩
  intro x h1 ρ1 F1 v H1 hq X1 G1 R1
  refine ⟨ρ1, F1, env, h1, _, Ed, G1, E.ext X1, hq, ?_, gx.on X1⟩
  intro y h2 ρ2 F2 u H2 hq2 X2 G2 R2
  exact gq (x :: y) h2 ρ2 F2 (v :: u) H2 hq2 (X1.trans X2) G2 (Reps.cons (R1.ext X2) R2))⟩
/-- the parameters out of the positional arguments (inl) and the keywords' (inr) -/
def selA {α : Type} : List (Nat ⊕ Nat) → List α → List α → List α
  | [], _, _ => []
  | .inl i :: r, us, ws => (match us[i]? with
    | some u => u :: selA r us ws
    | none => selA r us ws)
  | .inr i :: r, us, ws => (match ws[i]? with
    | some u => u :: selA r us ws
    | none => selA r us ws)
theorem sel_vals {vs zs : List V} {us ws : List Value} (r1 : Vals vs us) (r2 : Vals zs ws) : ∀ sel : List (Nat ⊕ Nat), Vals (selA sel vs zs) (selA sel us ws)
  | [] => .nil
  | .inl i :: r => by
    have ih := sel_vals r1 r2 r
    unfold selA
    cases e : vs[i]? with
    | none => rw [Vals.none_of r1 e]; exact ih
    | some v =>
      obtain ⟨u, e2, q⟩ := r1.get e
      rw [e2]
      exact .cons q ih
  | .inr i :: r => by
    have ih := sel_vals r1 r2 r
    unfold selA
    cases e : zs[i]? with
    | none => rw [Vals.none_of r2 e]; exact ih
    | some v =>
      obtain ⟨u, e2, q⟩ := r2.get e
      rw [e2]
      exact .cons q ih
theorem sel_reps {K : PySem.W.Frag} {ρ : List Addr} {F : Hp} {ds es : List D} {vs zs : List V} (r1 : Reps K CA ρ F ds vs) (r2 : Reps K CA ρ F es zs) : ∀ sel : List (Nat ⊕ Nat), Reps K CA ρ F (selA sel ds es) (selA sel vs zs)
  | [] => Reps.nil
  | .inl i :: r => by
    have ih := sel_reps r1 r2 r
    unfold selA
    cases e : ds[i]? with
    | none =>
      have e2 : vs[i]? = none := by
        rw [List.getElem?_eq_none_iff] at e ⊢
        rw [← r1.length]
        exact e
      rw [e2]
      exact ih
    | some v =>
      obtain ⟨u, e2, q⟩ := r1.get e
      rw [e2]
      exact Reps.cons q ih
  | .inr i :: r => by
    have ih := sel_reps r1 r2 r
    unfold selA
    cases e : es[i]? with
    | none =>
      have e2 : zs[i]? = none := by
        rw [List.getElem?_eq_none_iff] at e ⊢
        rw [← r2.length]
        exact e
      rw [e2]
      exact ih
    | some v =>
      obtain ⟨u, e2, q⟩ := r2.get e
      rw [e2]
      exact Reps.cons q ih
/-- a def called with a positional arguments and the keywords ks -/
structure CalleeK (P : Program) (w : World) (K : PySem.W.Frag) (mg : Str → Option Value) (base : Heap) (CA : Nat → Addr) (k : Nat) (x : Str) (n a : Nat) (ks : List Str) (sel : List (Nat ⊕ Nat)) (C : Ct) : Prop where
  ex : ∃ f fd ps, mg x = some (.ref f) ∧ PySem.W.keepIn K (.ref f) = true ∧ ps.length = n ∧ (∀ (s : Shared) (us ws : List Value), us.length = a → ws.length = ks.length → BindsTo s fd ⟨us, ks.zip ws⟩ (ps.zip (selA sel us ws))) ∧ FnG P w K mg base (L2N.CX P w) k f fd ps (spD K CA n C)
theorem run_fnGK {CX : CXT} {k : Nat} {f : Addr} {fd : FuncData} {ps ks : List Str} {sel : List (Nat ⊕ Nat)} {sp : Sp} {E : XK} {pins : List (Addr × Obj)} {σ : L2.St} {H : Hp} {s : Shared} {Q : VK} {us ws : List Value} {vs zs : List V}
    (F : FnG X.prog X.w X.K X.mg X.base CX k f fd ps sp) (hr : Rm k X.A) (hb : BindsTo s fd ⟨us, ks.zip ws⟩ (ps.zip (selA sel us ws))) (hx : PassesAt CX X σ E) (I : Inv X pins σ H s) (r : Vals vs us) (rz : Vals zs ws) (hs : sp (selA sel vs zs) H Q E) :
    wpAny (model X.prog X.w) X.A (call (.ref f) us (ks.zip ws)) (EP X pins σ Q) X.xe s := by
  refine wpAny_call (codeAny_mono (F.run X.A X.stack s H ⟨us, ks.zip ws⟩ (selA sel us ws) (selA sel vs zs) Q E hr I.env0 hb (sel_vals r rz sel) hs) fun res s' hq => ?_)
  match res, hq with
  | .error e, hq => exact hx pins H s e s' I hq
  | .ok (.ret u), hq => exact I.after hq
  | .ok .next, hq => exact hq.elim
  | .ok .brk, hq => exact hq.elim
  | .ok .cont, hq => exact hq.elim
def wCallK (C : Ct) (n a : Nat) (ks : List Str) (sel : List (Nat ⊕ Nat)) (ta tk : wL) : wE := fun env h Q E => ta env h (fun ds h1 => tk env h1 (fun es h2 => ds.length = a ∧ es.length = ks.length ∧ (selA sel ds es).length = n ∧ C (selA sel ds es) h2 Q E) E) E
theorem callK_imp {K : PySem.W.Frag} {W : WX} {C : Ct} {n a : Nat} {ks : List Str} {sel : List (Nat ⊕ Nat)} {ta tk : wL} : ∀ σ H Q, rd K CA W (wCallK C n a ks sel ta tk) σ H Q → rdL K CA W ta σ H fun vs H1 => rdL K CA W tk σ H1 fun zs H2 => vs.length = a ∧ zs.length = ks.length ∧ spD K CA n C (selA sel vs zs) H2 Q (WE W σ) := by
  rintro σ H Q ⟨ρ, F, env, h, Qd, Ed, G, E, w, gq, gx⟩
  refine ⟨ρ, F, env, h, _, Ed, G, E, w, ?_, gx⟩
  intro ds h1 ρ1 F1 vs H1 hq X1 G1 R1
  refine ⟨ρ1, F1, env, h1, _, Ed, G1, E.ext X1, hq, ?_, gx.on X1⟩
  rintro es h2 ρ2 F2 zs H2 ⟨hl1, hl2, hl3, hq2⟩ X2 G2 R2
  have RR := sel_reps (R1.ext X2) R2 sel
  exact ⟨by rw [← R1.length]; exact hl1, by rw [← R2.length]; exact hl2, by rw [← RR.length]; exact hl3, ρ2, F2, h2, _, Qd, Ed, G2, RR, hq2, (gq.on X1).on X2, (gx.on X1).on X2⟩
theorem se_callK {k n a : Nat} {x : Str} {ks : List Str} {sel : List (Nat ⊕ Nat)} {C : Ct} {p : Pos} {e : Expr} {es : List Expr} {kws : List Keyword} {t tk : wL} (c : CalleeK X.prog X.w X.K X.mg X.base CA k x n a ks sel C) (hr : Rm k X.A) (ha : SA X CA (e :: es) t) (hkw : SK X CA kws tk) (hg : Gl X x := by rfl)
    (hall : (backToKw pos (keywordEach kws X.env)).all (·.1.isSome) = true := by rfl) (hks : (backToKw pos (keywordEach kws X.env)).filterMap (·.1) = ks := by rfl) (hdb : (x == ("__debug__" : Str)) = false := by decide)
    (he : starEach (e :: es) X.env = (false, eval e X.env) :: starEach es X.env := by rfl) (hpl : ((backTo pos (starEach (e :: es) X.env)).any (·.1) || (backToKw pos (keywordEach kws X.env)).any (·.1.isNone)) = false := by rfl) :
    SE X CA (.Call (.Name x p) (e :: es) kws pos) (wCallK C n a ks sel t tk) := ⟨fun W tkx => by
  obtain ⟨f, fd, ps, hm, hk, hn, hb, Fo⟩ := c.ex
  refine ⟨fun pins s σ H Q I hw => ?_⟩
  refine wpAny_Call_Name_kw (ld_glob I hg hm ?_ hdb)
  refine PySem.W.callWith_KW (h₀ := X.base) I.ok.mod.kin hk hall (thn ((ha.run W tkx).run pos pins s σ H _ I (callK_imp σ H Q hw)) fun us s1 ⟨vs, H1, I1, r, q⟩ => ?_) hpl he
  refine thn ((hkw.run W tkx).run pos pins s1 σ H1 _ I1 q) fun ws s2 ⟨zs, H2, I2, rz, l1, l2, q2⟩ => ⟨I2.kIn, ?_⟩
  rw [hks]
  exact run_fnGK Fo hr (hb s2 us ws (r.length.symm.trans l1) (rz.length.symm.trans l2)) (L2N.passAt tkx σ) I2 r rz q2⟩
theorem se_callK0 {k n : Nat} {x : Str} {ks : List Str} {sel : List (Nat ⊕ Nat)} {C : Ct} {p : Pos} {kws : List Keyword} {tk : wL} (c : CalleeK X.prog X.w X.K X.mg X.base CA k x n 0 ks sel C) (hr : Rm k X.A) (hkw : SK X CA kws tk) (hg : Gl X x := by rfl)
    (hall : (backToKw pos (keywordEach kws X.env)).all (·.1.isSome) = true := by rfl) (hks : (backToKw pos (keywordEach kws X.env)).filterMap (·.1) = ks := by rfl) (hdb : (x == ("__debug__" : Str)) = false := by decide)
    (hpl : ((backTo pos (starEach [] X.env)).any (·.1) || (backToKw pos (keywordEach kws X.env)).any (·.1.isNone)) = false := by rfl) :
    SE X CA (.Call (.Name x p) [] kws pos) (wCallK C n 0 ks sel wNil tk) := ⟨fun W tkx => by
  obtain ⟨f, fd, ps, hm, hk, hn, hb, Fo⟩ := c.ex
  refine ⟨fun pins s σ H Q I hw => ?_⟩
  refine wpAny_Call_Name_kw (ld_glob I hg hm ?_ hdb)
  obtain ⟨ρ, F, env, h, Qd, Ed, G, E, w, gq, gx⟩ := hw
  have hw2 : rdL X.K CA W tk σ H fun zs H2 => zs.length = ks.length ∧ spD X.K CA n C (selA sel [] zs) H2 Q (WE W σ) := by
    refine ⟨ρ, F, env, h, _, Ed, G, E, w, ?_, gx⟩
    rintro es h2 ρ2 F2 zs H2 ⟨hl1, hl2, hl3, hq2⟩ X2 G2 R2
    have RR := sel_reps (CA := CA) (K := X.K) (ρ := ρ2) (F := F2) (ds := []) (vs := []) Reps.nil R2 sel
    exact ⟨by rw [← R2.length]; exact hl2, by rw [← RR.length]; exact hl3, ρ2, F2, h2, _, Qd, Ed, G2, RR, hq2, gq.on X2, gx.on X2⟩
  refine PySem.W.callWith_KW0 (h₀ := X.base) I.ok.mod.kin hk hall (thn ((hkw.run W tkx).run pos pins s σ H _ I hw2) fun ws s2 ⟨zs, H2, I2, rz, l2, q2⟩ => ⟨I2.kIn, ?_⟩) hpl
  rw [hks]
  exact run_fnGK (us := []) Fo hr (hb s2 [] ws rfl (rz.length.symm.trans l2)) (L2N.passAt tkx σ) I2 .nil rz q2⟩

/-! ### dict displays -/
def wDic0 : wE := fun _ h Q _ => Q (.dic [] []) h
theorem se_dic0 : SE X CA (.Dict [] [] pos) wDic0 := ⟨fun W tk => PE.of pe_dnewK (by
  rintro σ H Q ⟨ρ, F, env, h, Qd, Ed, G, E, w, gq, gx⟩
  intro p hp
  obtain ⟨G2, X2⟩ := G.frozen hp (.dK [])
  exact gq _ _ _ _ _ _ w X2 G2 ⟨p, [], rfl, upd_same, rfl, rfl⟩)⟩
def keyD : D → Option Key
  | .int i => some (.inl i)
  | .str x => some (.inr x)
  | _ => none
theorem keyD_rep {K : PySem.W.Frag} {ρ : List Addr} {F : Hp} {d : D} {v : V} {k : Key} (r : Rep K CA ρ F d v) (e : keyD d = some k) : v = kV k := by
  cases d with
  | int i =>
    cases e
    exact r
  | str i =>
    cases e
    exact r
  | _ => cases e
/-- {k: v}, one pair -/
def wDic1 (tk tv : wE) : wE := fun env h Q E => tk env h (fun x h1 => tv env h1 (fun y h2 => match keyD x with
  | some k => Q (.dic [k] [y]) h2
  | none => False) (fun _ _ => False)) (fun _ _ => False)
theorem se_dic1 {k v : Expr} {tk tv : wE} (hk : SE X CA k tk) (hv : SE X CA v tv) : SE X CA (.Dict [some k] [v] pos) (wDic1 tk tv) := ⟨fun W tkx => PE.of (pe_disp (pps_cons (hk.run W tkx) (hv.run W tkx) pps_nil) rfl rfl (by simp) (by simp)) (by
  rintro σ H Q ⟨ρ, F, env, h, Qd, Ed, G, E, w, gq, gx⟩
  intro p hp
  obtain ⟨fp, np⟩ := G.free hp
  have Xa : Ext ρ F H ρ F (upd H p (.dK [])) := (Ext.refl G).aside hp _
  have Ga := G.aside fp np (.dK [])
  refine ⟨ρ, F, env, h, _, _, Ga, E, w, ?_, goX_no⟩
  intro x h1 ρ1 F1 v1 H1 hq X1 G1 R1
  refine ⟨ρ1, F1, env, h1, _, _, G1, E.ext (Xa.trans X1), hq, ?_, goX_no⟩
  intro y h2 ρ2 F2 v2 H2 hq2 X2 G2 R2
  obtain ⟨f1, n1, e1⟩ := X1.still (upd_same (H := H) (a := p) (o := HO.dK [])) fp np
  obtain ⟨f2, n2, e2⟩ := X2.still e1 f1 n1
  split at hq2
  · rename_i k' ek
    have e3 := keyD_rep (R1.ext X2) ek
    subst e3
    refine ⟨e2, [(k', v2)], rfl, by simp, ?_⟩
    have e4 : mergeK [] [(k', v2)] = [(k', v2)] := rfl
    rw [e4]
    have XX := ((Xa.trans X1).trans X2).aside hp (HO.dK [(k', v2)])
    have GG := G2.aside f2 n2 (HO.dK [(k', v2)])
    refine gq _ _ _ _ _ _ hq2 (XX.adopt hp f2 n2 (HO.dK [(k', v2)])) (GG.adopt f2 n2 upd_same) ⟨p, [v2], rfl, upd_same, rfl, ?_⟩
    exact Reps.cons (Rep.sub ⟨[], by simp⟩ (fun b u e => by
      rw [upd_ne (ne_of_none e f2)]
      exact e) _ _ R2) Reps.nil
  · exact hq2.elim)⟩
/-- == of two dicts that hold the same -/
def eqDicD : fO := fun x y h Q => match x, y with
  | .dic ks ds, .dic ks' ds' => ks = ks' ∧ ks.Nodup ∧ ∃ vs, flDs ds = some vs ∧ flDs ds' = some vs ∧ Q (.bl true) h
  | _, _ => False
theorem flat_flatB {v : V} (h : flatV v = true) : flatB v = true := by
  cases v <;> first | rfl | cases h
theorem od_eqDic {K : PySem.W.Frag} : OpD K CA eqDicD (fun x y H Q => ∃ a b kvs, x = .ref a ∧ y = .ref b ∧ H a = some (.dK kvs) ∧ H b = some (.dK kvs) ∧ (kvs.map (·.1)).Nodup ∧ (∀ p ∈ kvs, flatB p.2 = true) ∧ Q (.bl true) H) := by
  intro ρ F h H x y v u Qd Q G R1 R2 w g
  unfold eqDicD at w
  split at w
  · rename_i ks ds ks' ds'
    obtain ⟨rfl, nd, vs, e1, e2, w⟩ := w
    obtain ⟨a, xs, rfl, q1, l1, r1⟩ := R1
    obtain ⟨b, ys, rfl, q2, l2, r2⟩ := R2
    obtain ⟨z1, fl⟩ := flDs_rep r1 e1
    obtain ⟨z2, _⟩ := flDs_rep r2 e2
    have q3 : F b = some (.dK (ks.zip xs)) := by rw [z1, ← z2]; exact q2
    have lz : ks.length = xs.length := l1.trans r1.length
    refine ⟨a, b, ks.zip xs, rfl, rfl, G.sub _ _ q1, G.sub _ _ q3, ?_, ?_, g _ _ _ _ _ _ w (Ext.refl G) G rfl⟩
    · rw [List.map_fst_zip (Nat.le_of_eq lz)]
      exact nd
    · intro p hp
      have := (List.of_mem_zip (a := p.1) (b := p.2) hp).2
      exact flat_flatB (List.all_eq_true.mp fl _ this)
  · exact w.elim
end
end DL
/-! DL8: what the readings' helpers are at each kind of datum. -/
namespace DL
open PySem PySem.Spec PyProof.Rows L2
theorem lstOf_non {h : Hs} : lstOf h .non = none := rfl
theorem lstTr_non {h : Hs} : lstTr h .non = none := rfl
theorem tyN_non {h : Hs} : tyN h .non = some "NoneType" := rfl
theorem isNon_non : DL.isNon .non = true := rfl
theorem flD_non : flD .non = some .non := rfl
theorem keyD_non : keyD .non = none := rfl
theorem tyM_non {T : String} {h : Hs} : tyM T h .non = (False) := rfl
theorem lstOf_bl {h : Hs} {b : Bool} : lstOf h (.bl b) = none := rfl
theorem lstTr_bl {h : Hs} {b : Bool} : lstTr h (.bl b) = none := rfl
theorem tyN_bl {h : Hs} {b : Bool} : tyN h (.bl b) = some "bool" := rfl
theorem isNon_bl {b : Bool} : DL.isNon (.bl b) = false := rfl
theorem flD_bl {b : Bool} : flD (.bl b) = some (.bl b) := rfl
theorem keyD_bl {b : Bool} : keyD (.bl b) = none := rfl
theorem tyM_bl {T : String} {h : Hs} {b : Bool} : tyM T h (.bl b) = (False) := rfl
theorem lstOf_int {h : Hs} {i : Int} : lstOf h (.int i) = none := rfl
theorem lstTr_int {h : Hs} {i : Int} : lstTr h (.int i) = none := rfl
theorem tyN_int {h : Hs} {i : Int} : tyN h (.int i) = some "int" := rfl
theorem isNon_int {i : Int} : DL.isNon (.int i) = false := rfl
theorem flD_int {i : Int} : flD (.int i) = some (.int i) := rfl
theorem keyD_int {i : Int} : keyD (.int i) = some (.inl i) := rfl
theorem tyM_int {T : String} {h : Hs} {i : Int} : tyM T h (.int i) = (False) := rfl
theorem lstOf_str {h : Hs} {x : Str} : lstOf h (.str x) = none := rfl
theorem lstTr_str {h : Hs} {x : Str} : lstTr h (.str x) = none := rfl
theorem tyN_str {h : Hs} {x : Str} : tyN h (.str x) = some "str" := rfl
theorem isNon_str {x : Str} : DL.isNon (.str x) = false := rfl
theorem flD_str {x : Str} : flD (.str x) = some (.str x) := rfl
theorem keyD_str {x : Str} : keyD (.str x) = some (.inr x) := rfl
theorem tyM_str {T : String} {h : Hs} {x : Str} : tyM T h (.str x) = (T = "str") := rfl
theorem lstOf_ty {h : Hs} {n : String} : lstOf h (.ty n) = none := rfl
theorem lstTr_ty {h : Hs} {n : String} : lstTr h (.ty n) = none := rfl
theorem tyN_ty {h : Hs} {n : String} : tyN h (.ty n) = none := rfl
theorem isNon_ty {n : String} : DL.isNon (.ty n) = false := rfl
theorem flD_ty {n : String} : flD (.ty n) = none := rfl
theorem keyD_ty {n : String} : keyD (.ty n) = none := rfl
theorem tyM_ty {T : String} {h : Hs} {n : String} : tyM T h (.ty n) = (False) := rfl
theorem lstOf_gl {h : Hs} {a : Addr} : lstOf h (.gl a) = none := rfl
theorem lstTr_gl {h : Hs} {a : Addr} : lstTr h (.gl a) = none := rfl
theorem tyN_gl {h : Hs} {a : Addr} : tyN h (.gl a) = none := rfl
theorem isNon_gl {a : Addr} : DL.isNon (.gl a) = false := rfl
theorem flD_gl {a : Addr} : flD (.gl a) = none := rfl
theorem keyD_gl {a : Addr} : keyD (.gl a) = none := rfl
theorem tyM_gl {T : String} {h : Hs} {a : Addr} : tyM T h (.gl a) = (False) := rfl
theorem lstOf_tup {h : Hs} {ds : List D} : lstOf h (.tup ds) = none := rfl
theorem lstTr_tup {h : Hs} {ds : List D} : lstTr h (.tup ds) = none := rfl
theorem tyN_tup {h : Hs} {ds : List D} : tyN h (.tup ds) = some "tuple" := rfl
theorem isNon_tup {ds : List D} : DL.isNon (.tup ds) = false := rfl
theorem flD_tup {ds : List D} : flD (.tup ds) = none := rfl
theorem keyD_tup {ds : List D} : keyD (.tup ds) = none := rfl
theorem tyM_tup {T : String} {h : Hs} {ds : List D} : tyM T h (.tup ds) = (False) := rfl
theorem lstOf_lst {h : Hs} {ds : List D} : lstOf h (.lst ds) = some ds := rfl
theorem lstTr_lst {h : Hs} {ds : List D} : lstTr h (.lst ds) = some ds := rfl
theorem tyN_lst {h : Hs} {ds : List D} : tyN h (.lst ds) = some "list" := rfl
theorem isNon_lst {ds : List D} : DL.isNon (.lst ds) = false := rfl
theorem flD_lst {ds : List D} : flD (.lst ds) = none := rfl
theorem keyD_lst {ds : List D} : keyD (.lst ds) = none := rfl
theorem tyM_lst {T : String} {h : Hs} {ds : List D} : tyM T h (.lst ds) = (T = "list") := rfl
theorem lstOf_rol {h : Hs} {ds : List D} : lstOf h (.rol ds) = some ds := rfl
theorem lstTr_rol {h : Hs} {ds : List D} : lstTr h (.rol ds) = none := rfl
theorem tyN_rol {h : Hs} {ds : List D} : tyN h (.rol ds) = none := rfl
theorem isNon_rol {ds : List D} : DL.isNon (.rol ds) = false := rfl
theorem flD_rol {ds : List D} : flD (.rol ds) = none := rfl
theorem keyD_rol {ds : List D} : keyD (.rol ds) = none := rfl
theorem tyM_rol {T : String} {h : Hs} {ds : List D} : tyM T h (.rol ds) = (T = "list") := rfl
theorem lstOf_dic {h : Hs} {ks : List Key} {ds : List D} : lstOf h (.dic ks ds) = none := rfl
theorem lstTr_dic {h : Hs} {ks : List Key} {ds : List D} : lstTr h (.dic ks ds) = none := rfl
theorem tyN_dic {h : Hs} {ks : List Key} {ds : List D} : tyN h (.dic ks ds) = some "dict" := rfl
theorem isNon_dic {ks : List Key} {ds : List D} : DL.isNon (.dic ks ds) = false := rfl
theorem flD_dic {ks : List Key} {ds : List D} : flD (.dic ks ds) = none := rfl
theorem keyD_dic {ks : List Key} {ds : List D} : keyD (.dic ks ds) = none := rfl
theorem tyM_dic {T : String} {h : Hs} {ks : List Key} {ds : List D} : tyM T h (.dic ks ds) = (T = "dict") := rfl
theorem lstOf_obj {h : Hs} {c : Nat} {ns : List Str} {ds : List D} : lstOf h (.obj c ns ds) = none := rfl
theorem lstTr_obj {h : Hs} {c : Nat} {ns : List Str} {ds : List D} : lstTr h (.obj c ns ds) = none := rfl
theorem tyN_obj {h : Hs} {c : Nat} {ns : List Str} {ds : List D} : tyN h (.obj c ns ds) = none := rfl
theorem isNon_obj {c : Nat} {ns : List Str} {ds : List D} : DL.isNon (.obj c ns ds) = false := rfl
theorem flD_obj {c : Nat} {ns : List Str} {ds : List D} : flD (.obj c ns ds) = none := rfl
theorem keyD_obj {c : Nat} {ns : List Str} {ds : List D} : keyD (.obj c ns ds) = none := rfl
theorem tyM_obj {T : String} {h : Hs} {c : Nat} {ns : List Str} {ds : List D} : tyM T h (.obj c ns ds) = (False) := rfl
theorem lstOf_ref {h : Hs} {i : Nat} {ds : List D} (e : h[i]? = some (.lst ds)) : lstOf h (.ref i) = some ds := by simp only [lstOf, e]
theorem lstTr_ref {h : Hs} {i : Nat} {ds : List D} (e : h[i]? = some (.lst ds)) : lstTr h (.ref i) = some ds := by simp only [lstTr, e]
theorem tyN_refl {h : Hs} {i : Nat} {ds : List D} (e : h[i]? = some (.lst ds)) : tyN h (.ref i) = some "list" := by simp only [tyN, e]
theorem tyM_refl {T : String} {h : Hs} {i : Nat} {ds : List D} (e : h[i]? = some (.lst ds)) : tyM T h (.ref i) = (T = "list") := by simp only [tyM, e]
theorem kib_int_int : kitB "int" "int" = some true := by decide +kernel
theorem kib_bool_int : kitB "bool" "int" = some true := by decide +kernel
theorem kib_bool_bool : kitB "bool" "bool" = some true := by decide +kernel
theorem kib_int_bool : kitB "int" "bool" = some false := by decide +kernel
theorem kib_NoneType_int : kitB "NoneType" "int" = some false := by decide +kernel
theorem kib_str_int : kitB "str" "int" = some false := by decide +kernel
theorem kib_tuple_int : kitB "tuple" "int" = some false := by decide +kernel
theorem kib_list_int : kitB "list" "int" = some false := by decide +kernel
theorem kib_dict_int : kitB "dict" "int" = some false := by decide +kernel
theorem kib_NoneType_str : kitB "NoneType" "str" = some false := by decide +kernel
theorem kib_bool_str : kitB "bool" "str" = some false := by decide +kernel
theorem kib_int_str : kitB "int" "str" = some false := by decide +kernel
theorem kib_str_str : kitB "str" "str" = some true := by decide +kernel
theorem kib_tuple_str : kitB "tuple" "str" = some false := by decide +kernel
theorem kib_list_str : kitB "list" "str" = some false := by decide +kernel
theorem kib_dict_str : kitB "dict" "str" = some false := by decide +kernel
theorem kib_NoneType_tuple : kitB "NoneType" "tuple" = some false := by decide +kernel
theorem kib_bool_tuple : kitB "bool" "tuple" = some false := by decide +kernel
theorem kib_int_tuple : kitB "int" "tuple" = some false := by decide +kernel
theorem kib_str_tuple : kitB "str" "tuple" = some false := by decide +kernel
theorem kib_tuple_tuple : kitB "tuple" "tuple" = some true := by decide +kernel
theorem kib_list_tuple : kitB "list" "tuple" = some false := by decide +kernel
theorem kib_dict_tuple : kitB "dict" "tuple" = some false := by decide +kernel
theorem kib_NoneType_dict : kitB "NoneType" "dict" = some false := by decide +kernel
theorem kib_bool_dict : kitB "bool" "dict" = some false := by decide +kernel
theorem kib_int_dict : kitB "int" "dict" = some false := by decide +kernel
theorem kib_str_dict : kitB "str" "dict" = some false := by decide +kernel
theorem kib_tuple_dict : kitB "tuple" "dict" = some false := by decide +kernel
theorem kib_list_dict : kitB "list" "dict" = some false := by decide +kernel
theorem kib_dict_dict : kitB "dict" "dict" = some true := by decide +kernel
end DL
/-! DL9: comprehensions and lists of known data. -/
namespace DL
open PySem PySem.Spec PyProof.Rows L2
theorem lc_map {k : Nat} {te : wE} {env : Env} (f : D → D) : ∀ (ds acc : List D) (h : Hs) (Q : PL), (∀ d ∈ ds, ∀ (Q' : PQ) (E' : PX), Q' (f d) h → te (env.set k (some d)) h Q' E') → Q (acc ++ ds.map f) h → wLcL (wGn k) wYes te env ds acc h Q
  | [], acc, h, Q, _, q => by
    rw [List.map_nil, List.append_nil] at q
    exact q
  | d :: ds, acc, h, Q, hf, q => by
    show te (env.set k (some d)) h (fun y h2 => wLcL (wGn k) wYes te env ds (acc ++ [y]) h2 Q) (fun _ _ => False)
    refine hf d (List.mem_cons_self ..) _ _ ?_
    refine lc_map f ds (acc ++ [f d]) h Q (fun e he => hf e (List.mem_cons_of_mem _ he)) ?_
    rw [List.append_assoc]
    exact q
theorem lc_filt {k : Nat} {tt : wT} {te : wE} {env : Env} (p : D → Bool) (f : D → D) : ∀ (ds acc : List D) (h : Hs) (Q : PL), (∀ d ∈ ds, ∀ (Q' : Bool → Hs → Prop) (E' : PX), Q' (p d) h → tt (env.set k (some d)) h Q' E') → (∀ d ∈ ds, p d = true → ∀ (Q' : PQ) (E' : PX), Q' (f d) h → te (env.set k (some d)) h Q' E') →
    Q (acc ++ (ds.filter p).map f) h → wLcL (wGn k) tt te env ds acc h Q
  | [], acc, h, Q, _, _, q => by
    rw [List.filter_nil, List.map_nil, List.append_nil] at q
    exact q
  | d :: ds, acc, h, Q, hp, hf, q => by
    refine hp d (List.mem_cons_self ..) _ _ ?_
    cases e : p d with
    | false =>
      rw [if_neg Bool.false_ne_true]
      rw [List.filter_cons_of_neg (by rw [e]; exact Bool.false_ne_true)] at q
      exact lc_filt p f ds acc h Q (fun e he => hp e (List.mem_cons_of_mem _ he)) (fun e he => hf e (List.mem_cons_of_mem _ he)) q
    | true =>
      rw [if_pos rfl]
      rw [List.filter_cons_of_pos e, List.map_cons] at q
      refine hf d (List.mem_cons_self ..) e _ _ ?_
      refine lc_filt p f ds (acc ++ [f d]) h Q (fun e he => hp e (List.mem_cons_of_mem _ he)) (fun e he => hf e (List.mem_cons_of_mem _ he)) ?_
      rw [List.append_assoc]
      exact q
theorem blsL_f {α : Type} (p : α → Bool) : ∀ l : List α, blsL (l.map fun a => D.bl (p a)) = some (l.map p)
  | [] => rfl
  | a :: l => by rw [List.map_cons, blsL, blsL_f p l]; rfl
theorem intsL_f {α : Type} (p : α → Int) : ∀ l : List α, intsL (l.map fun a => D.int (p a)) = some (l.map p)
  | [] => rfl
  | a :: l => by rw [List.map_cons, intsL, intsL_f p l]; rfl
theorem strsL_f {α : Type} (p : α → Str) : ∀ l : List α, strsL (l.map fun a => D.str (p a)) = some (l.map p)
  | [] => rfl
  | a :: l => by rw [List.map_cons, strsL, strsL_f p l]; rfl
/-- an item at an index that lies within -/
theorem atI_of {α : Type} {xs : List α} {i : Int} (h0 : 0 ≤ i) (h1 : i < xs.length) : ∃ x, atI xs i = some x ∧ x ∈ xs := by
  unfold atI ixN
  rw [if_pos h0, if_pos h1]
  have : i.toNat < xs.length := by omega
  exact ⟨xs[i.toNat], by simp [this], List.getElem_mem _⟩
theorem atI_nn {α : Type} {xs : List α} {i : Nat} : atI xs (i : Int) = xs[i]? := by
  unfold atI ixN
  rw [if_pos (by omega)]
  by_cases h : (i : Int) < xs.length
  · rw [if_pos h]
    rfl
  · rw [if_neg h, List.getElem?_eq_none (by omega)]
    rfl
theorem atI_0 {α : Type} {x : α} {xs : List α} : atI (x :: xs) 0 = some x := atI_nn (i := 0)
theorem atI_1 {α : Type} {x y : α} {xs : List α} : atI (x :: y :: xs) 1 = some y := atI_nn (i := 1)
theorem atI_2 {α : Type} {x y z : α} {xs : List α} : atI (x :: y :: z :: xs) 2 = some z := atI_nn (i := 2)
theorem ixN_0 {n : Nat} (h : 0 < n) : ixN n 0 = some 0 := by
  unfold ixN
  rw [if_pos (Int.le_refl 0), if_pos (by omega)]
  rfl
theorem ixN_1 {n : Nat} (h : 1 < n) : ixN n 1 = some 1 := by
  unfold ixN
  rw [if_pos (by decide), if_pos (by omega)]
  rfl
theorem ixN_2 {n : Nat} (h : 2 < n) : ixN n 2 = some 2 := by
  unfold ixN
  rw [if_pos (by decide), if_pos (by omega)]
  rfl
end DL
/-! DL10: rules for loops and comprehensions by an invariant; texts as lists of signs. -/
namespace DL
open PySem PySem.Spec PyProof.Rows L2
theorem cmR {i j : Int} (h : (-(2 ^ 64) < j ∧ j < 2 ^ 64)) : CMul i j ∨ CMulW i j := .inl (.inr h)
theorem cmL {i j : Int} (h : (-(2 ^ 64) < i ∧ i < 2 ^ 64)) : CMul i j ∨ CMulW i j := .inl (.inl h)
theorem cutL_mem {α : Type} {xs : List α} {lo hi : Option Int} {x : α} (h : x ∈ cutL xs lo hi) : x ∈ xs := List.mem_of_mem_drop (List.mem_of_mem_take h)
theorem cps_app (a b : Str) : (a ++ b).cps.toList = a.cps.toList ++ b.cps.toList := by
  show (a.cps ++ b.cps).toList = _
  simp
theorem len_cps (a : Str) : a.length = a.cps.toList.length := rfl
theorem len_app (a b : Str) : (a ++ b).length = a.length + b.length := by rw [len_cps, cps_app, List.length_append]; rfl
theorem cps_one (c : Nat) : (⟨#[c]⟩ : Str).cps.toList = [c] := rfl
theorem len_one (c : Nat) : (⟨#[c]⟩ : Str).length = 1 := rfl
theorem cutS_le (z : Str) (lo hi : Option Int) : (cutS z lo hi).length ≤ z.length := by
  rw [len_cps, len_cps]
  unfold cutS
  simp only [List.length_take, List.length_drop]
  omega
theorem cutS_len (z : Str) (lo hi : Option Int) : (cutS z lo hi).length = min (HT.sIx z.length z.length hi - HT.sIx z.length 0 lo) (z.length - HT.sIx z.length 0 lo) := by
  rw [len_cps]
  unfold cutS
  simp only [List.length_take, List.length_drop, len_cps]
/-- a comprehension by an invariant -/
theorem lc_inv {k : Nat} {te : wE} {env : Env} {Q : PL} (I : List D → Hs → Prop) : ∀ (ds acc : List D) (h : Hs), I acc h → (∀ d ∈ ds, ∀ acc h, I acc h → ∀ (Q' : PQ) (E' : PX), (∀ y h', I (acc ++ [y]) h' → Q' y h') → te (env.set k (some d)) h Q' E') → (∀ acc' h', acc'.length = acc.length + ds.length → I acc' h' → Q acc' h') → wLcL (wGn k) wYes te env ds acc h Q
  | [], acc, h, i, _, q => q _ _ rfl i
  | d :: ds, acc, h, i, hf, q => by
    show te (env.set k (some d)) h (fun y h2 => wLcL (wGn k) wYes te env ds (acc ++ [y]) h2 Q) (fun _ _ => False)
    exact hf d (List.mem_cons_self ..) acc h i _ _ fun y h' i' => lc_inv I ds (acc ++ [y]) h' i' (fun e he => hf e (List.mem_cons_of_mem _ he)) fun acc' h2 e => q acc' h2 (by rw [e, List.length_append, List.length_cons, List.length_cons, List.length_nil]; omega)
/-- a for loop by an invariant -/
theorem for_inv {g : wG} {tb : wS} {D : Dn} (J : List DL.D → Env → Hs → Prop)
    (hstep : ∀ d ds env h, J (d :: ds) env h → ∀ D' : Dn, D'.rt = D.rt → D'.bk = D.nx → D'.ex = D.ex → (∀ env' h', J ds env' h' → D'.nx env' h') → (∀ env' h', J ds env' h' → D'.ct env' h') → g d env fun env' => tb D' env' h)
    (hend : ∀ env h, J [] env h → D.nx env h) : ∀ ds env h, J ds env h → wForL g tb ds D env h
  | [], env, h, j => hend env h j
  | d :: ds, env, h, j => hstep d ds env h j _ rfl rfl rfl (fun env' h' j' => for_inv J hstep hend ds env' h' j') (fun env' h' j' => for_inv J hstep hend ds env' h' j')
theorem rangeD_len (lo : Int) (n : Nat) : (rangeD lo n).length = n := by unfold rangeD; simp
theorem rangeD_mem {lo : Int} {n : Nat} {d : D} (h : d ∈ rangeD lo n) : ∃ i : Int, d = .int i ∧ lo ≤ i ∧ i < lo + n := by
  unfold rangeD at h
  obtain ⟨i, hi, rfl⟩ := List.mem_map.mp h
  rw [List.mem_range] at hi
  exact ⟨_, rfl, by omega, by omega⟩
theorem strsL_app {a b : List D} {x y : List Str} (h1 : strsL a = some x) (h2 : strsL b = some y) : strsL (a ++ b) = some (x ++ y) := by
  induction a generalizing x with
  | nil => cases h1; exact h2
  | cons d a ih =>
    cases d with
    | str z =>
      rw [List.cons_append]
      simp only [strsL] at h1 ⊢
      cases e : strsL a with
      | none => rw [e] at h1; cases h1
      | some w =>
        rw [e] at h1
        cases h1
        rw [ih e]
        rfl
    | _ => cases h1
theorem blsL_app {a b : List D} {x y : List Bool} (h1 : blsL a = some x) (h2 : blsL b = some y) : blsL (a ++ b) = some (x ++ y) := by
  induction a generalizing x with
  | nil => cases h1; exact h2
  | cons d a ih =>
    cases d with
    | bl z =>
      rw [List.cons_append]
      simp only [blsL] at h1 ⊢
      cases e : blsL a with
      | none => rw [e] at h1; cases h1
      | some w =>
        rw [e] at h1
        cases h1
        rw [ih e]
        rfl
    | _ => cases h1
theorem join_le (sep : Str) (xs : List Str) : (Txt.join sep xs).length ≤ (xs.map (·.length)).sum + xs.length * sep.length := by
  show (Builtin.Str.glued sep xs).length ≤ _
  rw [StrLaws.glued_eq_join]
  exact StrLaws.join_length_le sep xs
theorem sum_le {b : Nat} : ∀ {xs : List Str}, (∀ x ∈ xs, x.length ≤ b) → (xs.map (·.length)).sum ≤ xs.length * b
  | [], _ => Nat.zero_le _
  | x :: xs, h => by
    have h1 := h x (List.mem_cons_self ..)
    have h2 := sum_le (xs := xs) fun y hy => h y (List.mem_cons_of_mem _ hy)
    rw [List.map_cons, List.sum_cons, List.length_cons, Nat.succ_mul]
    omega
/-- a contract for every element of a comprehension that is always true -/
theorem lc_true {k : Nat} {te : wE} {env : Env} {Q : PL} (I : Hs → Prop) (ds : List D) (h : Hs) (i : I h) (hf : ∀ d ∈ ds, ∀ h, I h → ∀ (Q' : PQ) (E' : PX), (∀ h', I h' → Q' (.bl true) h') → te (env.set k (some d)) h Q' E') (q : ∀ n h', I h' → Q (List.replicate n (.bl true)) h') : wLcL (wGn k) wYes te env ds [] h Q := by
  refine lc_inv (fun acc h => I h ∧ ∃ n, acc = List.replicate n (.bl true)) ds [] h ⟨i, 0, rfl⟩ ?_ ?_
  · rintro d hd acc h ⟨i1, n, rfl⟩ Q' E' q'
    exact hf d hd h i1 Q' E' fun h' i2 => q' _ _ ⟨i2, n + 1, List.replicate_succ'.symm⟩
  · rintro acc h' - ⟨i1, n, rfl⟩
    exact q n h' i1
theorem blsL_rep : ∀ n : Nat, blsL (List.replicate n (.bl true)) = some (List.replicate n true)
  | 0 => rfl
  | n + 1 => by rw [List.replicate_succ, blsL, blsL_rep n]; rfl
theorem all_rep : ∀ n : Nat, (List.replicate n true).all id = true
  | 0 => rfl
  | n + 1 => by rw [List.replicate_succ, List.all_cons, all_rep n]; rfl
end DL
/-! DL11: the end of a law over data contracts. -/
namespace DL
open PySem PySem.Spec PyProof.Rows L2
theorem reps_ints {K : PySem.W.Frag} {CA : Nat → Addr} {ρ : List Addr} {F : Hp} : ∀ ns : List Int, Reps K CA ρ F (ns.map D.int) (ns.map V.int)
  | [] => Reps.nil
  | _ :: ns => Reps.cons rfl (reps_ints ns)
/-- what the law's def says of one script: it gives True -/
def Says (C : Ct) (n : Nat) : Prop := ∀ ns : List Int, ns.length ≤ n → (∀ z ∈ ns, Builtin.Int.intBits z ≤ 1048576) → ∀ Q E, (∀ h', Q (.bl true) h') → C [.rol (ns.map .int)] [] Q E
theorem law_end {P : Program} {w : World} {K : PySem.W.Frag} {mg mb : Str → Option Value} {k n : Nat} {fa a : Addr} {fd : FuncData} {x : Str} {C : Ct} {CA : Nat → Addr} {s : Shared} {vs : List Value} {ns : List Int}
    (KX : K.In s.heap) (g1 : s.heap.Ns mainGlobals mg) (g2 : s.heap.Ns builtinsNs mb) (g3 : ∀ x : Str, x ≠ "__name__" → mb x = bootBuiltins x) (g4 : s.heap.NoLimit) (g5 : s.gens = #[])
    (o1 : s.heap.get? a = some { cls := .type "list", data := .seq vs.toArray }) (iv : IntsAre vs ns) (hl : ns.length ≤ n) (hn : n ≤ sizeLine) (hbits : ∀ z ∈ ns, Builtin.Int.intBits z ≤ 1048576) (hr : Rm k callerA)
    (F : ∀ base : Heap, K.In base → base.Ns mainGlobals mg → FnG P w K mg base (L2N.CX P w) k fa fd [x] (spD K CA 1 C)) (hbind : ∀ (s : Shared) (u : Value), BindsTo s fd ⟨[u], []⟩ [(x, u)]) (hC : Says C n) :
    codeAny (model P w) callerA (.call (.ref fa) ⟨[.ref a], []⟩) (fun r s' => r = .ok (.ret (.bool true)) ∧ OldK s.heap s'.heap ∧ s'.os = s.os ∧ AllBare s'.gens) s := by
  -- what is tracked: the script, unless the module itself holds it
  obtain ⟨H, hH⟩ : ∃ H : Hp, ∀ b, H b = if b = a ∧ K.lookup a = none then some (.frz { cls := .type "list", data := .seq vs.toArray } (.lst (ns.map V.int))) else none := ⟨_, fun _ => rfl⟩
  have only : ∀ b u, H b = some u → b = a ∧ K.lookup a = none ∧ u = .frz { cls := .type "list", data := .seq vs.toArray } (.lst (ns.map V.int)) := fun b u e => by
    rw [hH] at e
    split at e
    · rename_i c
      cases e
      exact ⟨c.1, c.2, rfl⟩
    · cases e
  have lv := iv.length
  have rv := vals_ints iv
  have sq : SqL K H a (ns.map V.int) := by
    cases e : K.lookup a with
    | none => exact .inl (.inr ⟨_, (hH a).trans (if_pos ⟨rfl, e⟩)⟩)
    | some ob =>
      have e2 := KX a ob e
      rw [o1] at e2
      cases e2
      exact .inr ⟨_, vs.toArray, _, e, rfl, rfl, rfl, by rw [List.size_toArray, lv]; exact Nat.le_trans hl hn, by simpa using rv⟩
  have hok : HOk P w H s.heap := fun b u e => by
    obtain ⟨rfl, _, rfl⟩ := only b u e
    exact ⟨o1, by rw [List.length_map]; exact Nat.le_trans hl hn, vs, _, rv, o1⟩
  have free : ∀ {b : Addr} {o : Obj}, s.heap.get? b = some o → (H b ≠ none → False) → (hidT s.heap H).get? b = some o := fun {b o} e z => hidT_get e (by
    cases q : H b with
    | none => rfl
    | some u => exact (z (by rw [q]; simp)).elim)
  have names : ∀ {b : Addr} {m : Str → Option Value}, s.heap.Ns b m → (hidT s.heap H).Ns b m := fun {b m} ⟨o, es, ep, e, d, r⟩ => ⟨o, es, ep, free e (fun z => by
    cases q : H b with
    | none => exact z q
    | some u =>
      obtain ⟨rfl, _, _⟩ := only b u q
      rw [o1] at e
      cases e
      cases (show Data.seq vs.toArray _ = Data.dict es ep from d)), d, r⟩
  have inB : K.In (hidT s.heap H) := fun b o e => free (KX b o e) fun z => by
    cases q : H b with
    | none => exact z q
    | some u =>
      obtain ⟨rfl, e2, _⟩ := only b u q
      rw [e2] at e
      cases e
  have e0 : Env0 P w K mg (hidT s.heap H) callerA [] s H := ⟨rfl, ⟨inB, names g1, ⟨mb, names g2, g3⟩, let ⟨mc, h1, h2⟩ := g4; ⟨mc, names h1, h2⟩⟩, fun b o e => of_hidT e, Nat.le_of_eq (hidT_size _ _), trivial, fun b hb => (List.not_mem_nil hb).elim, hok, .of_eq g5⟩
  have G0 : GRel K CA [] (fun b => H b) [] H := ⟨fun _ _ e => e, rfl, List.nodup_nil, fun _ z => (List.not_mem_nil z).elim, fun _ z => (List.not_mem_nil z).elim, fun i c b e _ => by simp at e⟩
  have sp0 : spD K CA 1 C [.ref a] H (fun v _ => v = .bl true) (fun _ _ _ => False) := by
    refine ⟨rfl, [], _, [], [.rol (ns.map .int)], fun d _ => d = .bl true, fun _ _ => False, G0, Reps.cons ⟨a, _, rfl, sq, reps_ints ns⟩ Reps.nil, hC ns hl hbits _ _ (fun _ => rfl), ?_, ?_⟩
    · intro d h1 ρ1 F1 v H1 hq X1 G1 R1
      subst hq
      exact R1
    · intro x h1 ρ1 F1 cls d H1 hq
      exact hq.elim
  refine codeAny_mono ((F _ inB (names g1)).run callerA [] s H ⟨[.ref a], []⟩ [.ref a] [.ref a] _ _ hr e0 (hbind s (.ref a)) (.cons rfl .nil) sp0) fun r s' z => ?_
  match r, z with
  | .error e, z =>
    obtain ⟨_, _, _, _, _, _, _, _, _, _, _, _, z⟩ := z
    exact z.elim
  | .ok (.ret u), z =>
    obtain ⟨v, H', os, bare, un, hok', r', q⟩ := z
    cases (show v = .bl true from q)
    cases (show u = Value.bool true from r')
    refine ⟨rfl, OldK.of_keep fun b o e => ?_, os, bare⟩
    cases q : H b with
    | none => exact un.keep b o e q (fun z => (List.not_mem_nil (show b ∈ ([] : List Addr) from z)).elim) (by simp)
    | some u =>
      obtain ⟨rfl, _, rfl⟩ := only b u q
      obtain ⟨e2, _⟩ := hok' b _ (un.frzs b _ _ q)
      rw [o1] at e
      cases e
      exact e2
theorem walk {l : PySem.W.OpenLaw} {n k : Nat} {q : Program} {loose : List Str} {XP : (Str → Option Value) → Heap → Prop} {YP : World → Heap → Prop} {d : DefRec} {K : Params → PySem.W.Frag} {C : Ct} {CA : World → Nat → Addr} {x : Str}
    (hn : l.most = some n) (hn2 : n ≤ sizeLine) (hdf : d.params.defaults = []) (hr : Rm k callerA) (hY : ∀ (w : World) (h : Heap), YP w h → (K w.params).In h)
    (F : ∀ (w : World) (mg : Str → Option Value) (fa : Addr) (h : Heap), (K w.params).In h → h.Ns mainGlobals mg → mg d.name = some (.ref fa) →
      ∃ fd : FuncData, (∀ (s : Shared) (u : Value), BindsTo s fd ⟨[u], []⟩ [(x, u)]) ∧ ∀ base : Heap, (K w.params).In base → base.Ns mainGlobals mg → FnG l.prog w (K w.params) mg base (L2N.CX l.prog w) k fa fd [x] (spD (K w.params) (CA w) 1 C))
    (hC : Says C n) : PySem.W.WalkO q loose XP YP l.row.toRowW d [] (fun f vs => PySem.call f vs) := by
  refine Att.attach_callB hn hdf fun w s₀ s₁ mg mb fa o pm cd doc a vs ns G Y ho hd hcd hmg hobj hints hlen hbits hg => ?_
  obtain ⟨fd, hb, hF⟩ := F w mg fa _ (hY w _ Y) G.T.g hmg
  exact law_end (hY w _ Y) G.T.g G.T.b G.T.builtins G.T.nolimit hg hobj hints hlen hn2 hbits hr hF hb hC
end DL
namespace My
open PySem PySem.Spec PyProof.Rows L2 DL
def top (i : Nat) : Stmt := PySem.Challenge.pw_calledin_k02_names_and_sizes.main.body.getD i (.Pass ⟨0, 0, 0, 0⟩)
abbrev s_is_integer : Stmt := top 5
theorem sc_is_integer : FnScope ["value"] ["value"] (defScope s_is_integer) := ⟨rfl, rfl, rfl, by decide +kernel, rfl, by decide +kernel, by decide +kernel⟩
abbrev s_is_size : Stmt := top 6
theorem sc_is_size : FnScope ["value"] ["value"] (defScope s_is_size) := ⟨rfl, rfl, rfl, by decide +kernel, rfl, by decide +kernel, by decide +kernel⟩
abbrev s_is_name : Stmt := top 7
theorem sc_is_name : FnScope ["value", "sign"] ["value"] (defScope s_is_name) := ⟨rfl, rfl, rfl, by decide +kernel, rfl, by decide +kernel, by decide +kernel⟩
abbrev s__law_cell : Stmt := top 9
theorem sc__law_cell : FnScope ["script", "k", "mixed", "cell"] ["script", "k"] (defScope s__law_cell) := ⟨rfl, rfl, rfl, by decide +kernel, rfl, by decide +kernel, by decide +kernel⟩
abbrev s__law_purse : Stmt := top 10
theorem sc__law_purse : FnScope ["cell"] ["cell"] (defScope s__law_purse) := ⟨rfl, rfl, rfl, by decide +kernel, rfl, by decide +kernel, by decide +kernel⟩
abbrev s__law_draw : Stmt := top 11
theorem sc__law_draw : FnScope ["purse", "many", "state", "factor", "digit"] ["purse", "many"] (defScope s__law_draw) := ⟨rfl, rfl, rfl, by decide +kernel, rfl, by decide +kernel, by decide +kernel⟩
abbrev s__law_name : Stmt := top 12
theorem sc__law_name : FnScope ["purse", "words", "way", "letters", "text", "turn"] ["purse"] (defScope s__law_name) := ⟨rfl, rfl, rfl, by decide +kernel, rfl, by decide +kernel, by decide +kernel⟩
abbrev s__law_signs : Stmt := top 13
theorem sc__law_signs : FnScope ["letters"] [] (defScope s__law_signs) := ⟨rfl, rfl, rfl, by decide +kernel, rfl, by decide +kernel, by decide +kernel⟩
abbrev s__law_is_name : Stmt := top 14
theorem sc__law_is_name : FnScope ["text", "sign"] ["text"] (defScope s__law_is_name) := ⟨rfl, rfl, rfl, by decide +kernel, rfl, by decide +kernel, by decide +kernel⟩
abbrev s__law_string : Stmt := top 15
theorem sc__law_string : FnScope ["purse", "signs", "text", "way", "place", "sign", "many", "turn"] ["purse"] (defScope s__law_string) := ⟨rfl, rfl, rfl, by decide +kernel, rfl, by decide +kernel, by decide +kernel⟩
abbrev s__law_string_right : Stmt := top 16
theorem sc__law_string_right : FnScope ["text", "due"] ["text"] (defScope s__law_string_right) := ⟨rfl, rfl, rfl, by decide +kernel, rfl, by decide +kernel, by decide +kernel⟩
abbrev s__law_integer : Stmt := top 17
theorem sc__law_integer : FnScope ["purse", "way", "number"] ["purse"] (defScope s__law_integer) := ⟨rfl, rfl, rfl, by decide +kernel, rfl, by decide +kernel, by decide +kernel⟩
abbrev s__law_integer_right : Stmt := top 18
theorem sc__law_integer_right : FnScope ["number", "due"] ["number"] (defScope s__law_integer_right) := ⟨rfl, rfl, rfl, by decide +kernel, rfl, by decide +kernel, by decide +kernel⟩
abbrev s__law_others_right : Stmt := top 19
theorem sc__law_others_right : FnScope ["purse", "text", "number", "inner", "table", "others", "other"] ["purse"] (defScope s__law_others_right) := ⟨rfl, rfl, rfl, by decide +kernel, rfl, by decide +kernel, by decide +kernel⟩
abbrev s__law_right : Stmt := top 20
theorem sc__law_right : FnScope ["purse", "turn"] ["purse"] (defScope s__law_right) := ⟨rfl, rfl, rfl, by decide +kernel, rfl, by decide +kernel, by decide +kernel⟩
abbrev s_law : Stmt := top 21
theorem sc_law : FnScope ["script", "hand", "text", "number", "k"] ["script"] (defScope s_law) := ⟨rfl, rfl, rfl, by decide +kernel, rfl, by decide +kernel, by decide +kernel⟩
structure Txt (K : PySem.W.Frag) (mg : Str → Option Value) (CA : Nat → Addr) : Prop where
  z_int : mg "int" = none
  z_isinstance : mg "isinstance" = none
  z_bool : mg "bool" = none
  z_str : mg "str" = none
  z_len : mg "len" = none
  z_all : mg "all" = none
  z_abs : mg "abs" = none
  z_range : mg "range" = none
  z_repr : mg "repr" = none
  z_min : mg "min" = none
  z_max : mg "max" = none
  g_MAX_SIZE : GlobD K CA mg "MAX_SIZE" (.int 40)
  g_MAX_SIGNS : GlobD K CA mg "MAX_SIGNS" (.int 8)
  g_LETTERS : GlobD K CA mg "LETTERS" (.str "abcdefghijklmnopqrstuvwxyz")
  g_SIGNS : GlobD K CA mg "SIGNS" (.str "abcdefghijklmnopqrstuvwxyz0123456789")
end My
namespace My
open PySem PySem.Spec PyProof.Rows L2 DL
/-! contracts -/
def PW (s d : Int) : Prop := 0 ≤ s ∧ s < 2147483549 ∧ 0 ≤ d
def purse (s d n : Int) : Cell := .lst [.int s, .int d, .int n]
def HP (h : Hs) (i : Nat) : Prop := ∃ s d n, h[i]? = some (purse s d n) ∧ PW s d
def Dr (h : Hs) (i : Nat) (h' : Hs) : Prop := HP h' i ∧ h'.length = h.length ∧ ∀ j : Nat, j ≠ i → h'[j]? = h[j]?
def LETT : Str := "abcdefghijklmnopqrstuvwxyz"
def SIGN : Str := "abcdefghijklmnopqrstuvwxyz0123456789"
def isNameS (x : Str) : Bool := match x.cps.toList with
  | [] => false
  | c :: r => decide (r.length < 8) && decide (c ∈ LETT.cps.toList) && (c :: r).all (fun e => decide (e ∈ SIGN.cps.toList))
def isNameD : D → Bool
  | .str x => isNameS x
  | _ => false
def isIntD : D → Bool
  | .int _ => true
  | _ => false
def isSizeD : D → Bool
  | .int i => decide (1 ≤ i) && decide (i ≤ 40)
  | _ => false
/-- a datum of a known kind, texts not too long -/
def Known (h : Hs) (d : D) : Prop := (tyN [] d).isSome = true ∧ ∀ x, d = .str x → x.length ≤ 16777216
def C_is_integer : Ct := fun ds h Q _ => ∃ d, ds = [d] ∧ (tyN [] d).isSome = true ∧ Q (.bl (isIntD d)) h
def C_is_size : Ct := fun ds h Q _ => ∃ d, ds = [d] ∧ (tyN [] d).isSome = true ∧ Q (.bl (isSizeD d)) h
def C_is_name : Ct := fun ds h Q _ => ∃ d, ds = [d] ∧ Known h d ∧ Q (.bl (isNameD d)) h
def C__law_cell : Ct := fun ds h Q _ => ∃ (ns : List Int) (k : Int), ds = [.rol (ns.map D.int), .int k] ∧ ns.length ≤ 63 ∧ 0 ≤ k ∧ k ≤ 63 ∧ ∀ c : Int, Q (.int c) h
def C__law_purse : Ct := fun ds h Q _ => ∃ c : Int, ds = [.int c] ∧ ∀ s d n : Int, PW s d → Q (.ref h.length) (h ++ [purse s d n])
def C__law_draw : Ct := fun ds h Q _ => ∃ (i : Nat) (m : Int), ds = [.ref i, .int m] ∧ HP h i ∧ 0 < m ∧ m.natAbs.log2 < 9000 ∧ ∀ (v : Int) h', 0 ≤ v → v < m → Dr h i h' → Q (.int v) h'
/-- a drawn name -/
def NameLike (x : Str) : Prop := 1 ≤ x.cps.toList.length ∧ x.cps.toList.length ≤ 8 ∧ ∀ c ∈ x.cps.toList, c < 128
def C__law_name : Ct := fun ds h Q _ => ∃ i : Nat, ds = [.ref i] ∧ HP h i ∧ ∀ x h', NameLike x → Dr h i h' → Q (.str x) h'
def SIGNS2 : Str := "abcdefghijklmnopqrstuvwxyz0123456789ABCDEFGHIJKLMNOPQRSTUVWXYZ !\"#$&'()*+,-./:;<=>?\x40[\\]^_{|}~\n`"
def C__law_signs : Ct := fun ds h Q _ => ds = [] ∧ Q (.str SIGNS2) h
def C__law_is_name : Ct := fun ds h Q _ => ∃ x, ds = [.str x] ∧ x.length ≤ 1000 ∧ Q (.bl (isNameS x)) h
def C__law_string : Ct := fun ds h Q _ => ∃ i : Nat, ds = [.ref i] ∧ HP h i ∧ ∀ x h', x.length ≤ 20 → Dr h i h' → Q (.str x) h'
def C__law_string_right : Ct := fun ds h Q _ => ∃ x, ds = [.str x] ∧ x.length ≤ 1000 ∧ Q (.bl true) h
def C__law_integer : Ct := fun ds h Q _ => ∃ i : Nat, ds = [.ref i] ∧ HP h i ∧ ∀ v h', Dr h i h' → Q (.int v) h'
def C__law_integer_right : Ct := fun ds h Q _ => ∃ v, ds = [.int v] ∧ Q (.bl true) h
def C__law_others_right : Ct := fun ds h Q _ => ∃ i : Nat, ds = [.ref i] ∧ HP h i ∧ ∀ h', Dr h i h' → Q (.bl true) h'
def C__law_right : Ct := fun ds h Q _ => ∃ i : Nat, ds = [.ref i] ∧ HP h i ∧ ∀ h', Dr h i h' → Q (.bl true) h'
def C_law : Ct := fun ds h Q _ => ∃ ns : List Int, ds = [.rol (ns.map D.int)] ∧ ns.length ≤ 63 ∧ ∀ h', Q (.bl true) h'
def w_is_integer : wS :=
    (wRet (wAndV (wLi isiD (wCons (wVar 0) (wCons (wC (.ty "int")) wNil))) (wNotV (wLi isiD (wCons (wVar 0) (wCons (wC (.ty "bool")) wNil))))))
def w_is_size : wS :=
    (wRet (wAndV (wCall C_is_integer 1 [] (wCons (wVar 0) wNil)) (wChain leD leD (wC (.int 1)) (wVar 0) (wC (.int 40)))))
def el1_is_name : wE := (wOp (inD false) (wVar 1) (wC (.str "abcdefghijklmnopqrstuvwxyz0123456789")))
def t1_is_name : wS := (wRet (wLi allD (wCons (wLc [1] (wSeqI (wVar 0)) (wGn 1) wYes el1_is_name) wNil)))
def w_is_name : wS :=
    (wSeq (wIfS (wOr (wNot (wTru (wLi isiD (wCons (wVar 0) (wCons (wC (.ty "str")) wNil))))) (wOr (wNot (wB (wChain leD leD (wC (.int 1)) (wLi lenD (wCons (wVar 0) wNil)) (wC (.int 8))))) (wB (wOp (inD true) (wOp ixD (wVar 0) (wC (.int 0))) (wC (.str "abcdefghijklmnopqrstuvwxyz")))))) (wRet (wC (.bl false))) wNext)
    t1_is_name)
def lp1__law_cell : wS := (wAsg 2 (wOp modD (wLi toIntD (wCons (wOp addD (wOp mulD (wVar 2) (wC (.int 52391))) (wVar 3)) wNil)) (wC (.int 2147483549))))
def t3__law_cell : wS := (wRet (wVar 2))
def t2__law_cell : wS := (wSeq (wFor (wSeqI (wSl (wVar 0) wOn (wOs (wC (.int 3))))) (wGn 3) lp1__law_cell)
    t3__law_cell)
def t1__law_cell : wS := (wSeq (wAsg 2 (wOp modD (wLi toIntD (wCons (wOp mulD (wC (.int 62989)) (wOp addD (wOp addD (wOp mulD (wVar 1) (wVar 1)) (wOp mulD (wC (.int 5)) (wVar 1))) (wC (.int 17)))) wNil)) (wC (.int 2147483549))))
    t2__law_cell)
def w__law_cell : wS :=
    (wSeq (wIfS (wB (wOp ltD (wVar 1) (wLi lenD (wCons (wVar 0) wNil)))) (wRet (wOp ixD (wVar 0) (wVar 1))) wNext)
    t1__law_cell)
def w__law_purse : wS :=
    (wRet (wLstC (wCons (wOp modD (wLi toIntD (wCons (wVar 0) wNil)) (wC (.int 2147483549))) (wCons (wIf (wOr (wB (wOp ltD (wVar 0) (wC (.int 0)))) (wB (wOp geD (wVar 0) (wOp powD (wC (.int 10)) (wC (.int 18)))))) (wLi absD (wCons (wVar 0) wNil)) (wC (.int 0))) (wCons (wC (.int 0)) wNil)))))
def t5__law_draw : wS := (wRet (wOp modD (wLi toIntD (wCons (wOp fdivD (wOp ixD (wVar 0) (wC (.int 0))) (wC (.int 128))) wNil)) (wVar 1)))
def t4__law_draw : wS := (wSeq (wIfS (wB (wOp gtD (wOp ixD (wVar 0) (wC (.int 1))) (wC (.int 0)))) (wSeq (wAsg 4 (wOp modD (wLi toIntD (wCons (wOp ixD (wVar 0) (wC (.int 1))) wNil)) (wVar 1)))
    (wSeq (wSetIx (wVar 0) (wC (.int 1)) (wOp fdivD (wLi toIntD (wCons (wOp ixD (wVar 0) (wC (.int 1))) wNil)) (wVar 1)))
    (wRet (wVar 4)))) wNext)
    t5__law_draw)
def t3__law_draw : wS := (wSeq (wSetIx (wVar 0) (wC (.int 0)) (wOp modD (wLi toIntD (wCons (wOp addD (wOp addD (wOp mulD (wVar 2) (wVar 3)) (wOp mulD (wC (.int 70841)) (wOp ixD (wVar 0) (wC (.int 2))))) (wC (.int 19))) wNil)) (wC (.int 2147483549))))
    t4__law_draw)
def t2__law_draw : wS := (wSeq (wAsg 3 (wOp addD (wOp modD (wLi toIntD (wCons (wVar 2) wNil)) (wC (.int 37987))) (wC (.int 26003))))
    t3__law_draw)
def t1__law_draw : wS := (wSeq (wAsg 2 (wLi toIntD (wCons (wOp ixD (wVar 0) (wC (.int 0))) wNil)))
    t2__law_draw)
def w__law_draw : wS :=
    (wSeq (wSetIx (wVar 0) (wC (.int 2)) (wOp addD (wOp ixD (wVar 0) (wC (.int 2))) (wC (.int 1))))
    t1__law_draw)
def lp1__law_name : wS := (wAsg 4 (wOp addD (wVar 4) (wOp ixD (wOp addD (wVar 3) (wC (.str "0123456789"))) (wCall C__law_draw 2 [] (wCons (wVar 0) (wCons (wC (.int 36)) wNil))))))
def t6__law_name : wS := (wRet (wVar 4))
def t5__law_name : wS := (wSeq (wFor (wRng1 (wCons (wOp ixD (wLst (wCons (wC (.int 0)) (wCons (wC (.int 1)) (wCons (wC (.int 3)) (wCons (wC (.int 7)) wNil))))) (wOp subD (wVar 2) (wC (.int 1)))) wNil)) (wGn 5) lp1__law_name)
    t6__law_name)
def t4__law_name : wS := (wSeq (wAsg 4 (wOp ixD (wVar 3) (wCall C__law_draw 2 [] (wCons (wVar 0) (wCons (wC (.int 26)) wNil)))))
    t5__law_name)
def t3__law_name : wS := (wSeq (wAsg 3 (wC (.str "abcdefghijklmnopqrstuvwxyz")))
    t4__law_name)
def t2__law_name : wS := (wSeq (wIfS (wB (wOp (eqD false) (wVar 2) (wC (.int 0)))) (wRet (wOp ixD (wVar 1) (wCall C__law_draw 2 [] (wCons (wVar 0) (wCons (wC (.int 12)) wNil))))) wNext)
    t3__law_name)
def t1__law_name : wS := (wSeq (wAsg 2 (wCall C__law_draw 2 [] (wCons (wVar 0) (wCons (wC (.int 5)) wNil))))
    t2__law_name)
def w__law_name : wS :=
    (wSeq (wAsg 1 (wLst (wCons (wC (.str "plus")) (wCons (wC (.str "not")) (wCons (wC (.str "into")) (wCons (wC (.str "if")) (wCons (wC (.str "else")) (wCons (wC (.str "number")) (wCons (wC (.str "call")) (wCons (wC (.str "fail")) (wCons (wC (.str "slot")) (wCons (wC (.str "entry")) (wCons (wC (.str "variable")) (wCons (wC (.str "callout")) wNil))))))))))))))
    t1__law_name)
def t1__law_signs : wS := (wRet (wOp addD (wOp addD (wOp addD (wVar 0) (wSl (wBM0 "str" (str1D (fun a => a.length ≤ 5592405) fun a => .str (Txt.upper a)) (wVar 0)) wOn (wOs (wC (.int 26))))) (wC (.str " !\"#$&'()*+,-./:;<=>?\x40[\\]^_{|}~\n"))) (wC (.str "`"))))
def w__law_signs : wS :=
    (wSeq (wAsg 0 (wC (.str "abcdefghijklmnopqrstuvwxyz0123456789")))
    t1__law_signs)
def el1__law_is_name : wE := (wOp (inD false) (wVar 1) (wC (.str "abcdefghijklmnopqrstuvwxyz0123456789")))
def t1__law_is_name : wS := (wRet (wLi allD (wCons (wLc [1] (wSeqI (wVar 0)) (wGn 1) wYes el1__law_is_name) wNil)))
def w__law_is_name : wS :=
    (wSeq (wIfS (wOr (wNot (wB (wChain ltD ltD (wC (.int 0)) (wLi lenD (wCons (wVar 0) wNil)) (wC (.int 9))))) (wB (wOp (inD true) (wOp ixD (wVar 0) (wC (.int 0))) (wC (.str "abcdefghijklmnopqrstuvwxyz"))))) (wRet (wC (.bl false))) wNext)
    t1__law_is_name)
def el1__law_string : wE := (wOp ixD (wVar 1) (wCall C__law_draw 2 [] (wCons (wVar 0) (wCons (wLi lenD (wCons (wVar 1) wNil)) wNil))))
def t9__law_string : wS := (wRet (wBM "str" joinD (wC (.str "")) (wCons (wLc [7] (wRng1 (wCons (wVar 6) wNil)) (wGn 7) wYes el1__law_string) wNil)))
def t8__law_string : wS := (wSeq (wAsg 6 (wCall C__law_draw 2 [] (wCons (wVar 0) (wCons (wC (.int 11)) wNil))))
    t9__law_string)
def t7__law_string : wS := (wSeq (wIfS (wB (wOp (eqD false) (wVar 3) (wC (.int 4)))) (wRet (wOp addD (wVar 2) (wVar 5))) wNext)
    t8__law_string)
def t6__law_string : wS := (wSeq (wIfS (wB (wOp (eqD false) (wVar 3) (wC (.int 3)))) (wRet (wOp addD (wSl (wVar 2) wOn (wOs (wVar 4))) (wSl (wVar 2) (wOs (wOp addD (wVar 4) (wC (.int 1)))) wOn))) wNext)
    t7__law_string)
def t5__law_string : wS := (wSeq (wIfS (wB (wOp (eqD false) (wVar 3) (wC (.int 2)))) (wRet (wOp addD (wOp addD (wSl (wVar 2) wOn (wOs (wVar 4))) (wVar 5)) (wSl (wVar 2) (wOs (wVar 4)) wOn))) wNext)
    t6__law_string)
def t4__law_string : wS := (wSeq (wIfS (wB (wOp (eqD false) (wVar 3) (wC (.int 1)))) (wRet (wOp addD (wOp addD (wSl (wVar 2) wOn (wOs (wVar 4))) (wVar 5)) (wSl (wVar 2) (wOs (wOp addD (wVar 4) (wC (.int 1)))) wOn))) wNext)
    t5__law_string)
def t3__law_string : wS := (wSeq (wIfS (wB (wOp (eqD false) (wVar 3) (wC (.int 0)))) (wRet (wVar 2)) wNext)
    t4__law_string)
def t2__law_string : wS := (wSeq (wAsg 5 (wOp ixD (wVar 1) (wCall C__law_draw 2 [] (wCons (wVar 0) (wCons (wLi lenD (wCons (wVar 1) wNil)) wNil)))))
    t3__law_string)
def t1__law_string : wS := (wSeq (wAsg 4 (wCall C__law_draw 2 [] (wCons (wVar 0) (wCons (wLi lenD (wCons (wVar 2) wNil)) wNil))))
    t2__law_string)
def w__law_string : wS :=
    (wSeq (wAsgG (wTup (wCons (wCall C__law_signs 0 [] wNil) (wCons (wCall C__law_name 1 [] (wCons (wVar 0) wNil)) (wCons (wCall C__law_draw 2 [] (wCons (wVar 0) (wCons (wC (.int 6)) wNil))) wNil)))) (wGtup 3 (wGcons (wGn 1) (wGcons (wGn 2) (wGcons (wGn 3) wGnil)))))
    t1__law_string)
def t2__law_string_right : wS := (wRet (wAndV (wOp (isD false) (wCall C_is_size 1 [] (wCons (wVar 0) wNil)) (wC (.bl false))) (wOp (isD false) (wCall C_is_integer 1 [] (wCons (wVar 0) wNil)) (wC (.bl false)))))
def t1__law_string_right : wS := (wSeq (wIfS (wB (wOp (eqD true) (wLi reprD (wCons (wLst (wCons (wCall C_is_name 1 [] (wCons (wVar 0) wNil)) (wCons (wCallK C_is_name 1 0 ["value"] [.inr 0] wNil (wCons (wVar 0) wNil)) wNil))) wNil)) (wLi reprD (wCons (wLst (wCons (wVar 1) (wCons (wVar 1) wNil))) wNil)))) (wRet (wC (.bl false))) wNext)
    t2__law_string_right)
def w__law_string_right : wS :=
    (wSeq (wAsg 1 (wCall C__law_is_name 1 [] (wCons (wVar 0) wNil)))
    t1__law_string_right)
def t3__law_integer : wS := (wRet (wIf (wB (wOp (eqD false) (wCall C__law_draw 2 [] (wCons (wVar 0) (wCons (wC (.int 2)) wNil))) (wC (.int 0)))) (wVar 2) (wUn negD (wVar 2))))
def t2__law_integer : wS := (wSeq (wAsg 2 (wCall C__law_draw 2 [] (wCons (wVar 0) (wCons (wIf (wB (wOp (eqD false) (wVar 1) (wC (.int 1)))) (wOp powD (wC (.int 10)) (wC (.int 60))) (wOp powD (wC (.int 10)) (wC (.int 6)))) wNil))))
    t3__law_integer)
def t1__law_integer : wS := (wSeq (wIfS (wB (wOp (eqD false) (wVar 1) (wC (.int 0)))) (wRet (wOp subD (wCall C__law_draw 2 [] (wCons (wVar 0) (wCons (wC (.int 44)) wNil))) (wC (.int 2)))) wNext)
    t2__law_integer)
def w__law_integer : wS :=
    (wSeq (wAsg 1 (wCall C__law_draw 2 [] (wCons (wVar 0) (wCons (wC (.int 3)) wNil))))
    t1__law_integer)
def t2__law_integer_right : wS := (wRet (wAndV (wOp (isD false) (wCall C_is_integer 1 [] (wCons (wVar 0) wNil)) (wC (.bl true))) (wOp (isD false) (wCallK C_is_integer 1 0 ["value"] [.inr 0] wNil (wCons (wVar 0) wNil)) (wC (.bl true)))))
def t1__law_integer_right : wS := (wSeq (wIfS (wB (wOp (eqD true) (wLi reprD (wCons (wLst (wCons (wCall C_is_size 1 [] (wCons (wVar 0) wNil)) (wCons (wCallK C_is_size 1 0 ["value"] [.inr 0] wNil (wCons (wVar 0) wNil)) (wCons (wCall C_is_name 1 [] (wCons (wVar 0) wNil)) wNil)))) wNil)) (wLi reprD (wCons (wLst (wCons (wVar 1) (wCons (wVar 1) (wCons (wC (.bl false)) wNil)))) wNil)))) (wRet (wC (.bl false))) wNext)
    t2__law_integer_right)
def w__law_integer_right : wS :=
    (wSeq (wAsg 1 (wChain ltD ltD (wC (.int 0)) (wVar 0) (wC (.int 41))))
    t1__law_integer_right)
def lp1__law_others_right : wS := (wIfS (wOr (wB (wOp (isD true) (wCall C_is_name 1 [] (wCons (wVar 6) wNil)) (wC (.bl false)))) (wOr (wB (wOp (isD true) (wCall C_is_size 1 [] (wCons (wVar 6) wNil)) (wC (.bl false)))) (wB (wOp (isD true) (wCall C_is_integer 1 [] (wCons (wVar 6) wNil)) (wC (.bl false)))))) (wRet (wC (.bl false))) wNext)
def t4__law_others_right : wS := (wRet (wAndV (wOp (eqD false) (wVar 3) (wLst (wCons (wVar 1) (wCons (wVar 2) wNil)))) (wOp eqDicD (wVar 4) (wDic1 (wVar 1) (wVar 2)))))
def t3__law_others_right : wS := (wSeq (wFor (wSeqI (wVar 5)) (wGn 6) lp1__law_others_right)
    t4__law_others_right)
def t2__law_others_right : wS := (wSeq (wAsg 5 (wLst (wCons (wC .non) (wCons (wC (.bl true)) (wCons (wC (.bl false)) (wCons (wTup wNil) (wCons (wLst wNil) (wCons wDic0 (wCons (wTup (wCons (wVar 1) wNil)) (wCons (wTup (wCons (wVar 2) wNil)) (wCons (wVar 3) (wCons (wVar 4) (wCons (wTup (wCons (wVar 3) (wCons (wVar 4) wNil))) wNil)))))))))))))
    t3__law_others_right)
def t1__law_others_right : wS := (wSeq (wPar 3 4 (wCons (wLst (wCons (wVar 1) (wCons (wVar 2) wNil))) (wCons (wDic1 (wVar 1) (wVar 2)) wNil)))
    t2__law_others_right)
def w__law_others_right : wS :=
    (wSeq (wPar 1 2 (wCons (wCall C__law_name 1 [] (wCons (wVar 0) wNil)) (wCons (wOp addD (wC (.int 1)) (wCall C__law_draw 2 [] (wCons (wVar 0) (wCons (wC (.int 40)) wNil)))) wNil)))
    t1__law_others_right)
def lp1__law_right : wS := (wIfS (wOr (wNot (wTru (wCall C__law_string_right 1 [] (wCons (wCall C__law_string 1 [] (wCons (wVar 0) wNil)) wNil)))) (wNot (wTru (wCall C__law_integer_right 1 [] (wCons (wCall C__law_integer 1 [] (wCons (wVar 0) wNil)) wNil))))) (wRet (wC (.bl false))) wNext)
def t1__law_right : wS := (wRet (wCall C__law_others_right 1 [] (wCons (wVar 0) wNil)))
def w__law_right : wS :=
    (wSeq (wFor (wRng1 (wCons (wC (.int 8)) wNil)) (wGn 1) lp1__law_right)
    t1__law_right)
def el1_law : wE := (wCall C__law_string_right 1 [] (wCons (wVar 2) wNil))
def el2_law : wE := (wCall C__law_integer_right 1 [] (wCons (wVar 3) wNil))
def el3_law : wE := (wCall C__law_right 1 [] (wCons (wCall C__law_purse 1 [] (wCons (wCall C__law_cell 2 [] (wCons (wVar 0) (wCons (wVar 4) wNil))) wNil)) wNil))
def t3_law : wS := (wRet (wLi allD (wCons (wLc [4] (wRng1 (wCons (wLi max2D (wCons (wC (.int 2)) (wCons (wLi min2D (wCons (wLi lenD (wCons (wVar 0) wNil)) (wCons (wC (.int 6)) wNil))) wNil))) wNil)) (wGn 4) wYes el3_law) wNil)))
def t2_law : wS := (wSeq (wIfS (wNot (wTru (wLi allD (wCons (wLc [3] (wSeqI (wLst (wCons (wC (.int 0)) (wCons (wC (.int 1)) (wCons (wC (.int 40)) (wCons (wC (.int 41)) (wCons (wUn negD (wC (.int 1))) (wCons (wOp powD (wC (.int 10)) (wC (.int 59))) (wCons (wUn negD (wOp powD (wC (.int 10)) (wC (.int 59)))) wNil))))))))) (wGn 3) wYes el2_law) wNil)))) (wRet (wC (.bl false))) wNext)
    t3_law)
def t1_law : wS := (wSeq (wIfS (wNot (wTru (wLi allD (wCons (wLc [2] (wSeqI (wVar 1)) (wGn 2) wYes el1_law) wNil)))) (wRet (wC (.bl false))) wNext)
    t2_law)
def w_law : wS :=
    (wSeq (wAsg 1 (wLst (wCons (wC (.str "")) (wCons (wC (.str "a")) (wCons (wC (.str "z9")) (wCons (wC (.str "9z")) (wCons (wC (.str "abcdefgh")) (wCons (wC (.str "abcdefghi")) (wCons (wC (.str "a b")) (wCons (wC (.str "A")) (wCons (wC (.str "a_")) (wCons (wC (.str "a\n")) (wCons (wC (.str "zzzzzzz9")) (wCons (wC (.str "0")) (wCons (wC (.str "into")) wNil)))))))))))))))
    t1_law)
end My
namespace My
open PySem PySem.Spec PyProof.Rows L2 DL
theorem b_is_integer {P : Program} {w : World} {K : PySem.W.Frag} {mg : Str → Option Value} {base : Heap} {CA : Nat → Addr} (T : Txt K mg CA)  {f : Addr} {cdv : Value} {A : Around} {outer : List PySem.Env} {s : Shared} {H : Hp} {E : XK}
    (hr : Rm 0 (A.deeper (envOfC "is_integer" (defScope s_is_integer) s.heap.objs.size f cdv))) : SSs (cxOf (L2N.CX P w) P w K mg base ["value"] "is_integer" (defScope s_is_integer) f cdv A outer s H E) CA (defBody s_is_integer) w_is_integer :=
    (sss_one (ss_ret (se_and (se_callB call_isi ld_isi T.z_isinstance (by decide +kernel) (sa_cons (se_var 0) (sa_cons (se_ty T.z_int (by decide +kernel)) sa_nil))) (se_one (se_not (se_callB call_isi ld_isi T.z_isinstance (by decide +kernel) (sa_cons (se_var 0) (sa_cons (se_ty T.z_bool (by decide +kernel)) sa_nil))))))))
theorem b_is_size {P : Program} {w : World} {K : PySem.W.Frag} {mg : Str → Option Value} {base : Heap} {CA : Nat → Addr} (T : Txt K mg CA) (c_is_integer : Callee P w K mg base CA 1 "is_integer" 1 [] C_is_integer) {f : Addr} {cdv : Value} {A : Around} {outer : List PySem.Env} {s : Shared} {H : Hp} {E : XK}
    (hr : Rm 1 (A.deeper (envOfC "is_size" (defScope s_is_size) s.heap.objs.size f cdv))) : SSs (cxOf (L2N.CX P w) P w K mg base ["value"] "is_size" (defScope s_is_size) f cdv A outer s H E) CA (defBody s_is_size) w_is_size :=
    (sss_one (ss_ret (se_and (se_call c_is_integer (hr.mono (by decide)) (sa_cons (se_var 0) sa_nil)) (se_one (se_chain op_le od_le op_le od_le se_int (se_var 0) (se_glob T.g_MAX_SIZE))))))
theorem b_is_name {P : Program} {w : World} {K : PySem.W.Frag} {mg : Str → Option Value} {base : Heap} {CA : Nat → Addr} (T : Txt K mg CA)  {f : Addr} {cdv : Value} {A : Around} {outer : List PySem.Env} {s : Shared} {H : Hp} {E : XK}
    (hr : Rm 0 (A.deeper (envOfC "is_name" (defScope s_is_name) s.heap.objs.size f cdv))) : SSs (cxOf (L2N.CX P w) P w K mg base ["value", "sign"] "is_name" (defScope s_is_name) f cdv A outer s H E) CA (defBody s_is_name) w_is_name :=
    (sss_cons (ss_if (sw_or (st_not (st_tru (se_callB call_isi ld_isi T.z_isinstance (by decide +kernel) (sa_cons (se_var 0) (sa_cons (se_ty T.z_str (by decide +kernel)) sa_nil))))) (sw_or (st_not (st_chain op_le od_le op_le od_le se_int (se_callB call_lenDD ld_len T.z_len (by decide +kernel) (sa_cons (se_var 0) sa_nil)) (se_glob T.g_MAX_SIGNS))) (sw_or1 (st_cmp op_notInDD od_notIn (se_ix ix_seq od_ix (se_var 0) se_int) (se_glob T.g_LETTERS) (by rfl))))).st (sss_one (ss_ret se_bl)) sss_nil)
    (sss_one (ss_ret (se_callB (cr_all (by rfl)) ld_all T.z_all (by decide +kernel) (sa_cons (se_lc ["value", "sign"] (defScope s_is_name) [("sign", 1)] (si_seq (se_var 0)) (by decide +kernel) (fun _ _ _ _ _ => (sgo_name (i := 1) sc_is_name.nd)) (fun _ _ _ _ _ => sp_nil) (fun _ _ _ _ _ => (se_cmp op_inDD od_in (se_var 1) (se_glob T.g_SIGNS) (by rfl))) sc_is_name.nd) sa_nil)))))
theorem b__law_cell {P : Program} {w : World} {K : PySem.W.Frag} {mg : Str → Option Value} {base : Heap} {CA : Nat → Addr} (T : Txt K mg CA)  {f : Addr} {cdv : Value} {A : Around} {outer : List PySem.Env} {s : Shared} {H : Hp} {E : XK}
    (hr : Rm 0 (A.deeper (envOfC "_law_cell" (defScope s__law_cell) s.heap.objs.size f cdv))) : SSs (cxOf (L2N.CX P w) P w K mg base ["script", "k", "mixed", "cell"] "_law_cell" (defScope s__law_cell) f cdv A outer s H E) CA (defBody s__law_cell) w__law_cell :=
    (sss_cons (ss_if (st_cmp op_lt od_lt (se_var 1) (se_callB call_lenDD ld_len T.z_len (by decide +kernel) (sa_cons (se_var 0) sa_nil)) (nomark _)) (sss_one (ss_ret (se_ix ix_seq od_ix (se_var 0) (se_var 1)))) sss_nil)
    (sss_cons (ss_set (i := 2) (se_op op_mod od_mod (se_callTy call_int1 ld_toInt T.z_int (by decide +kernel) (sa_cons (se_op op_mulD od_mul se_int (se_op op_addD od_add (se_op op_addD od_add (se_op op_mulD od_mul (se_var 1) (se_var 1)) (se_op op_mulD od_mul se_int (se_var 1))) se_int)) sa_nil)) se_int) sc__law_cell.nd)
    (sss_cons (ss_for (si_seq (se_slice (se_var 0) so_none (so_some se_int))) (sg_name (i := 3) sc__law_cell.nd) (sss_one (ss_set (i := 2) (se_op op_mod od_mod (se_callTy call_int1 ld_toInt T.z_int (by decide +kernel) (sa_cons (se_op op_addD od_add (se_op op_mulD od_mul (se_var 2) se_int) (se_var 3)) sa_nil)) se_int) sc__law_cell.nd)) (passes_of rfl))
    (sss_one (ss_ret (se_var 2))))))
theorem b__law_purse {P : Program} {w : World} {K : PySem.W.Frag} {mg : Str → Option Value} {base : Heap} {CA : Nat → Addr} (T : Txt K mg CA)  {f : Addr} {cdv : Value} {A : Around} {outer : List PySem.Env} {s : Shared} {H : Hp} {E : XK}
    (hr : Rm 0 (A.deeper (envOfC "_law_purse" (defScope s__law_purse) s.heap.objs.size f cdv))) : SSs (cxOf (L2N.CX P w) P w K mg base ["cell"] "_law_purse" (defScope s__law_purse) f cdv A outer s H E) CA (defBody s__law_purse) w__law_purse :=
    (sss_one (ss_ret (se_lstC (sa_cons (se_op op_mod od_mod (se_callTy call_int1 ld_toInt T.z_int (by decide +kernel) (sa_cons (se_var 0) sa_nil)) se_int) (sa_cons (se_if (sw_or (st_cmp op_lt od_lt (se_var 0) se_int (nomark _)) (sw_or1 (st_cmp op_ge od_ge (se_var 0) (se_op op_pow od_pow se_int se_int) (nomark _)))).st (se_callB call_abs ld_abs T.z_abs (by decide +kernel) (sa_cons (se_var 0) sa_nil)) se_int) (sa_cons se_int sa_nil))))))
theorem b__law_draw {P : Program} {w : World} {K : PySem.W.Frag} {mg : Str → Option Value} {base : Heap} {CA : Nat → Addr} (T : Txt K mg CA)  {f : Addr} {cdv : Value} {A : Around} {outer : List PySem.Env} {s : Shared} {H : Hp} {E : XK}
    (hr : Rm 0 (A.deeper (envOfC "_law_draw" (defScope s__law_draw) s.heap.objs.size f cdv))) : SSs (cxOf (L2N.CX P w) P w K mg base ["purse", "many", "state", "factor", "digit"] "_law_draw" (defScope s__law_draw) f cdv A outer s H E) CA (defBody s__law_draw) w__law_draw :=
    (sss_cons (ss_setIx (se_op op_addD od_add (se_ix ix_seq od_ix (se_var 0) se_int) se_int) (se_var 0) se_int)
    (sss_cons (ss_set (i := 2) (se_callTy call_int1 ld_toInt T.z_int (by decide +kernel) (sa_cons (se_ix ix_seq od_ix (se_var 0) se_int) sa_nil)) sc__law_draw.nd)
    (sss_cons (ss_set (i := 3) (se_op op_addD od_add (se_op op_mod od_mod (se_callTy call_int1 ld_toInt T.z_int (by decide +kernel) (sa_cons (se_var 2) sa_nil)) se_int) se_int) sc__law_draw.nd)
    (sss_cons (ss_setIx (se_op op_mod od_mod (se_callTy call_int1 ld_toInt T.z_int (by decide +kernel) (sa_cons (se_op op_addD od_add (se_op op_addD od_add (se_op op_mulD od_mul (se_var 2) (se_var 3)) (se_op op_mulD od_mul se_int (se_ix ix_seq od_ix (se_var 0) se_int))) se_int) sa_nil)) se_int) (se_var 0) se_int)
    (sss_cons (ss_if (st_cmp op_gt od_gt (se_ix ix_seq od_ix (se_var 0) se_int) se_int (nomark _)) (sss_cons (ss_set (i := 4) (se_op op_mod od_mod (se_callTy call_int1 ld_toInt T.z_int (by decide +kernel) (sa_cons (se_ix ix_seq od_ix (se_var 0) se_int) sa_nil)) (se_var 1)) sc__law_draw.nd)
    (sss_cons (ss_setIx (se_op op_fdivW od_fdiv (se_callTy call_int1 ld_toInt T.z_int (by decide +kernel) (sa_cons (se_ix ix_seq od_ix (se_var 0) se_int) sa_nil)) (se_var 1)) (se_var 0) se_int)
    (sss_one (ss_ret (se_var 4))))) sss_nil)
    (sss_one (ss_ret (se_op op_mod od_mod (se_callTy call_int1 ld_toInt T.z_int (by decide +kernel) (sa_cons (se_op op_fdivW od_fdiv (se_ix ix_seq od_ix (se_var 0) se_int) se_int) sa_nil)) (se_var 1)))))))))
theorem b__law_name {P : Program} {w : World} {K : PySem.W.Frag} {mg : Str → Option Value} {base : Heap} {CA : Nat → Addr} (T : Txt K mg CA) (c__law_draw : Callee P w K mg base CA 1 "_law_draw" 2 [] C__law_draw) {f : Addr} {cdv : Value} {A : Around} {outer : List PySem.Env} {s : Shared} {H : Hp} {E : XK}
    (hr : Rm 1 (A.deeper (envOfC "_law_name" (defScope s__law_name) s.heap.objs.size f cdv))) : SSs (cxOf (L2N.CX P w) P w K mg base ["purse", "words", "way", "letters", "text", "turn"] "_law_name" (defScope s__law_name) f cdv A outer s H E) CA (defBody s__law_name) w__law_name :=
    (sss_cons (ss_set (i := 1) (se_lst (sa_cons se_str (sa_cons se_str (sa_cons se_str (sa_cons se_str (sa_cons se_str (sa_cons se_str (sa_cons se_str (sa_cons se_str (sa_cons se_str (sa_cons se_str (sa_cons se_str (sa_cons se_str sa_nil))))))))))))) sc__law_name.nd)
    (sss_cons (ss_set (i := 2) (se_call c__law_draw (hr.mono (by decide)) (sa_cons (se_var 0) (sa_cons se_int sa_nil))) sc__law_name.nd)
    (sss_cons (ss_if (st_cmp (op_eqDD hr.room.units) od_eq (se_var 2) se_int (nomark _)) (sss_one (ss_ret (se_ix ix_seq od_ix (se_var 1) (se_call c__law_draw (hr.mono (by decide)) (sa_cons (se_var 0) (sa_cons se_int sa_nil)))))) sss_nil)
    (sss_cons (ss_set (i := 3) se_str sc__law_name.nd)
    (sss_cons (ss_set (i := 4) (se_ix ix_seq od_ix (se_var 3) (se_call c__law_draw (hr.mono (by decide)) (sa_cons (se_var 0) (sa_cons se_int sa_nil)))) sc__law_name.nd)
    (sss_cons (ss_for (si_range1 T.z_range (sa_cons (se_ix ix_seq od_ix (se_lst (sa_cons se_int (sa_cons se_int (sa_cons se_int (sa_cons se_int sa_nil))))) (se_op op_sub od_sub (se_var 2) se_int)) sa_nil)) (sg_name (i := 5) sc__law_name.nd) (sss_one (ss_set (i := 4) (se_op op_addD od_add (se_var 4) (se_ix ix_seq od_ix (se_op op_addD od_add (se_var 3) se_str) (se_call c__law_draw (hr.mono (by decide)) (sa_cons (se_var 0) (sa_cons se_int sa_nil))))) sc__law_name.nd)) (passes_of rfl))
    (sss_one (ss_ret (se_var 4)))))))))
theorem b__law_signs {P : Program} {w : World} {K : PySem.W.Frag} {mg : Str → Option Value} {base : Heap} {CA : Nat → Addr} (T : Txt K mg CA)  {f : Addr} {cdv : Value} {A : Around} {outer : List PySem.Env} {s : Shared} {H : Hp} {E : XK}
    (hr : Rm 0 (A.deeper (envOfC "_law_signs" (defScope s__law_signs) s.heap.objs.size f cdv))) : SSs (cxOf (L2N.CX P w) P w K mg base ["letters"] "_law_signs" (defScope s__law_signs) f cdv A outer s H E) CA (defBody s__law_signs) w__law_signs :=
    (sss_cons (ss_set (i := 0) se_str sc__law_signs.nd)
    (sss_one (ss_ret (se_op op_addD od_add (se_op op_addD od_add (se_op op_addD od_add (se_var 0) (se_slice (se_bm0 PySem.F.plainAttrs_str PySem.F.slot_str_upper PySem.F.type_str_upper mt_upper md_upper (se_var 0)) so_none (so_some se_int))) se_str) se_str))))
theorem b__law_is_name {P : Program} {w : World} {K : PySem.W.Frag} {mg : Str → Option Value} {base : Heap} {CA : Nat → Addr} (T : Txt K mg CA)  {f : Addr} {cdv : Value} {A : Around} {outer : List PySem.Env} {s : Shared} {H : Hp} {E : XK}
    (hr : Rm 0 (A.deeper (envOfC "_law_is_name" (defScope s__law_is_name) s.heap.objs.size f cdv))) : SSs (cxOf (L2N.CX P w) P w K mg base ["text", "sign"] "_law_is_name" (defScope s__law_is_name) f cdv A outer s H E) CA (defBody s__law_is_name) w__law_is_name :=
    (sss_cons (ss_if (sw_or (st_not (st_chain op_lt od_lt op_lt od_lt se_int (se_callB call_lenDD ld_len T.z_len (by decide +kernel) (sa_cons (se_var 0) sa_nil)) se_int)) (sw_or1 (st_cmp op_notInDD od_notIn (se_ix ix_seq od_ix (se_var 0) se_int) se_str (by rfl)))).st (sss_one (ss_ret se_bl)) sss_nil)
    (sss_one (ss_ret (se_callB (cr_all (by rfl)) ld_all T.z_all (by decide +kernel) (sa_cons (se_lc ["text", "sign"] (defScope s__law_is_name) [("sign", 1)] (si_seq (se_var 0)) (by decide +kernel) (fun _ _ _ _ _ => (sgo_name (i := 1) sc__law_is_name.nd)) (fun _ _ _ _ _ => sp_nil) (fun _ _ _ _ _ => (se_cmp op_inDD od_in (se_var 1) se_str (by rfl))) sc__law_is_name.nd) sa_nil)))))
theorem b__law_string {P : Program} {w : World} {K : PySem.W.Frag} {mg : Str → Option Value} {base : Heap} {CA : Nat → Addr} (T : Txt K mg CA) (c__law_draw : Callee P w K mg base CA 1 "_law_draw" 2 [] C__law_draw) (c__law_name : Callee P w K mg base CA 2 "_law_name" 1 [] C__law_name) (c__law_signs : Callee P w K mg base CA 1 "_law_signs" 0 [] C__law_signs) {f : Addr} {cdv : Value} {A : Around} {outer : List PySem.Env} {s : Shared} {H : Hp} {E : XK}
    (hr : Rm 2 (A.deeper (envOfC "_law_string" (defScope s__law_string) s.heap.objs.size f cdv))) : SSs (cxOf (L2N.CX P w) P w K mg base ["purse", "signs", "text", "way", "place", "sign", "many", "turn"] "_law_string" (defScope s__law_string) f cdv A outer s H E) CA (defBody s__law_string) w__law_string :=
    (sss_cons (ss_asg (se_tup (sa_cons (se_call0 c__law_signs (hr.mono (by decide))) (sa_cons (se_call c__law_name (hr.mono (by decide)) (sa_cons (se_var 0) sa_nil)) (sa_cons (se_call c__law_draw (hr.mono (by decide)) (sa_cons (se_var 0) (sa_cons se_int sa_nil))) sa_nil)))) (sg_tup (sgs_cons (sg_name (i := 1) sc__law_string.nd) (sgs_cons (sg_name (i := 2) sc__law_string.nd) (sgs_cons (sg_name (i := 3) sc__law_string.nd) sgs_nil)))))
    (sss_cons (ss_set (i := 4) (se_call c__law_draw (hr.mono (by decide)) (sa_cons (se_var 0) (sa_cons (se_callB call_lenDD ld_len T.z_len (by decide +kernel) (sa_cons (se_var 2) sa_nil)) sa_nil))) sc__law_string.nd)
    (sss_cons (ss_set (i := 5) (se_ix ix_seq od_ix (se_var 1) (se_call c__law_draw (hr.mono (by decide)) (sa_cons (se_var 0) (sa_cons (se_callB call_lenDD ld_len T.z_len (by decide +kernel) (sa_cons (se_var 1) sa_nil)) sa_nil)))) sc__law_string.nd)
    (sss_cons (ss_if (st_cmp (op_eqDD hr.room.units) od_eq (se_var 3) se_int (nomark _)) (sss_one (ss_ret (se_var 2))) sss_nil)
    (sss_cons (ss_if (st_cmp (op_eqDD hr.room.units) od_eq (se_var 3) se_int (nomark _)) (sss_one (ss_ret (se_op op_addD od_add (se_op op_addD od_add (se_slice (se_var 2) so_none (so_some (se_var 4))) (se_var 5)) (se_slice (se_var 2) (so_some (se_op op_addD od_add (se_var 4) se_int)) so_none)))) sss_nil)
    (sss_cons (ss_if (st_cmp (op_eqDD hr.room.units) od_eq (se_var 3) se_int (nomark _)) (sss_one (ss_ret (se_op op_addD od_add (se_op op_addD od_add (se_slice (se_var 2) so_none (so_some (se_var 4))) (se_var 5)) (se_slice (se_var 2) (so_some (se_var 4)) so_none)))) sss_nil)
    (sss_cons (ss_if (st_cmp (op_eqDD hr.room.units) od_eq (se_var 3) se_int (nomark _)) (sss_one (ss_ret (se_op op_addD od_add (se_slice (se_var 2) so_none (so_some (se_var 4))) (se_slice (se_var 2) (so_some (se_op op_addD od_add (se_var 4) se_int)) so_none)))) sss_nil)
    (sss_cons (ss_if (st_cmp (op_eqDD hr.room.units) od_eq (se_var 3) se_int (nomark _)) (sss_one (ss_ret (se_op op_addD od_add (se_var 2) (se_var 5)))) sss_nil)
    (sss_cons (ss_set (i := 6) (se_call c__law_draw (hr.mono (by decide)) (sa_cons (se_var 0) (sa_cons se_int sa_nil))) sc__law_string.nd)
    (sss_one (ss_ret (se_bm PySem.F.plainAttrs_str PySem.F.slot_str_join PySem.F.type_str_join mt_join md_join se_str (sa_cons (se_lc ["purse", "signs", "text", "way", "place", "sign", "many", "turn"] (defScope s__law_string) [("turn", 7)] (si_range1 T.z_range (sa_cons (se_var 6) sa_nil)) (by decide +kernel) (fun _ _ _ _ _ => (sgo_name (i := 7) sc__law_string.nd)) (fun _ _ _ _ _ => sp_nil) (fun _ _ _ _ _ => (se_ix ix_seq od_ix (se_var 1) (se_call c__law_draw (hr.mono (by decide)) (sa_cons (se_var 0) (sa_cons (se_callB call_lenDD ld_len T.z_len (by decide +kernel) (sa_cons (se_var 1) sa_nil)) sa_nil))))) sc__law_string.nd) sa_nil)))))))))))))
theorem b__law_string_right {P : Program} {w : World} {K : PySem.W.Frag} {mg : Str → Option Value} {base : Heap} {CA : Nat → Addr} (T : Txt K mg CA) (c__law_is_name : Callee P w K mg base CA 1 "_law_is_name" 1 [] C__law_is_name) (c_is_name : Callee P w K mg base CA 1 "is_name" 1 [] C_is_name) (c_is_size : Callee P w K mg base CA 2 "is_size" 1 [] C_is_size) (c_is_integer : Callee P w K mg base CA 1 "is_integer" 1 [] C_is_integer) (ck_is_name_0_value : CalleeK P w K mg base CA 1 "is_name" 1 0 ["value"] [.inr 0] C_is_name) {f : Addr} {cdv : Value} {A : Around} {outer : List PySem.Env} {s : Shared} {H : Hp} {E : XK}
    (hr : Rm 2 (A.deeper (envOfC "_law_string_right" (defScope s__law_string_right) s.heap.objs.size f cdv))) : SSs (cxOf (L2N.CX P w) P w K mg base ["text", "due"] "_law_string_right" (defScope s__law_string_right) f cdv A outer s H E) CA (defBody s__law_string_right) w__law_string_right :=
    (sss_cons (ss_set (i := 1) (se_call c__law_is_name (hr.mono (by decide)) (sa_cons (se_var 0) sa_nil)) sc__law_string_right.nd)
    (sss_cons (ss_if (st_cmp (op_neDD hr.room.units) od_ne (se_callB (call_reprD hr.room.units hr.gd) ld_repr T.z_repr (by decide +kernel) (sa_cons (se_lst (sa_cons (se_call c_is_name (hr.mono (by decide)) (sa_cons (se_var 0) sa_nil)) (sa_cons (se_callK0 ck_is_name_0_value (hr.mono (by decide)) (sk_cons (se_var 0) sk_nil)) sa_nil))) sa_nil)) (se_callB (call_reprD hr.room.units hr.gd) ld_repr T.z_repr (by decide +kernel) (sa_cons (se_lst (sa_cons (se_var 1) (sa_cons (se_var 1) sa_nil))) sa_nil)) (nomark _)) (sss_one (ss_ret se_bl)) sss_nil)
    (sss_one (ss_ret (se_and (se_cmp op_isDD od_is (se_call c_is_size (hr.mono (by decide)) (sa_cons (se_var 0) sa_nil)) se_bl (nomark _)) (se_one (se_cmp op_isDD od_is (se_call c_is_integer (hr.mono (by decide)) (sa_cons (se_var 0) sa_nil)) se_bl (nomark _))))))))
theorem b__law_integer {P : Program} {w : World} {K : PySem.W.Frag} {mg : Str → Option Value} {base : Heap} {CA : Nat → Addr} (T : Txt K mg CA) (c__law_draw : Callee P w K mg base CA 1 "_law_draw" 2 [] C__law_draw) {f : Addr} {cdv : Value} {A : Around} {outer : List PySem.Env} {s : Shared} {H : Hp} {E : XK}
    (hr : Rm 1 (A.deeper (envOfC "_law_integer" (defScope s__law_integer) s.heap.objs.size f cdv))) : SSs (cxOf (L2N.CX P w) P w K mg base ["purse", "way", "number"] "_law_integer" (defScope s__law_integer) f cdv A outer s H E) CA (defBody s__law_integer) w__law_integer :=
    (sss_cons (ss_set (i := 1) (se_call c__law_draw (hr.mono (by decide)) (sa_cons (se_var 0) (sa_cons se_int sa_nil))) sc__law_integer.nd)
    (sss_cons (ss_if (st_cmp (op_eqDD hr.room.units) od_eq (se_var 1) se_int (nomark _)) (sss_one (ss_ret (se_op op_sub od_sub (se_call c__law_draw (hr.mono (by decide)) (sa_cons (se_var 0) (sa_cons se_int sa_nil))) se_int))) sss_nil)
    (sss_cons (ss_set (i := 2) (se_call c__law_draw (hr.mono (by decide)) (sa_cons (se_var 0) (sa_cons (se_if (st_cmp (op_eqDD hr.room.units) od_eq (se_var 1) se_int (nomark _)) (se_op op_pow od_pow se_int se_int) (se_op op_pow od_pow se_int se_int)) sa_nil))) sc__law_integer.nd)
    (sss_one (ss_ret (se_if (st_cmp (op_eqDD hr.room.units) od_eq (se_call c__law_draw (hr.mono (by decide)) (sa_cons (se_var 0) (sa_cons se_int sa_nil))) se_int (nomark _)) (se_var 2) (se_un un_neg ud_neg (se_var 2))))))))
theorem b__law_integer_right {P : Program} {w : World} {K : PySem.W.Frag} {mg : Str → Option Value} {base : Heap} {CA : Nat → Addr} (T : Txt K mg CA) (c_is_name : Callee P w K mg base CA 1 "is_name" 1 [] C_is_name) (c_is_size : Callee P w K mg base CA 2 "is_size" 1 [] C_is_size) (c_is_integer : Callee P w K mg base CA 1 "is_integer" 1 [] C_is_integer) (ck_is_size_0_value : CalleeK P w K mg base CA 2 "is_size" 1 0 ["value"] [.inr 0] C_is_size) (ck_is_integer_0_value : CalleeK P w K mg base CA 1 "is_integer" 1 0 ["value"] [.inr 0] C_is_integer) {f : Addr} {cdv : Value} {A : Around} {outer : List PySem.Env} {s : Shared} {H : Hp} {E : XK}
    (hr : Rm 2 (A.deeper (envOfC "_law_integer_right" (defScope s__law_integer_right) s.heap.objs.size f cdv))) : SSs (cxOf (L2N.CX P w) P w K mg base ["number", "due"] "_law_integer_right" (defScope s__law_integer_right) f cdv A outer s H E) CA (defBody s__law_integer_right) w__law_integer_right :=
    (sss_cons (ss_set (i := 1) (se_chain op_lt od_lt op_lt od_lt se_int (se_var 0) se_int) sc__law_integer_right.nd)
    (sss_cons (ss_if (st_cmp (op_neDD hr.room.units) od_ne (se_callB (call_reprD hr.room.units hr.gd) ld_repr T.z_repr (by decide +kernel) (sa_cons (se_lst (sa_cons (se_call c_is_size (hr.mono (by decide)) (sa_cons (se_var 0) sa_nil)) (sa_cons (se_callK0 ck_is_size_0_value (hr.mono (by decide)) (sk_cons (se_var 0) sk_nil)) (sa_cons (se_call c_is_name (hr.mono (by decide)) (sa_cons (se_var 0) sa_nil)) sa_nil)))) sa_nil)) (se_callB (call_reprD hr.room.units hr.gd) ld_repr T.z_repr (by decide +kernel) (sa_cons (se_lst (sa_cons (se_var 1) (sa_cons (se_var 1) (sa_cons se_bl sa_nil)))) sa_nil)) (nomark _)) (sss_one (ss_ret se_bl)) sss_nil)
    (sss_one (ss_ret (se_and (se_cmp op_isDD od_is (se_call c_is_integer (hr.mono (by decide)) (sa_cons (se_var 0) sa_nil)) se_bl (nomark _)) (se_one (se_cmp op_isDD od_is (se_callK0 ck_is_integer_0_value (hr.mono (by decide)) (sk_cons (se_var 0) sk_nil)) se_bl (nomark _))))))))
theorem b__law_others_right {P : Program} {w : World} {K : PySem.W.Frag} {mg : Str → Option Value} {base : Heap} {CA : Nat → Addr} (T : Txt K mg CA) (c__law_draw : Callee P w K mg base CA 1 "_law_draw" 2 [] C__law_draw) (c__law_name : Callee P w K mg base CA 2 "_law_name" 1 [] C__law_name) (c_is_name : Callee P w K mg base CA 1 "is_name" 1 [] C_is_name) (c_is_size : Callee P w K mg base CA 2 "is_size" 1 [] C_is_size) (c_is_integer : Callee P w K mg base CA 1 "is_integer" 1 [] C_is_integer) {f : Addr} {cdv : Value} {A : Around} {outer : List PySem.Env} {s : Shared} {H : Hp} {E : XK}
    (hr : Rm 2 (A.deeper (envOfC "_law_others_right" (defScope s__law_others_right) s.heap.objs.size f cdv))) : SSs (cxOf (L2N.CX P w) P w K mg base ["purse", "text", "number", "inner", "table", "others", "other"] "_law_others_right" (defScope s__law_others_right) f cdv A outer s H E) CA (defBody s__law_others_right) w__law_others_right :=
    (sss_cons (ss_par (i := 1) (j := 2) (sa_cons (se_call c__law_name (hr.mono (by decide)) (sa_cons (se_var 0) sa_nil)) (sa_cons (se_op op_addD od_add se_int (se_call c__law_draw (hr.mono (by decide)) (sa_cons (se_var 0) (sa_cons se_int sa_nil)))) sa_nil)) sc__law_others_right.nd)
    (sss_cons (ss_par (i := 3) (j := 4) (sa_cons (se_lst (sa_cons (se_var 1) (sa_cons (se_var 2) sa_nil))) (sa_cons (se_dic1 (se_var 1) (se_var 2)) sa_nil)) sc__law_others_right.nd)
    (sss_cons (ss_set (i := 5) (se_lst (sa_cons se_non (sa_cons se_bl (sa_cons se_bl (sa_cons (se_tup sa_nil) (sa_cons (se_lst sa_nil) (sa_cons se_dic0 (sa_cons (se_tup (sa_cons (se_var 1) sa_nil)) (sa_cons (se_tup (sa_cons (se_var 2) sa_nil)) (sa_cons (se_var 3) (sa_cons (se_var 4) (sa_cons (se_tup (sa_cons (se_var 3) (sa_cons (se_var 4) sa_nil))) sa_nil)))))))))))) sc__law_others_right.nd)
    (sss_cons (ss_for (si_seq (se_var 5)) (sg_name (i := 6) sc__law_others_right.nd) (sss_one (ss_if (sw_or (st_cmp op_notDD od_isNot (se_call c_is_name (hr.mono (by decide)) (sa_cons (se_var 6) sa_nil)) se_bl (nomark _)) (sw_or (st_cmp op_notDD od_isNot (se_call c_is_size (hr.mono (by decide)) (sa_cons (se_var 6) sa_nil)) se_bl (nomark _)) (sw_or1 (st_cmp op_notDD od_isNot (se_call c_is_integer (hr.mono (by decide)) (sa_cons (se_var 6) sa_nil)) se_bl (nomark _))))).st (sss_one (ss_ret se_bl)) sss_nil)) (passes_of rfl))
    (sss_one (ss_ret (se_and (se_cmp (op_eqDD hr.room.units) od_eq (se_var 3) (se_lst (sa_cons (se_var 1) (sa_cons (se_var 2) sa_nil))) (nomark _)) (se_one (se_cmp (op_eq_dict hr.room.units0) od_eqDic (se_var 4) (se_dic1 (se_var 1) (se_var 2)) (nomark _))))))))))
theorem b__law_right {P : Program} {w : World} {K : PySem.W.Frag} {mg : Str → Option Value} {base : Heap} {CA : Nat → Addr} (T : Txt K mg CA) (c__law_string_right : Callee P w K mg base CA 3 "_law_string_right" 1 [] C__law_string_right) (c__law_string : Callee P w K mg base CA 3 "_law_string" 1 [] C__law_string) (c__law_integer_right : Callee P w K mg base CA 3 "_law_integer_right" 1 [] C__law_integer_right) (c__law_integer : Callee P w K mg base CA 2 "_law_integer" 1 [] C__law_integer) (c__law_others_right : Callee P w K mg base CA 3 "_law_others_right" 1 [] C__law_others_right) {f : Addr} {cdv : Value} {A : Around} {outer : List PySem.Env} {s : Shared} {H : Hp} {E : XK}
    (hr : Rm 3 (A.deeper (envOfC "_law_right" (defScope s__law_right) s.heap.objs.size f cdv))) : SSs (cxOf (L2N.CX P w) P w K mg base ["purse", "turn"] "_law_right" (defScope s__law_right) f cdv A outer s H E) CA (defBody s__law_right) w__law_right :=
    (sss_cons (ss_for (si_range1 T.z_range (sa_cons se_int sa_nil)) (sg_name (i := 1) sc__law_right.nd) (sss_one (ss_if (sw_or (st_not (st_tru (se_call c__law_string_right (hr.mono (by decide)) (sa_cons (se_call c__law_string (hr.mono (by decide)) (sa_cons (se_var 0) sa_nil)) sa_nil)))) (sw_or1 (st_not (st_tru (se_call c__law_integer_right (hr.mono (by decide)) (sa_cons (se_call c__law_integer (hr.mono (by decide)) (sa_cons (se_var 0) sa_nil)) sa_nil)))))).st (sss_one (ss_ret se_bl)) sss_nil)) (passes_of rfl))
    (sss_one (ss_ret (se_call c__law_others_right (hr.mono (by decide)) (sa_cons (se_var 0) sa_nil)))))
theorem b_law {P : Program} {w : World} {K : PySem.W.Frag} {mg : Str → Option Value} {base : Heap} {CA : Nat → Addr} (T : Txt K mg CA) (c__law_string_right : Callee P w K mg base CA 3 "_law_string_right" 1 [] C__law_string_right) (c__law_integer_right : Callee P w K mg base CA 3 "_law_integer_right" 1 [] C__law_integer_right) (c__law_right : Callee P w K mg base CA 4 "_law_right" 1 [] C__law_right) (c__law_purse : Callee P w K mg base CA 1 "_law_purse" 1 [] C__law_purse) (c__law_cell : Callee P w K mg base CA 1 "_law_cell" 2 [] C__law_cell) {f : Addr} {cdv : Value} {A : Around} {outer : List PySem.Env} {s : Shared} {H : Hp} {E : XK}
    (hr : Rm 4 (A.deeper (envOfC "law" (defScope s_law) s.heap.objs.size f cdv))) : SSs (cxOf (L2N.CX P w) P w K mg base ["script", "hand", "text", "number", "k"] "law" (defScope s_law) f cdv A outer s H E) CA (defBody s_law) w_law :=
    (sss_cons (ss_set (i := 1) (se_lst (sa_cons se_str (sa_cons se_str (sa_cons se_str (sa_cons se_str (sa_cons se_str (sa_cons se_str (sa_cons se_str (sa_cons se_str (sa_cons se_str (sa_cons se_str (sa_cons se_str (sa_cons se_str (sa_cons se_str sa_nil)))))))))))))) sc_law.nd)
    (sss_cons (ss_if (st_not (st_tru (se_callB (cr_all (by rfl)) ld_all T.z_all (by decide +kernel) (sa_cons (se_lc ["script", "hand", "text", "number", "k"] (defScope s_law) [("text", 2)] (si_seq (se_var 1)) (by decide +kernel) (fun _ _ _ _ _ => (sgo_name (i := 2) sc_law.nd)) (fun _ _ _ _ _ => sp_nil) (fun _ _ _ _ _ => (se_call c__law_string_right (hr.mono (by decide)) (sa_cons (se_var 2) sa_nil))) sc_law.nd) sa_nil)))) (sss_one (ss_ret se_bl)) sss_nil)
    (sss_cons (ss_if (st_not (st_tru (se_callB (cr_all (by rfl)) ld_all T.z_all (by decide +kernel) (sa_cons (se_lc ["script", "hand", "text", "number", "k"] (defScope s_law) [("number", 3)] (si_seq (se_lst (sa_cons se_int (sa_cons se_int (sa_cons se_int (sa_cons se_int (sa_cons (se_un un_neg ud_neg se_int) (sa_cons (se_op op_pow od_pow se_int se_int) (sa_cons (se_un un_neg ud_neg (se_op op_pow od_pow se_int se_int)) sa_nil))))))))) (by decide +kernel) (fun _ _ _ _ _ => (sgo_name (i := 3) sc_law.nd)) (fun _ _ _ _ _ => sp_nil) (fun _ _ _ _ _ => (se_call c__law_integer_right (hr.mono (by decide)) (sa_cons (se_var 3) sa_nil))) sc_law.nd) sa_nil)))) (sss_one (ss_ret se_bl)) sss_nil)
    (sss_one (ss_ret (se_callB (cr_all (by rfl)) ld_all T.z_all (by decide +kernel) (sa_cons (se_lc ["script", "hand", "text", "number", "k"] (defScope s_law) [("k", 4)] (si_range1 T.z_range (sa_cons (se_callB (call_max2 (by rfl)) ld_max2 T.z_max (by decide +kernel) (sa_cons se_int (sa_cons (se_callB (call_min2 (by rfl)) ld_min2 T.z_min (by decide +kernel) (sa_cons (se_callB call_lenDD ld_len T.z_len (by decide +kernel) (sa_cons (se_var 0) sa_nil)) (sa_cons se_int sa_nil))) sa_nil))) sa_nil)) (by decide +kernel) (fun _ _ _ _ _ => (sgo_name (i := 4) sc_law.nd)) (fun _ _ _ _ _ => sp_nil) (fun _ _ _ _ _ => (se_call c__law_right (hr.mono (by decide)) (sa_cons (se_call c__law_purse (hr.mono (by decide)) (sa_cons (se_call c__law_cell (hr.mono (by decide)) (sa_cons (se_var 0) (sa_cons (se_var 4) sa_nil))) sa_nil)) sa_nil))) sc_law.nd) sa_nil)))))))
end My
namespace My
open PySem PySem.Spec PyProof.Rows L2 DL
theorem q_is_integer {d : D} {h Q E} : C_is_integer ([d] ++ []) h Q E = ((tyN [] d).isSome = true ∧ Q (.bl (isIntD d)) h) := propext ⟨fun ⟨_, e, a⟩ => by cases e; exact a, fun a => ⟨_, rfl, a⟩⟩
theorem q_is_size {d : D} {h Q E} : C_is_size ([d] ++ []) h Q E = ((tyN [] d).isSome = true ∧ Q (.bl (isSizeD d)) h) := propext ⟨fun ⟨_, e, a⟩ => by cases e; exact a, fun a => ⟨_, rfl, a⟩⟩
theorem q_is_name {d : D} {h Q E} : C_is_name ([d] ++ []) h Q E = (Known h d ∧ Q (.bl (isNameD d)) h) := propext ⟨fun ⟨_, e, a⟩ => by cases e; exact a, fun a => ⟨_, rfl, a⟩⟩
theorem q_law_draw {i : Nat} {m : Int} {h Q E} : C__law_draw ([.ref i, .int m] ++ []) h Q E = (HP h i ∧ 0 < m ∧ m.natAbs.log2 < 9000 ∧ ∀ (v : Int) h', 0 ≤ v → v < m → Dr h i h' → Q (.int v) h') := propext ⟨fun ⟨_, _, e, a⟩ => by cases e; exact a, fun a => ⟨_, _, rfl, a⟩⟩
theorem q_law_name {i : Nat} {h Q E} : C__law_name ([.ref i] ++ []) h Q E = (HP h i ∧ ∀ x h', NameLike x → Dr h i h' → Q (.str x) h') := propext ⟨fun ⟨_, e, a⟩ => by cases e; exact a, fun a => ⟨_, rfl, a⟩⟩
theorem q_law_signs {h Q E} : C__law_signs ([] ++ []) h Q E = Q (.str SIGNS2) h := propext ⟨fun ⟨_, a⟩ => a, fun a => ⟨rfl, a⟩⟩
theorem q_law_is_name {x : Str} {h Q E} : C__law_is_name ([.str x] ++ []) h Q E = (x.length ≤ 1000 ∧ Q (.bl (isNameS x)) h) := propext ⟨fun ⟨_, e, a⟩ => by cases e; exact a, fun a => ⟨_, rfl, a⟩⟩
theorem q_law_string {i : Nat} {h Q E} : C__law_string ([.ref i] ++ []) h Q E = (HP h i ∧ ∀ x h', x.length ≤ 20 → Dr h i h' → Q (.str x) h') := propext ⟨fun ⟨_, e, a⟩ => by cases e; exact a, fun a => ⟨_, rfl, a⟩⟩
theorem q_law_string_right {x : Str} {h Q E} : C__law_string_right ([.str x] ++ []) h Q E = (x.length ≤ 1000 ∧ Q (.bl true) h) := propext ⟨fun ⟨_, e, a⟩ => by cases e; exact a, fun a => ⟨_, rfl, a⟩⟩
theorem q_law_integer {i : Nat} {h Q E} : C__law_integer ([.ref i] ++ []) h Q E = (HP h i ∧ ∀ v h', Dr h i h' → Q (.int v) h') := propext ⟨fun ⟨_, e, a⟩ => by cases e; exact a, fun a => ⟨_, rfl, a⟩⟩
theorem q_law_integer_right {v : Int} {h Q E} : C__law_integer_right ([.int v] ++ []) h Q E = Q (.bl true) h := propext ⟨fun ⟨_, e, a⟩ => by cases e; exact a, fun a => ⟨_, rfl, a⟩⟩
theorem q_law_others_right {i : Nat} {h Q E} : C__law_others_right ([.ref i] ++ []) h Q E = (HP h i ∧ ∀ h', Dr h i h' → Q (.bl true) h') := propext ⟨fun ⟨_, e, a⟩ => by cases e; exact a, fun a => ⟨_, rfl, a⟩⟩
theorem q_law_right {i : Nat} {h Q E} : C__law_right ([.ref i] ++ []) h Q E = (HP h i ∧ ∀ h', Dr h i h' → Q (.bl true) h') := propext ⟨fun ⟨_, e, a⟩ => by cases e; exact a, fun a => ⟨_, rfl, a⟩⟩
theorem q_law_cell {ns : List Int} {k : Int} {h Q E} : C__law_cell ([.rol (ns.map D.int), .int k] ++ []) h Q E = (ns.length ≤ 63 ∧ 0 ≤ k ∧ k ≤ 63 ∧ ∀ c : Int, Q (.int c) h) := propext ⟨fun ⟨a, _, e, r⟩ => by
  have hinj : ∀ a b : List Int, a.map D.int = b.map D.int → a = b := fun a b e => List.map_inj_right (fun _ _ e => by cases e; rfl) |>.mp e
  injection e with e1 e2; injection e1 with e3; injection e2 with e4 _; cases e4
  cases hinj _ _ e3; exact r, fun a => ⟨_, _, rfl, a⟩⟩
theorem q_law_purse {c : Int} {h Q E} : C__law_purse ([.int c] ++ []) h Q E = (∀ s d n : Int, PW s d → Q (.ref h.length) (h ++ [purse s d n])) := propext ⟨fun ⟨_, e, a⟩ => by cases e; exact a, fun a => ⟨_, rfl, a⟩⟩
theorem ends_nx {Q : PQ} {E : PX} : (endsOf Q E).nx = fun _ h => Q .non h := rfl
theorem ends_rt {Q : PQ} {E : PX} : (endsOf Q E).rt = Q := rfl
theorem ends_ex {Q : PQ} {E : PX} : (endsOf Q E).ex = fun x _ h => E x h := rfl
theorem ends_bk {Q : PQ} {E : PX} : (endsOf Q E).bk = fun _ _ => False := rfl
theorem ends_ct {Q : PQ} {E : PX} : (endsOf Q E).ct = fun _ _ => False := rfl
theorem k_is_integer {d : D} {h Q E} : C_is_integer [d] h Q E = ((tyN [] d).isSome = true ∧ Q (.bl (isIntD d)) h) := q_is_integer
theorem k_is_size {d : D} {h Q E} : C_is_size [d] h Q E = ((tyN [] d).isSome = true ∧ Q (.bl (isSizeD d)) h) := q_is_size
theorem k_is_name {d : D} {h Q E} : C_is_name [d] h Q E = (Known h d ∧ Q (.bl (isNameD d)) h) := q_is_name
local macro_rules | `(tactic| walk_at "wp") => `(tactic| simp only [k_is_integer, k_is_size, k_is_name, ↓q_is_integer, ↓q_is_size, ↓q_is_name, ↓q_law_draw, ↓q_law_name, ↓q_law_signs, ↓q_law_is_name, ↓q_law_string, ↓q_law_string_right, ↓q_law_integer, ↓q_law_integer_right, ↓q_law_others_right, ↓q_law_right, ↓q_law_cell, ↓q_law_purse, wSeq, wRet, wRetN, wAsg, wIfS, wNext, wDrop, wPar, wPar3, wVar, onSlot, wC, wOp, wUn, wLi, wNil, wCons, wTup, wLst, wLstC, wCall, wCallK, selA, wB, asB, DL.wTru, truD, wAnd, wOr, DL.wNot, wIf, wAndV, wOrV, wNotV, wChain, wFor, wSeqI, seqOf, wRng1, wRng2, wGn, wGnil, wGcons, wGtup, wAsgG, wAug, wLc, wipeD, wSl, wOn, wOs, wSetIx, wBM, wBM0, ends_nx, ends_rt, ends_ex, ends_bk, ends_ct, wDic0, wDic1, addD, subD, mulD, fdivD, modD, powD, ltD, leD, gtD, geD, DL.intD, negD, eqD, isD, ixD, slD, lenD, toIntD, absD, max2D, min2D, allD, anyD, sumD, toTupD, toLstD, strIntD, isiD, inD, flDs, joinD, str1D, appD, reprD, toPh, toP, toPs, eqDicD, List.map_cons, List.map_nil, List.length_cons, List.length_nil, List.replicate_zero, List.replicate_succ, List.cons_append, List.nil_append, List.append_nil, List.getElem?_cons_zero, List.getElem?_cons_succ, List.set_cons_zero, List.set_cons_succ, Nat.reduceAdd, Nat.reduceSub, Nat.reduceLT, Nat.reduceLeDiff, Option.bind, Option.map, Option.map_some, Option.bind_some, true_and, and_true, if_true, if_false, Bool.false_eq_true, reduceIte, Bool.not_true, Bool.not_false, Bool.false_xor, Bool.true_xor, Nat.zero_add, Nat.add_zero, ne_eq, not_false_eq_true, false_and, and_false, false_or, or_false, true_or, or_true, Nat.add_eq, List.length_singleton, decide_eq_true_eq, Bool.not_eq_true', decide_eq_false_iff_not, lstOf_non, lstTr_non, tyN_non, isNon_non, flD_non, keyD_non, tyM_non, lstOf_bl, lstTr_bl, tyN_bl, isNon_bl, flD_bl, keyD_bl, tyM_bl, lstOf_int, lstTr_int, tyN_int, isNon_int, flD_int, keyD_int, tyM_int, lstOf_str, lstTr_str, tyN_str, isNon_str, flD_str, keyD_str, tyM_str, lstOf_ty, lstTr_ty, tyN_ty, isNon_ty, flD_ty, keyD_ty, tyM_ty, lstOf_gl, lstTr_gl, tyN_gl, isNon_gl, flD_gl, keyD_gl, tyM_gl, lstOf_tup, lstTr_tup, tyN_tup, isNon_tup, flD_tup, keyD_tup, tyM_tup, lstOf_lst, lstTr_lst, tyN_lst, isNon_lst, flD_lst, keyD_lst, tyM_lst, lstOf_rol, lstTr_rol, tyN_rol, isNon_rol, flD_rol, keyD_rol, tyM_rol, lstOf_dic, lstTr_dic, tyN_dic, isNon_dic, flD_dic, keyD_dic, tyM_dic, lstOf_obj, lstTr_obj, tyN_obj, isNon_obj, flD_obj, keyD_obj, tyM_obj, kib_int_int, kib_bool_int, kib_bool_bool, kib_int_bool, kib_NoneType_int, kib_str_int, kib_tuple_int, kib_list_int, kib_dict_int, kib_NoneType_str, kib_bool_str, kib_int_str, kib_str_str, kib_tuple_str, kib_list_str, kib_dict_str, kib_NoneType_tuple, kib_bool_tuple, kib_int_tuple, kib_str_tuple, kib_tuple_tuple, kib_list_tuple, kib_dict_tuple, kib_NoneType_dict, kib_bool_dict, kib_int_dict, kib_str_dict, kib_tuple_dict, kib_list_dict, kib_dict_dict])
instance nmDec {x : Str} : Decidable (NameLike x) := by unfold NameLike; infer_instance
theorem NameLike.len {x : Str} (h : NameLike x) : 1 ≤ x.length ∧ x.length ≤ 8 := ⟨h.1, h.2.1⟩
theorem signs2_len : SIGNS2.length = 95 := by decide
theorem dr_mk {h : Hs} {i : Nat} {s d n s' d' n' : Int} (hi : h[i]? = some (purse s d n)) (hw : PW s' d') : Dr h i (h.set i (purse s' d' n')) := by
  have hl : i < h.length := (List.getElem?_eq_some_iff.mp hi).1
  refine ⟨⟨s', d', n', by simp [hl], hw⟩, by simp, fun j hj => ?_⟩
  rw [List.getElem?_set]
  simp [Ne.symm hj]
theorem Dr.trans {h h1 h2 : Hs} {i : Nat} (a : Dr h i h1) (b : Dr h1 i h2) : Dr h i h2 := ⟨b.1, b.2.1.trans a.2.1, fun j hj => (b.2.2 j hj).trans (a.2.2 j hj)⟩
theorem Dr.refl {h : Hs} {i : Nat} (a : HP h i) : Dr h i h := ⟨a, rfl, fun _ _ => rfl⟩
theorem NameLike.sok {x : Str} (h : NameLike x) : PyData.strOk x = true := by
  unfold PyData.strOk
  rw [Array.all_eq_true']
  intro c hc
  have := h.2.2 c (Array.mem_toList_iff.mpr hc)
  exact decide_eq_true (by omega)
theorem mm (n : Nat) : ∃ z, (if (if 6 < (n : Int) then 6 else (n : Int)) > 2 then (if 6 < (n : Int) then 6 else (n : Int)) else (2 : Int)) = z ∧ 2 ≤ z ∧ z ≤ 6 := by
  refine ⟨_, rfl, ?_⟩
  split <;> split <;> omega
theorem vc_is_integer : ∀ ds h Q E, ds.length = 1 → C_is_integer ds h Q E → w_is_integer (endsOf Q E) (ds.map some ++ List.replicate (1 - ds.length) none) h := by
  rintro ds h Q E hl ⟨d, rfl, hd, q⟩
  unfold w_is_integer
  cases d with
  | ref i => simp [tyN] at hd
  | obj => cases hd
  | gl => cases hd
  | ty => cases hd
  | rol => cases hd
  | _ => walk_at "wp"; exact q
theorem vc_is_size : ∀ ds h Q E, ds.length = 1 → C_is_size ds h Q E → w_is_size (endsOf Q E) (ds.map some ++ List.replicate (1 - ds.length) none) h := by
  rintro ds h Q E hl ⟨d, rfl, hd, q⟩
  unfold w_is_size
  walk_at "wp"
  refine ⟨hd, ?_⟩
  cases d with
  | int i =>
    simp only [isIntD]
    walk_at "wp"
    by_cases h1 : 1 ≤ i
    · simpa [h1, isSizeD] using q
    · simpa [h1, isSizeD] using q
  | _ => exact q
theorem t1_ok {x : Str} {h : Hs} {Q : PQ} {E : PX} (hx : x.length ≤ 16777216) (q : Q (.bl (x.cps.toList.all fun e => decide (e ∈ SIGN.cps.toList))) h) : t1_is_name (endsOf Q E) [some (.str x), none] h := by
  unfold t1_is_name
  walk_at "wp"
  have e1 : x.length = x.cps.toList.length := rfl
  refine ⟨by rw [List.length_map]; exact hx, lc_map (fun d => .bl (match d with | .str z => (match z.cps.toList with | [c] => decide (c ∈ SIGN.cps.toList) | _ => false) | _ => false)) _ _ _ _ ?_ ?_⟩
  · intro d hd Q' E' q'
    obtain ⟨e, he, rfl⟩ := List.mem_map.mp hd
    unfold el1_is_name
    walk_at "wp"
    exact q'
  · rw [List.nil_append, List.map_map]
    have e2 : ((fun d => D.bl (match d with | .str z => (match z.cps.toList with | [c] => decide (c ∈ SIGN.cps.toList) | _ => false) | _ => false)) ∘ fun c => D.str ⟨#[c]⟩) = fun e => D.bl (decide (e ∈ SIGN.cps.toList)) := rfl
    rw [e2, blsL_f]
    show Q (D.bl ((List.map _ x.cps.toList).all id)) h
    rw [List.all_map]
    exact q
/-- the test of is_name on a text, as both defs make it -/
theorem name_test {x : Str} {h : Hs} {Q : PQ} {T : Prop} (q : Q (.bl (isNameS x)) h) (ht : Q (.bl (x.cps.toList.all fun e => decide (e ∈ SIGN.cps.toList))) h → T) :
    (¬(1 ≤ x.cps.toList.length ∧ x.cps.toList.length ≤ 8) → Q (.bl false) h) ∧ ((1 ≤ x.cps.toList.length ∧ x.cps.toList.length ≤ 8) → ∃ c, atI x.cps.toList 0 = some c ∧ (¬c ∈ (Str.ofString "abcdefghijklmnopqrstuvwxyz").cps.toList → Q (.bl false) h) ∧ (c ∈ (Str.ofString "abcdefghijklmnopqrstuvwxyz").cps.toList → T)) := by
  unfold isNameS at q
  revert q ht
  generalize x.cps.toList = l
  intro q ht
  cases l with
  | nil => exact ⟨fun _ => q, fun a => absurd a.1 (by decide)⟩
  | cons c r =>
    simp only [List.length_cons]
    constructor
    · intro a
      have e3 : decide (r.length < 8) = false := decide_eq_false (by omega)
      simp only [e3, Bool.false_and] at q
      exact q
    · intro a
      refine ⟨c, atI_0, ?_, ?_⟩
      · intro hc
        have e4 : decide (c ∈ LETT.cps.toList) = false := decide_eq_false hc
        simp only [e4, Bool.and_false, Bool.false_and] at q
        exact q
      · intro hc
        have e3 : decide (r.length < 8) = true := decide_eq_true (by omega)
        have e4 : decide (c ∈ LETT.cps.toList) = true := decide_eq_true hc
        simp only [e3, e4, Bool.true_and] at q
        exact ht q
theorem vc_is_name : ∀ ds h Q E, ds.length = 1 → C_is_name ds h Q E → w_is_name (endsOf Q E) (ds.map some ++ List.replicate (2 - ds.length) none) h := by
  rintro ds h Q E hl ⟨d, rfl, hd, q⟩
  unfold w_is_name
  cases d with
  | str x =>
    walk_at "wp"
    have hx := hd.2 x rfl
    obtain ⟨n1, n2⟩ := name_test (T := t1_is_name (endsOf Q E) [some (.str x), none] h) q (t1_ok hx)
    rw [len_cps] at hx ⊢
    refine ⟨hx, ?_⟩
    split
    · split
      · exact n1 (by omega)
      · obtain ⟨c, e, a, b⟩ := n2 (by omega)
        refine ⟨hx, ?_⟩
        rw [e]
        simp only
        split
        · exact a ‹_›
        · exact b (Classical.byContradiction ‹_›)
    · exact n1 (by omega)
  | ref i => simp [Known, tyN] at hd
  | obj => cases hd.1
  | gl => cases hd.1
  | ty => cases hd.1
  | rol => cases hd.1
  | _ => walk_at "wp"; exact q
theorem lp_cell (i : Nat) (k : Int) (Q : PQ) (E : PX) (h : Hs) (hq : ∀ c : Int, Q (.int c) h) : ∀ (ds : List D) (_ : ∀ d ∈ ds, ∃ c : Int, d = .int c) (s : D) (m : Int) (x : Option D), wForL (wGn 3) lp1__law_cell ds { endsOf Q E with nx := t3__law_cell (endsOf Q E) } [some s, some (.int k), some (.int m), x] h
  | [], _, s, m, x => by
    show Q (.int m) h
    exact hq m
  | d :: ds, hd, s, m, x => by
    obtain ⟨c, rfl⟩ := hd d (List.mem_cons_self ..)
    simp only [wForL, lp1__law_cell]
    walk_at "wp"
    refine ⟨cmR (by decide), by decide, ?_⟩
    exact lp_cell i k Q E h hq ds (fun e he => hd e (List.mem_cons_of_mem _ he)) s _ _
theorem ints_of (ns : List Int) : ∀ d ∈ ns.map D.int, ∃ c : Int, d = .int c := fun d hd => by
  obtain ⟨c, _, rfl⟩ := List.mem_map.mp hd
  exact ⟨c, rfl⟩
theorem vc__law_cell : ∀ ds h Q E, ds.length = 2 → C__law_cell ds h Q E → w__law_cell (endsOf Q E) (ds.map some ++ List.replicate (4 - ds.length) none) h := by
  rintro ds h Q E hl ⟨ns, k, rfl, hn, hk0, hk, q⟩
  unfold w__law_cell t1__law_cell t2__law_cell t3__law_cell
  walk_at "wp"
  rw [List.length_map]
  split
  next h1 =>
    obtain ⟨d, e, hd⟩ := atI_of (xs := ns.map D.int) (i := k) (by omega) (by rw [List.length_map]; omega)
    obtain ⟨c, rfl⟩ := ints_of ns d hd
    rw [e]
    exact q c
  next h1 =>
    refine ⟨cmR (by omega), cmR (by omega), cmL (by decide), by decide, ?_⟩
    exact lp_cell 0 k Q E h q (cutL (ns.map D.int) none (some 3)) (fun d hd => ints_of ns d (cutL_mem hd)) _ _ _
theorem vc__law_purse : ∀ ds h Q E, ds.length = 1 → C__law_purse ds h Q E → w__law_purse (endsOf Q E) (ds.map some ++ List.replicate (1 - ds.length) none) h := by
  rintro ds h Q E hl ⟨c, rfl, q⟩
  unfold w__law_purse
  walk_at "wp"
  have hp : ∀ d : Int, 0 ≤ d → PW (c % 2147483549) d := fun d hd => ⟨by omega, by omega, hd⟩
  refine ⟨by decide, ?_⟩
  split
  · exact q _ _ _ (hp _ (by omega))
  · refine ⟨?_, ?_⟩
    · exact ⟨by decide, by decide, by decide⟩
    split
    · exact q _ _ _ (hp _ (by omega))
    · exact q _ _ _ (hp _ (by omega))
theorem vc__law_draw : ∀ ds h Q E, ds.length = 2 → C__law_draw ds h Q E → w__law_draw (endsOf Q E) (ds.map some ++ List.replicate (5 - ds.length) none) h := by
  rintro ds h Q E hl ⟨i, m, rfl, ⟨s, d, n, hi, hw⟩, hm, hm2, q⟩
  have hlt : i < h.length := (List.getElem?_eq_some_iff.mp hi).1
  have L0 : lstOf h (.ref i) = some [.int s, .int d, .int n] := by simp only [lstOf, hi, purse]
  have LS : ∀ ds, lstOf (h.set i (.lst ds)) (.ref i) = some ds := fun ds => by simp only [lstOf, List.getElem?_set_self hlt]
  have S0 : ∀ k v p, setIxD (.ref i) (.int k) v h p = match ixN 3 k with
      | some n' => p (h.set i (.lst ([D.int s, .int d, .int n].set n' v)))
      | none => False := fun k v p => by simp only [setIxD, hi, purse] <;> rfl
  have SS : ∀ ds k v p, setIxD (.ref i) (.int k) v (h.set i (.lst ds)) p = match ixN ds.length k with
      | some n' => p (h.set i (.lst (ds.set n' v)))
      | none => False := fun ds k v p => by simp only [setIxD, List.getElem?_set_self hlt, List.set_set] <;> rfl
  have i0 : ixN 3 0 = some 0 := by decide
  have i1 : ixN 3 1 = some 1 := by decide
  have i2 : ixN 3 2 = some 2 := by decide
  unfold w__law_draw t1__law_draw t2__law_draw t3__law_draw t4__law_draw t5__law_draw
  rw [wSeq, wSetIx]
  simp only [wOp, wVar, wC, onSlot, ixD, L0, atI_2, addD, S0, i2, List.map_cons, List.map_nil, List.length_cons, List.length_nil, List.replicate_zero, List.replicate_succ, List.cons_append, List.nil_append, List.append_nil, List.getElem?_cons_zero, List.getElem?_cons_succ, List.set_cons_zero, List.set_cons_succ, Nat.reduceAdd, Nat.reduceSub]
  simp only [wSeq, wAsg, wOp, wVar, wC, wLi, wCons, wNil, onSlot, ixD, LS, SS, wSetIx, atI_0, atI_1, atI_2, i0, i1, i2, addD, mulD, modD, fdivD, DL.intD, toIntD, wIfS, wB, asB, gtD, wNext, wRet, ends_nx, ends_rt, ends_ex, List.length_cons, List.length_nil, List.getElem?_cons_zero, List.getElem?_cons_succ, List.set_cons_zero, List.set_cons_succ, Nat.reduceAdd, Nat.zero_add, endsOf, decide_eq_true_eq]
  obtain ⟨w1, w2, w3⟩ := hw
  refine ⟨by decide, cmL (by omega), cmL (by decide), by decide, trivial, ?_⟩
  have h7 : (0 : Int) ≤ (s * (s % 37987 + 26003) + 70841 * (n + 1) + 19) % 2147483549 := Int.emod_nonneg _ (by decide)
  have h8 : (s * (s % 37987 + 26003) + 70841 * (n + 1) + 19) % 2147483549 < 2147483549 := Int.emod_lt_of_pos _ (by decide)
  revert h7 h8
  generalize (s * (s % 37987 + 26003) + 70841 * (n + 1) + 19) % 2147483549 = z
  intro h7 h8
  split
  · exact ⟨hm, ⟨hm, hm2⟩, q _ _ (Int.emod_nonneg _ (by omega)) (Int.emod_lt_of_pos _ hm) (dr_mk hi ⟨h7, h8, Int.ediv_nonneg w3 (by omega)⟩)⟩
  · exact ⟨⟨by decide, by decide⟩, hm, q _ _ (Int.emod_nonneg _ (by omega)) (Int.emod_lt_of_pos _ hm) (dr_mk hi ⟨h7, h8, w3⟩)⟩
theorem vc__law_signs : ∀ ds h Q E, ds.length = 0 → C__law_signs ds h Q E → w__law_signs (endsOf Q E) (ds.map some ++ List.replicate (1 - ds.length) none) h := by
  rintro ds h Q E hl ⟨rfl, q⟩
  unfold w__law_signs
  walk_at "wp"
  unfold t1__law_signs
  walk_at "wp"
  refine ⟨by decide, by decide, by decide, by decide, by decide, ?_⟩
  exact q
theorem words_ok : ∀ d ∈ [D.str (Str.ofString "plus"), D.str (Str.ofString "not"), D.str (Str.ofString "into"), D.str (Str.ofString "if"), D.str (Str.ofString "else"), D.str (Str.ofString "number"), D.str (Str.ofString "call"), D.str (Str.ofString "fail"), D.str (Str.ofString "slot"), D.str (Str.ofString "entry"), D.str (Str.ofString "variable"), D.str (Str.ofString "callout")], ∃ x, d = D.str x ∧ NameLike x := by
  intro d hd
  simp only [List.mem_cons, List.not_mem_nil, or_false] at hd
  rcases hd with rfl | rfl | rfl | rfl | rfl | rfl | rfl | rfl | rfl | rfl | rfl | rfl <;> exact ⟨_, rfl, by decide⟩
theorem letters_lt : ∀ c ∈ (Str.ofString "abcdefghijklmnopqrstuvwxyz").cps.toList, c < 128 := by decide
theorem signs_lt : ∀ c ∈ (Str.ofString "abcdefghijklmnopqrstuvwxyz" ++ Str.ofString "0123456789").cps.toList, c < 128 := by decide
theorem lp_name (i : Nat) (w : D) (v : D) (Q : PQ) (E : PX) (hs : Hs) (q : ∀ (x : Str) (h' : Hs), NameLike x → Dr hs i h' → Q (D.str x) h') : ∀ (ds : List D) (x : Str) (y : Option D) (h : Hs), HP h i → Dr hs i h → 1 ≤ x.cps.toList.length → x.cps.toList.length + ds.length ≤ 8 → (∀ c ∈ x.cps.toList, c < 128) →
    wForL (wGn 5) lp1__law_name ds { endsOf Q E with nx := t6__law_name (endsOf Q E) } [some (.ref i), some w, some v, some (.str (Str.ofString "abcdefghijklmnopqrstuvwxyz")), some (.str x), y] h
  | [], x, y, h, hp, hd, h1, h8, ha => by
    simp only [wForL]
    unfold t6__law_name
    walk_at "wp"
    exact q x h ⟨h1, by simpa using h8, ha⟩ hd
  | d :: ds, x, y, h, hp, hd, h1, h8, ha => by
    simp only [wForL]
    unfold lp1__law_name
    walk_at "wp"
    refine ⟨by decide, hp, by decide, by decide, fun u h2 u0 u1 d2 => ⟨by decide, ?_⟩⟩
    obtain ⟨c, e, hc⟩ := atI_of (xs := (Str.ofString "abcdefghijklmnopqrstuvwxyz" ++ Str.ofString "0123456789").cps.toList) (i := u) u0 u1
    rw [e]
    simp only [List.length_cons] at h8
    have hc' := signs_lt c hc
    refine ⟨by rw [len_cps, len_cps, cps_one, List.length_singleton]; omega, ?_⟩
    refine lp_name i w v Q E hs q ds _ _ h2 d2.1 (hd.trans d2) ?_ ?_ ?_
    · rw [cps_app, List.length_append]; omega
    · rw [cps_app, List.length_append, cps_one, List.length_singleton]; omega
    · intro a b
      rw [cps_app, List.mem_append] at b
      rcases b with b | b
      · exact ha a b
      · rw [cps_one, List.mem_singleton] at b
        rw [b]; exact hc'
theorem vc__law_name : ∀ ds h Q E, ds.length = 1 → C__law_name ds h Q E → w__law_name (endsOf Q E) (ds.map some ++ List.replicate (6 - ds.length) none) h := by
  rintro ds h Q E hl ⟨i, rfl, hp, q⟩
  unfold w__law_name
  walk_at "wp"
  unfold t1__law_name
  walk_at "wp"
  refine ⟨hp, by decide, by decide, fun v h1 v0 v1 d1 => ?_⟩
  unfold t2__law_name
  walk_at "wp"
  split
  · refine ⟨d1.1, by decide, by decide, fun u h2 u0 u1 d2 => ?_⟩
    obtain ⟨d, e, hd⟩ := atI_of (xs := [D.str (Str.ofString "plus"), D.str (Str.ofString "not"), D.str (Str.ofString "into"), D.str (Str.ofString "if"), D.str (Str.ofString "else"), D.str (Str.ofString "number"), D.str (Str.ofString "call"), D.str (Str.ofString "fail"), D.str (Str.ofString "slot"), D.str (Str.ofString "entry"), D.str (Str.ofString "variable"), D.str (Str.ofString "callout")]) (i := u) u0 u1
    rw [e]
    obtain ⟨x, rfl, hx⟩ := words_ok d hd
    exact q x h2 hx (d1.trans d2)
  · unfold t3__law_name t4__law_name
    walk_at "wp"
    refine ⟨d1.1, by decide, by decide, fun u h2 u0 u1 d2 => ?_⟩
    unfold t5__law_name
    walk_at "wp"
    refine ⟨by decide, ?_⟩
    obtain ⟨c, e, hc⟩ := atI_of (xs := (Str.ofString "abcdefghijklmnopqrstuvwxyz").cps.toList) (i := u) u0 u1
    rw [e]
    have hv : v - 1 = 0 ∨ v - 1 = 1 ∨ v - 1 = 2 ∨ v - 1 = 3 := by omega
    have key : ∀ n : Nat, n ≤ 7 → wForL (wGn 5) lp1__law_name (rangeD 0 n) { nx := t6__law_name (endsOf Q E), rt := Q, ex := fun x x_1 h => E x h } [some (.ref i), some (D.lst [D.str (Str.ofString "plus"), D.str (Str.ofString "not"), D.str (Str.ofString "into"), D.str (Str.ofString "if"), D.str (Str.ofString "else"), D.str (Str.ofString "number"), D.str (Str.ofString "call"), D.str (Str.ofString "fail"), D.str (Str.ofString "slot"), D.str (Str.ofString "entry"), D.str (Str.ofString "variable"), D.str (Str.ofString "callout")]), some (.int v), some (.str (Str.ofString "abcdefghijklmnopqrstuvwxyz")), some (.str ⟨#[c]⟩), none] h2 := fun n hn =>
      lp_name i _ _ Q E h q (rangeD 0 n) ⟨#[c]⟩ none h2 d2.1 (d1.trans d2) (Nat.le_refl 1) (by rw [cps_one]; simp [rangeD]; omega) (by
        intro a b
        rw [cps_one, List.mem_singleton] at b
        rw [b]; exact letters_lt c hc)
    rcases hv with e2 | e2 | e2 | e2 <;> rw [e2]
    · exact ⟨by decide, key 0 (by decide)⟩
    · exact ⟨by decide, key 1 (by decide)⟩
    · exact ⟨by decide, key 3 (by decide)⟩
    · exact ⟨by decide, key 7 (by decide)⟩
theorem lt_log {n : Nat} (h : n < 1000) : n.log2 < 9000 := by
  by_cases h0 : n = 0
  · rw [h0]; decide
  · have := Nat.log2_self_le h0
    have h2 : n.log2 < 2 ^ n.log2 := Nat.lt_two_pow_self
    omega
theorem vc__law_is_name : ∀ ds h Q E, ds.length = 1 → C__law_is_name ds h Q E → w__law_is_name (endsOf Q E) (ds.map some ++ List.replicate (2 - ds.length) none) h := by
  rintro ds h Q E hl ⟨x, rfl, hx, q⟩
  unfold w__law_is_name
  walk_at "wp"
  have hx1 : x.length ≤ 16777216 := by omega
  obtain ⟨n1, n2⟩ := name_test (T := t1__law_is_name (endsOf Q E) [some (.str x), none] h) q (t1_ok hx1)
  rw [len_cps] at hx hx1 ⊢
  refine ⟨hx1, ?_⟩
  split
  · split
    · exact n1 (by omega)
    · obtain ⟨c, e, a, b⟩ := n2 (by omega)
      refine ⟨hx1, ?_⟩
      rw [e]
      simp only
      split
      · exact a ‹_›
      · exact b (Classical.byContradiction ‹_›)
  · exact n1 (by omega)
theorem vc__law_string : ∀ ds h Q E, ds.length = 1 → C__law_string ds h Q E → w__law_string (endsOf Q E) (ds.map some ++ List.replicate (8 - ds.length) none) h := by
  rintro ds h Q E hl ⟨i, rfl, hp, q⟩
  unfold w__law_string
  walk_at "wp"
  refine ⟨hp, fun x h1 hx d1 => ⟨d1.1, by decide, by decide, fun v h2 v0 v1 d2 => ?_⟩⟩
  have hxl := hx.len
  unfold t1__law_string
  walk_at "wp"
  refine ⟨by omega, d2.1, by omega, lt_log (by omega), fun p h3 p0 p1 d3 => ?_⟩
  unfold t2__law_string
  walk_at "wp"
  rw [signs2_len]
  refine ⟨by decide, d3.1, by decide, by decide, fun u h4 u0 u1 d4 => ⟨by decide, ?_⟩⟩
  have d04 := ((d1.trans d2).trans d3).trans d4
  obtain ⟨c, e, hc⟩ := atI_of (xs := SIGNS2.cps.toList) (i := u) u0 u1
  rw [e]
  unfold t3__law_string t4__law_string t5__law_string t6__law_string t7__law_string t8__law_string
  walk_at "wp"
  have s1 := cutS_le x none (some p)
  have s2 := cutS_le x (some (p + 1)) none
  have s3 := cutS_le x (some p) none
  have so : (⟨#[c]⟩ : Str).length = 1 := len_one c
  split
  · exact q _ _ (by omega) d04
  split
  · refine ⟨by omega, by omega, by omega, by rw [len_app]; omega, q _ _ (by rw [len_app, len_app]; omega) d04⟩
  split
  · refine ⟨by omega, by omega, by omega, by rw [len_app]; omega, q _ _ (by rw [len_app, len_app]; omega) d04⟩
  split
  · refine ⟨by omega, by omega, by omega, q _ _ (by rw [len_app]; omega) d04⟩
  split
  · refine ⟨by omega, q _ _ (by rw [len_app]; omega) d04⟩
  refine ⟨d4.1, by decide, by decide, fun m h5 m0 m1 d5 => ?_⟩
  unfold t9__law_string
  walk_at "wp"
  refine ⟨⟨by omega, by omega⟩, by rw [rangeD_len]; omega, ?_⟩
  refine lc_inv (fun acc h => HP h i ∧ Dr h4 i h ∧ ∃ ys, strsL acc = some ys ∧ ys.length = acc.length ∧ ∀ y ∈ ys, y.length ≤ 1) _ _ _ ?_ ?_ ?_
  · exact ⟨d5.1, d5, [], rfl, rfl, fun y hy => by cases hy⟩
  · rintro d hd acc h6 ⟨hp6, d6, ys, e1, e2, e3⟩ Q' E' q'
    unfold el1__law_string
    walk_at "wp"
    rw [signs2_len]
    refine ⟨by decide, hp6, by decide, by decide, fun w h7 w0 w1 d7 => ⟨by decide, ?_⟩⟩
    obtain ⟨c2, e4, hc2⟩ := atI_of (xs := SIGNS2.cps.toList) (i := w) w0 w1
    rw [e4]
    refine q' _ _ ⟨d7.1, d6.trans d7, ys ++ [⟨#[c2]⟩], strsL_app e1 rfl, by simp [e2], ?_⟩
    intro y hy
    rcases List.mem_append.mp hy with hy | hy
    · exact e3 y hy
    · rw [List.mem_singleton] at hy; rw [hy]; exact Nat.le_refl 1
  · rintro acc h6 hlen ⟨hp6, d6, ys, e1, e2, e3⟩
    rw [rangeD_len, List.length_nil] at hlen
    simp only [Option.bind_some, e1]
    have a1 := sum_le e3
    have a2 := join_le (Str.ofString "") ys
    have a3 : ys.length ≤ 11 := by omega
    have a4 : (Str.ofString "").length = 0 := rfl
    rw [a4, Nat.mul_zero] at a2 ⊢
    exact ⟨by omega, q _ _ (by omega) (d04.trans d6)⟩
theorem vc__law_string_right : ∀ ds h Q E, ds.length = 1 → C__law_string_right ds h Q E → w__law_string_right (endsOf Q E) (ds.map some ++ List.replicate (2 - ds.length) none) h := by
  rintro ds h Q E hl ⟨x, rfl, hx, q⟩
  unfold w__law_string_right
  walk_at "wp"
  refine ⟨hx, ?_⟩
  unfold t1__law_string_right t2__law_string_right
  walk_at "wp"
  have e1 : isNameD (.str x) = isNameS x := rfl
  have kx : Known h (.str x) := ⟨rfl, fun y hy => by cases hy; omega⟩
  rw [e1]
  refine ⟨kx, kx, ?_⟩
  cases isNameS x
  · exact ⟨by decide, by decide, by decide, by decide, by decide, by decide, by decide, by decide, by rw [if_neg (fun z => z rfl)]; exact ⟨rfl, ⟨rfl, q⟩⟩⟩
  · exact ⟨by decide, by decide, by decide, by decide, by decide, by decide, by decide, by decide, by rw [if_neg (fun z => z rfl)]; exact ⟨rfl, ⟨rfl, q⟩⟩⟩
theorem vc__law_integer : ∀ ds h Q E, ds.length = 1 → C__law_integer ds h Q E → w__law_integer (endsOf Q E) (ds.map some ++ List.replicate (3 - ds.length) none) h := by
  rintro ds h Q E hl ⟨i, rfl, hp, q⟩
  unfold w__law_integer
  walk_at "wp"
  refine ⟨hp, by decide, by decide, fun v h1 v0 v1 d1 => ?_⟩
  unfold t1__law_integer t2__law_integer
  walk_at "wp"
  have key : ∀ (n u : Int) (h2 : Hs), Dr h i h2 → t3__law_integer (endsOf Q E) [some (D.ref i), some (D.int v), some (D.int u)] h2 := by
    intro n u h2 d2
    unfold t3__law_integer
    walk_at "wp"
    refine ⟨d2.1, by decide, by decide, fun z h3 z0 z1 d3 => ?_⟩
    split
    · exact q _ _ (d2.trans d3)
    · exact q _ _ (d2.trans d3)
  split
  · exact ⟨d1.1, by decide, by decide, fun z h2 z0 z1 d2 => q _ _ (d1.trans d2)⟩
  · split
    · refine ⟨⟨by decide, by decide, by decide⟩, d1.1, by decide, by decide, fun z h2 z0 z1 d2 => key 0 z h2 (d1.trans d2)⟩
    · refine ⟨⟨by decide, by decide, by decide⟩, d1.1, by decide, by decide, fun z h2 z0 z1 d2 => key 0 z h2 (d1.trans d2)⟩
theorem vc__law_integer_right : ∀ ds h Q E, ds.length = 1 → C__law_integer_right ds h Q E → w__law_integer_right (endsOf Q E) (ds.map some ++ List.replicate (2 - ds.length) none) h := by
  rintro ds h Q E hl ⟨v, rfl, q⟩
  have key : ∀ b, isSizeD (.int v) = b → t1__law_integer_right (endsOf Q E) [some (D.int v), some (D.bl b)] h := by
    intro b hb
    have e1 : isNameD (.int v) = false := rfl
    have kx : Known h (.int v) := ⟨rfl, fun y hy => by cases hy⟩
    unfold t1__law_integer_right t2__law_integer_right
    walk_at "wp"
    rw [hb, e1]
    refine ⟨rfl, rfl, kx, ?_⟩
    cases b
    · exact ⟨by decide, by decide, by decide, by decide, by decide, by decide, by decide, by decide, by rw [if_neg (fun z => z rfl)]; exact ⟨rfl, ⟨rfl, q⟩⟩⟩
    · exact ⟨by decide, by decide, by decide, by decide, by decide, by decide, by decide, by decide, by rw [if_neg (fun z => z rfl)]; exact ⟨rfl, ⟨rfl, q⟩⟩⟩
  unfold w__law_integer_right
  walk_at "wp"
  split
  · refine key _ ?_
    simp only [isSizeD]
    rw [Bool.eq_iff_iff]
    simp only [Bool.and_eq_true, decide_eq_true_eq]
    omega
  · refine key _ ?_
    simp only [isSizeD]
    rw [Bool.and_eq_false_iff, decide_eq_false_iff_not]
    left; omega
def Oth (d : D) : Prop := (tyN [] d).isSome = true ∧ (∀ x, d ≠ .str x) ∧ ∀ i, d ≠ .int i
theorem Oth.ok {d : D} (o : Oth d) (h : Hs) : Known h d ∧ isNameD d = false ∧ isSizeD d = false ∧ isIntD d = false := by
  obtain ⟨a, b, c⟩ := o
  refine ⟨⟨a, fun x hx => absurd hx (b x)⟩, ?_, ?_, ?_⟩ <;> cases d <;> first | rfl | exact absurd rfl (b _) | exact absurd rfl (c _)
theorem vc__law_others_right : ∀ ds h Q E, ds.length = 1 → C__law_others_right ds h Q E → w__law_others_right (endsOf Q E) (ds.map some ++ List.replicate (7 - ds.length) none) h := by
  rintro ds h Q E hl ⟨i, rfl, hp, q⟩
  unfold w__law_others_right
  walk_at "wp"
  refine ⟨hp, fun x h1 hx d1 => ⟨d1.1, by decide, by decide, fun v h2 v0 v1 d2 => ?_⟩⟩
  unfold t1__law_others_right t2__law_others_right
  walk_at "wp"
  refine ⟨_, _, rfl, ?_⟩
  have d02 := d1.trans d2
  have qq := q _ d02
  clear q
  have hk : keyD (D.str x) = some (Sum.inr x) := rfl
  rw [hk]
  refine ⟨_, _, rfl, ?_⟩
  unfold t3__law_others_right
  walk_at "wp"
  refine for_inv (fun ds env h => h = h2 ∧ (∃ o l, env = [some (D.ref i), some (.str x), some (.int (1 + v)), some (.lst [.str x, .int (1 + v)]), some (.dic [.inr x] [.int (1 + v)]), some l, o]) ∧ ∀ d ∈ ds, Oth d) ?_ ?_ _ _ _ ?_
  · rintro d ds env h ⟨rfl, ⟨o, l, rfl⟩, hall⟩ D' hrt hbk hex hn hc
    obtain ⟨k1, k2, k3, k4⟩ := (hall d (List.mem_cons_self ..)).ok h
    unfold lp1__law_others_right
    walk_at "wp"
    rw [k2, k3, k4, if_neg (fun z => z rfl), if_neg (fun z => z rfl), if_neg (fun z => z rfl)]
    exact ⟨k1, k1.1, k1.1, hn _ _ ⟨rfl, ⟨_, _, rfl⟩, fun e he => hall e (List.mem_cons_of_mem _ he)⟩⟩
  · rintro env h ⟨rfl, ⟨o, l, rfl⟩, _⟩
    unfold t4__law_others_right
    walk_at "wp"
    have hs := hx.sok
    refine ⟨by simp [SeqAt.shaped, PyData.canLay0, PyData.canLayAll0, hs, PyData.depth, PyData.depthAll], by simp [SeqAt.shaped, PyData.canLay0, PyData.canLayAll0, hs, PyData.depth, PyData.depthAll], ?_⟩
    have e : (PyData.list [PyData.str x, PyData.int (1 + v)]).eqv (PyData.list [PyData.str x, PyData.int (1 + v)]) = true := by
      simp [PyData.eqv, PyData.eqvAll]
    rw [if_pos e]
    exact ⟨by simp, _, rfl, rfl, qq⟩
  · refine ⟨rfl, ⟨_, _, rfl⟩, ?_⟩
    intro d hd
    simp only [List.mem_cons, List.not_mem_nil, or_false] at hd
    rcases hd with rfl | rfl | rfl | rfl | rfl | rfl | rfl | rfl | rfl | rfl | rfl <;> exact ⟨rfl, fun _ e => (by cases e), fun _ e => (by cases e)⟩
theorem vc__law_right : ∀ ds h Q E, ds.length = 1 → C__law_right ds h Q E → w__law_right (endsOf Q E) (ds.map some ++ List.replicate (2 - ds.length) none) h := by
  rintro ds h Q E hl ⟨i, rfl, hp, q⟩
  unfold w__law_right
  walk_at "wp"
  refine ⟨by decide, ?_⟩
  refine for_inv (fun ds env h1 => Dr h i h1 ∧ ∃ o, env = [some (D.ref i), o]) ?_ ?_ _ _ _ ⟨Dr.refl hp, _, rfl⟩
  · rintro d ds env h1 ⟨d1, o, rfl⟩ D' hrt hbk hex hn hc
    unfold lp1__law_right
    walk_at "wp"
    exact ⟨d1.1, fun x h2 hx d2 => ⟨by omega, d2.1, fun v h3 d3 => hn _ _ ⟨(d1.trans d2).trans d3, _, rfl⟩⟩⟩
  · rintro env h1 ⟨d1, o, rfl⟩
    unfold t1__law_right
    walk_at "wp"
    exact ⟨d1.1, fun h2 d2 => q _ (d1.trans d2)⟩
theorem vc_law : ∀ ds h Q E, ds.length = 1 → C_law ds h Q E → w_law (endsOf Q E) (ds.map some ++ List.replicate (5 - ds.length) none) h := by
  rintro ds h Q E hl ⟨ns, rfl, hn, q⟩
  unfold w_law t1_law
  walk_at "wp"
  refine lc_true (fun h' => h' = h) _ h rfl ?_ ?_
  · rintro d hd h' rfl Q' E' q'
    have hx : ∃ x, d = .str x ∧ x.length ≤ 1000 := by
      simp only [List.mem_cons, List.not_mem_nil, or_false] at hd
      rcases hd with rfl | rfl | rfl | rfl | rfl | rfl | rfl | rfl | rfl | rfl | rfl | rfl | rfl <;> exact ⟨_, rfl, by decide⟩
    obtain ⟨x, rfl, hx⟩ := hx
    unfold el1_law
    walk_at "wp"
    exact ⟨hx, q' _ rfl⟩
  rintro n h' rfl
  rw [blsL_rep]
  simp only [all_rep]
  rw [if_neg (by decide)]
  unfold t2_law
  walk_at "wp"
  refine ⟨⟨by decide, by decide, by decide⟩, ⟨by decide, by decide, by decide⟩, ?_⟩
  refine lc_true (fun h2 => h2 = h') _ h' rfl ?_ ?_
  · rintro d hd h2 rfl Q' E' q'
    have hx : ∃ x, d = .int x := by
      simp only [List.mem_cons, List.not_mem_nil, or_false] at hd
      rcases hd with rfl | rfl | rfl | rfl | rfl | rfl | rfl <;> exact ⟨_, rfl⟩
    obtain ⟨x, rfl⟩ := hx
    unfold el2_law
    walk_at "wp"
    exact q' _ rfl
  rintro n h2 rfl
  rw [blsL_rep]
  simp only [all_rep]
  rw [if_neg (by decide)]
  unfold t3_law
  walk_at "wp"
  obtain ⟨z, e, z2, z6⟩ := mm (ns.map D.int).length
  rw [e]
  refine ⟨⟨by omega, by omega⟩, by rw [rangeD_len]; omega, ?_⟩
  refine lc_true (fun _ => True) _ _ trivial ?_ ?_
  · rintro d hd h3 - Q' E' q'
    obtain ⟨k, rfl, k0, k1⟩ := rangeD_mem hd
    unfold el3_law
    walk_at "wp"
    refine ⟨hn, k0, by omega, fun c s d n hw => ⟨⟨s, d, n, by simp, hw⟩, fun h4 _ => q' _ trivial⟩⟩
  · rintro n h3 -
    rw [blsL_rep]
    simp only [all_rep]
    exact q _
end My
namespace My
open PySem PySem.Spec PyProof.Rows L2 DL
theorem says : Says C_law 63 := fun ns hl _ Q E q => ⟨ns, rfl, hl, q⟩
theorem all_mk {P : Program} {w : World} {K : PySem.W.Frag} {h : Heap} {mg : Str → Option Value} {CA : Nat → Addr} {fa f1 f2 f3 f4 f5 f6 f7 f8 f9 f10 f11 f12 f13 f14 f15 f16 : Addr} {t_MAX_SIZE t_MAX_SIGNS t_LETTERS t_SIGNS : Tok} (X : K.In h) (G : h.Ns mainGlobals mg) (hfa : mg "law" = some (.ref fa))
    {od1 an1 : Option Addr} {sl1 : Array (Option Value)} {oc1 kV1 dc1 pm1 cd1 ct1 : Value} {od2 an2 : Option Addr} {sl2 : Array (Option Value)} {oc2 kV2 dc2 pm2 cd2 ct2 : Value} {od3 an3 : Option Addr} {sl3 : Array (Option Value)} {oc3 kV3 dc3 pm3 cd3 ct3 : Value} {od4 an4 : Option Addr} {sl4 : Array (Option Value)} {oc4 kV4 dc4 pm4 cd4 ct4 : Value} {od5 an5 : Option Addr} {sl5 : Array (Option Value)} {oc5 kV5 dc5 pm5 cd5 ct5 : Value} {od6 an6 : Option Addr} {sl6 : Array (Option Value)} {oc6 kV6 dc6 pm6 cd6 ct6 : Value} {od7 an7 : Option Addr} {sl7 : Array (Option Value)} {oc7 kV7 dc7 pm7 cd7 ct7 : Value} {od8 an8 : Option Addr} {sl8 : Array (Option Value)} {oc8 kV8 dc8 pm8 cd8 ct8 : Value} {od9 an9 : Option Addr} {sl9 : Array (Option Value)} {oc9 kV9 dc9 pm9 cd9 ct9 : Value} {od10 an10 : Option Addr} {sl10 : Array (Option Value)} {oc10 kV10 dc10 pm10 cd10 ct10 : Value} {od11 an11 : Option Addr} {sl11 : Array (Option Value)} {oc11 kV11 dc11 pm11 cd11 ct11 : Value} {od12 an12 : Option Addr} {sl12 : Array (Option Value)} {oc12 kV12 dc12 pm12 cd12 ct12 : Value} {od13 an13 : Option Addr} {sl13 : Array (Option Value)} {oc13 kV13 dc13 pm13 cd13 ct13 : Value} {od14 an14 : Option Addr} {sl14 : Array (Option Value)} {oc14 kV14 dc14 pm14 cd14 ct14 : Value} {od15 an15 : Option Addr} {sl15 : Array (Option Value)} {oc15 kV15 dc15 pm15 cd15 ct15 : Value} {od16 an16 : Option Addr} {sl16 : Array (Option Value)} {oc16 kV16 dc16 pm16 cd16 ct16 : Value}
    (a1 : PySem.W.nsIn K mainGlobals "is_integer" = some (some (.ref f1)))
    (l1 : K.lookup f1 = some ⟨oc1, od1, .func (PySem.W.fnOf "is_integer" "is_integer" (defArgs s_is_integer) (defBody s_is_integer) (defScope s_is_integer) .none kV1 dc1 pm1 an1 cd1 ct1), sl1⟩)
    (d1 : PySem.W.codeIn K cd1 "is_integer" = true)
    (k1 : PySem.W.keepIn K (.ref f1) = true)
    (a2 : PySem.W.nsIn K mainGlobals "is_size" = some (some (.ref f2)))
    (l2 : K.lookup f2 = some ⟨oc2, od2, .func (PySem.W.fnOf "is_size" "is_size" (defArgs s_is_size) (defBody s_is_size) (defScope s_is_size) .none kV2 dc2 pm2 an2 cd2 ct2), sl2⟩)
    (d2 : PySem.W.codeIn K cd2 "is_size" = true)
    (k2 : PySem.W.keepIn K (.ref f2) = true)
    (a3 : PySem.W.nsIn K mainGlobals "is_name" = some (some (.ref f3)))
    (l3 : K.lookup f3 = some ⟨oc3, od3, .func (PySem.W.fnOf "is_name" "is_name" (defArgs s_is_name) (defBody s_is_name) (defScope s_is_name) .none kV3 dc3 pm3 an3 cd3 ct3), sl3⟩)
    (d3 : PySem.W.codeIn K cd3 "is_name" = true)
    (k3 : PySem.W.keepIn K (.ref f3) = true)
    (a4 : PySem.W.nsIn K mainGlobals "_law_cell" = some (some (.ref f4)))
    (l4 : K.lookup f4 = some ⟨oc4, od4, .func (PySem.W.fnOf "_law_cell" "_law_cell" (defArgs s__law_cell) (defBody s__law_cell) (defScope s__law_cell) .none kV4 dc4 pm4 an4 cd4 ct4), sl4⟩)
    (d4 : PySem.W.codeIn K cd4 "_law_cell" = true)
    (k4 : PySem.W.keepIn K (.ref f4) = true)
    (a5 : PySem.W.nsIn K mainGlobals "_law_purse" = some (some (.ref f5)))
    (l5 : K.lookup f5 = some ⟨oc5, od5, .func (PySem.W.fnOf "_law_purse" "_law_purse" (defArgs s__law_purse) (defBody s__law_purse) (defScope s__law_purse) .none kV5 dc5 pm5 an5 cd5 ct5), sl5⟩)
    (d5 : PySem.W.codeIn K cd5 "_law_purse" = true)
    (k5 : PySem.W.keepIn K (.ref f5) = true)
    (a6 : PySem.W.nsIn K mainGlobals "_law_draw" = some (some (.ref f6)))
    (l6 : K.lookup f6 = some ⟨oc6, od6, .func (PySem.W.fnOf "_law_draw" "_law_draw" (defArgs s__law_draw) (defBody s__law_draw) (defScope s__law_draw) .none kV6 dc6 pm6 an6 cd6 ct6), sl6⟩)
    (d6 : PySem.W.codeIn K cd6 "_law_draw" = true)
    (k6 : PySem.W.keepIn K (.ref f6) = true)
    (a7 : PySem.W.nsIn K mainGlobals "_law_name" = some (some (.ref f7)))
    (l7 : K.lookup f7 = some ⟨oc7, od7, .func (PySem.W.fnOf "_law_name" "_law_name" (defArgs s__law_name) (defBody s__law_name) (defScope s__law_name) .none kV7 dc7 pm7 an7 cd7 ct7), sl7⟩)
    (d7 : PySem.W.codeIn K cd7 "_law_name" = true)
    (k7 : PySem.W.keepIn K (.ref f7) = true)
    (a8 : PySem.W.nsIn K mainGlobals "_law_signs" = some (some (.ref f8)))
    (l8 : K.lookup f8 = some ⟨oc8, od8, .func (PySem.W.fnOf "_law_signs" "_law_signs" (defArgs s__law_signs) (defBody s__law_signs) (defScope s__law_signs) .none kV8 dc8 pm8 an8 cd8 ct8), sl8⟩)
    (d8 : PySem.W.codeIn K cd8 "_law_signs" = true)
    (k8 : PySem.W.keepIn K (.ref f8) = true)
    (a9 : PySem.W.nsIn K mainGlobals "_law_is_name" = some (some (.ref f9)))
    (l9 : K.lookup f9 = some ⟨oc9, od9, .func (PySem.W.fnOf "_law_is_name" "_law_is_name" (defArgs s__law_is_name) (defBody s__law_is_name) (defScope s__law_is_name) .none kV9 dc9 pm9 an9 cd9 ct9), sl9⟩)
    (d9 : PySem.W.codeIn K cd9 "_law_is_name" = true)
    (k9 : PySem.W.keepIn K (.ref f9) = true)
    (a10 : PySem.W.nsIn K mainGlobals "_law_string" = some (some (.ref f10)))
    (l10 : K.lookup f10 = some ⟨oc10, od10, .func (PySem.W.fnOf "_law_string" "_law_string" (defArgs s__law_string) (defBody s__law_string) (defScope s__law_string) .none kV10 dc10 pm10 an10 cd10 ct10), sl10⟩)
    (d10 : PySem.W.codeIn K cd10 "_law_string" = true)
    (k10 : PySem.W.keepIn K (.ref f10) = true)
    (a11 : PySem.W.nsIn K mainGlobals "_law_string_right" = some (some (.ref f11)))
    (l11 : K.lookup f11 = some ⟨oc11, od11, .func (PySem.W.fnOf "_law_string_right" "_law_string_right" (defArgs s__law_string_right) (defBody s__law_string_right) (defScope s__law_string_right) .none kV11 dc11 pm11 an11 cd11 ct11), sl11⟩)
    (d11 : PySem.W.codeIn K cd11 "_law_string_right" = true)
    (k11 : PySem.W.keepIn K (.ref f11) = true)
    (a12 : PySem.W.nsIn K mainGlobals "_law_integer" = some (some (.ref f12)))
    (l12 : K.lookup f12 = some ⟨oc12, od12, .func (PySem.W.fnOf "_law_integer" "_law_integer" (defArgs s__law_integer) (defBody s__law_integer) (defScope s__law_integer) .none kV12 dc12 pm12 an12 cd12 ct12), sl12⟩)
    (d12 : PySem.W.codeIn K cd12 "_law_integer" = true)
    (k12 : PySem.W.keepIn K (.ref f12) = true)
    (a13 : PySem.W.nsIn K mainGlobals "_law_integer_right" = some (some (.ref f13)))
    (l13 : K.lookup f13 = some ⟨oc13, od13, .func (PySem.W.fnOf "_law_integer_right" "_law_integer_right" (defArgs s__law_integer_right) (defBody s__law_integer_right) (defScope s__law_integer_right) .none kV13 dc13 pm13 an13 cd13 ct13), sl13⟩)
    (d13 : PySem.W.codeIn K cd13 "_law_integer_right" = true)
    (k13 : PySem.W.keepIn K (.ref f13) = true)
    (a14 : PySem.W.nsIn K mainGlobals "_law_others_right" = some (some (.ref f14)))
    (l14 : K.lookup f14 = some ⟨oc14, od14, .func (PySem.W.fnOf "_law_others_right" "_law_others_right" (defArgs s__law_others_right) (defBody s__law_others_right) (defScope s__law_others_right) .none kV14 dc14 pm14 an14 cd14 ct14), sl14⟩)
    (d14 : PySem.W.codeIn K cd14 "_law_others_right" = true)
    (k14 : PySem.W.keepIn K (.ref f14) = true)
    (a15 : PySem.W.nsIn K mainGlobals "_law_right" = some (some (.ref f15)))
    (l15 : K.lookup f15 = some ⟨oc15, od15, .func (PySem.W.fnOf "_law_right" "_law_right" (defArgs s__law_right) (defBody s__law_right) (defScope s__law_right) .none kV15 dc15 pm15 an15 cd15 ct15), sl15⟩)
    (d15 : PySem.W.codeIn K cd15 "_law_right" = true)
    (k15 : PySem.W.keepIn K (.ref f15) = true)
    (a16 : PySem.W.nsIn K mainGlobals "law" = some (some (.ref f16)))
    (l16 : K.lookup f16 = some ⟨oc16, od16, .func (PySem.W.fnOf "law" "law" (defArgs s_law) (defBody s_law) (defScope s_law) .none kV16 dc16 pm16 an16 cd16 ct16), sl16⟩)
    (d16 : PySem.W.codeIn K cd16 "law" = true)
    (k16 : PySem.W.keepIn K (.ref f16) = true)
    (z_int : PySem.W.nsIn K mainGlobals "int" = some none)
    (z_isinstance : PySem.W.nsIn K mainGlobals "isinstance" = some none)
    (z_bool : PySem.W.nsIn K mainGlobals "bool" = some none)
    (z_str : PySem.W.nsIn K mainGlobals "str" = some none)
    (z_len : PySem.W.nsIn K mainGlobals "len" = some none)
    (z_all : PySem.W.nsIn K mainGlobals "all" = some none)
    (z_abs : PySem.W.nsIn K mainGlobals "abs" = some none)
    (z_range : PySem.W.nsIn K mainGlobals "range" = some none)
    (z_repr : PySem.W.nsIn K mainGlobals "repr" = some none)
    (z_min : PySem.W.nsIn K mainGlobals "min" = some none)
    (z_max : PySem.W.nsIn K mainGlobals "max" = some none)
    (g_MAX_SIZE : PySem.W.nsIn K mainGlobals "MAX_SIZE" = some (some (.int 40 t_MAX_SIZE)))
    (g_MAX_SIGNS : PySem.W.nsIn K mainGlobals "MAX_SIGNS" = some (some (.int 8 t_MAX_SIGNS)))
    (g_LETTERS : PySem.W.nsIn K mainGlobals "LETTERS" = some (some (.str "abcdefghijklmnopqrstuvwxyz" t_LETTERS)))
    (g_SIGNS : PySem.W.nsIn K mainGlobals "SIGNS" = some (some (.str "abcdefghijklmnopqrstuvwxyz0123456789" t_SIGNS)))
    : ∃ fd : FuncData, (∀ (s : Shared) (v : Value), BindsTo s fd ⟨[v], []⟩ [("script", v)]) ∧ ∀ base : Heap, K.In base → base.Ns mainGlobals mg → FnG P w K mg base (L2N.CX P w) 5 fa fd ["script"] (spD K CA 1 C_law) := by
  have e := hfa.symm.trans (PySem.W.mg_of X G a16)
  cases e
  have T : Txt K mg CA := {
    z_int := PySem.W.mg_none_of X G z_int
    z_isinstance := PySem.W.mg_none_of X G z_isinstance
    z_bool := PySem.W.mg_none_of X G z_bool
    z_str := PySem.W.mg_none_of X G z_str
    z_len := PySem.W.mg_none_of X G z_len
    z_all := PySem.W.mg_none_of X G z_all
    z_abs := PySem.W.mg_none_of X G z_abs
    z_range := PySem.W.mg_none_of X G z_range
    z_repr := PySem.W.mg_none_of X G z_repr
    z_min := PySem.W.mg_none_of X G z_min
    z_max := PySem.W.mg_none_of X G z_max
    g_MAX_SIZE := ⟨⟨_, .int 40, PySem.W.mg_of X G g_MAX_SIZE, ⟨_, rfl⟩, fun _ _ => rfl⟩⟩
    g_MAX_SIGNS := ⟨⟨_, .int 8, PySem.W.mg_of X G g_MAX_SIGNS, ⟨_, rfl⟩, fun _ _ => rfl⟩⟩
    g_LETTERS := ⟨⟨_, .str "abcdefghijklmnopqrstuvwxyz", PySem.W.mg_of X G g_LETTERS, ⟨_, rfl⟩, fun _ _ => rfl⟩⟩
    g_SIGNS := ⟨⟨_, .str "abcdefghijklmnopqrstuvwxyz0123456789", PySem.W.mg_of X G g_SIGNS, ⟨_, rfl⟩, fun _ _ => rfl⟩⟩ }
  refine ⟨PySem.W.fnOf "law" "law" (defArgs s_law) (defBody s_law) (defScope s_law) .none kV16 dc16 pm16 an16 cd16 ct16, fun s v => .of_eq rfl, fun base _ _ => ?_⟩
  have F1 := fun_mk (st := s_is_integer) l1 d1 k1
  have g1 := fnD (P := P) (w := w) (mg := mg) (base := base) (CA := CA) (k := 0) (C := C_is_integer) F1 sc_is_integer (fun cdv A outer s H E hr => b_is_integer T  hr) vc_is_integer
  have c_is_integer : Callee P w K mg base CA 1 "is_integer" 1 [] C_is_integer := callee_mk (PySem.W.mg_of X G a1) k1 (F1.binds (ps := ["value"]) fun _ _ _ _ _ _ us hl => match us, hl with | [_], _ => rfl) g1
  have ck_is_integer_0_value : CalleeK P w K mg base CA 1 "is_integer" 1 0 ["value"] [.inr 0] C_is_integer := ⟨_, _, _, PySem.W.mg_of X G a1, k1, rfl, fun s us ws h1 h2 => match us, ws, h1, h2 with | [], [_], _, _ => .of_eq rfl, g1⟩
  have F2 := fun_mk (st := s_is_size) l2 d2 k2
  have g2 := fnD (P := P) (w := w) (mg := mg) (base := base) (CA := CA) (k := 1) (C := C_is_size) F2 sc_is_size (fun cdv A outer s H E hr => b_is_size T c_is_integer hr) vc_is_size
  have c_is_size : Callee P w K mg base CA 2 "is_size" 1 [] C_is_size := callee_mk (PySem.W.mg_of X G a2) k2 (F2.binds (ps := ["value"]) fun _ _ _ _ _ _ us hl => match us, hl with | [_], _ => rfl) g2
  have ck_is_size_0_value : CalleeK P w K mg base CA 2 "is_size" 1 0 ["value"] [.inr 0] C_is_size := ⟨_, _, _, PySem.W.mg_of X G a2, k2, rfl, fun s us ws h1 h2 => match us, ws, h1, h2 with | [], [_], _, _ => .of_eq rfl, g2⟩
  have F3 := fun_mk (st := s_is_name) l3 d3 k3
  have g3 := fnD (P := P) (w := w) (mg := mg) (base := base) (CA := CA) (k := 0) (C := C_is_name) F3 sc_is_name (fun cdv A outer s H E hr => b_is_name T  hr) vc_is_name
  have c_is_name : Callee P w K mg base CA 1 "is_name" 1 [] C_is_name := callee_mk (PySem.W.mg_of X G a3) k3 (F3.binds (ps := ["value"]) fun _ _ _ _ _ _ us hl => match us, hl with | [_], _ => rfl) g3
  have ck_is_name_0_value : CalleeK P w K mg base CA 1 "is_name" 1 0 ["value"] [.inr 0] C_is_name := ⟨_, _, _, PySem.W.mg_of X G a3, k3, rfl, fun s us ws h1 h2 => match us, ws, h1, h2 with | [], [_], _, _ => .of_eq rfl, g3⟩
  have F4 := fun_mk (st := s__law_cell) l4 d4 k4
  have g4 := fnD (P := P) (w := w) (mg := mg) (base := base) (CA := CA) (k := 0) (C := C__law_cell) F4 sc__law_cell (fun cdv A outer s H E hr => b__law_cell T  hr) vc__law_cell
  have c__law_cell : Callee P w K mg base CA 1 "_law_cell" 2 [] C__law_cell := callee_mk (PySem.W.mg_of X G a4) k4 (F4.binds (ps := ["script", "k"]) fun _ _ _ _ _ _ us hl => match us, hl with | [_, _], _ => rfl) g4
  have F5 := fun_mk (st := s__law_purse) l5 d5 k5
  have g5 := fnD (P := P) (w := w) (mg := mg) (base := base) (CA := CA) (k := 0) (C := C__law_purse) F5 sc__law_purse (fun cdv A outer s H E hr => b__law_purse T  hr) vc__law_purse
  have c__law_purse : Callee P w K mg base CA 1 "_law_purse" 1 [] C__law_purse := callee_mk (PySem.W.mg_of X G a5) k5 (F5.binds (ps := ["cell"]) fun _ _ _ _ _ _ us hl => match us, hl with | [_], _ => rfl) g5
  have F6 := fun_mk (st := s__law_draw) l6 d6 k6
  have g6 := fnD (P := P) (w := w) (mg := mg) (base := base) (CA := CA) (k := 0) (C := C__law_draw) F6 sc__law_draw (fun cdv A outer s H E hr => b__law_draw T  hr) vc__law_draw
  have c__law_draw : Callee P w K mg base CA 1 "_law_draw" 2 [] C__law_draw := callee_mk (PySem.W.mg_of X G a6) k6 (F6.binds (ps := ["purse", "many"]) fun _ _ _ _ _ _ us hl => match us, hl with | [_, _], _ => rfl) g6
  have F7 := fun_mk (st := s__law_name) l7 d7 k7
  have g7 := fnD (P := P) (w := w) (mg := mg) (base := base) (CA := CA) (k := 1) (C := C__law_name) F7 sc__law_name (fun cdv A outer s H E hr => b__law_name T c__law_draw hr) vc__law_name
  have c__law_name : Callee P w K mg base CA 2 "_law_name" 1 [] C__law_name := callee_mk (PySem.W.mg_of X G a7) k7 (F7.binds (ps := ["purse"]) fun _ _ _ _ _ _ us hl => match us, hl with | [_], _ => rfl) g7
  have F8 := fun_mk (st := s__law_signs) l8 d8 k8
  have g8 := fnD (P := P) (w := w) (mg := mg) (base := base) (CA := CA) (k := 0) (C := C__law_signs) F8 sc__law_signs (fun cdv A outer s H E hr => b__law_signs T  hr) vc__law_signs
  have c__law_signs : Callee P w K mg base CA 1 "_law_signs" 0 [] C__law_signs := callee_mk (PySem.W.mg_of X G a8) k8 (F8.binds (ps := []) fun _ _ _ _ _ _ us hl => match us, hl with | [], _ => rfl) g8
  have F9 := fun_mk (st := s__law_is_name) l9 d9 k9
  have g9 := fnD (P := P) (w := w) (mg := mg) (base := base) (CA := CA) (k := 0) (C := C__law_is_name) F9 sc__law_is_name (fun cdv A outer s H E hr => b__law_is_name T  hr) vc__law_is_name
  have c__law_is_name : Callee P w K mg base CA 1 "_law_is_name" 1 [] C__law_is_name := callee_mk (PySem.W.mg_of X G a9) k9 (F9.binds (ps := ["text"]) fun _ _ _ _ _ _ us hl => match us, hl with | [_], _ => rfl) g9
  have F10 := fun_mk (st := s__law_string) l10 d10 k10
  have g10 := fnD (P := P) (w := w) (mg := mg) (base := base) (CA := CA) (k := 2) (C := C__law_string) F10 sc__law_string (fun cdv A outer s H E hr => b__law_string T c__law_draw c__law_name c__law_signs hr) vc__law_string
  have c__law_string : Callee P w K mg base CA 3 "_law_string" 1 [] C__law_string := callee_mk (PySem.W.mg_of X G a10) k10 (F10.binds (ps := ["purse"]) fun _ _ _ _ _ _ us hl => match us, hl with | [_], _ => rfl) g10
  have F11 := fun_mk (st := s__law_string_right) l11 d11 k11
  have g11 := fnD (P := P) (w := w) (mg := mg) (base := base) (CA := CA) (k := 2) (C := C__law_string_right) F11 sc__law_string_right (fun cdv A outer s H E hr => b__law_string_right T c__law_is_name c_is_name c_is_size c_is_integer ck_is_name_0_value hr) vc__law_string_right
  have c__law_string_right : Callee P w K mg base CA 3 "_law_string_right" 1 [] C__law_string_right := callee_mk (PySem.W.mg_of X G a11) k11 (F11.binds (ps := ["text"]) fun _ _ _ _ _ _ us hl => match us, hl with | [_], _ => rfl) g11
  have F12 := fun_mk (st := s__law_integer) l12 d12 k12
  have g12 := fnD (P := P) (w := w) (mg := mg) (base := base) (CA := CA) (k := 1) (C := C__law_integer) F12 sc__law_integer (fun cdv A outer s H E hr => b__law_integer T c__law_draw hr) vc__law_integer
  have c__law_integer : Callee P w K mg base CA 2 "_law_integer" 1 [] C__law_integer := callee_mk (PySem.W.mg_of X G a12) k12 (F12.binds (ps := ["purse"]) fun _ _ _ _ _ _ us hl => match us, hl with | [_], _ => rfl) g12
  have F13 := fun_mk (st := s__law_integer_right) l13 d13 k13
  have g13 := fnD (P := P) (w := w) (mg := mg) (base := base) (CA := CA) (k := 2) (C := C__law_integer_right) F13 sc__law_integer_right (fun cdv A outer s H E hr => b__law_integer_right T c_is_name c_is_size c_is_integer ck_is_size_0_value ck_is_integer_0_value hr) vc__law_integer_right
  have c__law_integer_right : Callee P w K mg base CA 3 "_law_integer_right" 1 [] C__law_integer_right := callee_mk (PySem.W.mg_of X G a13) k13 (F13.binds (ps := ["number"]) fun _ _ _ _ _ _ us hl => match us, hl with | [_], _ => rfl) g13
  have F14 := fun_mk (st := s__law_others_right) l14 d14 k14
  have g14 := fnD (P := P) (w := w) (mg := mg) (base := base) (CA := CA) (k := 2) (C := C__law_others_right) F14 sc__law_others_right (fun cdv A outer s H E hr => b__law_others_right T c__law_draw c__law_name c_is_name c_is_size c_is_integer hr) vc__law_others_right
  have c__law_others_right : Callee P w K mg base CA 3 "_law_others_right" 1 [] C__law_others_right := callee_mk (PySem.W.mg_of X G a14) k14 (F14.binds (ps := ["purse"]) fun _ _ _ _ _ _ us hl => match us, hl with | [_], _ => rfl) g14
  have F15 := fun_mk (st := s__law_right) l15 d15 k15
  have g15 := fnD (P := P) (w := w) (mg := mg) (base := base) (CA := CA) (k := 3) (C := C__law_right) F15 sc__law_right (fun cdv A outer s H E hr => b__law_right T c__law_string_right c__law_string c__law_integer_right c__law_integer c__law_others_right hr) vc__law_right
  have c__law_right : Callee P w K mg base CA 4 "_law_right" 1 [] C__law_right := callee_mk (PySem.W.mg_of X G a15) k15 (F15.binds (ps := ["purse"]) fun _ _ _ _ _ _ us hl => match us, hl with | [_], _ => rfl) g15
  have F16 := fun_mk (st := s_law) l16 d16 k16
  have g16 := fnD (P := P) (w := w) (mg := mg) (base := base) (CA := CA) (k := 4) (C := C_law) F16 sc_law (fun cdv A outer s H E hr => b_law T c__law_string_right c__law_integer_right c__law_right c__law_purse c__law_cell hr) vc_law
  exact g16
end My
open PySem PySem.W PyProof.Rows
set_option maxRecDepth 100000 in
set_option maxHeartbeats 0 in
theorem PySem.Challenge.cw_calledin_k02_names_and_sizes_holds : PySem.Challenge.rw_calledin_k02_names_and_sizes.Holds := by
  w_on; o_law; k_head; (case hw => w_witness2)
  k_fill
  refine DL.walk (l := PySem.Challenge.rw_calledin_k02_names_and_sizes) (n := 63) (k := 5) (x := "script") (C := My.C_law) (CA := fun _ => (fun _ => 0)) rfl (by decide) rfl ⟨⟨rfl, by decide, by decide⟩, rfl⟩ (fun w h Y => PySem.W.kIn_of Y) ?F My.says
  case F =>
    intro w mg fa h KX G hmg
    refine' My.all_mk (CA := (fun _ => 0)) KX G hmg ?a1 ?l1 ?d1 ?k1 ?a2 ?l2 ?d2 ?k2 ?a3 ?l3 ?d3 ?k3 ?a4 ?l4 ?d4 ?k4 ?a5 ?l5 ?d5 ?k5 ?a6 ?l6 ?d6 ?k6 ?a7 ?l7 ?d7 ?k7 ?a8 ?l8 ?d8 ?k8 ?a9 ?l9 ?d9 ?k9 ?a10 ?l10 ?d10 ?k10 ?a11 ?l11 ?d11 ?k11 ?a12 ?l12 ?d12 ?k12 ?a13 ?l13 ?d13 ?k13 ?a14 ?l14 ?d14 ?k14 ?a15 ?l15 ?d15 ?k15 ?a16 ?l16 ?d16 ?k16 ?z_int ?z_isinstance ?z_bool ?z_str ?z_len ?z_all ?z_abs ?z_range ?z_repr ?z_min ?z_max ?g_MAX_SIZE ?g_MAX_SIGNS ?g_LETTERS ?g_SIGNS
    (case a1 => k_is)
    (case l1 => k_is)
    (case d1 => k_is)
    (case k1 => k_is)
    (case a2 => k_is)
    (case l2 => k_is)
    (case d2 => k_is)
    (case k2 => k_is)
    (case a3 => k_is)
    (case l3 => k_is)
    (case d3 => k_is)
    (case k3 => k_is)
    (case a4 => k_is)
    (case l4 => k_is)
    (case d4 => k_is)
    (case k4 => k_is)
    (case a5 => k_is)
    (case l5 => k_is)
    (case d5 => k_is)
    (case k5 => k_is)
    (case a6 => k_is)
    (case l6 => k_is)
    (case d6 => k_is)
    (case k6 => k_is)
    (case a7 => k_is)
    (case l7 => k_is)
    (case d7 => k_is)
    (case k7 => k_is)
    (case a8 => k_is)
    (case l8 => k_is)
    (case d8 => k_is)
    (case k8 => k_is)
    (case a9 => k_is)
    (case l9 => k_is)
    (case d9 => k_is)
    (case k9 => k_is)
    (case a10 => k_is)
    (case l10 => k_is)
    (case d10 => k_is)
    (case k10 => k_is)
    (case a11 => k_is)
    (case l11 => k_is)
    (case d11 => k_is)
    (case k11 => k_is)
    (case a12 => k_is)
    (case l12 => k_is)
    (case d12 => k_is)
    (case k12 => k_is)
    (case a13 => k_is)
    (case l13 => k_is)
    (case d13 => k_is)
    (case k13 => k_is)
    (case a14 => k_is)
    (case l14 => k_is)
    (case d14 => k_is)
    (case k14 => k_is)
    (case a15 => k_is)
    (case l15 => k_is)
    (case d15 => k_is)
    (case k15 => k_is)
    (case a16 => k_is)
    (case l16 => k_is)
    (case d16 => k_is)
    (case k16 => k_is)
    (case z_int => k_is)
    (case z_isinstance => k_is)
    (case z_bool => k_is)
    (case z_str => k_is)
    (case z_len => k_is)
    (case z_all => k_is)
    (case z_abs => k_is)
    (case z_range => k_is)
    (case z_repr => k_is)
    (case z_min => k_is)
    (case z_max => k_is)
    (case g_MAX_SIZE => k_is)
    (case g_MAX_SIGNS => k_is)
    (case g_LETTERS => k_is)
    (case g_SIGNS => k_is)
