import PyProof.Rows.All
import Wide.All
import OpenK.AllK
import Wide.FinOn
import HandS.ForMost
import HandS.Wide
import HandS.IsInst
import HandS.Flow
import HandS.Style
import HandS.Deep
import KE.SortData
import HandS.NoneIn
import HandS.Codes
import PySem.Challenge.RW_screenwise_k80_whole_fewest_refreshes
set_option Elab.async false
set_option linter.all false
set_option maxRecDepth 100000
set_option maxHeartbeats 4000000
set_option autoImplicit false
/-! Y: a value semantics over the hand layer: data, resources, states -/
namespace Y
open PySem PySem.Spec PyProof.Rows L2

abbrev D := PyData
abbrev Sg := L2.St
def keyD : Key → D
  | .inl i => .int i
  | .inr x => .str x
/-- what an expression gives: shared data that never changes again, or a new list, a new dict of such -/
inductive O where
  | leaf (d : D)
  | lst (ds : List D)
  | dic (kvs : List (D × D))
def O.d : O → D
  | .leaf d => d
  | .lst ds => .list ds
  | .dic k => .dict k
/-- what a slot holds; io: an argument that is changed for the caller -/
structure E where
  io : Bool
  o : O
abbrev lf (d : D) : E := ⟨false, .leaf d⟩
abbrev ow (o : O) : E := ⟨false, o⟩
abbrev Ev := List (Option E)
structure Err where
  cls : Str
  args : List D
inductive Rs (α : Type) where
  | ok (a : α) (ρ : Ev)
  | er (x : Err) (ρ : Ev)
  | stk
def bnd {α β : Type} (m : Ev → Rs α) (k : α → Ev → Rs β) : Ev → Rs β := fun ρ => match m ρ with
  | .ok a ρ' => k a ρ'
  | .er x ρ' => .er x ρ'
  | .stk => .stk
theorem bnd_ok {α β : Type} {m : Ev → Rs α} {k : α → Ev → Rs β} {ρ ρ' : Ev} {a : α} (h : m ρ = .ok a ρ') : bnd m k ρ = k a ρ' := by
  unfold bnd; rw [h]

/-- a text of signs that there are -/
def okS (x : Str) : Bool := x.cps.all (· < 0x110000)
def okK : Key → Bool
  | .inl _ => true
  | .inr x => okS x
mutual
/-- v reads, over S, as the data d -/
inductive Rp (K : PySem.W.Frag) (S : Hp) : V → D → Prop
  | non : Rp K S .non .none
  | bl (b : Bool) : Rp K S (.bl b) (.bool b)
  | int (i : Int) : Rp K S (.int i) (.int i)
  | str (x : Str) : okS x = true → Rp K S (.str x) (.str x)
  | lst {a : Addr} {xs : List V} {ds : List D} : SqL K S a xs → RpA K S xs ds → Rp K S (.ref a) (.list ds)
  | tup {a : Addr} {xs : List V} {ds : List D} : S a = some (.tup xs) → RpA K S xs ds → Rp K S (.ref a) (.tuple ds)
  | dK {a : Addr} {kvs : List (Key × V)} {es : List (D × D)} : Rd S a (.dK kvs) → (kvs = [] → S a = some (.dK kvs)) → RpK K S kvs es → Rp K S (.ref a) (.dict es)
  | dT {a : Addr} {kvs : List (List Key × V)} {es : List (D × D)} : Rd S a (.dT kvs) → (kvs = [] → S a = some (.dT kvs)) → RpT K S kvs es → Rp K S (.ref a) (.dict es)
inductive RpA (K : PySem.W.Frag) (S : Hp) : List V → List D → Prop
  | nil : RpA K S [] []
  | cons {v : V} {vs : List V} {d : D} {ds : List D} : Rp K S v d → RpA K S vs ds → RpA K S (v :: vs) (d :: ds)
inductive RpK (K : PySem.W.Frag) (S : Hp) : List (Key × V) → List (D × D) → Prop
  | nil : RpK K S [] []
  | cons {k : Key} {v : V} {d : D} {kvs : List (Key × V)} {es : List (D × D)} : okK k = true → Rp K S v d → RpK K S kvs es → RpK K S ((k, v) :: kvs) ((keyD k, d) :: es)
inductive RpT (K : PySem.W.Frag) (S : Hp) : List (List Key × V) → List (D × D) → Prop
  | nil : RpT K S [] []
  | cons {k : List Key} {v : V} {d : D} {kvs : List (List Key × V)} {es : List (D × D)} : (∀ x ∈ k, okK x = true) → Rp K S v d → RpT K S kvs es → RpT K S ((k, v) :: kvs) ((.tuple (k.map keyD), d) :: es)
end
theorem Same.rd {S S' : Hp} (h : Same S S') {a : Addr} {u : HO} (r : Rd S a u) : Rd S' a u := by
  rcases r with r | ⟨o, r⟩
  · exact .inl (h _ _ r)
  · exact .inr ⟨o, h _ _ r⟩
theorem Same.sqT {K : PySem.W.Frag} {S S' : Hp} {a : Addr} {xs : List V} (e : Same S S') (h : SqT K S a xs) : SqT K S' a xs := by
  rcases h with h | h
  · exact .inl (Same.rd e h)
  · exact .inr h
mutual
theorem Rp.mono {K : PySem.W.Frag} {S S' : Hp} (h : Same S S') : ∀ {v : V} {d : D}, Rp K S v d → Rp K S' v d
  | _, _, .non => .non
  | _, _, .bl b => .bl b
  | _, _, .int i => .int i
  | _, _, .str x h => .str x h
  | _, _, .lst a b => .lst (h.seq a) (RpA.mono h b)
  | _, _, .tup a b => .tup (h _ _ a) (RpA.mono h b)
  | _, _, .dK a c b => .dK (Same.rd h a) (fun z => h _ _ (c z)) (RpK.mono h b)
  | _, _, .dT a c b => .dT (Same.rd h a) (fun z => h _ _ (c z)) (RpT.mono h b)
theorem RpA.mono {K : PySem.W.Frag} {S S' : Hp} (h : Same S S') : ∀ {v : List V} {d : List D}, RpA K S v d → RpA K S' v d
  | _, _, .nil => .nil
  | _, _, .cons a b => .cons (Rp.mono h a) (RpA.mono h b)
theorem RpK.mono {K : PySem.W.Frag} {S S' : Hp} (h : Same S S') : ∀ {v : List (Key × V)} {d : List (D × D)}, RpK K S v d → RpK K S' v d
  | _, _, .nil => .nil
  | _, _, .cons o a b => .cons o (Rp.mono h a) (RpK.mono h b)
theorem RpT.mono {K : PySem.W.Frag} {S S' : Hp} (h : Same S S') : ∀ {v : List (List Key × V)} {d : List (D × D)}, RpT K S v d → RpT K S' v d
  | _, _, .nil => .nil
  | _, _, .cons o a b => .cons o (Rp.mono h a) (RpT.mono h b)
end
theorem RpA.length {K : PySem.W.Frag} {S : Hp} : ∀ {v : List V} {d : List D}, RpA K S v d → v.length = d.length
  | _, _, .nil => rfl
  | _, _, .cons _ b => congrArg (· + 1) (RpA.length b)
theorem RpA.get {K : PySem.W.Frag} {S : Hp} : ∀ {vs : List V} {ds : List D}, RpA K S vs ds → ∀ {i : Nat} {d : D}, ds[i]? = some d → ∃ v, vs[i]? = some v ∧ Rp K S v d
  | _, _, .nil, _, _, h => by simp at h
  | _, _, .cons a b, 0, _, h => by simp at h; subst h; exact ⟨_, rfl, a⟩
  | _, _, .cons a b, i + 1, _, h => by
    obtain ⟨v, e, r⟩ := RpA.get b (i := i) (by simpa using h)
    exact ⟨v, by simpa using e, r⟩
theorem RpA.app {K : PySem.W.Frag} {S : Hp} : ∀ {vs ws : List V} {ds es : List D}, RpA K S vs ds → RpA K S ws es → RpA K S (vs ++ ws) (ds ++ es)
  | _, _, _, _, .nil, h => h
  | _, _, _, _, .cons a b, h => .cons a (RpA.app b h)
theorem RpA.take {K : PySem.W.Frag} {S : Hp} : ∀ {vs : List V} {ds : List D} (n : Nat), RpA K S vs ds → RpA K S (vs.take n) (ds.take n)
  | _, _, 0, _ => by simp; exact .nil
  | _, _, n + 1, .nil => .nil
  | _, _, n + 1, .cons a b => .cons a (RpA.take n b)
theorem RpA.drop {K : PySem.W.Frag} {S : Hp} : ∀ {vs : List V} {ds : List D} (n : Nat), RpA K S vs ds → RpA K S (vs.drop n) (ds.drop n)
  | _, _, 0, h => h
  | _, _, n + 1, .nil => .nil
  | _, _, n + 1, .cons a b => RpA.drop n b
theorem RpA.set {K : PySem.W.Frag} {S : Hp} {v : V} {d : D} (r : Rp K S v d) : ∀ {vs : List V} {ds : List D} (n : Nat), RpA K S vs ds → RpA K S (vs.set n v) (ds.set n d)
  | _, _, _, .nil => .nil
  | _, _, 0, .cons a b => .cons r b
  | _, _, n + 1, .cons a b => .cons a (RpA.set r n b)

/-- a resource: what it is made of -/
inductive Own (K : PySem.W.Frag) (S H : Hp) : V → O → List Addr → Prop
  | leaf {v : V} {d : D} : Rp K S v d → Own K S H v (.leaf d) []
  | lst {a : Addr} {xs : List V} {ds : List D} : H a = some (.lst xs) → S a = none → RpA K S xs ds → Own K S H (.ref a) (.lst ds) [a]
  | dK {a : Addr} {kvs : List (Key × V)} {es : List (D × D)} : H a = some (.dK kvs) → S a = none → RpK K S kvs es → Own K S H (.ref a) (.dic es) [a]
  | dT {a : Addr} {kvs : List (List Key × V)} {es : List (D × D)} : H a = some (.dT kvs) → S a = none → RpT K S kvs es → Own K S H (.ref a) (.dic es) [a]
theorem Own.mono {K : PySem.W.Frag} {S S' H H' : Hp} {v : V} {o : O} {F : List Addr} (h : Own K S H v o F) (hs : Same S S') (hh : ∀ a ∈ F, H' a = H a ∧ S' a = none) : Own K S' H' v o F := by
  cases h with
  | leaf r => exact .leaf (r.mono hs)
  | lst e n r => exact .lst ((hh _ (by simp)).1.trans e) (hh _ (by simp)).2 (r.mono hs)
  | dK e n r => exact .dK ((hh _ (by simp)).1.trans e) (hh _ (by simp)).2 (r.mono hs)
  | dT e n r => exact .dT ((hh _ (by simp)).1.trans e) (hh _ (by simp)).2 (r.mono hs)
theorem Own.foot {K : PySem.W.Frag} {S H : Hp} {v : V} {o : O} {F F' : List Addr} (h : Own K S H v o F) (h' : Own K S H v o F') : F = F' := by
  cases h <;> cases h' <;> rfl
theorem Own.there {K : PySem.W.Frag} {S H : Hp} {v : V} {o : O} {F : List Addr} (h : Own K S H v o F) : ∀ a ∈ F, H a ≠ none ∧ S a = none := by
  cases h with
  | leaf r => intro a m; cases m
  | lst e n r => intro a m; simp at m; subst m; rw [e]; exact ⟨by simp, n⟩
  | dK e n r => intro a m; simp at m; subst m; rw [e]; exact ⟨by simp, n⟩
  | dT e n r => intro a m; simp at m; subst m; rw [e]; exact ⟨by simp, n⟩

/-- a def's frame: what was shared, what was there at its entry, what of it may be changed, the parameters' values -/
structure Fra where
  S0 : Hp
  H0 : Hp
  M : Addr → Prop
  P : Sg
def Flag (G : Fra) (io : Bool) (a : Addr) : Prop := if io = true then G.M a ∨ G.H0 a = none else G.H0 a = none
/-- resources, each apart from the others -/
inductive Sep (K : PySem.W.Frag) (G : Fra) (S H : Hp) : List (V × E) → List Addr → Prop
  | nil : Sep K G S H [] []
  | cons {v : V} {e : E} {L : List (V × E)} {F1 F2 : List Addr} : Own K S H v e.o F1 → (∀ a ∈ F1, Flag G e.io a) → Sep K G S H L F2 → (∀ a ∈ F1, a ∉ F2) → Sep K G S H ((v, e) :: L) (F1 ++ F2)
section
variable {K : PySem.W.Frag} {G : Fra} {S S' H H' : Hp}
theorem Sep.mono {L : List (V × E)} {F : List Addr} (h : Sep K G S H L F) (hs : Same S S') (hh : ∀ a ∈ F, H' a = H a ∧ S' a = none) : Sep K G S' H' L F := by
  induction h with
  | nil => exact .nil
  | cons o f _ dj ih => exact .cons (o.mono hs fun a m => hh a (List.mem_append_left _ m)) f (ih fun a m => hh a (List.mem_append_right _ m)) dj
theorem Sep.there {L : List (V × E)} {F : List Addr} (h : Sep K G S H L F) : ∀ a ∈ F, H a ≠ none ∧ S a = none := by
  induction h with
  | nil => intro a m; cases m
  | cons o f _ dj ih =>
    intro a m
    rcases List.mem_append.mp m with m | m
    · exact o.there a m
    · exact ih a m
theorem Sep.perm {L L' : List (V × E)} {F : List Addr} (p : L.Perm L') (h : Sep K G S H L F) : ∃ F', Sep K G S H L' F' ∧ ∀ a, a ∈ F' ↔ a ∈ F := by
  induction p generalizing F with
  | nil => exact ⟨F, h, fun _ => Iff.rfl⟩
  | cons x p ih =>
    cases h with
    | cons o f h2 dj =>
      obtain ⟨F', h', e⟩ := ih h2
      refine ⟨_, .cons o f h' fun a m m' => dj a m ((e a).mp m'), fun a => ?_⟩
      simp only [List.mem_append, e]
  | swap x y l =>
    cases h with
    | cons o f h2 dj =>
      cases h2 with
      | cons o2 f2 h3 dj2 =>
        refine ⟨_, .cons o2 f2 (.cons o f h3 fun a m m' => dj a m (List.mem_append_right _ m')) fun a m m' => ?_, fun a => ?_⟩
        · rcases List.mem_append.mp m' with q | q
          · exact dj a q (List.mem_append_left _ m)
          · exact dj2 a m q
        · simp only [List.mem_append]
          constructor
          · rintro (q | q | q)
            · exact .inr (.inl q)
            · exact .inl q
            · exact .inr (.inr q)
          · rintro (q | q | q)
            · exact .inr (.inl q)
            · exact .inl q
            · exact .inr (.inr q)
  | trans p q ih1 ih2 =>
    obtain ⟨F1, h1, e1⟩ := ih1 h
    obtain ⟨F2, h2, e2⟩ := ih2 h1
    exact ⟨F2, h2, fun a => (e2 a).trans (e1 a)⟩
theorem Sep.sub {L L' : List (V × E)} {F : List Addr} (p : L'.Sublist L) (h : Sep K G S H L F) : ∃ F', Sep K G S H L' F' ∧ ∀ a, a ∈ F' → a ∈ F := by
  induction p generalizing F with
  | slnil => exact ⟨F, h, fun _ m => m⟩
  | cons x p ih =>
    cases h with
    | cons o f h2 dj =>
      obtain ⟨F', h', e⟩ := ih h2
      exact ⟨F', h', fun a m => List.mem_append_right _ (e a m)⟩
  | cons_cons x p ih =>
    cases h with
    | cons o f h2 dj =>
      obtain ⟨F', h', e⟩ := ih h2
      refine ⟨_, .cons o f h' fun a m m' => dj a m (e a m'), fun a m => ?_⟩
      rcases List.mem_append.mp m with m | m
      · exact List.mem_append_left _ m
      · exact List.mem_append_right _ (e a m)
end

/-- the resources that the slots hold -/
inductive Sl : Sg → Ev → List (V × E) → Prop
  | nil : Sl [] [] []
  | out {x : Option V} {σ : Sg} {ρ : Ev} {L : List (V × E)} : Sl σ ρ L → Sl (x :: σ) (none :: ρ) L
  | inn {v : V} {e : E} {σ : Sg} {ρ : Ev} {L : List (V × E)} : Sl σ ρ L → Sl (some v :: σ) (some e :: ρ) ((v, e) :: L)
theorem Sl.length {σ : Sg} {ρ : Ev} {L : List (V × E)} (h : Sl σ ρ L) : σ.length = ρ.length := by
  induction h with
  | nil => rfl
  | out _ ih => simp [ih]
  | inn _ ih => simp [ih]
/-- the entry at a place, the others, and another entry there -/
theorem Sl.at {σ : Sg} {ρ : Ev} {L : List (V × E)} (h : Sl σ ρ L) : ∀ {i : Nat} {e : E}, ρ[i]? = some (some e) → ∃ v L', σ[i]? = some (some v) ∧ L.Perm ((v, e) :: L') ∧ Sl σ (ρ.set i none) L' ∧
    (∀ e', ∃ L'', Sl σ (ρ.set i (some e')) L'' ∧ L''.Perm ((v, e') :: L')) := by
  induction h with
  | nil => intro i e h; simp at h
  | @out x σ ρ L h ih =>
    intro i e he
    cases i with
    | zero => simp at he
    | succ i =>
      obtain ⟨v, L', a, b, c, d⟩ := ih (i := i) (by simpa using he)
      exact ⟨v, L', by simpa using a, b, .out c, fun e' => let ⟨L'', p, q⟩ := d e'; ⟨L'', .out p, q⟩⟩
  | @inn v e0 σ ρ L h ih =>
    intro i e he
    cases i with
    | zero =>
      simp at he
      subst he
      exact ⟨v, L, rfl, .refl _, .out h, fun e' => ⟨_, .inn h, .refl _⟩⟩
    | succ i =>
      obtain ⟨w, L', a, b, c, d⟩ := ih (i := i) (by simpa using he)
      refine ⟨w, (v, e0) :: L', by simpa using a, (List.Perm.cons _ b).trans (.swap _ _ _), .inn c, fun e' => ?_⟩
      obtain ⟨L'', p, q⟩ := d e'
      exact ⟨_, .inn p, (List.Perm.cons _ q).trans (.swap _ _ _)⟩
/-- a place is set -/
theorem Sl.put {σ : Sg} {ρ : Ev} {L : List (V × E)} (h : Sl σ ρ L) : ∀ {i : Nat} (v : V) (e : E), i < σ.length → ∃ L' L'', L'.Sublist L ∧ Sl (σ.set i (some v)) (ρ.set i (some e)) L'' ∧ L''.Perm ((v, e) :: L') := by
  induction h with
  | nil => intro i v e hi; simp at hi
  | @out x σ ρ L h ih =>
    intro i v e hi
    cases i with
    | zero => exact ⟨L, _, .refl _, .inn h, .refl _⟩
    | succ i =>
      obtain ⟨L', L'', a, b, c⟩ := ih (i := i) v e (by simpa using hi)
      exact ⟨L', L'', a, .out b, c⟩
  | @inn w e0 σ ρ L h ih =>
    intro i v e hi
    cases i with
    | zero => exact ⟨L, _, .cons _ (.refl _), .inn h, .refl _⟩
    | succ i =>
      obtain ⟨L', L'', a, b, c⟩ := ih (i := i) v e (by simpa using hi)
      exact ⟨(w, e0) :: L', _, .cons_cons _ a, .inn b, (List.Perm.cons _ c).trans (.swap _ _ _)⟩
/-- a place is forgotten, in both -/
theorem Sl.clr {σ : Sg} {ρ : Ev} {L : List (V × E)} (h : Sl σ ρ L) : ∀ (i : Nat), ∃ L', L'.Sublist L ∧ Sl σ (ρ.set i none) L' ∧ ∀ x, Sl (σ.set i x) (ρ.set i none) L' := by
  induction h with
  | nil => intro i; exact ⟨[], .refl _, .nil, fun _ => .nil⟩
  | @out x σ ρ L h ih =>
    intro i
    cases i with
    | zero => exact ⟨L, .refl _, .out h, fun _ => .out h⟩
    | succ i =>
      obtain ⟨L', a, b, c⟩ := ih i
      exact ⟨L', a, .out b, fun y => .out (c y)⟩
  | @inn w e0 σ ρ L h ih =>
    intro i
    cases i with
    | zero => exact ⟨L, .cons _ (.refl _), .out h, fun _ => .out h⟩
    | succ i =>
      obtain ⟨L', a, b, c⟩ := ih i
      exact ⟨(w, e0) :: L', .cons_cons _ a, .inn b, fun y => .inn (c y)⟩

/-- THE STATE: temporaries T, slots' entries ρ, over the shared part S of what is tracked, H -/
structure Stt (K : PySem.W.Frag) (G : Fra) (T : List (V × E)) (ρ : Ev) (σ : Sg) (S H : Hp) : Prop where
  sub : Same S H
  s0 : Same G.S0 S
  keep : ∀ a o, ¬ G.M a → G.H0 a = some o → H a = some o
  dom : ∀ a, G.H0 a ≠ none → H a ≠ none
  new : ∀ a, G.H0 a ≠ none → G.S0 a = none → S a = none ∨ ∃ xs, S a = some (.tup xs)
  ios : ∀ (i : Nat) (e : E), ρ[i]? = some (some e) → e.io = true → σ[i]? = G.P[i]?
  res : ∃ L F, Sl σ ρ L ∧ Sep K G S H (T ++ L) F
section
variable {K : PySem.W.Frag} {G : Fra} {T T' : List (V × E)} {ρ : Ev} {σ : Sg} {S S' H H' : Hp}
theorem Stt.len (s : Stt K G T ρ σ S H) : σ.length = ρ.length := by
  obtain ⟨L, F, sl, _⟩ := s.res
  exact sl.length
theorem Stt.permT (s : Stt K G T ρ σ S H) (p : T.Perm T') : Stt K G T' ρ σ S H := by
  obtain ⟨L, F, sl, sep⟩ := s.res
  obtain ⟨F', sep', _⟩ := sep.perm (p.append_right L)
  exact ⟨s.sub, s.s0, s.keep, s.dom, s.new, s.ios, L, F', sl, sep'⟩
theorem Stt.subT (s : Stt K G T ρ σ S H) (p : T'.Sublist T) : Stt K G T' ρ σ S H := by
  obtain ⟨L, F, sl, sep⟩ := s.res
  obtain ⟨F', sep', _⟩ := sep.sub (p.append (.refl L))
  exact ⟨s.sub, s.s0, s.keep, s.dom, s.new, s.ios, L, F', sl, sep'⟩
theorem Stt.drop1 {x : V × E} (s : Stt K G (x :: T) ρ σ S H) : Stt K G T ρ σ S H := s.subT (.cons _ (.refl _))
/-- the head temporary -/
theorem Stt.head {v : V} {e : E} (s : Stt K G ((v, e) :: T) ρ σ S H) : ∃ F, Own K S H v e.o F ∧ (∀ a ∈ F, Flag G e.io a) := by
  obtain ⟨L, F, sl, sep⟩ := s.res
  cases sep with
  | cons o f _ _ => exact ⟨_, o, f⟩
/-- one more value of shared data -/
theorem Stt.push {v : V} {d : D} (s : Stt K G T ρ σ S H) (r : Rp K S v d) : Stt K G ((v, lf d) :: T) ρ σ S H := by
  obtain ⟨L, F, sl, sep⟩ := s.res
  exact ⟨s.sub, s.s0, s.keep, s.dom, s.new, s.ios, L, _, sl, .cons (.leaf r) (by simp) sep (by simp)⟩
/-- a new shared object -/
theorem Stt.share {p : Addr} {u : HO} (s : Stt K G T ρ σ S H) (n : H p = none) : Stt K G T ρ σ (upd S p u) (upd H p u) := by
  have hsp : S p = none := s.sub.free n
  have ss : Same S (upd S p u) := fun b o e => by rw [upd_ne (ne_of_none e hsp)]; exact e
  obtain ⟨L, F, sl, sep⟩ := s.res
  refine ⟨fun b o e => ?_, fun b o e => ss _ _ (s.s0 _ _ e), fun a o m e => ?_, fun a m => ?_, fun a m z => ?_, s.ios, L, F, sl, sep.mono ss fun a m => ?_⟩
  · by_cases hb : b = p
    · subst hb; rw [upd_same] at e ⊢; exact e
    · rw [upd_ne hb] at e ⊢; exact s.sub _ _ e
  · rw [upd_ne (ne_of_none (s.keep a o m e) n)]; exact s.keep a o m e
  · by_cases hb : a = p
    · subst hb; rw [upd_same]; simp
    · rw [upd_ne hb]; exact s.dom a m
  · have hb : a ≠ p := fun z' => s.dom a m (z' ▸ n)
    rw [upd_ne hb]; exact s.new a m z
  · have hb : a ≠ p := fun z' => (sep.there a m).1 (z' ▸ n)
    rw [upd_ne hb, upd_ne hb]; exact ⟨rfl, (sep.there a m).2⟩
/-- a new object of ours -/
theorem Stt.make {p : Addr} {u : HO} {o : O} (s : Stt K G T ρ σ S H) (n : H p = none) (w : Own K S (upd H p u) (.ref p) o [p]) : Stt K G ((.ref p, ow o) :: T) ρ σ S (upd H p u) := by
  have hsp : S p = none := s.sub.free n
  obtain ⟨L, F, sl, sep⟩ := s.res
  have hF : ∀ a ∈ F, a ≠ p := fun a m z' => (sep.there a m).1 (z' ▸ n)
  refine ⟨fun b o e => ?_, s.s0, fun a o m e => ?_, fun a m => ?_, s.new, s.ios, L, _, sl, .cons w (fun a m => ?_) (sep.mono (Same.refl _) fun a m => ?_) fun a m m' => ?_⟩
  · rw [upd_ne (ne_of_none (s.sub _ _ e) n)]; exact s.sub _ _ e
  · rw [upd_ne (ne_of_none (s.keep a o m e) n)]; exact s.keep a o m e
  · by_cases hb : a = p
    · subst hb; rw [upd_same]; simp
    · rw [upd_ne hb]; exact s.dom a m
  · simp at m; subst m
    show G.H0 a = none
    cases q : G.H0 a with
    | none => rfl
    | some o => exact absurd n (s.dom a (by rw [q]; simp))
  · rw [upd_ne (hF a m)]; exact ⟨rfl, (sep.there a m).2⟩
  · simp at m; subst m; exact hF _ m' rfl
/-- the head temporary's object is written -/
theorem Stt.write {a : Addr} {e : E} {u : HO} {o' : O} (s : Stt K G ((.ref a, e) :: T) ρ σ S H) (he : Own K S H (.ref a) e.o [a]) (w : Own K S (upd H a u) (.ref a) o' [a]) : Stt K G ((.ref a, ⟨e.io, o'⟩) :: T) ρ σ S (upd H a u) := by
  obtain ⟨L, F, sl, sep⟩ := s.res
  have hsa : S a = none := (he.there a (by simp)).2
  have hha : H a ≠ none := (he.there a (by simp)).1
  cases sep with
  | @cons _ _ _ F1 F2 ow' f sep dj =>
    have hF1 : F1 = [a] := ow'.foot he
    subst hF1
    have hF : ∀ b ∈ F2, b ≠ a := fun b m z => dj a (by simp) (z ▸ m)
    have fl := f a (by simp)
    refine ⟨fun b o q => ?_, s.s0, fun b o m q => ?_, fun b m => ?_, s.new, s.ios, L, _, sl, .cons w f (sep.mono (Same.refl _) fun b m => ?_) dj⟩
    · rw [upd_ne (ne_of_none q hsa)]; exact s.sub _ _ q
    · by_cases hb : b = a
      · subst hb
        exfalso
        unfold Flag at fl
        split at fl
        · rcases fl with z | z
          · exact m z
          · rw [z] at q; cases q
        · rw [fl] at q; cases q
      · rw [upd_ne hb]; exact s.keep b o m q
    · by_cases hb : b = a
      · subst hb; rw [upd_same]; simp
      · rw [upd_ne hb]; exact s.dom b m
    · rw [upd_ne (hF b m)]; exact ⟨rfl, (sep.there b m).2⟩
theorem nolist_nil {α : Type} {p : List α} (h : p = []) : ∀ a, a ∉ p := by subst h; simp
/-- the head temporary becomes shared -/
theorem Stt.freeze {v : V} {o : O} (s : Stt K G ((v, ow o) :: T) ρ σ S H) : ∃ S', Stt K G ((v, lf o.d) :: T) ρ σ S' H ∧ Same S S' ∧ Rp K S' v o.d := by
  obtain ⟨L, F, sl, sep⟩ := s.res
  cases sep with
  | @cons _ _ _ F1 F2 own f sep dj =>
    have key : ∀ {a : Addr} {u : HO}, F1 = [a] → H a = some u → S a = none → (∀ S', Same S S' → S' a = some u → Rp K S' v o.d) → ∃ S', Stt K G ((v, lf o.d) :: T) ρ σ S' H ∧ Same S S' ∧ Rp K S' v o.d := by
      intro a u e1 e2 e3 r
      subst e1
      have ss : Same S (upd S a u) := fun b o e => by rw [upd_ne (ne_of_none e e3)]; exact e
      have rr := r _ ss upd_same
      have fl : G.H0 a = none := f a (by simp)
      refine ⟨upd S a u, ⟨fun b o e => ?_, fun b o e => ss _ _ (s.s0 _ _ e), s.keep, s.dom, fun b m z => ?_, s.ios, L, _, sl, .cons (.leaf rr) (by simp) (sep.mono ss fun b m => ⟨rfl, ?_⟩) (by simp)⟩, ss, rr⟩
      · by_cases hb : b = a
        · subst hb; rw [upd_same] at e; rw [← e]; exact e2
        · rw [upd_ne hb] at e; exact s.sub _ _ e
      · have hb : b ≠ a := fun z' => m (z' ▸ fl)
        rw [upd_ne hb]; exact s.new b m z
      · have hb : b ≠ a := fun z' => dj a (by simp) (z' ▸ m)
        rw [upd_ne hb]; exact (sep.there b m).2
    cases own with
    | leaf r => exact ⟨S, s, Same.refl _, r⟩
    | lst e n r => exact key rfl e n fun S' ss es => .lst (SqL.of es) (r.mono ss)
    | dK e n r => exact key rfl e n fun S' ss es => .dK (.inl es) (fun _ => es) (r.mono ss)
    | dT e n r => exact key rfl e n fun S' ss es => .dT (.inl es) (fun _ => es) (r.mono ss)
/-- a slot's entry is taken out as a temporary -/
theorem Stt.take {i : Nat} {e : E} (s : Stt K G T ρ σ S H) (h : ρ[i]? = some (some e)) : ∃ v, σ[i]? = some (some v) ∧ Stt K G ((v, e) :: T) (ρ.set i none) σ S H := by
  obtain ⟨L, F, sl, sep⟩ := s.res
  obtain ⟨v, L', a, b, c, d⟩ := sl.at h
  obtain ⟨F', sep', _⟩ := sep.perm (((List.Perm.append_left T b)).trans List.perm_middle)
  refine ⟨v, a, s.sub, s.s0, s.keep, s.dom, s.new, fun j e' q => ?_, L', F', c, sep'⟩
  by_cases hj : i = j
  · subst hj
    by_cases hl : i < ρ.length
    · rw [List.getElem?_set_self hl] at q; cases q
    · rw [List.getElem?_eq_none (by simpa using hl)] at q; cases q
  · rw [List.getElem?_set_ne hj] at q; exact s.ios j e' q
/-- .. and put back, perhaps changed -/
theorem Stt.back {i : Nat} {e e' : E} {v : V} (s : Stt K G ((v, e') :: T) (ρ.set i none) σ S H) (h : ρ[i]? = some (some e)) (hv : σ[i]? = some (some v)) (hio : e'.io = true → σ[i]? = G.P[i]?) : Stt K G T (ρ.set i (some e')) σ S H := by
  obtain ⟨L, F, sl, sep⟩ := s.res
  have hi : i < ρ.length := (List.getElem?_eq_some_iff.mp h).1
  have hl : i < σ.length := (List.getElem?_eq_some_iff.mp hv).1
  obtain ⟨L', L'', sb, sl', p⟩ := sl.put v e' hl
  have e1 : σ.set i (some v) = σ := by
    obtain ⟨h1, h2⟩ := List.getElem?_eq_some_iff.mp hv
    rw [← h2, List.set_getElem_self]
  rw [e1, List.set_set] at sl'
  obtain ⟨F1, sep1, _⟩ := sep.sub ((List.Sublist.cons_cons (v, e') ((List.Sublist.refl T).append sb)))
  obtain ⟨F2, sep2, _⟩ := sep1.perm ((List.perm_middle.symm).trans (List.Perm.append_left T p.symm))
  refine ⟨s.sub, s.s0, s.keep, s.dom, s.new, fun j e2 q io => ?_, L'', F2, sl', sep2⟩
  by_cases hj : i = j
  · subst hj
    rw [List.getElem?_set_self hi] at q
    cases q
    exact hio io
  · rw [List.getElem?_set_ne hj] at q
    exact s.ios j e2 (by rw [List.getElem?_set_ne hj]; exact q) io
/-- a temporary goes to a slot -/
theorem Stt.store {i : Nat} {v : V} {o : O} (s : Stt K G ((v, ow o) :: T) ρ σ S H) (hi : i < σ.length) : Stt K G T (ρ.set i (some (ow o))) (σ.set i (some v)) S H := by
  obtain ⟨L, F, sl, sep⟩ := s.res
  obtain ⟨L', L'', sb, sl', p⟩ := sl.put v (ow o) hi
  obtain ⟨F1, sep1, _⟩ := sep.sub ((List.Sublist.cons_cons (v, ow o) ((List.Sublist.refl T).append sb)))
  obtain ⟨F2, sep2, _⟩ := sep1.perm ((List.perm_middle.symm).trans (List.Perm.append_left T p.symm))
  refine ⟨s.sub, s.s0, s.keep, s.dom, s.new, fun j e2 q io => ?_, L'', F2, sl', sep2⟩
  by_cases hj : i = j
  · subst hj
    have hl : i < ρ.length := by rw [← s.len]; exact hi
    rw [List.getElem?_set_self hl] at q
    cases q; cases io
  · rw [List.getElem?_set_ne hj] at q ⊢
    exact s.ios j e2 q io
/-- a slot is forgotten -/
theorem Stt.clr (s : Stt K G T ρ σ S H) (i : Nat) : Stt K G T (ρ.set i none) σ S H := by
  obtain ⟨L, F, sl, sep⟩ := s.res
  obtain ⟨L', sb, sl', _⟩ := sl.clr i
  obtain ⟨F1, sep1, _⟩ := sep.sub ((List.Sublist.refl T).append sb)
  refine ⟨s.sub, s.s0, s.keep, s.dom, s.new, fun j e2 q io => ?_, L', F1, sl', sep1⟩
  by_cases hj : i = j
  · subst hj
    by_cases hl : i < ρ.length
    · rw [List.getElem?_set_self hl] at q; cases q
    · rw [List.getElem?_eq_none (by simpa using hl)] at q; cases q
  · rw [List.getElem?_set_ne hj] at q; exact s.ios j e2 q io
end
end Y
/-! Y: expressions -/
namespace Y
open PySem PySem.Spec PyProof.Rows L2

/-! ### what a value reads as, its own object at hand -/
inductive Rt (K : PySem.W.Frag) (S H : Hp) : V → D → Prop
  | non : Rt K S H .non .none
  | bl (b : Bool) : Rt K S H (.bl b) (.bool b)
  | int (i : Int) : Rt K S H (.int i) (.int i)
  | str (x : Str) : okS x = true → Rt K S H (.str x) (.str x)
  | lst {a : Addr} {xs : List V} {ds : List D} : SqL K H a xs → RpA K S xs ds → Rt K S H (.ref a) (.list ds)
  | tup {a : Addr} {xs : List V} {ds : List D} : S a = some (.tup xs) → H a = some (.tup xs) → RpA K S xs ds → Rt K S H (.ref a) (.tuple ds)
  | dK {a : Addr} {kvs : List (Key × V)} {es : List (D × D)} : Rd H a (.dK kvs) → (kvs = [] → H a = some (.dK kvs)) → RpK K S kvs es → Rt K S H (.ref a) (.dict es)
  | dT {a : Addr} {kvs : List (List Key × V)} {es : List (D × D)} : Rd H a (.dT kvs) → (kvs = [] → H a = some (.dT kvs)) → RpT K S kvs es → Rt K S H (.ref a) (.dict es)
section
variable {K : PySem.W.Frag} {S H : Hp} {v : V} {d : D} {ds : List D}
theorem Rp.rt (h : Rp K S v d) (ss : Same S H) : Rt K S H v d := by
  cases h with
  | non => exact .non
  | bl b => exact .bl b
  | int i => exact .int i
  | str x q => exact .str x q
  | lst a b => exact .lst (ss.seq a) b
  | tup a b => exact .tup a (ss _ _ a) b
  | dK a c b => exact .dK (Same.rd ss a) (fun z => ss _ _ (c z)) b
  | dT a c b => exact .dT (Same.rd ss a) (fun z => ss _ _ (c z)) b
theorem Own.rt {o : O} {F : List Addr} (h : Own K S H v o F) (ss : Same S H) : Rt K S H v o.d := by
  cases h with
  | leaf r => exact r.rt ss
  | lst e n r => exact .lst (SqL.of e) r
  | dK e n r => exact .dK (.inl e) (fun _ => e) r
  | dT e n r => exact .dT (.inl e) (fun _ => e) r
theorem Rt.int_of {i : Int} (h : Rt K S H v (.int i)) : v = .int i := by cases h; rfl
theorem Rt.bl_of {i : Bool} (h : Rt K S H v (.bool i)) : v = .bl i := by cases h; rfl
theorem Rt.str_of {i : Str} (h : Rt K S H v (.str i)) : v = .str i := by cases h; rfl
theorem Rt.str_ok {i : Str} (h : Rt K S H v (.str i)) : okS i = true := by cases h; assumption
theorem Rt.non_of (h : Rt K S H v .none) : v = .non := by cases h; rfl
theorem Rt.lst_of (h : Rt K S H v (.list ds)) : ∃ a xs, v = .ref a ∧ SqL K H a xs ∧ RpA K S xs ds := by cases h with | lst a b => exact ⟨_, _, rfl, a, b⟩
theorem Rt.tup_of (h : Rt K S H v (.tuple ds)) : ∃ a xs, v = .ref a ∧ SqT K H a xs ∧ RpA K S xs ds := by cases h with | tup c a b => exact ⟨_, _, rfl, SqT.of a, b⟩
theorem Rt.tup_S (h : Rt K S H v (.tuple ds)) : ∃ a xs, v = .ref a ∧ S a = some (.tup xs) ∧ H a = some (.tup xs) ∧ RpA K S xs ds := by cases h with | tup c a b => exact ⟨_, _, rfl, c, a, b⟩
end
section
variable {K : PySem.W.Frag} {G : Fra} {T T' : List (V × E)} {ρ : Ev} {σ : Sg} {S S' H H' : Hp}
theorem Sep.mem {L : List (V × E)} {F : List Addr} (h : Sep K G S H L F) {v : V} {e : E} (m : (v, e) ∈ L) : ∃ F', Own K S H v e.o F' := by
  induction h with
  | nil => cases m
  | cons o f _ dj ih =>
    rcases List.mem_cons.mp m with q | q
    · cases q; exact ⟨_, o⟩
    · exact ih q
theorem Stt.rtT (s : Stt K G T ρ σ S H) {v : V} {e : E} (m : (v, e) ∈ T) : Rt K S H v e.o.d := by
  obtain ⟨L, F, sl, sep⟩ := s.res
  obtain ⟨F', o⟩ := sep.mem (List.mem_append_left _ m)
  exact o.rt s.sub
theorem Stt.rtS (s : Stt K G T ρ σ S H) {i : Nat} {e : E} (h : ρ[i]? = some (some e)) {v : V} (hv : σ[i]? = some (some v)) : Rt K S H v e.o.d := by
  obtain ⟨w, hw, s'⟩ := s.take h
  rw [hv] at hw; cases hw
  exact s'.rtT (by simp)
end

/-! ### operands -/
inductive B where
  | tmp (o : O)
  | slot (i : Nat)
def B.val (ρ : Ev) : B → Option D
  | .tmp o => some o.d
  | .slot i => match ρ[i]? with
    | some (some e) => some e.o.d
    | _ => none
def B.tm (v : V) : B → List (V × E)
  | .tmp o => [(v, ow o)]
  | .slot _ => []
def B.at (σ : Sg) (v : V) : B → Prop
  | .tmp _ => True
  | .slot i => σ[i]? = some (some v)
def tms : List V → List B → List (V × E)
  | v :: vs, b :: bs => b.tm v ++ tms vs bs
  | _, _ => []
inductive AllAt (σ : Sg) : List V → List B → Prop
  | nil : AllAt σ [] []
  | cons {v : V} {b : B} {vs : List V} {bs : List B} : b.at σ v → AllAt σ vs bs → AllAt σ (v :: vs) (b :: bs)
inductive RtA (K : PySem.W.Frag) (S H : Hp) : List V → List D → Prop
  | nil : RtA K S H [] []
  | cons {v : V} {vs : List V} {d : D} {ds : List D} : Rt K S H v d → RtA K S H vs ds → RtA K S H (v :: vs) (d :: ds)
def vals (ρ : Ev) : List B → Option (List D)
  | [] => some []
  | b :: bs => match b.val ρ with
    | some d => (match vals ρ bs with | some ds => some (d :: ds) | none => none)
    | none => none
section
variable {K : PySem.W.Frag} {G : Fra} {T T' : List (V × E)} {ρ : Ev} {σ : Sg} {S S' H H' : Hp}
theorem B.rt {b : B} {v : V} {d : D} (s : Stt K G T ρ σ S H) (hm : ∀ x ∈ b.tm v, x ∈ T) (ha : b.at σ v) (hv : b.val ρ = some d) : Rt K S H v d := by
  cases b with
  | tmp o =>
    have e : o.d = d := Option.some.inj hv
    subst e
    exact s.rtT (e := ow o) (hm _ (by simp [B.tm]))
  | slot i =>
    have hv : (match ρ[i]? with | some (some e) => some e.o.d | _ => none) = some d := hv
    split at hv
    · rename_i e he
      have e1 : e.o.d = d := Option.some.inj hv
      subst e1
      exact s.rtS he ha
    · cases hv
theorem AllAt.rt {vs : List V} {bs : List B} (h : AllAt σ vs bs) (s : Stt K G T ρ σ S H) : ∀ {ds : List D}, (∀ x ∈ tms vs bs, x ∈ T) → vals ρ bs = some ds → RtA K S H vs ds := by
  induction h with
  | nil => intro ds _ e; cases e; exact .nil
  | @cons v b vs bs a h ih =>
    intro ds hm e
    unfold vals at e
    cases e1 : b.val ρ with
    | none => rw [e1] at e; cases e
    | some d =>
      rw [e1] at e
      cases e2 : vals ρ bs with
      | none => simp only [e2] at e; cases e
      | some es =>
        simp only [e2] at e
        cases e
        refine .cons (B.rt s (fun x m => hm x ?_) a e1) (ih (fun x m => hm x ?_) e2)
        · exact List.mem_append_left _ m
        · exact List.mem_append_right _ m
end

/-! ### judgements -/
abbrev XW := Err → Sg → Hp → Prop
def GoR {α : Type} (K : PySem.W.Frag) (W : XW) (G : Fra) (T : List (V × E)) (σ : Sg) (P : α → Ev → Prop) : Rs α → Prop
  | .ok a ρ' => P a ρ'
  | .er x ρ' => ∀ S' H', Stt K G T ρ' σ S' H' → W x σ H'
  | .stk => False
abbrev GoE (K : PySem.W.Frag) (W : XW) (G : Fra) (T : List (V × E)) (σ : Sg) (Q : VK) : Rs O → Prop := GoR K W G T σ fun o ρ' => ∀ v S' H', Stt K G ((v, ow o) :: T) ρ' σ S' H' → Q v H'
abbrev GoB (K : PySem.W.Frag) (W : XW) (G : Fra) (T : List (V × E)) (σ : Sg) (Q : VK) : Rs B → Prop := GoR K W G T σ fun b ρ' => ∀ v S' H', Stt K G (b.tm v ++ T) ρ' σ S' H' → b.at σ v → Q v H'
abbrev GoA (K : PySem.W.Frag) (W : XW) (G : Fra) (T : List (V × E)) (σ : Sg) (Q : List V → Hp → Prop) : Rs (List B) → Prop := GoR K W G T σ fun bs ρ' => ∀ vs S' H', Stt K G (tms vs bs ++ T) ρ' σ S' H' → AllAt σ vs bs → Q vs H'
abbrev GoT (K : PySem.W.Frag) (W : XW) (G : Fra) (T : List (V × E)) (σ : Sg) (Q : Bool → Hp → Prop) : Rs Bool → Prop := GoR K W G T σ fun b ρ' => ∀ S' H', Stt K G T ρ' σ S' H' → Q b H'
def tE (K : PySem.W.Frag) (W : XW) (f : Ev → Rs O) : TE := fun σ H Q => ∃ G T S ρ, Stt K G T ρ σ S H ∧ GoE K W G T σ Q (f ρ)
def tB' (K : PySem.W.Frag) (W : XW) (f : Ev → Rs B) : TE := fun σ H Q => ∃ G T S ρ, Stt K G T ρ σ S H ∧ GoB K W G T σ Q (f ρ)
def tA (K : PySem.W.Frag) (W : XW) (f : Ev → Rs (List B)) : TA := fun σ H Q => ∃ G T S ρ, Stt K G T ρ σ S H ∧ GoA K W G T σ Q (f ρ)
def tT (K : PySem.W.Frag) (W : XW) (f : Ev → Rs Bool) : TT := fun σ H Q => ∃ G T S ρ, Stt K G T ρ σ S H ∧ GoT K W G T σ Q (f ρ)
/-- an expression, its value to be kept; an operand, only to be looked at; arguments; a test -/
abbrev DE (X : Cx) (W : XW) (e : Expr) (f : Ev → Rs O) : Prop := PE X e (tE X.K W f)
abbrev DB (X : Cx) (W : XW) (e : Expr) (f : Ev → Rs B) : Prop := PE X e (tB' X.K W f)
abbrev DA (X : Cx) (W : XW) (es : List Expr) (f : Ev → Rs (List B)) : Prop := PA X es (tA X.K W f)
abbrev DT (X : Cx) (W : XW) (e : Expr) (f : Ev → Rs Bool) : Prop := PT X e (tT X.K W f)
abbrev DW (X : Cx) (W : XW) (e : Expr) (f : Ev → Rs Bool) : Prop := PW X e (tT X.K W f)
theorem PE.imp {X : Cx} {e : Expr} {t u : TE} (h : PE X e t) (k : ∀ σ H Q, u σ H Q → t σ H Q) : PE X e u := ⟨fun pins s σ H Q I q => h.run pins s σ H Q I (k σ H Q q)⟩
theorem PT.imp {X : Cx} {e : Expr} {t u : TT} (h : PT X e t) (k : ∀ σ H Q, u σ H Q → t σ H Q) : PT X e u := ⟨fun pins s σ H Q I q => h.run pins s σ H Q I (k σ H Q q)⟩
theorem PW.imp {X : Cx} {e : Expr} {t u : TT} (h : PW X e t) (k : ∀ σ H Q, u σ H Q → t σ H Q) : PW X e u := ⟨fun w pins s σ H Q I q => h.run w pins s σ H Q I (k σ H Q q)⟩
theorem PA.imp {X : Cx} {e : List Expr} {t u : TA} (h : PA X e t) (k : ∀ σ H Q, u σ H Q → t σ H Q) : PA X e u := ⟨fun pos pins s σ H Q I q => h.run pos pins s σ H Q I (k σ H Q q)⟩

/-! ### running one part, then the next -/
section
variable {K : PySem.W.Frag} {W : XW} {G : Fra} {T T1 : List (V × E)} {σ : Sg} {S H : Hp} {ρ : Ev} {α β : Type}
theorem seq {f : Ev → Rs α} {k : α → Ev → Rs β} {P : α → Ev → Prop} {P' : β → Ev → Prop} (hT : ∀ ρ' S' H', Stt K G T1 ρ' σ S' H' → Stt K G T ρ' σ S' H')
    (hk : ∀ a ρ', GoR K W G T σ P' (k a ρ') → P a ρ') (h : GoR K W G T σ P' (bnd f k ρ)) : GoR K W G T1 σ P (f ρ) := by
  unfold bnd at h
  cases e : f ρ with
  | ok a ρ' => rw [e] at h; exact hk a ρ' h
  | er x ρ' => rw [e] at h; exact fun S' H' s => h S' H' (hT _ _ _ s)
  | stk => rw [e] at h; exact h
theorem Stt.dropL {L : List (V × E)} (s : Stt K G (L ++ T) ρ σ S H) : Stt K G T ρ σ S H := s.subT (List.sublist_append_right _ _)
theorem sid : ∀ ρ' S' H', Stt K G T ρ' σ S' H' → Stt K G T ρ' σ S' H' := fun _ _ _ s => s
theorem sdr {L : List (V × E)} : ∀ ρ' S' H', Stt K G (L ++ T) ρ' σ S' H' → Stt K G T ρ' σ S' H' := fun _ _ _ s => s.dropL
end

/-! ### constants, names -/
def kD (d : D) : Ev → Rs O := fun ρ => .ok (.leaf d) ρ
/-- a name's value, to be kept: a list or dict of its own is shared from then on -/
def rv (i : Nat) : Ev → Rs O := fun ρ => match ρ[i]? with
  | some (some ⟨false, o⟩) => .ok (.leaf o.d) (match o with | .leaf _ => ρ | o => ρ.set i (some (lf o.d)))
  | some (some ⟨true, .leaf d⟩) => .ok (.leaf d) ρ
  | _ => .stk
/-- a name as an operand -/
def bv (i : Nat) : Ev → Rs B := fun ρ => match ρ[i]? with
  | some (some _) => .ok (.slot i) ρ
  | _ => .stk
def tm (f : Ev → Rs O) : Ev → Rs B := bnd f fun o ρ => .ok (.tmp o) ρ
section
variable {X : Cx} {W : XW}
theorem de_const {d : D} {e : Expr} {v : V} (h : PE X e (tC v)) (r : ∀ S, Rp X.K S v d) : DE X W e (kD d) :=
  PE.imp h fun σ H Q ⟨G, T, S, ρ, s, g⟩ => g v S H (s.push (r S))
theorem de_int {i j pos} : DE X W (.Constant (.int i) j pos) (kD (.int i)) := de_const pe_int fun _ => .int i
theorem de_bl {b j pos} : DE X W (.Constant (.bool b) j pos) (kD (.bool b)) := de_const pe_bl fun _ => .bl b
theorem de_non {j pos} : DE X W (.Constant .none j pos) (kD .none) := de_const pe_non fun _ => .non
theorem de_str {x j pos} (h : okS x = true := by decide +kernel) : DE X W (.Constant (.str x) j pos) (kD (.str x)) := de_const pe_str fun _ => .str x h
theorem Stt.set_leaf {ρ : Ev} {i : Nat} {d : D} (h : ρ[i]? = some (some (lf d))) : ρ.set i (some (lf d)) = ρ := by
  obtain ⟨h1, h2⟩ := List.getElem?_eq_some_iff.mp h
  rw [← h2, List.set_getElem_self]
theorem de_var {i : Nat} {e : Expr} (h : PE X e (tVar i)) : DE X W e (rv i) := PE.imp h fun σ H Q ⟨G, T, S, ρ, s, g⟩ => by
  unfold rv at g
  split at g
  · rename_i o ho
    obtain ⟨v, hv, s1⟩ := s.take ho
    refine ⟨v, hv, ?_⟩
    obtain ⟨S2, s2, _, r⟩ := s1.freeze
    have s3 := (s2.back ho hv (by intro z; cases z)).push r
    cases o with
    | leaf d =>
      have e : ρ.set i (some (lf (O.leaf d).d)) = ρ := Stt.set_leaf ho
      rw [e] at s3
      exact g v S2 H s3
    | lst ds => exact g v S2 H s3
    | dic ds => exact g v S2 H s3
  · rename_i d ho
    obtain ⟨v, hv, s1⟩ := s.take ho
    refine ⟨v, hv, ?_⟩
    obtain ⟨F, o, _⟩ := s1.head
    cases o with
    | leaf r => exact g v S H (s.push r)
  · exact g.elim
theorem db_var {i : Nat} {e : Expr} (h : PE X e (tVar i)) : DB X W e (bv i) := PE.imp h fun σ H Q ⟨G, T, S, ρ, s, g⟩ => by
  unfold bv at g
  split at g
  · rename_i o ho
    obtain ⟨v, hv, s1⟩ := s.take ho
    exact ⟨v, hv, g v S H s hv⟩
  · exact g.elim
theorem db_tm {e : Expr} {f : Ev → Rs O} (h : DE X W e f) : DB X W e (tm f) := PE.imp h fun σ H Q ⟨G, T, S, ρ, s, g⟩ => by
  refine ⟨G, T, S, ρ, s, seq sid ?_ g⟩
  intro b ρ' z v S' H' s'
  exact z v S' H' s' trivial
end

/-! ### argument lists -/
def aNil : Ev → Rs (List B) := fun ρ => .ok [] ρ
def aCons (f : Ev → Rs B) (r : Ev → Rs (List B)) : Ev → Rs (List B) := bnd f fun b => bnd r fun bs ρ => .ok (b :: bs) ρ
section
variable {X : Cx} {W : XW}
theorem da_nil : DA X W [] aNil := PA.imp pa_nil fun σ H Q ⟨G, T, S, ρ, s, g⟩ => g [] S H s .nil
theorem da_cons {e : Expr} {es : List Expr} {f : Ev → Rs B} {r : Ev → Rs (List B)} (ha : DB X W e f) (hr : DA X W es r) (hs : starEach (e :: es) X.env = (false, eval e X.env) :: starEach es X.env := by rfl) : DA X W (e :: es) (aCons f r) :=
  PA.imp (pa_cons ha hr hs) fun σ H Q ⟨G, T, S, ρ, s, g⟩ => by
    refine ⟨G, T, S, ρ, s, seq sid ?_ g⟩
    intro b ρ' z v S' H' s' at'
    refine ⟨G, b.tm v ++ T, S', ρ', s', seq sdr ?_ z⟩
    intro bs ρ2 z2 vs S2 H2 s2 at2
    refine z2 (v :: vs) S2 H2 (s2.permT ?_) (.cons at' at2)
    show (tms vs bs ++ (b.tm v ++ T)).Perm ((b.tm v ++ tms vs bs) ++ T)
    rw [← List.append_assoc]
    exact List.Perm.append_right T List.perm_append_comm
end

/-! ### operators by data -/
/-- what an operation of two operands gives -/
def op2 (g : D → D → Option O) (fa fb : Ev → Rs B) : Ev → Rs O := bnd fa fun a => bnd fb fun b ρ => match a.val ρ with
  | some x => (match b.val ρ with
    | some y => (match g x y with | some o => .ok o ρ | none => .stk)
    | none => .stk)
  | none => .stk
def op1 (g : D → Option O) (fa : Ev → Rs B) : Ev → Rs O := bnd fa fun a ρ => match a.val ρ with
  | some x => (match g x with | some o => .ok o ρ | none => .stk)
  | none => .stk
/-- what a rule by values owes, given what the operands read as -/
def Does2 (X : Cx) (g : D → D → Option O) (r : R2) : Prop := ∀ (x y : V) (dx dy : D) (o : O) (G : Fra) (T : List (V × E)) (ρ : Ev) (σ : Sg) (S H : Hp) (Q : VK), Stt X.K G T ρ σ S H → Rt X.K S H x dx → Rt X.K S H y dy → g dx dy = some o →
  (∀ v S' H', Stt X.K G ((v, ow o) :: T) ρ σ S' H' → Q v H') → r x y H Q
def Does1 (X : Cx) (g : D → Option O) (r : V → Hp → VK → Prop) : Prop := ∀ (x : V) (dx : D) (o : O) (G : Fra) (T : List (V × E)) (ρ : Ev) (σ : Sg) (S H : Hp) (Q : VK), Stt X.K G T ρ σ S H → Rt X.K S H x dx → g dx = some o →
  (∀ v S' H', Stt X.K G ((v, ow o) :: T) ρ σ S' H' → Q v H') → r x H Q
def DoesL (X : Cx) (g : List D → Option O) (r : List V → Hp → VK → Prop) : Prop := ∀ (xs : List V) (ds : List D) (o : O) (G : Fra) (T : List (V × E)) (ρ : Ev) (σ : Sg) (S H : Hp) (Q : VK), Stt X.K G T ρ σ S H → RtA X.K S H xs ds → g ds = some o →
  (∀ v S' H', Stt X.K G ((v, ow o) :: T) ρ σ S' H' → Q v H') → r xs H Q
section
variable {X : Cx} {W : XW}
theorem run2 {g : D → D → Option O} {r : R2} (h : Does2 X g r) {fa fb : Ev → Rs B} {σ : Sg} {H : Hp} {Q : VK} (q : tE X.K W (op2 g fa fb) σ H Q) : tOp r (tB' X.K W fa) (tB' X.K W fb) σ H Q := by
  obtain ⟨G, T, S, ρ, s, g'⟩ := q
  refine ⟨G, T, S, ρ, s, seq sid (fun a ρ1 z x S1 H1 s1 at1 => ?_) g'⟩
  refine ⟨G, a.tm x ++ T, S1, ρ1, s1, seq sdr (fun b ρ2 z2 y S2 H2 s2 at2 => ?_) z⟩
  split at z2
  · rename_i dx hx
    split at z2
    · rename_i dy hy
      split at z2
      · rename_i o ho
        have rx : Rt X.K S2 H2 x dx := B.rt s2 (fun p m => List.mem_append_right _ (List.mem_append_left _ m)) at1 hx
        have ry : Rt X.K S2 H2 y dy := B.rt s2 (fun p m => List.mem_append_left _ m) at2 hy
        exact h x y dx dy o G _ ρ2 σ S2 H2 Q s2 rx ry ho fun v S' H' s' => z2 v S' H' (s'.subT (List.Sublist.cons_cons _ ((List.sublist_append_right _ _).trans (List.sublist_append_right _ _))))
      · exact z2.elim
    · exact z2.elim
  · exact z2.elim
theorem run1 {g : D → Option O} {r : V → Hp → VK → Prop} (h : Does1 X g r) {fa : Ev → Rs B} {σ : Sg} {H : Hp} {Q : VK} (q : tE X.K W (op1 g fa) σ H Q) : tUn r (tB' X.K W fa) σ H Q := by
  obtain ⟨G, T, S, ρ, s, g'⟩ := q
  refine ⟨G, T, S, ρ, s, seq sid (fun a ρ1 z x S1 H1 s1 at1 => ?_) g'⟩
  split at z
  · rename_i dx hx
    split at z
    · rename_i o ho
      exact h x dx o G _ ρ1 σ S1 H1 Q s1 (B.rt s1 (fun p m => List.mem_append_left _ m) at1 hx) ho fun v S' H' s' => z v S' H' (s'.subT (List.Sublist.cons_cons _ (List.sublist_append_right _ _)))
    · exact z.elim
  · exact z.elim
theorem de_op {a b : Expr} {op : Operator} {pos : Pos} {g : D → D → Option O} {r : R2} (ho : OpR X (binaryOp op) r) (h : Does2 X g r) {fa fb : Ev → Rs B} (ha : DB X W a fa) (hb : DB X W b fb) : DE X W (.BinOp a op b pos) (op2 g fa fb) :=
  PE.imp (pe_op ho ha hb) fun _ _ _ q => run2 h q
theorem de_un {a : Expr} {op : UnaryOp} {pos : Pos} {g : D → Option O} {r : V → Hp → VK → Prop} (ho : UnR X (unaryOp op) r) (h : Does1 X g r) {fa : Ev → Rs B} (ha : DB X W a fa) : DE X W (.UnaryOp op a pos) (op1 g fa) :=
  PE.imp (pe_un ho ha) fun _ _ _ q => run1 h q
theorem Does2.or {g : D → D → Option O} {r r' : R2} (h : ∀ (x y : V) (dx dy : D) (o : O) (G : Fra) (T : List (V × E)) (ρ : Ev) (σ : Sg) (S H : Hp) (Q : VK), Stt X.K G T ρ σ S H → Rt X.K S H x dx → Rt X.K S H y dy → g dx dy = some o →
  (∀ v S' H', Stt X.K G ((v, ow o) :: T) ρ σ S' H' → Q v H') → r x y H Q ∨ r' x y H Q) : Does2 X g (fun x y H Q => r x y H Q ∨ r' x y H Q) := h
end
end Y
/-! Y: the operators -/
namespace Y
open PySem PySem.Spec PyProof.Rows L2

theorem okS_iff {x : Str} : okS x = true ↔ ∀ c ∈ x.cps.toList, c < 0x110000 := by
  unfold okS
  rw [Array.all_eq_true_iff_forall_mem]
  simp
theorem okS_app {x y : Str} (h : okS x = true) (h' : okS y = true) : okS (x ++ y) = true := by
  rw [okS_iff] at h h' ⊢
  intro c hc
  have e : (x ++ y).cps.toList = x.cps.toList ++ y.cps.toList := by
    show (x.cps ++ y.cps).toList = _
    simp
  rw [e] at hc
  rcases List.mem_append.mp hc with m | m
  · exact h c m
  · exact h' c m
/-! ### putting results -/
section
variable {X : Cx} {G : Fra} {T : List (V × E)} {ρ : Ev} {σ : Sg} {S H : Hp} {Q : VK}
/-- a new list, ours -/
theorem Stt.newL (s : Stt X.K G T ρ σ S H) {xs : List V} {ds : List D} (r : RpA X.K S xs ds) (q : ∀ v S' H', Stt X.K G ((v, ow (.lst ds)) :: T) ρ σ S' H' → Q v H') : ∀ p, H p = none → Q (.ref p) (upd H p (.lst xs)) := fun p n =>
  q _ _ _ (s.make (o := .lst ds) n (.lst upd_same (s.sub.free n) r))
/-- a new tuple, shared -/
theorem Stt.newT (s : Stt X.K G T ρ σ S H) {xs : List V} {ds : List D} (r : RpA X.K S xs ds) (q : ∀ v S' H', Stt X.K G ((v, ow (.leaf (.tuple ds))) :: T) ρ σ S' H' → Q v H') : ∀ p, H p = none → Q (.ref p) (upd H p (.tup xs)) := fun p n => by
  have hsp : S p = none := s.sub.free n
  have s1 := s.share (u := .tup xs) n
  have ss : Same S (upd S p (.tup xs)) := fun b o e => by rw [upd_ne (ne_of_none e hsp)]; exact e
  exact q _ _ _ (s1.push (.tup upd_same (r.mono ss)))
theorem Stt.val (s : Stt X.K G T ρ σ S H) {v : V} {d : D} (r : Rp X.K S v d) (q : ∀ v S' H', Stt X.K G ((v, ow (.leaf d)) :: T) ρ σ S' H' → Q v H') : Q v H := q _ _ _ (s.push r)
end

/-! ### arithmetic -/
def gAdd : D → D → Option O
  | .int a, .int b => some (.leaf (.int (a + b)))
  | .str a, .str b => if a.length + b.length ≤ sizeLine then some (.leaf (.str (a ++ b))) else none
  | .list a, .list b => if a.length + b.length ≤ sizeLine then some (.lst (a ++ b)) else none
  | .tuple a, .tuple b => if a ≠ [] ∧ a.length + b.length ≤ sizeLine then some (.leaf (.tuple (a ++ b))) else none
  | _, _ => none
def gSub : D → D → Option O
  | .int a, .int b => some (.leaf (.int (a - b)))
  | _, _ => none
def okMul (a b : Int) : Bool := (decide (-(2 ^ 64) < a) && decide (a < 2 ^ 64)) || (decide (-(2 ^ 64) < b) && decide (b < 2 ^ 64)) || decide (a.natAbs.log2 + b.natAbs.log2 < 1000000)
def gMul : D → D → Option O
  | .int a, .int b => if okMul a b = true then some (.leaf (.int (a * b))) else none
  | .list a, .int k => if -(2 ^ 63) ≤ k ∧ k < 2 ^ 63 ∧ a.length * k.toNat ≤ sizeLine then some (.lst (List.replicate k.toNat a).flatten) else none
  | _, _ => none
def gDiv : D → D → Option O
  | .int a, .int b => if 0 < b ∧ b.natAbs.log2 < 9000 then some (.leaf (.int (a / b))) else none
  | _, _ => none
def gMod : D → D → Option O
  | .int a, .int b => if 0 < b then some (.leaf (.int (a % b))) else none
  | _, _ => none
def gPow : D → D → Option O
  | .int a, .int b => if 0 ≤ b ∧ b ≤ 1000000 ∧ a.natAbs < 2 ^ 64 then some (.leaf (.int (a ^ b.toNat))) else none
  | _, _ => none
def gNeg : D → Option O
  | .int a => some (.leaf (.int (-a)))
  | _ => none
section
variable {X : Cx} {W : XW}
/-- list + list, wherever they stand -/
def rCatL (K : PySem.W.Frag) : R2 := fun x y H Q => ∃ l b xs zs, x = .ref l ∧ y = .ref b ∧ SqL K H l xs ∧ SqL K H b zs ∧ xs.length + zs.length ≤ sizeLine ∧ ∀ p, H p = none → Q (.ref p) (upd H p (.lst (xs ++ zs)))
theorem op_catL : OpR X (binaryOp .Add) (rCatL X.K) := by
  intro pins s σ H x y v u Q I rx ry h
  obtain ⟨l, b, xs, zs, rfl, rfl, hH, hB, hz, q⟩ := h
  cases rx
  cases ry
  obtain ⟨its, r, ⟨⟨c1, d1, dt1, sl1⟩, n, e, hc, hd, hdt⟩, hl⟩ := I.list hH
  obtain ⟨its2, r2, ⟨⟨c2, d2, dt2, sl2⟩, n2, e2, hc2, hd2, hdt2⟩, hl2⟩ := I.list hB
  simp only at hc hd hdt hc2 hd2 hdt2
  subst hc hd hdt hc2 hd2 hdt2
  have h1 := r.length
  have h2 := r2.length
  have ea : its.toArray ++ its2.toArray = (its ++ its2).toArray := by simp
  refine concat_meets ⟨_, e, rfl⟩ ⟨_, e2, rfl⟩ noFill_list_add seq_list_add PySem.F.slot_list_add PySem.F.entry_list_add (PySem.F.args_list_add_2 _ _) (list_addW l b its.toArray its2.toArray n n2 none none sl1 sl2 (by rw [List.size_toArray, List.size_toArray]; omega)) ⟨e, e2, ?_⟩
  rw [ea]
  exact ⟨.ref _, _, I.lnew (t' := s.toks) (r.append r2) (by rw [List.length_append]; omega), rfl, q _ I.fresh⟩
def rAddG (K : PySem.W.Frag) : R2 := fun x y H Q => rI0 (fun i j => .int (i + j)) x y H Q ∨ (∃ i j, x = .str i ∧ y = .str j ∧ i.length + j.length ≤ sizeLine ∧ Q (.str (i ++ j)) H) ∨ rCatL K x y H Q ∨ rCatT K x y H Q
theorem op_addG : OpR X (binaryOp .Add) (rAddG X.K) := op_add.or (op_add_str.or (op_catL.or op_catT))
theorem does_add : Does2 X gAdd (rAddG X.K) := by
  intro x y dx dy o G T ρ σ S H Q s rx ry e q
  unfold gAdd at e
  split at e
  · cases e
    exact .inl ⟨_, _, rx.int_of, ry.int_of, s.val (.int _) q⟩
  · split at e
    · cases e
      rename_i hz
      exact .inr (.inl ⟨_, _, rx.str_of, ry.str_of, hz, s.val (.str _ (okS_app rx.str_ok ry.str_ok)) q⟩)
    · cases e
  · split at e
    · cases e
      rename_i hz
      obtain ⟨a, xs, rfl, h1, r1⟩ := rx.lst_of
      obtain ⟨b, ys, rfl, h2, r2⟩ := ry.lst_of
      exact .inr (.inr (.inl ⟨a, b, xs, ys, rfl, rfl, h1, h2, by rw [r1.length, r2.length]; exact hz, s.newL (r1.app r2) q⟩))
    · cases e
  · split at e
    · cases e
      rename_i hz
      obtain ⟨a, xs, rfl, hS, h1, r1⟩ := rx.tup_S
      obtain ⟨b, ys, rfl, h2, r2⟩ := ry.tup_of
      have n1 := r1.length
      have n2 := r2.length
      have hxs : xs ≠ [] := fun z => by subst z; exact hz.1 (List.length_eq_zero_iff.mp n1.symm)
      refine .inr (.inr (.inr ⟨a, b, xs, ys, rfl, rfl, SqT.of h1, h2, hxs, by omega, fun z => ?_, fun _ => s.newT (r1.app r2) q⟩))
      subst z
      cases r2
      rw [List.append_nil] at q
      exact s.val (.tup hS r1) q
    · cases e
  · cases e
theorem does_sub : Does2 X gSub (rI0 fun i j => .int (i - j)) := by
  intro x y dx dy o G T ρ σ S H Q s rx ry e q
  unfold gSub at e
  split at e
  · cases e
    exact ⟨_, _, rx.int_of, ry.int_of, s.val (.int _) q⟩
  · cases e
def rRepL (K : PySem.W.Frag) : R2 := fun x y H Q => ∃ l k xs, x = .ref l ∧ y = .int k ∧ SqL K H l xs ∧ -(2 ^ 63) ≤ k ∧ k < 2 ^ 63 ∧ xs.length * k.toNat ≤ sizeLine ∧
  ∀ p, H p = none → Q (.ref p) (upd H p (.lst (List.replicate k.toNat xs).flatten))
def rMulG : R2 := fun x y H Q => rI CMul (fun i j => .int (i * j)) x y H Q ∨ rI CMulW (fun i j => .int (i * j)) x y H Q ∨ rRep x y H Q
theorem op_mulG : OpR X (binaryOp .Mult) rMulG := op_mul.or (op_mulW.or op_rep)
def gMulI : D → D → Option O
  | .int a, .int b => if okMul a b = true then some (.leaf (.int (a * b))) else none
  | _, _ => none
theorem does_mul : Does2 X gMulI rMulG := by
  intro x y dx dy o G T ρ σ S H Q s rx ry e q
  unfold gMulI at e
  split at e
  · split at e
    · rename_i a b h
      cases e
      unfold okMul at h
      rcases Bool.or_eq_true _ _ ▸ h with h | h
      · refine .inl ⟨_, _, rx.int_of, ry.int_of, ?_, s.val (.int _) q⟩
        rcases Bool.or_eq_true _ _ ▸ h with h | h
        · rw [Bool.and_eq_true] at h
          exact .inl ⟨of_decide_eq_true h.1, of_decide_eq_true h.2⟩
        · rw [Bool.and_eq_true] at h
          exact .inr ⟨of_decide_eq_true h.1, of_decide_eq_true h.2⟩
      · exact .inr (.inl ⟨_, _, rx.int_of, ry.int_of, (show a.natAbs.log2 + b.natAbs.log2 < 1000000 from of_decide_eq_true h), s.val (.int _) q⟩)
    · cases e
  · cases e
theorem does_div : Does2 X gDiv (rI CDivW fun i j => .int (i / j)) := by
  intro x y dx dy o G T ρ σ S H Q s rx ry e q
  unfold gDiv at e
  split at e
  · split at e
    · rename_i h
      cases e
      exact ⟨_, _, rx.int_of, ry.int_of, h, s.val (.int _) q⟩
    · cases e
  · cases e
theorem does_mod : Does2 X gMod (rI (fun _ j => 0 < j) fun i j => .int (i % j)) := by
  intro x y dx dy o G T ρ σ S H Q s rx ry e q
  unfold gMod at e
  split at e
  · split at e
    · rename_i h
      cases e
      exact ⟨_, _, rx.int_of, ry.int_of, h, s.val (.int _) q⟩
    · cases e
  · cases e
theorem does_pow : Does2 X gPow (rI CPow fun i j => .int (i ^ j.toNat)) := by
  intro x y dx dy o G T ρ σ S H Q s rx ry e q
  unfold gPow at e
  split at e
  · split at e
    · rename_i h
      cases e
      exact ⟨_, _, rx.int_of, ry.int_of, h, s.val (.int _) q⟩
    · cases e
  · cases e
theorem does_neg : Does1 X gNeg (rU fun i => .int (-i)) := by
  intro x dx o G T ρ σ S H Q s rx e q
  unfold gNeg at e
  split at e
  · cases e
    exact ⟨_, rx.int_of, s.val (.int _) q⟩
  · cases e
variable {a b : Expr} {pos : Pos} {fa fb : Ev → Rs B}
theorem de_add (ha : DB X W a fa) (hb : DB X W b fb) : DE X W (.BinOp a .Add b pos) (op2 gAdd fa fb) := de_op op_addG does_add ha hb
theorem de_sub (ha : DB X W a fa) (hb : DB X W b fb) : DE X W (.BinOp a .Sub b pos) (op2 gSub fa fb) := de_op op_sub does_sub ha hb
theorem de_mul (ha : DB X W a fa) (hb : DB X W b fb) : DE X W (.BinOp a .Mult b pos) (op2 gMulI fa fb) := de_op op_mulG does_mul ha hb
theorem de_div (ha : DB X W a fa) (hb : DB X W b fb) : DE X W (.BinOp a .FloorDiv b pos) (op2 gDiv fa fb) := de_op op_fdivW does_div ha hb
theorem de_mod (ha : DB X W a fa) (hb : DB X W b fb) : DE X W (.BinOp a .Mod b pos) (op2 gMod fa fb) := de_op op_mod does_mod ha hb
theorem de_pow (ha : DB X W a fa) (hb : DB X W b fb) : DE X W (.BinOp a .Pow b pos) (op2 gPow fa fb) := de_op op_pow does_pow ha hb
theorem de_neg (ha : DB X W a fa) : DE X W (.UnaryOp .USub a pos) (op1 gNeg fa) := de_un un_neg does_neg ha
end
end Y
/-! Y: comparisons, tests, what is subscripted -/
namespace Y
open PySem PySem.Spec PyProof.Rows L2

/-- what the rules ask of where one stands -/
structure Bd (X : Cx) : Prop where
  calm : X.calm = true
  un : X.A.units + 200 < cLine
  nd : X.N.Nodup

/-! ### data without dicts, not too deep -/
def fits : Nat → D → Bool
  | _, .none => true
  | _, .bool _ => true
  | _, .int _ => true
  | _, .str _ => true
  | n + 1, .list xs => xs.all (fits n)
  | n + 1, .tuple xs => xs.all (fits n)
  | _, _ => false
mutual
theorem Rp.dp {K : PySem.W.Frag} {S : Hp} : ∀ (n : Nat) {v : V} {d : D}, Rp K S v d → fits n d = true → Dp K S v d ∧ d.canLay0 = true ∧ d.depth ≤ n
  | n, _, _, .non, _ => ⟨.non, by simp [PyData.canLay0], by simp [PyData.depth]⟩
  | n, _, _, .bl b, _ => ⟨.bl b, by simp [PyData.canLay0], by simp [PyData.depth]⟩
  | n, _, _, .int b, _ => ⟨.int b, by simp [PyData.canLay0], by simp [PyData.depth]⟩
  | n, _, _, .str b h, _ => ⟨.str b, by unfold PyData.canLay0; exact h, by simp [PyData.depth]⟩
  | 0, _, _, .lst a b, h => by simp [fits] at h
  | n + 1, _, _, .lst a b, h => by
    obtain ⟨h1, h2, h3⟩ := RpA.dp n b (by simpa [fits] using h)
    exact ⟨.lst a h1, by unfold PyData.canLay0; exact h2, by unfold PyData.depth; omega⟩
  | 0, _, _, .tup a b, h => by simp [fits] at h
  | n + 1, _, _, .tup a b, h => by
    obtain ⟨h1, h2, h3⟩ := RpA.dp n b (by simpa [fits] using h)
    exact ⟨.tup (SqT.of a) h1, by unfold PyData.canLay0; exact h2, by unfold PyData.depth; omega⟩
  | n, _, _, .dK a c b, h => by cases n <;> simp [fits] at h
  | n, _, _, .dT a c b, h => by cases n <;> simp [fits] at h
theorem RpA.dp {K : PySem.W.Frag} {S : Hp} : ∀ (n : Nat) {v : List V} {d : List D}, RpA K S v d → (∀ x ∈ d, fits n x = true) → DpAll K S v d ∧ PyData.canLayAll0 d = true ∧ PyData.depthAll d ≤ n
  | n, _, _, .nil, _ => ⟨.nil, by simp [PyData.canLayAll0], by simp [PyData.depthAll]⟩
  | n, _, _, .cons a b, h => by
    obtain ⟨h1, h2, h3⟩ := Rp.dp n a (h _ (by simp))
    obtain ⟨g1, g2, g3⟩ := RpA.dp n b (fun x m => h x (by simp [m]))
    exact ⟨.cons h1 g1, by unfold PyData.canLayAll0; rw [h2, g2]; rfl, by unfold PyData.depthAll; omega⟩
end
theorem Same.dpA {K : PySem.W.Frag} {S H : Hp} (ss : Same S H) : ∀ {vs : List V} {ds : List D} (n : Nat), RpA K S vs ds → (∀ x ∈ ds, fits n x = true) → DpAll K H vs ds := fun n r h => (RpA.dp n (r.mono ss) h).1
theorem Rt.dp {K : PySem.W.Frag} {S H : Hp} (ss : Same S H) {n : Nat} {v : V} {d : D} (h : Rt K S H v d) (f : fits n d = true) : Dp K H v d ∧ d.canLay0 = true ∧ d.depth ≤ n := by
  cases h with
  | non => exact Rp.dp n (S := H) .non f
  | bl b => exact Rp.dp n (S := H) (.bl b) f
  | int b => exact Rp.dp n (S := H) (.int b) f
  | str b h => exact Rp.dp n (S := H) (.str b h) f
  | lst a b => exact Rp.dp n (.lst a (b.mono ss)) f
  | tup a c b => exact Rp.dp n (.tup c (b.mono ss)) f
  | dK a c b => cases n <;> simp [fits] at f
  | dT a c b => cases n <;> simp [fits] at f
theorem Rt.fits1 {n : Nat} {xs : List D} (h : fits (n + 1) (.list xs) = true) : ∀ x ∈ xs, fits n x = true := by simpa [fits] using h

/-! ### keys -/
def asKey : D → Option Key
  | .int i => some (.inl i)
  | .str x => some (.inr x)
  | _ => none
def asKeys : List D → Option (List Key)
  | [] => some []
  | d :: ds => match asKey d with
    | some k => (match asKeys ds with | some ks => some (k :: ks) | none => none)
    | none => none
def isKey : D → Bool
  | .tuple ds => (asKeys ds).isSome
  | d => (asKey d).isSome
def lookD (kvs : List (D × D)) (k : D) : Option D := match kvs with
  | [] => none
  | (a, d) :: r => if PyData.eqv a k = true then some d else lookD r k
theorem asKey_eq : ∀ {d : D} {k : Key}, asKey d = some k → d = keyD k
  | .int i, _, h => by cases h; rfl
  | .str i, _, h => by cases h; rfl
  | .none, _, h => by cases h
  | .bool _, _, h => by cases h
  | .list _, _, h => by cases h
  | .tuple _, _, h => by cases h
  | .dict _, _, h => by cases h
theorem asKeys_eq : ∀ {ds : List D} {ks : List Key}, asKeys ds = some ks → ds = ks.map keyD
  | [], _, h => by cases h; rfl
  | d :: ds, ks, h => by
    unfold asKeys at h
    split at h
    · rename_i k hk
      split at h
      · rename_i ks' hks
        cases h
        rw [asKey_eq hk, asKeys_eq hks]
        rfl
      · cases h
    · cases h
theorem keyD_eqv (a b : Key) : PyData.eqv (keyD a) (keyD b) = decide (a = b) := by
  cases a <;> cases b
  · rename_i i j
    show (i == j) = _
    rw [key_ll]
  · show PyData.eqv (.int _) (.str _) = _
    rw [key_lr]; simp [PyData.eqv]
  · show PyData.eqv (.str _) (.int _) = _
    rw [key_rl]; simp [PyData.eqv]
  · rename_i i j
    show PyData.eqv (.str i) (.str j) = _
    rw [key_rr]
    simp only [PyData.eqv]
    by_cases e : i = j
    · subst e; simp
    · rw [decide_eq_false e]; simpa using e
theorem keyDs_eqv : ∀ (a b : List Key), PyData.eqvAll (a.map keyD) (b.map keyD) = decide (a = b)
  | [], [] => by simp [PyData.eqvAll]
  | [], b :: bs => by simp [PyData.eqvAll]
  | a :: as, [] => by simp [PyData.eqvAll]
  | a :: as, b :: bs => by
    simp only [List.map_cons, PyData.eqvAll, keyD_eqv, keyDs_eqv as bs]
    by_cases h1 : a = b
    · by_cases h2 : as = bs
      · subst h1 h2; simp
      · simp [h1, h2]
    · simp [h1]
theorem RpA.keys {K : PySem.W.Frag} {S : Hp} : ∀ {vs : List V} {ks : List Key}, RpA K S vs (ks.map keyD) → vs = ks.map kV
  | _, [], h => by cases h; rfl
  | _, k :: ks, h => by
    have h : RpA K S _ (keyD k :: ks.map keyD) := h
    cases h with
    | cons a b =>
      rw [RpA.keys b]
      cases k with
      | inl i => cases a; rfl
      | inr i => cases a; rfl
theorem RpA.keysOk {K : PySem.W.Frag} {S : Hp} : ∀ {vs : List V} {ks : List Key}, RpA K S vs (ks.map keyD) → ∀ x ∈ ks, okK x = true
  | _, [], h => by simp
  | _, k :: ks, h => by
    have h : RpA K S _ (keyD k :: ks.map keyD) := h
    cases h with
    | cons a b =>
      intro x hx
      rcases List.mem_cons.mp hx with e | hx
      · subst e
        cases x with
        | inl i => rfl
        | inr i => cases a; assumption
      · exact RpA.keysOk b x hx
theorem RpK.look {K : PySem.W.Frag} {S : Hp} (k : Key) : ∀ {kvs : List (Key × V)} {es : List (D × D)}, RpK K S kvs es → (lookD es (keyD k) = none ∧ valV kvs k = none) ∨ ∃ v d, valV kvs k = some v ∧ lookD es (keyD k) = some d ∧ Rp K S v d
  | _, _, .nil => .inl ⟨rfl, rfl⟩
  | _, _, .cons (k := k') (kvs := kvs) (es := es) _ a b => by
    by_cases e : k' = k
    · subst e
      refine .inr ⟨_, _, valV_pos rfl, ?_, a⟩
      unfold lookD
      rw [keyD_eqv, decide_eq_true rfl, if_pos rfl]
    · have e1 : ∀ d, lookD ((keyD k', d) :: es) (keyD k) = lookD es (keyD k) := fun d => by
        rw [lookD, keyD_eqv, decide_eq_false e, if_neg Bool.false_ne_true]
      rw [e1, valV_neg e]
      exact RpK.look k b
theorem RpT.look {K : PySem.W.Frag} {S : Hp} (k : List Key) : ∀ {kvs : List (List Key × V)} {es : List (D × D)}, RpT K S kvs es → (lookD es (.tuple (k.map keyD)) = none ∧ valV kvs k = none) ∨ ∃ v d, valV kvs k = some v ∧ lookD es (.tuple (k.map keyD)) = some d ∧ Rp K S v d
  | _, _, .nil => .inl ⟨rfl, rfl⟩
  | _, _, .cons (k := k') (kvs := kvs) (es := es) _ a b => by
    have e0 : PyData.eqv (.tuple (k'.map keyD)) (.tuple (k.map keyD)) = decide (k' = k) := by
      simp only [PyData.eqv, keyDs_eqv]
    by_cases e : k' = k
    · subst e
      refine .inr ⟨_, _, valV_pos rfl, ?_, a⟩
      unfold lookD
      rw [e0, decide_eq_true rfl, if_pos rfl]
    · have e1 : ∀ d, lookD ((.tuple (k'.map keyD), d) :: es) (.tuple (k.map keyD)) = lookD es (.tuple (k.map keyD)) := fun d => by
        rw [lookD, e0, decide_eq_false e, if_neg Bool.false_ne_true]
      rw [e1, valV_neg e]
      exact RpT.look k b
/-- a key that is not of the dict's kind is not in it -/
theorem RpK.noT {K : PySem.W.Frag} {S : Hp} (ds : List D) : ∀ {kvs : List (Key × V)} {es : List (D × D)}, RpK K S kvs es → lookD es (.tuple ds) = none
  | _, _, .nil => rfl
  | _, _, .cons (k := k') _ a b => by
    rw [lookD, RpK.noT ds b]
    cases k' <;> simp [keyD, PyData.eqv]
theorem RpT.noK {K : PySem.W.Frag} {S : Hp} (k : Key) : ∀ {kvs : List (List Key × V)} {es : List (D × D)}, RpT K S kvs es → lookD es (keyD k) = none
  | _, _, .nil => rfl
  | _, _, .cons _ a b => by
    rw [lookD, RpT.noK k b]
    cases k <;> simp [keyD, PyData.eqv]
/-- which kind: a dict of text and int keys, or one of tuples; an empty one is both -/
def kindOk (kvs : List (D × D)) (k : D) : Bool := match k, kvs with
  | .tuple ds, [] => (asKeys ds).isSome
  | .tuple ds, (.tuple _, _) :: _ => (asKeys ds).isSome
  | .tuple _, _ => false
  | k, (.tuple _, _) :: _ => false
  | k, _ => (asKey k).isSome
theorem kind_nil {k : D} (h : kindOk [] k = true) : (∃ k', asKey k = some k') ∨ ∃ ds ks, k = .tuple ds ∧ asKeys ds = some ks := by
  cases k with
  | int i => exact .inl ⟨_, rfl⟩
  | str i => exact .inl ⟨_, rfl⟩
  | tuple ds => exact .inr (let ⟨ks, e⟩ := Option.isSome_iff_exists.mp (show (asKeys ds).isSome = true from h); ⟨ds, ks, rfl, e⟩)
  | none => cases h
  | bool _ => cases h
  | list _ => cases h
  | dict _ => cases h
theorem kind_K {k0 : Key} {d0 : D} {es : List (D × D)} {k : D} (h : kindOk ((keyD k0, d0) :: es) k = true) : ∃ k', asKey k = some k' := by
  cases k with
  | int i => exact ⟨_, rfl⟩
  | str i => exact ⟨_, rfl⟩
  | tuple ds => cases k0 <;> cases h
  | none => cases k0 <;> cases h
  | bool _ => cases k0 <;> cases h
  | list _ => cases k0 <;> cases h
  | dict _ => cases k0 <;> cases h
theorem kind_T {t : List D} {d0 : D} {es : List (D × D)} {k : D} (h : kindOk ((.tuple t, d0) :: es) k = true) : ∃ ds ks, k = .tuple ds ∧ asKeys ds = some ks := by
  cases k with
  | tuple ds => exact let ⟨ks, e⟩ := Option.isSome_iff_exists.mp (show (asKeys ds).isSome = true from h); ⟨ds, ks, rfl, e⟩
  | int i => cases h
  | str i => cases h
  | none => cases h
  | bool _ => cases h
  | list _ => cases h
  | dict _ => cases h
/-- an empty dict is one of either kind -/
theorem empty_kt {P : Program} {w : World} {H H' : Hp} {h : Heap} {a : Addr} (x : ObjOk P w H h a (.dK [])) : ObjOk P w H' h a (.dT []) := by
  obtain ⟨z, y, vs, r, o, es, ep, e, ex, hd, _, c, _⟩ := x
  cases r
  have hl : es.toList = [] := by
    have := c.length
    exact List.length_eq_zero_iff.mp this
  exact ⟨z, y, [], .nil, o, es, ep, e, ex, hd, by rw [hl]; rfl, List.nodup_nil⟩
theorem empty_tk {P : Program} {w : World} {H H' : Hp} {h : Heap} {a : Addr} (x : ObjOk P w H h a (.dT [])) : ObjOk P w H' h a (.dK []) := by
  obtain ⟨z, y, xs, r, o, es, ep, e, ex, hd, hl, _⟩ := x
  cases r
  have hl' : es = #[] := by
    have : es.toList = [] := hl
    exact Array.toList_eq_nil_iff.mp this
  subst hl'
  exact ⟨z, y, [], .nil, o, #[], ep, e, ex, hd, fun _ he => by simp at he, .nil, List.nodup_nil⟩
section
variable {X : Cx} {pins : List (Addr × Obj)} {σ : Sg} {H : Hp} {s : Shared} {a : Addr}
theorem Inv.kt (I : Inv X pins σ H s) (e : H a = some (.dK [])) : Inv X pins σ (upd H a (.dT [])) s :=
  I.write (x := a) (e := a) (o := .dT []) (t' := s.toks) (h' := s.heap) (by rw [e]; trivial) (.inl rfl) (fun _ _ _ q => q) (by have := I.hok a _ e; obtain ⟨_, _, _, _, o, _, _, q, _⟩ := this; exact ⟨o, q⟩) (empty_kt (I.hok a _ e))
theorem Inv.tk (I : Inv X pins σ H s) (e : H a = some (.dT [])) : Inv X pins σ (upd H a (.dK [])) s :=
  I.write (x := a) (e := a) (o := .dK []) (t' := s.toks) (h' := s.heap) (by rw [e]; trivial) (.inl rfl) (fun _ _ _ q => q) (by have := I.hok a _ e; obtain ⟨_, _, _, _, o, _, _, q, _⟩ := this; exact ⟨o, q⟩) (empty_tk (I.hok a _ e))
theorem upd_back {H : Hp} {a : Addr} {u u' : HO} (e : H a = some u) : upd (upd H a u') a u = H := by
  rw [upd_upd]
  funext b
  unfold upd
  split
  · rename_i h; subst h; exact e.symm
  · rfl
/-- what the dict at a holds at y, an empty one being of either kind -/
def DG (H : Hp) (a : Addr) (y : V) (o : Option V) : Prop := DGet H a y o ∨ (o = none ∧ H a = some (.dK []) ∧ ∃ (b : Addr) (ks : List Key), y = .ref b ∧ H b = some (.tup (ks.map kV))) ∨ (o = none ∧ H a = some (.dT []) ∧ ∃ k : Key, y = kV k)
/-- over it, as over a dict of its kind -/
theorem DG.run {o : Option V} {y : V} (g : DG H a y o) (I : Inv X pins σ H s) {P : Prop} (h : ∀ H', Inv X pins σ H' s → DGet H' a y o → (∀ s', Inv X pins σ H' s' → Inv X pins σ H s') → P) : P := by
  rcases g with g | ⟨rfl, e, b, ks, rfl, eb⟩ | ⟨rfl, e, k, rfl⟩
  · exact h H I g fun _ z => z
  · have ne : b ≠ a := fun z => by subst z; rw [e] at eb; cases eb
    refine h _ (Inv.kt I e) (.inr ⟨[], ks, b, .inl upd_same, rfl, by rw [upd_ne ne]; exact eb, rfl⟩) fun s' J => ?_
    have := Inv.tk J upd_same
    rwa [upd_back e] at this
  · refine h _ (Inv.tk I e) (.inl ⟨[], k, .inl upd_same, rfl, rfl⟩) fun s' J => ?_
    have := Inv.kt J upd_same
    rwa [upd_back e] at this
end
section
variable {X : Cx}
def rDIn : R2 := fun x y H Q => ∃ a o, y = .ref a ∧ DG H a x o ∧ Q (.bl o.isSome) H
def rDNotIn : R2 := fun x y H Q => ∃ a o, y = .ref a ∧ DG H a x o ∧ Q (.bl (!o.isSome)) H
theorem op_dIn (b : Bd X) : OpR X (compareOp .In) rDIn := by
  intro pins s σ H x y v u Q I rx ry h
  obtain ⟨a, o, rfl, g, q⟩ := h
  cases ry
  exact g.run I fun H' I' g' back => d_in (Nat.lt_of_le_of_lt (by omega) b.un) I' g' rx fun s' J => ⟨.bl o.isSome, H, back s' J, rfl, q⟩
theorem op_dNotIn (b : Bd X) : OpR X (compareOp .NotIn) rDNotIn := by
  intro pins s σ H x y v u Q I rx ry h
  obtain ⟨a, o, rfl, g, q⟩ := h
  cases ry
  exact g.run I fun H' I' g' back => d_notIn (Nat.lt_of_le_of_lt (by omega) b.un) I' g' rx fun s' J => ⟨.bl (!o.isSome), H, back s' J, rfl, q⟩
def rDGet : R2 := fun x y H Q => ∃ a v, x = .ref a ∧ DGet H a y (some v) ∧ Q v H
theorem ix_dict (b : Bd X) : IxR X rDGet := by
  intro value slice pins s σ H x y v u Q I rx ry h hs
  obtain ⟨a, w, rfl, g, q⟩ := h
  cases rx
  exact tail_any (dict_typeIs I g) PySem.F.slot_dict_getitem.lookup (d_getItem (Nat.lt_of_le_of_lt (by omega) b.un) I g ry fun w' s' J rw' => ⟨w, H, J, rw', q⟩) hs
end
/-- what is known of a look into a dict -/
theorem Rt.dget {K : PySem.W.Frag} {S H : Hp} {v y : V} {kvs : List (D × D)} {k : D} (h : Rt K S H v (.dict kvs)) (hy : Rt K S H y k) (hk : kindOk kvs k = true) :
    ∃ a, v = .ref a ∧ ∃ o, DG H a y o ∧ ((lookD kvs k = none ∧ o = none) ∨ ∃ w d, o = some w ∧ DGet H a y o ∧ lookD kvs k = some d ∧ Rp K S w d) := by
  have ekey : ∀ k' : Key, asKey k = some k' → y = kV k' := fun k' hk' => by
    have ek := asKey_eq hk'
    subst ek
    cases k' with
    | inl i => exact hy.int_of
    | inr i => exact hy.str_of
  have etup : ∀ ds ks, k = .tuple ds → asKeys ds = some ks → ∃ b, y = .ref b ∧ H b = some (.tup (ks.map kV)) := fun ds ks e1 hks => by
    subst e1
    have e1 := asKeys_eq hks
    subst e1
    obtain ⟨b, xs, rfl, _, hb, rr⟩ := hy.tup_S
    have e2 := rr.keys
    subst e2
    exact ⟨b, rfl, hb⟩
  have sk : ∀ {a : Addr} {kvs' : List (Key × V)}, Rd H a (.dK kvs') → RpK K S kvs' kvs → ∀ k' : Key, asKey k = some k' → ∃ o, DG H a y o ∧ ((lookD kvs k = none ∧ o = none) ∨ ∃ w d, o = some w ∧ DGet H a y o ∧ lookD kvs k = some d ∧ Rp K S w d) := by
    intro a kvs' e r k' hk'
    have ey := ekey k' hk'
    have ek := asKey_eq hk'
    subst ek ey
    have g : DGet H a (kV k') (valV kvs' k') := .inl ⟨kvs', k', e, rfl, rfl⟩
    refine ⟨valV kvs' k', .inl g, ?_⟩
    rcases r.look k' with ⟨h1, h2⟩ | ⟨w, d, h1, h2, h3⟩
    · exact .inl ⟨h1, h2⟩
    · exact .inr ⟨w, d, h1, g, h2, h3⟩
  have st : ∀ {a : Addr} {kvs' : List (List Key × V)}, Rd H a (.dT kvs') → RpT K S kvs' kvs → ∀ ds ks, k = .tuple ds → asKeys ds = some ks → ∃ o, DG H a y o ∧ ((lookD kvs k = none ∧ o = none) ∨ ∃ w d, o = some w ∧ DGet H a y o ∧ lookD kvs k = some d ∧ Rp K S w d) := by
    intro a kvs' e r ds ks e1 hks
    obtain ⟨b, ey, hb⟩ := etup ds ks e1 hks
    have e2 := asKeys_eq hks
    subst e1 e2 ey
    have g : DGet H a (.ref b) (valV kvs' ks) := .inr ⟨_, ks, b, e, rfl, hb, rfl⟩
    refine ⟨valV kvs' ks, .inl g, ?_⟩
    rcases r.look ks with ⟨h1, h2⟩ | ⟨w, d, h1, h2, h3⟩
    · exact .inl ⟨h1, h2⟩
    · exact .inr ⟨w, d, h1, g, h2, h3⟩
  cases h with
  | @dK a kvs' _ e ne r =>
    refine ⟨_, rfl, ?_⟩
    cases r with
    | nil =>
      rcases kind_nil hk with ⟨k', hk'⟩ | ⟨ds, ks, e1, hks⟩
      · exact sk e .nil k' hk'
      · obtain ⟨b, ey, hb⟩ := etup ds ks e1 hks
        exact ⟨none, .inr (.inl ⟨rfl, ne rfl, b, ks, ey, hb⟩), .inl ⟨rfl, rfl⟩⟩
    | @cons k0 v0 d0 kv es o1 a1 b1 =>
      obtain ⟨k', hk'⟩ := kind_K hk
      exact sk e (.cons o1 a1 b1) k' hk'
  | @dT a kvs' _ e ne r =>
    refine ⟨_, rfl, ?_⟩
    cases r with
    | nil =>
      rcases kind_nil hk with ⟨k', hk'⟩ | ⟨ds, ks, e1, hks⟩
      · exact ⟨none, .inr (.inr ⟨rfl, ne rfl, k', ekey k' hk'⟩), .inl ⟨rfl, rfl⟩⟩
      · exact st e .nil ds ks e1 hks
    | @cons k0 v0 d0 kv es o1 a1 b1 =>
      obtain ⟨ds, ks, e1, hks⟩ := kind_T hk
      exact st e (.cons o1 a1 b1) ds ks e1 hks
end Y
/-! Y: tests, subscripts, slices, displays -/
namespace Y
open PySem PySem.Spec PyProof.Rows L2

/-! ### comparisons -/
def gEq (x y : D) : Option Bool := if fits 60 x = true ∧ fits 60 y = true then some (PyData.eqv x y) else none
def gNe (x y : D) : Option Bool := if fits 60 x = true ∧ fits 60 y = true then some (!PyData.eqv x y) else none
def gLt : D → D → Option Bool
  | .int a, .int b => some (decide (a < b))
  | .str a, .str b => some (decide (a.cps.toList < b.cps.toList))
  | _, _ => none
def gLe : D → D → Option Bool
  | .int a, .int b => some (decide (a ≤ b))
  | .str a, .str b => some (!decide (b.cps.toList < a.cps.toList))
  | _, _ => none
def gGt : D → D → Option Bool
  | .int a, .int b => some (decide (b < a))
  | _, _ => none
def gGe : D → D → Option Bool
  | .int a, .int b => some (decide (b ≤ a))
  | _, _ => none
/-- x is y, y one of None, True, False -/
def gIs : D → D → Option Bool
  | x, .none => some (match x with | .none => true | _ => false)
  | x, .bool b => some (match x with | .bool c => c == b | _ => false)
  | _, _ => none
def gIsNot (x y : D) : Option Bool := (gIs x y).map (!·)
def gIn (x y : D) : Option Bool := match y with
  | .list ds => if fits 59 x = true ∧ ds.all (fits 59) = true then some (ds.any fun z => PyData.eqv z x) else none
  | .tuple ds => if fits 59 x = true ∧ ds.all (fits 59) = true then some (ds.any fun z => PyData.eqv z x) else none
  | .str t => (match x with | .str z => some (!(Builtin.Str.occurrences t z 0 t.length 1).isEmpty) | _ => none)
  | .dict kvs => if kindOk kvs x = true then some (lookD kvs x).isSome else none
  | _ => none
def gNotIn (x y : D) : Option Bool := (gIn x y).map (!·)
def DoesC (X : Cx) (g : D → D → Option Bool) (r : R2) : Prop := ∀ (x y : V) (dx dy : D) (b : Bool) (S H : Hp) (Q : VK), Same S H → Rt X.K S H x dx → Rt X.K S H y dy → g dx dy = some b → Q (.bl b) H → r x y H Q
section
variable {X : Cx}
theorem does_eq : DoesC X gEq (rEqD X.K) := by
  intro x y dx dy b S H Q ss rx ry e q
  unfold gEq at e
  split at e
  · rename_i h
    cases e
    obtain ⟨a1, a2, a3⟩ := rx.dp ss h.1
    obtain ⟨b1, b2, b3⟩ := ry.dp ss h.2
    exact ⟨dx, dy, a1, b1, by unfold SeqAt.shaped; rw [a2, decide_eq_true (by omega)]; rfl, by unfold SeqAt.shaped; rw [b2, decide_eq_true (by omega)]; rfl, q⟩
  · cases e
theorem does_ne : DoesC X gNe (rNeD X.K) := by
  intro x y dx dy b S H Q ss rx ry e q
  unfold gNe at e
  split at e
  · rename_i h
    cases e
    obtain ⟨a1, a2, a3⟩ := rx.dp ss h.1
    obtain ⟨b1, b2, b3⟩ := ry.dp ss h.2
    exact ⟨dx, dy, a1, b1, by unfold SeqAt.shaped; rw [a2, decide_eq_true (by omega)]; rfl, by unfold SeqAt.shaped; rw [b2, decide_eq_true (by omega)]; rfl, q⟩
  · cases e
def rCmpIS (p : Int → Int → Bool) (q : List Nat → List Nat → Bool) : R2 := fun x y H Q => rI0 (fun i j => .bl (p i j)) x y H Q ∨ ∃ i j, x = .str i ∧ y = .str j ∧ Q (.bl (q i.cps.toList j.cps.toList)) H
theorem op_ltIS : OpR X (compareOp .Lt) (rCmpIS (fun i j => decide (i < j)) (fun i j => decide (i < j))) := op_lt.or op_lt_str
theorem op_leIS : OpR X (compareOp .LtE) (rCmpIS (fun i j => decide (i ≤ j)) (fun i j => !decide (j < i))) := op_le.or op_le_str
theorem does_lt : DoesC X gLt (rCmpIS (fun i j => decide (i < j)) (fun i j => decide (i < j))) := by
  intro x y dx dy b S H Q ss rx ry e q
  unfold gLt at e
  split at e
  · cases e; exact .inl ⟨_, _, rx.int_of, ry.int_of, q⟩
  · cases e; exact .inr ⟨_, _, rx.str_of, ry.str_of, q⟩
  · cases e
theorem does_le : DoesC X gLe (rCmpIS (fun i j => decide (i ≤ j)) (fun i j => !decide (j < i))) := by
  intro x y dx dy b S H Q ss rx ry e q
  unfold gLe at e
  split at e
  · cases e; exact .inl ⟨_, _, rx.int_of, ry.int_of, q⟩
  · cases e; exact .inr ⟨_, _, rx.str_of, ry.str_of, q⟩
  · cases e
theorem does_gt : DoesC X gGt (rI0 fun i j => .bl (decide (j < i))) := by
  intro x y dx dy b S H Q ss rx ry e q
  unfold gGt at e
  split at e
  · cases e; exact ⟨_, _, rx.int_of, ry.int_of, q⟩
  · cases e
theorem does_ge : DoesC X gGe (rI0 fun i j => .bl (decide (j ≤ i))) := by
  intro x y dx dy b S H Q ss rx ry e q
  unfold gGe at e
  split at e
  · cases e; exact ⟨_, _, rx.int_of, ry.int_of, q⟩
  · cases e
/-! is -/
def plainV : V → Bool
  | .non => true
  | .bl _ => true
  | _ => false
def rIsC : R2 := fun x y H Q => plainV y = true ∧ Q (.bl (decide (x = y))) H
def rIsNotC : R2 := fun x y H Q => plainV y = true ∧ Q (.bl (!decide (x = y))) H
theorem plainIs_of {x y : V} {v u : Value} (rx : RelV x v) (ry : RelV y u) (h : plainV y = true) : plainIs v u = true := by
  cases y with
  | non =>
    cases (show u = Value.none from ry)
    cases x with
    | non => cases (show v = Value.none from rx); rfl
    | bl _ => cases (show v = Value.bool _ from rx); rfl
    | int _ => obtain ⟨t, rfl⟩ := rx; rfl
    | str _ => obtain ⟨t, rfl⟩ := rx; rfl
    | byt _ => obtain ⟨t, rfl⟩ := rx; rfl
    | flt _ => obtain ⟨t, rfl⟩ := rx; rfl
    | ref _ => cases (show v = Value.ref _ from rx); rfl
    | ty _ => cases (show v = Value.type _ from rx); rfl
  | bl b =>
    cases (show u = Value.bool b from ry)
    cases x with
    | non => cases (show v = Value.none from rx); rfl
    | bl _ => cases (show v = Value.bool _ from rx); rfl
    | int _ => obtain ⟨t, rfl⟩ := rx; rfl
    | str _ => obtain ⟨t, rfl⟩ := rx; rfl
    | byt _ => obtain ⟨t, rfl⟩ := rx; rfl
    | flt _ => obtain ⟨t, rfl⟩ := rx; rfl
    | ref _ => cases (show v = Value.ref _ from rx); rfl
    | ty _ => cases (show v = Value.type _ from rx); rfl
  | _ => cases h
theorem relV_iff {x y : V} {v u : Value} (rx : RelV x v) (ry : RelV y u) (h : plainV y = true) : (v == u) = decide (x = y) := by
  by_cases e : x = y
  · subst e
    rw [decide_eq_true rfl]
    cases x with
    | non => cases (show v = Value.none from rx); cases (show u = Value.none from ry); rfl
    | bl _ => cases (show v = Value.bool _ from rx); cases (show u = Value.bool _ from ry); exact beq_self_eq_true _
    | _ => cases h
  · rw [decide_eq_false e]
    refine beq_eq_false_iff_ne.mpr fun z => ?_
    subst z
    exact e (rx.inj ry)
theorem op_isC : OpR X (compareOp .Is) rIsC := by
  intro pins s σ H x y v u Q I rx ry h
  exact wpAny_is_plain (plainIs_of rx ry h.1) ⟨.bl _, H, I, by rw [relV_iff rx ry h.1]; rfl, h.2⟩
theorem op_isNotC : OpR X (compareOp .IsNot) rIsNotC := by
  intro pins s σ H x y v u Q I rx ry h
  exact wpAny_isNot_plain (plainIs_of rx ry h.1) ⟨.bl _, H, I, by rw [relV_iff rx ry h.1]; rfl, h.2⟩
theorem gIs_of {S H : Hp} {x y : V} {dx dy : D} {b : Bool} (rx : Rt X.K S H x dx) (ry : Rt X.K S H y dy) (e : gIs dx dy = some b) : plainV y = true ∧ decide (x = y) = b := by
  cases ry with
  | non =>
    refine ⟨rfl, ?_⟩
    cases rx <;> simp_all [gIs]
  | bl c =>
    refine ⟨rfl, ?_⟩
    cases rx <;> simp_all [gIs]
    rename_i d
    cases d <;> cases c <;> cases b <;> simp_all
  | int _ => simp [gIs] at e
  | str _ => simp [gIs] at e
  | lst _ _ => simp [gIs] at e
  | tup _ _ _ => simp [gIs] at e
  | dK _ _ _ => simp [gIs] at e
  | dT _ _ _ => simp [gIs] at e
theorem does_is : DoesC X gIs rIsC := by
  intro x y dx dy b S H Q ss rx ry e q
  obtain ⟨h1, h2⟩ := gIs_of rx ry e
  exact ⟨h1, by rw [h2]; exact q⟩
theorem does_isNot : DoesC X gIsNot rIsNotC := by
  intro x y dx dy b S H Q ss rx ry e q
  unfold gIsNot at e
  obtain ⟨c, hc, rfl⟩ := Option.map_eq_some_iff.mp e
  obtain ⟨h1, h2⟩ := gIs_of rx ry hc
  exact ⟨h1, by rw [h2]; exact q⟩
/-! in -/
def rInG (K : PySem.W.Frag) (neg : Bool) : R2 := fun x y H Q => ∃ d ds, Dp K H x d ∧ (Dp K H y (.list ds) ∨ Dp K H y (.tuple ds)) ∧ d.canLay0 = true ∧ PyData.canLayAll0 ds = true ∧ d.depth ≤ 60 ∧ Q (.bl (neg ^^ ds.any fun z => PyData.eqv z d)) H
theorem op_inG (b : Bd X) : OpR X (compareOp .In) (rInG X.K false) := by
  intro pins s σ H x y v u Q I rx ry h
  obtain ⟨d, ds, hd, hy, h1, h2, h3, q⟩ := h
  have hb := b.un
  obtain ⟨as, r1⟩ := Dp.reads I d x v hd rx
  rw [Bool.false_xor] at q
  rcases hy with hy | hy
  · obtain ⟨bs, r2⟩ := Dp.reads I (.list ds) y u hy ry
    exact SeqAt.in_list_reads r2 r1 h2 h1 (by omega) ⟨.bl _, H, I, rfl, q⟩
  · obtain ⟨bs, r2⟩ := Dp.reads I (.tuple ds) y u hy ry
    exact SeqAt.in_tuple_reads r2 r1 h2 h1 (by omega) ⟨.bl _, H, I, rfl, q⟩
theorem op_notInG (b : Bd X) : OpR X (compareOp .NotIn) (rInG X.K true) := by
  intro pins s σ H x y v u Q I rx ry h
  obtain ⟨d, ds, hd, hy, h1, h2, h3, q⟩ := h
  have hb := b.un
  obtain ⟨as, r1⟩ := Dp.reads I d x v hd rx
  rw [Bool.true_xor] at q
  rcases hy with hy | hy
  · obtain ⟨bs, r2⟩ := Dp.reads I (.list ds) y u hy ry
    exact SeqAt.notIn_list_reads r2 r1 h2 h1 (by omega) ⟨.bl _, H, I, rfl, q⟩
  · obtain ⟨bs, r2⟩ := Dp.reads I (.tuple ds) y u hy ry
    exact SeqAt.notIn_tuple_reads r2 r1 h2 h1 (by omega) ⟨.bl _, H, I, rfl, q⟩
def rInA (K : PySem.W.Frag) (neg : Bool) : R2 := fun x y H Q => rInG K neg x y H Q ∨ (∃ i j, x = .str i ∧ y = .str j ∧ Q (.bl (neg ^^ !(Builtin.Str.occurrences j i 0 j.length 1).isEmpty)) H) ∨ ∃ a o, y = .ref a ∧ DG H a x o ∧ Q (.bl (neg ^^ o.isSome)) H
theorem OpR.weak {f : Value → Value → Sem Value} {r r' : R2} (h : OpR X f r) (k : ∀ x y H Q, r' x y H Q → r x y H Q) : OpR X f r' := fun pins s σ H x y v u Q I rx ry q => h pins s σ H x y v u Q I rx ry (k _ _ _ _ q)
theorem op_inA (b : Bd X) : OpR X (compareOp .In) (rInA X.K false) :=
  OpR.weak ((op_inG b).or (op_in_str.or (op_dIn b))) fun x y H Q h => by
    rcases h with h | ⟨i, j, e1, e2, q⟩ | ⟨a, o, e1, g, q⟩
    · exact .inl h
    · rw [Bool.false_xor] at q; exact .inr (.inl ⟨i, j, e1, e2, q⟩)
    · rw [Bool.false_xor] at q; exact .inr (.inr ⟨a, o, e1, g, q⟩)
theorem op_notInA (b : Bd X) : OpR X (compareOp .NotIn) (rInA X.K true) :=
  OpR.weak ((op_notInG b).or (op_notIn_str.or (op_dNotIn b))) fun x y H Q h => by
    rcases h with h | ⟨i, j, e1, e2, q⟩ | ⟨a, o, e1, g, q⟩
    · exact .inl h
    · rw [Bool.true_xor] at q; exact .inr (.inl ⟨i, j, e1, e2, q⟩)
    · rw [Bool.true_xor] at q; exact .inr (.inr ⟨a, o, e1, g, q⟩)
theorem gIn_of {S H : Hp} (ss : Same S H) {x y : V} {dx dy : D} {b : Bool} (neg : Bool) (rx : Rt X.K S H x dx) (ry : Rt X.K S H y dy) (e : gIn dx dy = some b) {Q : VK} (q : Q (.bl (neg ^^ b)) H) : rInA X.K neg x y H Q := by
  unfold gIn at e
  split at e
  · rename_i ds
    split at e
    · rename_i h
      cases e
      obtain ⟨a1, a2, a3⟩ := rx.dp ss h.1
      obtain ⟨b1, b2, b3⟩ := ry.dp (n := 60) ss (by simpa [fits] using h.2)
      have b2 : PyData.canLayAll0 ds = true := by unfold PyData.canLay0 at b2; exact b2
      exact .inl ⟨dx, ds, a1, .inl b1, a2, b2, by omega, q⟩
    · cases e
  · rename_i ds
    split at e
    · rename_i h
      cases e
      obtain ⟨a1, a2, a3⟩ := rx.dp ss h.1
      obtain ⟨b1, b2, b3⟩ := ry.dp (n := 60) ss (by simpa [fits] using h.2)
      have b2 : PyData.canLayAll0 ds = true := by unfold PyData.canLay0 at b2; exact b2
      exact .inl ⟨dx, ds, a1, .inr b1, a2, b2, by omega, q⟩
    · cases e
  · split at e
    · cases e
      exact .inr (.inl ⟨_, _, rx.str_of, ry.str_of, q⟩)
    · cases e
  · split at e
    · rename_i h
      cases e
      obtain ⟨a, rfl, o, g, hl⟩ := Rt.dget ry rx h
      refine .inr (.inr ⟨a, o, rfl, g, ?_⟩)
      rcases hl with ⟨h1, h2⟩ | ⟨w, d, h1, _, h2, _⟩
      · rw [h1] at q; rw [h2]; exact q
      · rw [h2] at q; rw [h1]; exact q
    · cases e
  · cases e
theorem does_in : DoesC X gIn (rInA X.K false) := by
  intro x y dx dy b S H Q ss rx ry e q
  exact gIn_of ss false rx ry e (by rw [Bool.false_xor]; exact q)
theorem does_notIn : DoesC X gNotIn (rInA X.K true) := by
  intro x y dx dy b S H Q ss rx ry e q
  unfold gNotIn at e
  obtain ⟨c, hc, rfl⟩ := Option.map_eq_some_iff.mp e
  exact gIn_of ss true rx ry hc (by rw [Bool.true_xor]; exact q)
end
end Y
/-! Y: tests and values -/
namespace Y
open PySem PySem.Spec PyProof.Rows L2

/-- an expression that gives True or False -/
abbrev GoV (K : PySem.W.Frag) (W : XW) (G : Fra) (T : List (V × E)) (σ : Sg) (Q : VK) : Rs Bool → Prop := GoR K W G T σ fun b ρ' => ∀ S' H', Stt K G T ρ' σ S' H' → Q (.bl b) H'
def tV (K : PySem.W.Frag) (W : XW) (f : Ev → Rs Bool) : TE := fun σ H Q => ∃ G T S ρ, Stt K G T ρ σ S H ∧ GoV K W G T σ Q (f ρ)
abbrev DV (X : Cx) (W : XW) (e : Expr) (f : Ev → Rs Bool) : Prop := PE X e (tV X.K W f)
def bl (f : Ev → Rs Bool) : Ev → Rs O := bnd f fun b ρ => .ok (.leaf (.bool b)) ρ
def asB (f : Ev → Rs O) : Ev → Rs Bool := bnd f fun o ρ => match o with
  | .leaf (.bool b) => .ok b ρ
  | _ => .stk
def cmp2 (g : D → D → Option Bool) (fa fb : Ev → Rs B) : Ev → Rs Bool := bnd fa fun a => bnd fb fun b ρ => match a.val ρ with
  | some x => (match b.val ρ with
    | some y => (match g x y with | some c => .ok c ρ | none => .stk)
    | none => .stk)
  | none => .stk
/-- a op b op' c -/
def chn (g g' : D → D → Option Bool) (fa fb fc : Ev → Rs B) : Ev → Rs Bool := bnd fa fun a => bnd fb fun b ρ => match a.val ρ with
  | some x => (match b.val ρ with
    | some y => (match g x y with
      | some true => bnd fc (fun c ρ' => match b.val ρ', c.val ρ' with
        | some y', some z => (match g' y' z with | some d => .ok d ρ' | none => .stk)
        | _, _ => .stk) ρ
      | some false => .ok false ρ
      | none => .stk)
    | none => .stk)
  | none => .stk
def gTru : D → Option Bool
  | .none => some false
  | .bool b => some b
  | .int i => some (i != 0)
  | .str y => if y.length ≤ sizeLine then some ((y.length : Int) != 0) else none
  | .list ds => some (!ds.isEmpty)
  | .tuple ds => some (!ds.isEmpty)
  | .dict _ => none
def truB (f : Ev → Rs B) : Ev → Rs Bool := bnd f fun b ρ => match b.val ρ with
  | some d => (match gTru d with | some c => .ok c ρ | none => .stk)
  | none => .stk
def andT (f g : Ev → Rs Bool) : Ev → Rs Bool := bnd f fun b ρ => if b = true then g ρ else .ok false ρ
def orT (f g : Ev → Rs Bool) : Ev → Rs Bool := bnd f fun b ρ => if b = true then .ok true ρ else g ρ
def notT (f : Ev → Rs Bool) : Ev → Rs Bool := bnd f fun b ρ => .ok (!b) ρ
def ifE {α : Type} (t : Ev → Rs Bool) (f g : Ev → Rs α) : Ev → Rs α := bnd t fun b ρ => if b = true then f ρ else g ρ
section
variable {X : Cx} {W : XW} {a b c : Expr} {pos : Pos} {fa fb fc : Ev → Rs B} {ft fu : Ev → Rs Bool}
theorem RpA.emp {K : PySem.W.Frag} {S : Hp} {vs : List V} {ds : List D} (r : RpA K S vs ds) : vs.isEmpty = ds.isEmpty := by cases r <;> rfl
theorem tru_of {S H : Hp} {v : V} {d : D} {k : Bool} (r : Rt X.K S H v d) (e : gTru d = some k) : TruV X.K v H k := by
  cases r with
  | non => cases e; rfl
  | bl b => cases e; rfl
  | int b => cases e; rfl
  | str y h =>
    unfold gTru at e
    split at e <;> try (cases e; done)
    all_goals simp_all
    exact ⟨e.1, e.2.symm⟩
  | lst h r =>
    cases e
    exact .inl ⟨_, h, by rw [r.emp]⟩
  | tup h h2 r =>
    cases e
    exact .inr (.inl ⟨_, SqT.of h2, by rw [r.emp]⟩)
  | dK _ _ _ => cases e
  | dT _ _ _ => cases e
theorem runC {g : D → D → Option Bool} {r : R2} (h : DoesC X g r) {σ : Sg} {H : Hp} {Q : VK} (q : tV X.K W (cmp2 g fa fb) σ H Q) : tOp r (tB' X.K W fa) (tB' X.K W fb) σ H Q := by
  obtain ⟨G, T, S, ρ, s, g'⟩ := q
  refine ⟨G, T, S, ρ, s, seq sid ?_ g'⟩
  intro a ρ1 z x S1 H1 s1 at1
  refine ⟨G, a.tm x ++ T, S1, ρ1, s1, seq sdr ?_ z⟩
  intro b ρ2 z2 y S2 H2 s2 at2
  split at z2
  · rename_i dx hx
    split at z2
    · rename_i dy hy
      split at z2
      · rename_i o ho
        have rx : Rt X.K S2 H2 x dx := B.rt s2 (fun p m => List.mem_append_right _ (List.mem_append_left _ m)) at1 hx
        have ry : Rt X.K S2 H2 y dy := B.rt s2 (fun p m => List.mem_append_left _ m) at2 hy
        exact h x y dx dy o S2 H2 Q s2.sub rx ry ho (z2 S2 H2 s2.dropL.dropL)
      · exact z2.elim
    · exact z2.elim
  · exact z2.elim
theorem tV_T {f : Ev → Rs Bool} {σ : Sg} {H : Hp} {Q : Bool → Hp → Prop} (q : tT X.K W f σ H Q) : tV X.K W f σ H (fun x H' => ∃ k, x = .bl k ∧ Q k H') := by
  obtain ⟨G, T, S, ρ, s, g⟩ := q
  refine ⟨G, T, S, ρ, s, ?_⟩
  cases e : f ρ with
  | ok b ρ' => rw [e] at g; exact fun S' H' s' => ⟨b, rfl, g S' H' s'⟩
  | er x ρ' => rw [e] at g; exact g
  | stk => rw [e] at g; exact g
theorem dv_cmp {op : CmpOp} {g : D → D → Option Bool} {r : R2} (ho : OpR X (compareOp op) r) (h : DoesC X g r) (ha : DB X W a fa) (hb : DB X W b fb) (hm : behindInMarks op b = false) : DV X W (.Compare a [op] [b] pos) (cmp2 g fa fb) :=
  PE.imp (pe_cmpR ho ha hb hm) fun _ _ _ q => runC h q
theorem dt_cmp {op : CmpOp} {g : D → D → Option Bool} {r : R2} (ho : OpR X (compareOp op) r) (h : DoesC X g r) (ha : DB X W a fa) (hb : DB X W b fb) (hm : behindInMarks op b = false) : DT X W (.Compare a [op] [b] pos) (cmp2 g fa fb) :=
  PT.imp (pt_cmpR ho ha hb hm) fun _ _ _ q => runC h (tV_T q)
theorem runCh {g g' : D → D → Option Bool} {r r' : R2} (h : DoesC X g r) (h' : DoesC X g' r') {σ : Sg} {H : Hp} {Q : VK} (q : tV X.K W (chn g g' fa fb fc) σ H Q) : tChain r r' (tB' X.K W fa) (tB' X.K W fb) (tB' X.K W fc) σ H Q := by
  obtain ⟨G, T, S, ρ, s, gg⟩ := q
  refine ⟨G, T, S, ρ, s, seq sid ?_ gg⟩
  intro a ρ1 z x S1 H1 s1 at1
  refine ⟨G, a.tm x ++ T, S1, ρ1, s1, seq sdr ?_ z⟩
  intro b ρ2 z2 y S2 H2 s2 at2
  split at z2
  · rename_i dx hx
    split at z2
    · rename_i dy hy
      have rx : Rt X.K S2 H2 x dx := B.rt s2 (fun p m => List.mem_append_right _ (List.mem_append_left _ m)) at1 hx
      have ry : Rt X.K S2 H2 y dy := B.rt s2 (fun p m => List.mem_append_left _ m) at2 hy
      split at z2
      · rename_i ho
        refine h x y dx dy true S2 H2 _ s2.sub rx ry ho ⟨true, rfl, ?_⟩
        rw [if_pos rfl]
        refine ⟨G, b.tm y ++ (a.tm x ++ T), S2, ρ2, s2, seq (fun ρ' S' H' s' => s'.dropL.dropL) ?_ z2⟩
        intro c ρ3 z3 w S3 H3 s3 at3
        split at z3
        · rename_i dy' dz hy' hz
          split at z3
          · rename_i d hd
            have ry' : Rt X.K S3 H3 y dy' := B.rt s3 (fun p m => List.mem_append_right _ (List.mem_append_left _ m)) at2 hy'
            have rz : Rt X.K S3 H3 w dz := B.rt s3 (fun p m => List.mem_append_left _ m) at3 hz
            exact h' y w dy' dz d S3 H3 Q s3.sub ry' rz hd (z3 S3 H3 s3.dropL.dropL.dropL)
          · exact z3.elim
        · exact z3.elim
      · rename_i ho
        refine h x y dx dy false S2 H2 _ s2.sub rx ry ho ⟨false, rfl, ?_⟩
        rw [if_neg Bool.false_ne_true]
        exact z2 S2 H2 s2.dropL.dropL
      · exact z2.elim
    · exact z2.elim
  · exact z2.elim
theorem dv_chn {op op' : CmpOp} {g g' : D → D → Option Bool} {r r' : R2} (ho : OpR X (compareOp op) r) (ho' : OpR X (compareOp op') r') (h : DoesC X g r) (h' : DoesC X g' r') (ha : DB X W a fa) (hb : DB X W b fb) (hc : DB X W c fc)
    (hm : lastMarks [op, op'] [b, c] = false) : DV X W (.Compare a [op, op'] [b, c] pos) (chn g g' fa fb fc) := PE.imp (pe_chain ho ho' ha hb hc hm) fun _ _ _ q => runCh h h' q
theorem dt_chn {op op' : CmpOp} {g g' : D → D → Option Bool} {r r' : R2} (ho : OpR X (compareOp op) r) (ho' : OpR X (compareOp op') r') (h : DoesC X g r) (h' : DoesC X g' r') (ha : DB X W a fa) (hb : DB X W b fb) (hc : DB X W c fc)
    (hm : lastMarks [op, op'] [b, c] = false) : DT X W (.Compare a [op, op'] [b, c] pos) (chn g g' fa fb fc) := PT.imp (pt_chain ho ho' ha hb hc hm) fun _ _ _ q => runCh h h' (tV_T q)
theorem de_v {f : Ev → Rs Bool} (h : DV X W a f) : DE X W a (bl f) := PE.imp h fun σ H Q ⟨G, T, S, ρ, s, g⟩ => by
  refine ⟨G, T, S, ρ, s, seq sid ?_ g⟩
  intro b ρ' z S' H' s'
  exact z _ S' H' (s'.push (.bl b))
theorem dv_e {f : Ev → Rs O} (h : DE X W a f) : DV X W a (asB f) := PE.imp h fun σ H Q ⟨G, T, S, ρ, s, g⟩ => by
  refine ⟨G, T, S, ρ, s, seq sid ?_ g⟩
  intro o ρ' z v S' H' s'
  split at z
  · rename_i b
    have e := (s'.rtT (v := v) (e := ow (.leaf (.bool b))) (by simp)).bl_of
    subst e
    exact z S' H' s'.drop1
  · exact z.elim
theorem dt_v {f : Ev → Rs Bool} (h : DV X W a f) (he : ∀ whole, isTrue a X.env whole = (do let v ← whole; standAt a.pos; holding [v] (truthy v))) : DT X W a f := PT.imp (pt_val h he) fun σ H Q q => tV_T q
theorem dt_b {f : Ev → Rs B} (h : DB X W a f) (he : ∀ whole, isTrue a X.env whole = (do let v ← whole; standAt a.pos; holding [v] (truthy v))) : DT X W a (truB f) := PT.imp (pt_truth h he) fun σ H Q ⟨G, T, S, ρ, s, g⟩ => by
  refine ⟨G, T, S, ρ, s, seq sid ?_ g⟩
  intro b ρ1 z x S1 H1 s1 at1
  split at z
  · rename_i d hd
    split at z
    · rename_i k hk
      exact ⟨k, tru_of (B.rt s1 (fun p m => List.mem_append_left _ m) at1 hd) hk, z S1 H1 s1.dropL⟩
    · exact z.elim
  · exact z.elim
/-! and, or, not -/
variable {rest : List Expr}
theorem dw_t (h : DW X W a ft) : DT X W a ft := h.pt
theorem dw_and1 (h : DT X W a ft) : DW X W (.BoolOp .And [a] pos) ft := pw_and1 h
theorem dw_or1 (h : DT X W a ft) : DW X W (.BoolOp .Or [a] pos) ft := pw_or1 h
theorem dw_and (ha : DT X W a ft) (hb : DW X W (.BoolOp .And (b :: rest) pos) fu) : DW X W (.BoolOp .And (a :: b :: rest) pos) (andT ft fu) := PW.imp (pw_and ha hb) fun σ H Q ⟨G, T, S, ρ, s, g⟩ => by
  refine ⟨G, T, S, ρ, s, seq sid ?_ g⟩
  intro b ρ' z S' H' s'
  cases b with
  | true => exact ⟨G, T, S', ρ', s', z⟩
  | false => exact z S' H' s'
theorem dw_or (ha : DT X W a ft) (hb : DW X W (.BoolOp .Or (b :: rest) pos) fu) : DW X W (.BoolOp .Or (a :: b :: rest) pos) (orT ft fu) := PW.imp (pw_or ha hb) fun σ H Q ⟨G, T, S, ρ, s, g⟩ => by
  refine ⟨G, T, S, ρ, s, seq sid ?_ g⟩
  intro b ρ' z S' H' s'
  cases b with
  | true => exact z S' H' s'
  | false => exact ⟨G, T, S', ρ', s', z⟩
theorem dt_not (h : DT X W a ft) : DT X W (.UnaryOp .Not a pos) (notT ft) := PT.imp (pt_not h) fun σ H Q ⟨G, T, S, ρ, s, g⟩ => by
  refine ⟨G, T, S, ρ, s, seq sid ?_ g⟩
  intro b ρ' z S' H' s'
  exact z S' H' s'
theorem dv_one {op} (h : DV X W a ft) : DV X W (.BoolOp op [a] pos) ft := pe_one h
theorem dv_and (ha : DV X W a ft) (hb : DV X W (.BoolOp .And (b :: rest) pos) fu) : DV X W (.BoolOp .And (a :: b :: rest) pos) (andT ft fu) := PE.imp (pe_and ha hb) fun σ H Q ⟨G, T, S, ρ, s, g⟩ => by
  refine ⟨G, T, S, ρ, s, seq sid ?_ g⟩
  intro b ρ' z S' H' s'
  refine ⟨b, rfl, ?_⟩
  cases b with
  | true => rw [if_pos rfl]; exact ⟨G, T, S', ρ', s', z⟩
  | false => rw [if_neg Bool.false_ne_true]; exact z S' H' s'
theorem dv_or (ha : DV X W a ft) (hb : DV X W (.BoolOp .Or (b :: rest) pos) fu) : DV X W (.BoolOp .Or (a :: b :: rest) pos) (orT ft fu) := PE.imp (pe_or ha hb) fun σ H Q ⟨G, T, S, ρ, s, g⟩ => by
  refine ⟨G, T, S, ρ, s, seq sid ?_ g⟩
  intro b ρ' z S' H' s'
  refine ⟨b, rfl, ?_⟩
  cases b with
  | true => rw [if_pos rfl]; exact z S' H' s'
  | false => rw [if_neg Bool.false_ne_true]; exact ⟨G, T, S', ρ', s', z⟩
theorem dv_not (h : DV X W a ft) : DV X W (.UnaryOp .Not a pos) (notT ft) := PE.imp (pe_not h) fun σ H Q ⟨G, T, S, ρ, s, g⟩ => by
  refine ⟨G, T, S, ρ, s, seq sid ?_ g⟩
  intro b ρ' z S' H' s'
  exact ⟨b, rfl, z S' H' s'⟩
theorem de_if {f g : Ev → Rs O} (ht : DT X W c ft) (ha : DE X W a f) (hb : DE X W b g) : DE X W (.IfExp c a b pos) (ifE ft f g) := PE.imp (pe_ifExp ht ha hb) fun σ H Q ⟨G, T, S, ρ, s, g⟩ => by
  refine ⟨G, T, S, ρ, s, seq sid ?_ g⟩
  intro b ρ' z S' H' s'
  cases b with
  | true => exact ⟨G, T, S', ρ', s', z⟩
  | false => exact ⟨G, T, S', ρ', s', z⟩
/-! ### subscripts, slices -/
def gIx : D → D → Option O
  | .list ds, .int i => (atI ds i).map .leaf
  | .tuple ds, .int i => (atI ds i).map .leaf
  | .str z, .int i => if z.length ≤ sizeLine then (atI z.cps.toList i).map fun c => .leaf (.str ⟨#[c]⟩) else none
  | .dict kvs, k => if kindOk kvs k = true then (lookD kvs k).map .leaf else none
  | _, _ => none
def rIxA (K : PySem.W.Frag) : R2 := fun x y H Q => rIx K x y H Q ∨ rDGet x y H Q
theorem ix_any (b : Bd X) : IxR X (rIxA X.K) := ix_seq.or (ix_dict b)
theorem RpA.atI {K : PySem.W.Frag} {S : Hp} {vs : List V} {ds : List D} (r : RpA K S vs ds) {i : Int} {d : D} (h : atI ds i = some d) : ∃ v, atI vs i = some v ∧ Rp K S v d := by
  unfold L2.atI at h ⊢
  rw [r.length]
  cases e : ixN ds.length i with
  | none => rw [e] at h; cases h
  | some j =>
    rw [e] at h
    exact r.get h
theorem okS_at {z : Str} (h : okS z = true) {i : Int} {c : Nat} (e : L2.atI z.cps.toList i = some c) : okS ⟨#[c]⟩ = true := by
  rw [okS_iff] at h ⊢
  intro d hd
  have : d = c := by simpa using hd
  subst this
  refine h d ?_
  unfold L2.atI at e
  cases q : ixN z.cps.toList.length i with
  | none => rw [q] at e; cases e
  | some j => rw [q] at e; exact List.mem_of_getElem? e
theorem does_ix : Does2 X gIx (rIxA X.K) := by
  intro x y dx dy o G T ρ σ S H Q s rx ry e q
  unfold gIx at e
  split at e
  · obtain ⟨d, hd, rfl⟩ := Option.map_eq_some_iff.mp e
    obtain ⟨a, xs, rfl, h1, r1⟩ := rx.lst_of
    obtain ⟨v, hv, rv⟩ := r1.atI hd
    exact .inl (.inl ⟨a, xs, _, v, rfl, ry.int_of, h1, hv, s.val rv q⟩)
  · obtain ⟨d, hd, rfl⟩ := Option.map_eq_some_iff.mp e
    obtain ⟨a, xs, rfl, h1, r1⟩ := rx.tup_of
    obtain ⟨v, hv, rv⟩ := r1.atI hd
    exact .inl (.inr (.inl ⟨a, xs, _, v, rfl, ry.int_of, h1, hv, s.val rv q⟩))
  · split at e
    · rename_i hz
      obtain ⟨c, hc, rfl⟩ := Option.map_eq_some_iff.mp e
      exact .inl (.inr (.inr ⟨_, _, c, rx.str_of, ry.int_of, hz, hc, s.val (.str _ (okS_at rx.str_ok hc)) q⟩))
    · cases e
  · split at e
    · rename_i hk
      obtain ⟨d, hd, rfl⟩ := Option.map_eq_some_iff.mp e
      obtain ⟨a, rfl, o, g, hl⟩ := Rt.dget rx ry hk
      rcases hl with ⟨h1, h2⟩ | ⟨w, d', h1, g', h2, r⟩
      · rw [hd] at h1; cases h1
      · rw [hd] at h2
        cases h2
        subst h1
        exact .inr ⟨a, w, rfl, g', s.val r q⟩
    · cases e
  · cases e
theorem de_ix (bd : Bd X) (ha : DB X W a fa) (hb : DB X W b fb) (hs : PlainIx b) : DE X W (.Subscript a b pos) (op2 gIx fa fb) := PE.imp (pe_ix (ix_any bd) ha hb hs) fun _ _ _ q => run2 does_ix q
/-! a slice's parts -/
def tOq (K : PySem.W.Frag) (W : XW) (f : Ev → Rs (Option Int)) : TO := fun σ H Q => ∃ G T S ρ, Stt K G T ρ σ S H ∧ GoR K W G T σ (fun i ρ' => ∀ S' H', Stt K G T ρ' σ S' H' → Q i H') (f ρ)
abbrev DO (X : Cx) (W : XW) (e : Option Expr) (f : Ev → Rs (Option Int)) : Prop := PO X e (tOq X.K W f)
theorem PO.imp {e : Option Expr} {t u : TO} (h : PO X e t) (k : ∀ σ H Q, u σ H Q → t σ H Q) : PO X e u := ⟨fun pins s σ H Q I q => h.run pins s σ H Q I (k σ H Q q)⟩
def noP : Ev → Rs (Option Int) := fun ρ => .ok none ρ
def aP (f : Ev → Rs B) : Ev → Rs (Option Int) := bnd f fun b ρ => match b.val ρ with
  | some (.int i) => .ok (some i) ρ
  | _ => .stk
theorem do_none : DO X W none noP := PO.imp po_none fun σ H Q ⟨G, T, S, ρ, s, g⟩ => g S H s
theorem do_some (h : DB X W a fa) : DO X W (some a) (aP fa) := PO.imp (po_some h) fun σ H Q ⟨G, T, S, ρ, s, g⟩ => by
  refine ⟨G, T, S, ρ, s, seq sid ?_ g⟩
  intro b ρ1 z x S1 H1 s1 at1
  split at z
  · rename_i i hi
    exact ⟨i, (B.rt s1 (fun p m => List.mem_append_left _ m) at1 hi).int_of, z S1 H1 s1.dropL⟩
  · exact z.elim
def cutD {α : Type} (xs : List α) (lo hi : Option Int) : List α := (xs.drop (HT.sIx xs.length 0 lo)).take (HT.sIx xs.length xs.length hi - HT.sIx xs.length 0 lo)
def gSl : D → Option Int → Option Int → Option O
  | .list ds, lo, hi => some (.lst (cutD ds lo hi))
  | .tuple ds, lo, hi => if HT.sIx ds.length 0 lo = 0 ∧ HT.sIx ds.length ds.length hi = ds.length then none else some (.leaf (.tuple (cutD ds lo hi)))
  | .str z, lo, hi => if z.length ≤ sizeLine then some (.leaf (.str (cutS z lo hi))) else none
  | _, _, _ => none
def slE (fa : Ev → Rs B) (fl fh : Ev → Rs (Option Int)) : Ev → Rs O := bnd fa fun a => bnd fl fun l => bnd fh fun h ρ => match a.val ρ with
  | some d => (match gSl d l h with | some o => .ok o ρ | none => .stk)
  | none => .stk
theorem RpA.cut {K : PySem.W.Frag} {S : Hp} {vs : List V} {ds : List D} (r : RpA K S vs ds) (lo hi : Option Int) : RpA K S (cutV vs lo hi) (cutD ds lo hi) := by
  unfold cutV cutD
  rw [r.length]
  exact (r.drop _).take _
theorem okS_cut {z : Str} (h : okS z = true) (lo hi : Option Int) : okS (cutS z lo hi) = true := by
  rw [okS_iff] at h ⊢
  intro c hc
  refine h c ?_
  have hc : c ∈ ((z.cps.toList.drop (HT.sIx z.length 0 lo)).take (HT.sIx z.length z.length hi - HT.sIx z.length 0 lo)) := by simpa [cutS] using hc
  exact List.mem_of_mem_drop (List.mem_of_mem_take hc)
def rSlA (K : PySem.W.Frag) : V → Option Int → Option Int → Hp → VK → Prop := fun x lo hi H Q => rSlL K x lo hi H Q ∨ rSlT K x lo hi H Q ∨ rSlS x lo hi H Q
theorem sl_any : SlR X (rSlA X.K) := sl_list.or (sl_tup.or sl_str)
theorem de_slice {lo hi : Option Expr} {p2 : Pos} {fl fh : Ev → Rs (Option Int)} (ha : DB X W a fa) (hl : DO X W lo fl) (hh : DO X W hi fh) : DE X W (.Subscript a (.Slice lo hi none p2) pos) (slE fa fl fh) :=
  PE.imp (pe_slice sl_any ha hl hh) fun σ H Q ⟨G, T, S, ρ, s, g⟩ => by
    refine ⟨G, T, S, ρ, s, seq sid ?_ g⟩
    intro b ρ1 z x S1 H1 s1 at1
    refine ⟨G, b.tm x ++ T, S1, ρ1, s1, seq sdr ?_ z⟩
    intro l ρ2 z2 S2 H2 s2
    refine ⟨G, b.tm x ++ T, S2, ρ2, s2, seq sdr ?_ z2⟩
    intro h ρ3 z3 S3 H3 s3
    have z3' : GoE X.K W G T σ Q (match b.val ρ3 with | some d => (match gSl d l h with | some o => .ok o ρ3 | none => .stk) | none => .stk) := z3
    split at z3'
    · rename_i d hd
      have r : Rt X.K S3 H3 x d := B.rt s3 (fun p m => List.mem_append_left _ m) at1 hd
      split at z3'
      · rename_i o ho
        have q : ∀ v S' H', Stt X.K G ((v, ow o) :: T) ρ3 σ S' H' → Q v H' := z3'
        unfold gSl at ho
        split at ho
        · cases ho
          obtain ⟨p, xs, rfl, h1, r1⟩ := r.lst_of
          exact .inl ⟨p, xs, rfl, h1, s3.dropL.newL (r1.cut l h) q⟩
        · split at ho
          · cases ho
          · rename_i hw
            cases ho
            obtain ⟨p, xs, rfl, h1, r1⟩ := r.tup_of
            exact .inr (.inl ⟨p, xs, rfl, h1, by rw [r1.length]; exact hw, s3.dropL.newT (r1.cut l h) q⟩)
        · split at ho
          · rename_i hz
            cases ho
            exact .inr (.inr ⟨_, r.str_of, hz, s3.dropL.val (.str _ (okS_cut r.str_ok l h)) q⟩)
          · cases ho
        · cases ho
      · exact z3'.elim
    · exact z3'.elim
end
end Y
/-! Y: displays, built-in functions -/
namespace Y
open PySem PySem.Spec PyProof.Rows L2

def tmpD : List B → Option (List D)
  | [] => some []
  | .tmp o :: bs => (match tmpD bs with | some ds => some (o.d :: ds) | none => none)
  | .slot _ :: _ => none
section
variable {K : PySem.W.Frag} {G : Fra} {T : List (V × E)} {ρ : Ev} {σ : Sg} {S H : Hp}
theorem Stt.freezeAll {vs : List V} {bs : List B} (h : AllAt σ vs bs) : ∀ {ds : List D} {S : Hp}, tmpD bs = some ds → Stt K G (tms vs bs ++ T) ρ σ S H → ∃ S', Stt K G T ρ σ S' H ∧ Same S S' ∧ RpA K S' vs ds := by
  induction h with
  | nil => intro ds S e s; cases e; exact ⟨S, s, Same.refl _, .nil⟩
  | @cons v b vs bs a h ih =>
    intro ds S e s
    cases b with
    | slot i => cases e
    | tmp o =>
      unfold tmpD at e
      cases e1 : tmpD bs with
      | none => rw [e1] at e; cases e
      | some es =>
        rw [e1] at e
        cases e
        have s' : Stt K G ((v, ow o) :: (tms vs bs ++ T)) ρ σ S H := s
        obtain ⟨S1, s1, ss1, r1⟩ := s'.freeze
        obtain ⟨S2, s2, ss2, r2⟩ := ih e1 s1.drop1
        exact ⟨S2, s2, ss1.trans ss2, .cons (r1.mono ss2) r2⟩
theorem AllAt.len {vs : List V} {bs : List B} (h : AllAt σ vs bs) : vs.length = bs.length := by
  induction h with
  | nil => rfl
  | cons _ _ ih => simp [ih]
end
def dispL (f : Ev → Rs (List B)) : Ev → Rs O := bnd f fun bs ρ => match tmpD bs with
  | some ds => if bs.length ≤ 1000 then .ok (.lst ds) ρ else .stk
  | none => .stk
def dispT (f : Ev → Rs (List B)) : Ev → Rs O := bnd f fun bs ρ => match tmpD bs with
  | some ds => if bs.length ≤ 1000 then .ok (.leaf (.tuple ds)) ρ else .stk
  | none => .stk
section
variable {X : Cx} {W : XW} {es : List Expr} {e a b : Expr} {pos : Pos} {f : Ev → Rs (List B)}
theorem le1000 {n : Nat} (h : n ≤ 1000) : n ≤ sizeLine := Nat.le_of_lt (small1000 h)
theorem de_list (h : DA X W es f) : DE X W (.List es pos) (dispL f) := PE.imp (pe_lst h) fun σ H Q ⟨G, T, S, ρ, s, g⟩ => by
  refine ⟨G, T, S, ρ, s, seq sid ?_ g⟩
  intro bs ρ1 z vs S1 H1 s1 at1
  split at z
  · rename_i ds hd
    split at z
    · rename_i hl
      obtain ⟨S2, s2, _, r2⟩ := Stt.freezeAll at1 hd s1
      exact ⟨by rw [at1.len]; exact le1000 hl, s2.newL r2 z⟩
    · exact z.elim
  · exact z.elim
theorem de_tuple {k : Nat} (h : DA X W es f) : DE X W (.Tuple es k pos) (dispT f) := PE.imp (pe_tup h) fun σ H Q ⟨G, T, S, ρ, s, g⟩ => by
  refine ⟨G, T, S, ρ, s, seq sid ?_ g⟩
  intro bs ρ1 z vs S1 H1 s1 at1
  split at z
  · rename_i ds hd
    split at z
    · rename_i hl
      obtain ⟨S2, s2, _, r2⟩ := Stt.freezeAll at1 hd s1
      exact ⟨by rw [at1.len]; exact le1000 hl, s2.newT r2 z⟩
    · exact z.elim
  · exact z.elim
def newD : Ev → Rs O := fun ρ => .ok (.dic []) ρ
theorem de_dict0 : DE X W (.Dict [] [] pos) newD := PE.imp pe_dnewK fun σ H Q ⟨G, T, S, ρ, s, g⟩ p n => g _ _ _ (s.make (o := .dic []) n (.dK upd_same (s.sub.free n) .nil))

/-! ### built-in functions, by data -/
def callL (g : List D → Option O) (f : Ev → Rs (List B)) : Ev → Rs O := bnd f fun bs ρ => match vals ρ bs with
  | some ds => (match g ds with | some o => .ok o ρ | none => .stk)
  | none => .stk
theorem runL {g : List D → Option O} {r : List V → Hp → VK → Prop} (h : DoesL X g r) {σ : Sg} {H : Hp} {Q : VK} (q : tE X.K W (callL g f) σ H Q) : tCB r (tA X.K W f) σ H Q := by
  obtain ⟨G, T, S, ρ, s, g'⟩ := q
  refine ⟨G, T, S, ρ, s, seq sid ?_ g'⟩
  intro bs ρ1 z vs S1 H1 s1 at1
  split at z
  · rename_i ds hd
    split at z
    · rename_i o ho
      exact h vs ds o G _ ρ1 σ S1 H1 Q s1 (at1.rt s1 (fun x m => List.mem_append_left _ m) hd) ho fun v S' H' s' => z v S' H' (s'.subT (List.Sublist.cons_cons _ (List.sublist_append_right _ _)))
    · exact z.elim
  · exact z.elim
theorem de_callB {x : Str} {p : Pos} {id : String} {g : List D → Option O} {r : List V → Hp → VK → Prop} (hc : CallR X (.builtin id) r) (h : DoesL X g r) (hg : Gl X x) (hm : X.mg x = none) (hv : bootBuiltins x = some (.builtin id)) (ha : DA X W (e :: es) f)
    (hn : x ≠ "__name__" := by decide) (hdb : (x == ("__debug__" : Str)) = false := by decide) (he : starEach (e :: es) X.env = (false, eval e X.env) :: starEach es X.env := by rfl) (hpl : (backTo pos (starEach es X.env)).any (·.1) = false := by rfl) :
    DE X W (.Call (.Name x p) (e :: es) [] pos) (callL g f) := PE.imp (pe_callB hc hg hm hv ha hn hdb he hpl) fun _ _ _ q => runL h q
theorem de_callTy {x : Str} {p : Pos} {id : String} {g : List D → Option O} {r : List V → Hp → VK → Prop} (hc : CallR X (.type id) r) (h : DoesL X g r) (hg : Gl X x) (hm : X.mg x = none) (hv : bootBuiltins x = some (.type id)) (ha : DA X W (e :: es) f)
    (hn : x ≠ "__name__" := by decide) (hdb : (x == ("__debug__" : Str)) = false := by decide) (he : starEach (e :: es) X.env = (false, eval e X.env) :: starEach es X.env := by rfl) (hpl : (backTo pos (starEach es X.env)).any (·.1) = false := by rfl) :
    DE X W (.Call (.Name x p) (e :: es) [] pos) (callL g f) := PE.imp (pe_callTy hc hg hm hv ha hn hdb he hpl) fun _ _ _ q => runL h q
theorem RtA.one {K : PySem.W.Frag} {S H : Hp} {xs : List V} {d : D} (h : RtA K S H xs [d]) : ∃ x, xs = [x] ∧ Rt K S H x d := by
  cases h with
  | cons a b => cases b; exact ⟨_, rfl, a⟩
theorem RtA.two {K : PySem.W.Frag} {S H : Hp} {xs : List V} {d d' : D} (h : RtA K S H xs [d, d']) : ∃ x y, xs = [x, y] ∧ Rt K S H x d ∧ Rt K S H y d' := by
  cases h with
  | cons a b => cases b with | cons c e => cases e; exact ⟨_, _, rfl, a, c⟩
/-! len -/
def gLen : List D → Option O
  | [.str y] => if y.length ≤ sizeLine then some (.leaf (.int y.length)) else none
  | [.list ds] => some (.leaf (.int ds.length))
  | [.tuple ds] => some (.leaf (.int ds.length))
  | _ => none
theorem does_len : DoesL X gLen (fun xs H Q => ∃ x n, xs = [x] ∧ LenV X.K x H n ∧ Q (.int n) H) := by
  intro xs ds o G T ρ σ S H Q s r e q
  unfold gLen at e
  split at e
  · obtain ⟨x, rfl, rx⟩ := r.one
    split at e
    · rename_i h
      cases e
      have := rx.str_of
      subst this
      exact ⟨_, _, rfl, ⟨h, rfl⟩, s.val (.int _) q⟩
    · cases e
  · obtain ⟨x, rfl, rx⟩ := r.one
    cases e
    obtain ⟨a, xs, rfl, h1, r1⟩ := rx.lst_of
    exact ⟨_, xs.length, rfl, .inl ⟨xs, h1, rfl⟩, by rw [r1.length]; exact s.val (.int _) q⟩
  · obtain ⟨x, rfl, rx⟩ := r.one
    cases e
    obtain ⟨a, xs, rfl, h1, r1⟩ := rx.tup_of
    exact ⟨_, xs.length, rfl, .inr ⟨xs, h1, rfl⟩, by rw [r1.length]; exact s.val (.int _) q⟩
  · cases e
/-! int, abs, str -/
def gInt : List D → Option O
  | [.int i] => some (.leaf (.int i))
  | [.bool b] => some (.leaf (.int (if b then 1 else 0)))
  | _ => none
theorem does_int : DoesL X gInt (fun xs H Q => (∃ i, xs = [.int i] ∧ Q (.int i) H) ∨ ∃ k, xs = [.bl k] ∧ Q (.int (if k then 1 else 0)) H) := by
  intro xs ds o G T ρ σ S H Q s r e q
  unfold gInt at e
  split at e
  · obtain ⟨x, rfl, rx⟩ := r.one
    cases e
    have := rx.int_of
    subst this
    exact .inl ⟨_, rfl, s.val (.int _) q⟩
  · obtain ⟨x, rfl, rx⟩ := r.one
    cases e
    have := rx.bl_of
    subst this
    exact .inr ⟨_, rfl, s.val (.int _) q⟩
  · cases e
def gAbs : List D → Option O
  | [.int i] => some (.leaf (.int (if i < 0 then -i else i)))
  | _ => none
theorem does_abs : DoesL X gAbs (fun xs H Q => ∃ i, xs = [.int i] ∧ Q (.int (if i < 0 then -i else i)) H) := by
  intro xs ds o G T ρ σ S H Q s r e q
  unfold gAbs at e
  split at e
  · obtain ⟨x, rfl, rx⟩ := r.one
    cases e
    have := rx.int_of
    subst this
    exact ⟨_, rfl, s.val (.int _) q⟩
  · cases e
def gStr : List D → Option O
  | [.int i] => if i.natAbs.log2 < 1920 ∧ okS (Str.ofString (toString i)) = true then some (.leaf (.str (Str.ofString (toString i)))) else none
  | _ => none
theorem does_str : DoesL X gStr (fun xs H Q => ∃ i, xs = [.int i] ∧ i.natAbs.log2 < 1920 ∧ Q (.str (toString i)) H) := by
  intro xs ds o G T ρ σ S H Q s r e q
  unfold gStr at e
  split at e
  · obtain ⟨x, rfl, rx⟩ := r.one
    split at e
    · rename_i h
      cases e
      have := rx.int_of
      subst this
      exact ⟨_, rfl, h.1, s.val (.str _ h.2) q⟩
    · cases e
  · cases e
/-! sum, max, min, all, any -/
def intsD : List D → Option (List Int)
  | [] => some []
  | .int i :: ds => (match intsD ds with | some ns => some (i :: ns) | none => none)
  | _ :: _ => none
def boolsD : List D → Option (List Bool)
  | [] => some []
  | .bool i :: ds => (match boolsD ds with | some ns => some (i :: ns) | none => none)
  | _ :: _ => none
theorem intsD_map : ∀ ns : List Int, intsD (ns.map .int) = some ns
  | [] => rfl
  | n :: ns => by show (match intsD (ns.map .int) with | some ns => some (n :: ns) | none => none) = _; rw [intsD_map ns]
theorem boolsD_map : ∀ ns : List Bool, boolsD (ns.map .bool) = some ns
  | [] => rfl
  | n :: ns => by show (match boolsD (ns.map .bool) with | some ns => some (n :: ns) | none => none) = _; rw [boolsD_map ns]
theorem RpA.ints {K : PySem.W.Frag} {S : Hp} : ∀ {vs : List V} {ds : List D}, RpA K S vs ds → ∀ {ns : List Int}, intsD ds = some ns → vs = ns.map V.int
  | _, _, .nil, _, e => by cases e; rfl
  | _, d :: ds, .cons a b, ns, e => by
    cases d with
    | int i =>
      unfold intsD at e
      cases e1 : intsD ds with
      | none => simp only [e1] at e; cases e
      | some ms =>
        simp only [e1] at e
        cases e
        cases a
        rw [RpA.ints b e1]
        rfl
    | _ => cases e
theorem RpA.bools {K : PySem.W.Frag} {S : Hp} : ∀ {vs : List V} {ds : List D}, RpA K S vs ds → ∀ {ns : List Bool}, boolsD ds = some ns → vs = ns.map V.bl
  | _, _, .nil, _, e => by cases e; rfl
  | _, d :: ds, .cons a b, ns, e => by
    cases d with
    | bool i =>
      unfold boolsD at e
      cases e1 : boolsD ds with
      | none => simp only [e1] at e; cases e
      | some ms =>
        simp only [e1] at e
        cases e
        cases a
        rw [RpA.bools b e1]
        rfl
    | _ => cases e
def gSum : List D → Option O
  | [.list ds] => (intsD ds).map fun ns => .leaf (.int ns.sum)
  | _ => none
theorem does_sum : DoesL X gSum (rSum X.K) := by
  intro xs ds o G T ρ σ S H Q s r e q
  unfold gSum at e
  split at e
  · obtain ⟨x, rfl, rx⟩ := r.one
    obtain ⟨ns, hn, rfl⟩ := Option.map_eq_some_iff.mp e
    obtain ⟨a, xs, rfl, h1, r1⟩ := rx.lst_of
    have := r1.ints hn
    subst this
    exact ⟨a, ns, rfl, h1, s.val (.int _) q⟩
  · cases e
/-- the greatest, the least of some ints -/
def maxI : List Int → Int
  | [] => 0
  | [a] => a
  | a :: r => max a (maxI r)
def minI : List Int → Int
  | [] => 0
  | [a] => a
  | a :: r => min a (minI r)
theorem maxI_spec : ∀ (ns : List Int), ns ≠ [] → maxI ns ∈ ns ∧ ∀ y ∈ ns, y ≤ maxI ns
  | [], h => absurd rfl h
  | [a], _ => by simp [maxI]
  | a :: b :: r, _ => by
    obtain ⟨h1, h2⟩ := maxI_spec (b :: r) (by simp)
    show max a (maxI (b :: r)) ∈ _ ∧ _
    constructor
    · rcases Int.le_total a (maxI (b :: r)) with h | h
      · rw [Int.max_eq_right h]; exact List.mem_cons_of_mem _ h1
      · rw [Int.max_eq_left h]; exact List.mem_cons_self
    · intro y hy
      show y ≤ max a (maxI (b :: r))
      rcases List.mem_cons.mp hy with rfl | hy
      · exact Int.le_max_left _ _
      · exact Int.le_trans (h2 y hy) (Int.le_max_right _ _)
theorem minI_spec : ∀ (ns : List Int), ns ≠ [] → minI ns ∈ ns ∧ ∀ y ∈ ns, minI ns ≤ y
  | [], h => absurd rfl h
  | [a], _ => by simp [minI]
  | a :: b :: r, _ => by
    obtain ⟨h1, h2⟩ := minI_spec (b :: r) (by simp)
    show min a (minI (b :: r)) ∈ _ ∧ _
    constructor
    · rcases Int.le_total a (minI (b :: r)) with h | h
      · rw [Int.min_eq_left h]; exact List.mem_cons_self
      · rw [Int.min_eq_right h]; exact List.mem_cons_of_mem _ h1
    · intro y hy
      show min a (minI (b :: r)) ≤ y
      rcases List.mem_cons.mp hy with rfl | hy
      · exact Int.min_le_left _ _
      · exact Int.le_trans (Int.min_le_right _ _) (h2 y hy)
def gMax : List D → Option O
  | [.list ds] => (match intsD ds with | some (n :: ns) => some (.leaf (.int (maxI (n :: ns)))) | _ => none)
  | [.int a, .int b] => some (.leaf (.int (max a b)))
  | _ => none
def gMinI : List D → Option O
  | [.list ds] => (match intsD ds with | some (n :: ns) => some (.leaf (.int (minI (n :: ns)))) | _ => none)
  | [.int a, .int b] => some (.leaf (.int (min a b)))
  | _ => none
def rMaxG (K : PySem.W.Frag) : List V → Hp → VK → Prop := fun xs H Q => rMax K xs H Q ∨ ∃ i j, xs = [.int i, .int j] ∧ Q (.int (if j > i then j else i)) H
def rMinG (K : PySem.W.Frag) : List V → Hp → VK → Prop := fun xs H Q => rMin K xs H Q ∨ ∃ i j, xs = [.int i, .int j] ∧ Q (.int (if j < i then j else i)) H
theorem cr_maxG (b : Bd X) : CallR X (.builtin "max") (rMaxG X.K) := (cr_max b.calm).or (call_max2 b.calm)
theorem cr_minG (b : Bd X) : CallR X (.builtin "min") (rMinG X.K) := (cr_min b.calm).or (call_min2 b.calm)
theorem does_max : DoesL X gMax (rMaxG X.K) := by
  intro xs ds o G T ρ σ S H Q s r e q
  unfold gMax at e
  split at e
  · obtain ⟨x, rfl, rx⟩ := r.one
    split at e
    · rename_i n ns hn
      cases e
      obtain ⟨a, xs, rfl, h1, r1⟩ := rx.lst_of
      have := r1.ints hn
      subst this
      refine .inl ⟨a, n :: ns, rfl, h1, by simp, fun m hm hle => ?_⟩
      obtain ⟨k1, k2⟩ := maxI_spec (n :: ns) (by simp)
      have : m = maxI (n :: ns) := Int.le_antisymm (k2 m hm) (hle _ k1)
      subst this
      exact s.val (.int _) q
    · cases e
  · obtain ⟨x, y, rfl, rx, ry⟩ := r.two
    cases e
    have h1 := rx.int_of
    have h2 := ry.int_of
    subst h1 h2
    rename_i a b
    refine .inr ⟨a, b, rfl, ?_⟩
    have : (if b > a then b else a) = max a b := by
      split <;> omega
    rw [this]
    exact s.val (.int _) q
  · cases e
theorem does_minI : DoesL X gMinI (rMinG X.K) := by
  intro xs ds o G T ρ σ S H Q s r e q
  unfold gMinI at e
  split at e
  · obtain ⟨x, rfl, rx⟩ := r.one
    split at e
    · rename_i n ns hn
      cases e
      obtain ⟨a, xs, rfl, h1, r1⟩ := rx.lst_of
      have := r1.ints hn
      subst this
      refine .inl ⟨a, n :: ns, rfl, h1, by simp, fun m hm hle => ?_⟩
      obtain ⟨k1, k2⟩ := minI_spec (n :: ns) (by simp)
      have : m = minI (n :: ns) := Int.le_antisymm (hle _ k1) (k2 m hm)
      subst this
      exact s.val (.int _) q
    · cases e
  · obtain ⟨x, y, rfl, rx, ry⟩ := r.two
    cases e
    have h1 := rx.int_of
    have h2 := ry.int_of
    subst h1 h2
    rename_i a b
    refine .inr ⟨a, b, rfl, ?_⟩
    have : (if b < a then b else a) = min a b := by
      split <;> omega
    rw [this]
    exact s.val (.int _) q
  · cases e
def gAll : List D → Option O
  | [.list ds] => (boolsD ds).map fun ns => .leaf (.bool (ns.all id))
  | _ => none
def gAny : List D → Option O
  | [.list ds] => (boolsD ds).map fun ns => .leaf (.bool (ns.any id))
  | _ => none
theorem does_all : DoesL X gAll (rAll X.K) := by
  intro xs ds o G T ρ σ S H Q s r e q
  unfold gAll at e
  split at e
  · obtain ⟨x, rfl, rx⟩ := r.one
    obtain ⟨ns, hn, rfl⟩ := Option.map_eq_some_iff.mp e
    obtain ⟨a, xs, rfl, h1, r1⟩ := rx.lst_of
    have := r1.bools hn
    subst this
    exact ⟨a, ns, rfl, h1, s.val (.bl _) q⟩
  · cases e
theorem does_any : DoesL X gAny (rAny X.K) := by
  intro xs ds o G T ρ σ S H Q s r e q
  unfold gAny at e
  split at e
  · obtain ⟨x, rfl, rx⟩ := r.one
    obtain ⟨ns, hn, rfl⟩ := Option.map_eq_some_iff.mp e
    obtain ⟨a, xs, rfl, h1, r1⟩ := rx.lst_of
    have := r1.bools hn
    subst this
    exact ⟨a, ns, rfl, h1, s.val (.bl _) q⟩
  · cases e
/-! list, tuple -/
def gList : List D → Option O
  | [.list ds] => some (.lst ds)
  | [.tuple ds] => some (.lst ds)
  | _ => none
theorem does_list : DoesL X gList (fun xs H Q => ∃ p ys, xs = [.ref p] ∧ (SqL X.K H p ys ∨ SqT X.K H p ys) ∧ ∀ l, H l = none → Q (.ref l) (upd H l (.lst ys))) := by
  intro xs ds o G T ρ σ S H Q s r e q
  unfold gList at e
  split at e
  · obtain ⟨x, rfl, rx⟩ := r.one
    cases e
    obtain ⟨a, xs, rfl, h1, r1⟩ := rx.lst_of
    exact ⟨a, xs, rfl, .inl h1, s.newL r1 q⟩
  · obtain ⟨x, rfl, rx⟩ := r.one
    cases e
    obtain ⟨a, xs, rfl, h1, r1⟩ := rx.tup_of
    exact ⟨a, xs, rfl, .inr h1, s.newL r1 q⟩
  · cases e
def gTuple : List D → Option O
  | [.list ds] => some (.leaf (.tuple ds))
  | [.tuple ds] => some (.leaf (.tuple ds))
  | _ => none
theorem does_tuple : DoesL X gTuple (fun xs H Q => ∃ p ys, xs = [.ref p] ∧ ((SqL X.K H p ys ∧ ∀ l, H l = none → Q (.ref l) (upd H l (.tup ys))) ∨ (SqT X.K H p ys ∧ Q (.ref p) H))) := by
  intro xs ds o G T ρ σ S H Q s r e q
  unfold gTuple at e
  split at e
  · obtain ⟨x, rfl, rx⟩ := r.one
    cases e
    obtain ⟨a, xs, rfl, h1, r1⟩ := rx.lst_of
    exact ⟨a, xs, rfl, .inl ⟨h1, s.newT r1 q⟩⟩
  · obtain ⟨x, rfl, rx⟩ := r.one
    cases e
    obtain ⟨a, xs, rfl, hS, h1, r1⟩ := rx.tup_S
    exact ⟨a, xs, rfl, .inr ⟨SqT.of h1, s.val (.tup hS r1) q⟩⟩
  · cases e
/-! sorted -/
def sortOk (ds : List D) : Bool := (ds.all fun d => ds.all fun e => PySem.W.alike d e) && ds.all (fits 60) && ((ds.all fun d => match d with | .tuple (_ :: _) => true | _ => false) || ds.all fun d => match d with | .tuple _ => false | .none => false | _ => true)
def sortD (ds : List D) : List D := ds.mergeSort (PySem.W.dataLe false id)
def gSorted : List D → Option O
  | [.list ds] => if sortOk ds = true then some (.lst (sortD ds)) else none
  | _ => none
def rSortD (K : PySem.W.Frag) : List V → Hp → VK → Prop := fun vs H Q => ∃ (a : Addr) (xs : List V) (ds : List D) (R : V → D → Prop), vs = [V.ref a] ∧ SqL K H a xs ∧ DpAll K H xs ds ∧ sortOk ds = true ∧ (∀ d ∈ ds, d.depth ≤ 60) ∧ Paired R xs ds ∧
  ∀ (ys : List V) (p : Addr), Paired R ys (sortD ds) → H p = none → Q (.ref p) (upd H p (.lst ys))
theorem each_reads {pins : List (Addr × Obj)} {σ : Sg} {H : Hp} {s : Shared} (I : Inv X pins σ H s) : ∀ {ds : List D} {xs : List V} {its : List Value}, DpAll X.K H xs ds → Vals xs its → PySem.W.EachIs (fun v b => ∃ as, Reads s.heap v (id b) as) its ds
  | [], _, _, h, r => by cases h; cases r; exact .nil
  | d :: ds, _, _, h, r => by
    cases h with
    | cons a b =>
      cases r with
      | cons r1 r2 => exact .cons (Dp.reads I d _ _ a r1) (each_reads I b r2)
theorem each_pair {R : V → D → Prop} : ∀ {ds : List D} {xs : List V} {its : List Value}, Paired R xs ds → Vals xs its → PySem.W.EachIs (fun v d => ∃ x, RelV x v ∧ R x d) its ds
  | [], _, _, h, r => by cases h; cases r; exact .nil
  | d :: ds, _, _, h, r => by
    cases h with
    | cons a b =>
      cases r with
      | cons r1 r2 => exact .cons ⟨_, r1, a⟩ (each_pair b r2)
theorem pair_each {R : V → D → Prop} : ∀ {ds : List D} {its : List Value}, PySem.W.EachIs (fun v d => ∃ x, RelV x v ∧ R x d) its ds → ∃ ys, Vals ys its ∧ Paired R ys ds
  | [], _, h => by cases h; exact ⟨[], .nil, .nil⟩
  | d :: ds, _, h => by
    cases h with
    | cons a b =>
      obtain ⟨x, r, q⟩ := a
      obtain ⟨ys, r2, q2⟩ := pair_each b
      exact ⟨x :: ys, .cons r r2, .cons q q2⟩
theorem RpA.paired {K : PySem.W.Frag} {S : Hp} : ∀ {vs : List V} {ds : List D}, RpA K S vs ds → Paired (Rp K S) vs ds
  | _, _, .nil => .nil
  | _, _, .cons a b => .cons a (RpA.paired b)
theorem RpA.ofPaired {K : PySem.W.Frag} {S : Hp} : ∀ {vs : List V} {ds : List D}, Paired (Rp K S) vs ds → RpA K S vs ds
  | _, _, .nil => .nil
  | _, _, .cons a b => .cons a (RpA.ofPaired b)
theorem cr_sortD (b : Bd X) : CallR X (.builtin "sorted") (rSortD X.K) := by
  intro pins s σ H vs us Q I r h
  obtain ⟨a, xs, ds, R, rfl, hs, hd, hok, hdep, hp, q⟩ := h
  obtain ⟨its, rv, hl, hz⟩ := I.list hs
  rw [Vals.ref1 r]
  have hb := b.un
  unfold sortOk at hok
  simp only [Bool.and_eq_true, Bool.or_eq_true, List.all_eq_true] at hok
  obtain ⟨⟨h1, h2⟩, h3⟩ := hok
  have hlen : xs.length = ds.length := Paired.length hp
  refine PySem.W.sorted_data (enc := id) hl.isList (each_pair hp rv) (each_reads I hd rv) ?_ ?_ (by omega) (fun d m => ?_) fun out ho eo => ?_
  · rw [List.map_id]
    exact fun d m e m' => h1 d m e m'
  · rw [List.map_id]
    rcases h3 with h3 | h3
    · refine .inl fun d m => ?_
      have := h3 d m
      split at this
      · exact ⟨_, _, rfl⟩
      · cases this
    · refine .inr fun d m => ?_
      have := h3 d m
      split at this
      · cases this
      · cases this
      · rename_i k1 k2
        exact ⟨fun z => k2 z, fun ys z => k1 ys z⟩
  · have := hdep d m
    show X.A.units + 2 + d.depth < cLine
    omega
  · obtain ⟨ys, ry, py⟩ := pair_each eo
    obtain ⟨ep, he'⟩ := PyProof.Rows.sortedAll_at s.heap its out.toArray
    have hl2 : ys.length = out.length := ry.length
    exact ⟨.ref _, upd H (s.heap.objs.size + 1) (.lst ys), I.laid (t' := s.toks) (fun _ _ => PyProof.Rows.sortedAll_old) (Nat.le_succ _) ⟨by omega, out, ep, ry, he'⟩, rfl, q ys _ py (I.hok.fresh (Nat.le_succ _))⟩
theorem does_sorted : DoesL X gSorted (rSortD X.K) := by
  intro xs ds o G T ρ σ S H Q s r e q
  unfold gSorted at e
  split at e
  · obtain ⟨x, rfl, rx⟩ := r.one
    split at e
    · rename_i ds h
      cases e
      obtain ⟨a, xs, rfl, h1, r1⟩ := rx.lst_of
      have hf : ∀ d ∈ ds, fits 60 d = true := by
        unfold sortOk at h
        simp only [Bool.and_eq_true, List.all_eq_true] at h
        exact h.1.2
      obtain ⟨d1, _, d3⟩ := RpA.dp 60 (r1.mono s.sub) hf
      have dep : ∀ (ds : List D), PyData.depthAll ds ≤ 60 → ∀ d ∈ ds, d.depth ≤ 60 := by
        intro ds
        induction ds with
        | nil => intro _ d m; cases m
        | cons x xs ih =>
          intro hle d m
          unfold PyData.depthAll at hle
          rcases List.mem_cons.mp m with rfl | m
          · omega
          · exact ih (by omega) d m
      refine ⟨a, xs, ds, Rp X.K S, rfl, h1, d1, h, dep ds d3, r1.paired, fun ys p hp n => ?_⟩
      exact s.newL (RpA.ofPaired hp) q p n
    · cases e
  · cases e
end
end Y
/-! Y: targets, statements, loops -/
namespace Y
open PySem PySem.Spec PyProof.Rows L2

/-! ### targets -/
/-- what fails behind a store fails at other slots -/
def GoG {α : Type} (K : PySem.W.Frag) (W : XW) (G : Fra) (T : List (V × E)) (P : α → Ev → Prop) : Rs α → Prop
  | .ok a ρ' => P a ρ'
  | .er x ρ' => ∀ σ' S' H', Stt K G T ρ' σ' S' H' → W x σ' H'
  | .stk => False
def tG (K : PySem.W.Frag) (W : XW) (g : O → Ev → Rs Unit) : TG := fun v σ H Q => ∃ G T S ρ o, Stt K G ((v, ow o) :: T) ρ σ S H ∧ GoG K W G T (fun _ ρ' => ∀ σ' S' H', Stt K G T ρ' σ' S' H' → Q σ' H') (g o ρ)
def lfs : List V → List D → List (V × E)
  | v :: vs, d :: ds => (v, lf d) :: lfs vs ds
  | _, _ => []
def tGs (K : PySem.W.Frag) (W : XW) (g : List D → Ev → Rs Unit) : TGs := fun vs σ H Q => ∃ G T S ρ ds, vs.length = ds.length ∧ Stt K G (lfs vs ds ++ T) ρ σ S H ∧ GoG K W G T (fun _ ρ' => ∀ σ' S' H', Stt K G T ρ' σ' S' H' → Q σ' H') (g ds ρ)
abbrev DG' (X : Cx) (W : XW) (e : Expr) (g : O → Ev → Rs Unit) : Prop := PG X e (tG X.K W g)
abbrev DGs (X : Cx) (W : XW) (es : List Expr) (g : List D → Ev → Rs Unit) : Prop := PGs X es (tGs X.K W g)
theorem PG.imp {X : Cx} {e : Expr} {t u : TG} (h : PG X e t) (k : ∀ v σ H Q, u v σ H Q → t v σ H Q) : PG X e u := ⟨fun pins s σ H v w Q I r q => h.run pins s σ H v w Q I r (k v σ H Q q)⟩
theorem PGs.imp {X : Cx} {e : List Expr} {t u : TGs} (h : PGs X e t) (k : ∀ v σ H Q, u v σ H Q → t v σ H Q) : PGs X e u := ⟨fun pins s σ H v w Q I r q => h.run pins s σ H v w Q I r (k v σ H Q q)⟩
theorem PG.or {X : Cx} {e : Expr} {t u : TG} (h : PG X e t) (h' : PG X e u) : PG X e (fun v σ H Q => t v σ H Q ∨ u v σ H Q) := ⟨fun pins s σ H v w Q I r q => by
  rcases q with q | q
  · exact h.run pins s σ H v w Q I r q
  · exact h'.run pins s σ H v w Q I r q⟩
def gN (i : Nat) : O → Ev → Rs Unit := fun o ρ => if i < ρ.length then .ok () (ρ.set i (some (ow o))) else .stk
def gNilS : List D → Ev → Rs Unit := fun ds ρ => match ds with
  | [] => .ok () ρ
  | _ => .stk
def gConsS (g : O → Ev → Rs Unit) (r : List D → Ev → Rs Unit) : List D → Ev → Rs Unit := fun ds ρ => match ds with
  | d :: ds => (match g (.leaf d) ρ with | .ok _ ρ' => r ds ρ' | .er x ρ' => .er x ρ' | .stk => .stk)
  | [] => .stk
def gTupS (n : Nat) (r : List D → Ev → Rs Unit) : O → Ev → Rs Unit := fun o ρ => match o with
  | .leaf (.tuple ds) => if ds.length = n then r ds ρ else .stk
  | .leaf (.list ds) => if ds.length = n then r ds ρ else .stk
  | .lst ds => if ds.length = n then r ds ρ else .stk
  | _ => .stk
section
variable {X : Cx} {W : XW} {e : Expr} {es : List Expr} {pos : Pos} {g : O → Ev → Rs Unit} {r : List D → Ev → Rs Unit}
theorem dg_name {i : Nat} (h : PG X e (gName i)) : DG' X W e (gN i) := PG.imp h fun v σ H Q ⟨G, T, S, ρ, o, s, k⟩ => by
  unfold gN at k
  split at k
  · rename_i hi
    exact k _ _ _ (s.store (by rw [s.len]; exact hi))
  · exact k.elim
theorem dgs_nil : DGs X W [] gNilS := PGs.imp pgs_nil fun vs σ H Q ⟨G, T, S, ρ, ds, hl, s, k⟩ => by
  unfold gNilS at k
  split at k
  · cases vs with
    | nil => exact ⟨rfl, k _ _ _ s⟩
    | cons _ _ => simp at hl
  · exact k.elim
theorem dgs_cons (h1 : DG' X W e g) (h2 : DGs X W es r) (hs : (assignEach (e :: es) X.env).map (·.2) = assign e X.env :: (assignEach es X.env).map (·.2) := by rfl) : DGs X W (e :: es) (gConsS g r) := PGs.imp (pgs_cons h1 h2 hs) fun vs σ H Q ⟨G, T, S, ρ, ds, hl, s, k⟩ => by
  cases ds with
  | nil => exact k.elim
  | cons d ds =>
    cases vs with
    | nil => simp at hl
    | cons v vs =>
      refine ⟨v, vs, rfl, G, lfs vs ds ++ T, S, ρ, .leaf d, s, ?_⟩
      have k : GoG X.K W G T (fun _ ρ' => ∀ σ' S' H', Stt X.K G T ρ' σ' S' H' → Q σ' H') (match g (.leaf d) ρ with | .ok _ ρ' => r ds ρ' | .er x ρ' => .er x ρ' | .stk => .stk) := k
      cases e1 : g (.leaf d) ρ with
      | ok a ρ' =>
        rw [e1] at k
        exact fun σ' S' H' s' => ⟨G, T, S', ρ', ds, by simpa using hl, s', k⟩
      | er x ρ' =>
        rw [e1] at k
        exact fun σ' S' H' s' => k σ' S' H' s'.dropL
      | stk => rw [e1] at k; exact k
theorem Stt.pushAll {K : PySem.W.Frag} {G : Fra} {T : List (V × E)} {ρ : Ev} {σ : Sg} {S H : Hp} : ∀ {vs : List V} {ds : List D}, RpA K S vs ds → Stt K G T ρ σ S H → Stt K G (lfs vs ds ++ T) ρ σ S H
  | _, _, .nil, s => s
  | _, _, .cons a b, s => (Stt.pushAll b s).push a
def anyTup (K : PySem.W.Frag) (n : Nat) (t : TGs) : TG := fun v σ H Q => gTup K n t v σ H Q ∨ gUnl K n t v σ H Q
theorem dg_tup {k n : Nat} (b : Bd X) (h : DGs X W es r) (hn : (assignEach es X.env).length = n := by rfl) (hst : (assignEach es X.env).findIdx? (·.1) = none := by rfl) : DG' X W (.Tuple es k pos) (gTupS n r) :=
  PG.imp (PG.or (pg_tup b.calm h hn hst) (pg_unl b.calm h hn hst)) fun v σ H Q ⟨G, T, S, ρ, o, s, q⟩ => by
    have hr := s.rtT (v := v) (e := ow o) (by simp)
    unfold gTupS at q
    split at q
    · rename_i ds
      split at q
      · rename_i hl
        obtain ⟨a, xs, rfl, h1, r1⟩ := hr.tup_of
        refine .inl ⟨a, xs, rfl, h1, by rw [r1.length]; exact hl, G, T, S, ρ, ds, r1.length, s.drop1.pushAll r1, q⟩
      · exact q.elim
    · rename_i ds
      split at q
      · rename_i hl
        obtain ⟨a, xs, rfl, h1, r1⟩ := hr.lst_of
        refine .inr ⟨a, xs, rfl, h1, by rw [r1.length]; exact hl, G, T, S, ρ, ds, r1.length, s.drop1.pushAll r1, q⟩
      · exact q.elim
    · rename_i ds
      split at q
      · rename_i hl
        obtain ⟨a, xs, rfl, h1, r1⟩ := hr.lst_of
        refine .inr ⟨a, xs, rfl, h1, by rw [r1.length]; exact hl, G, T, S, ρ, ds, r1.length, s.drop1.pushAll r1, q⟩
      · exact q.elim
    · exact q.elim
/-! ### stores by subscript -/
/-- a dict with a new value -/
def putD (kvs : List (D × D)) (k d : D) : List (D × D) := if (lookD kvs k).isSome = true then kvs.map (fun p => if PyData.eqv p.1 k = true then (p.1, d) else p) else kvs ++ [(k, d)]
def upC : O → D → D → Option O
  | .lst ds, .int i, d => (ixN ds.length i).map fun n => .lst (ds.set n d)
  | .dic kvs, k, d => if kindOk kvs k = true ∧ kvs.length < sizeLine then some (.dic (putD kvs k d)) else none
  | _, _, _ => none
def DP (H : Hp) (a : Addr) (y v : V) (H' : Hp) : Prop := DPut H a y v H' ∨ (H a = some (.dK []) ∧ ∃ (b : Addr) (ks : List Key), y = .ref b ∧ H b = some (.tup (ks.map kV)) ∧ H' = upd H a (.dT [(ks, v)])) ∨ (H a = some (.dT []) ∧ ∃ k : Key, y = kV k ∧ H' = upd H a (.dK [(k, v)]))
def rSetA : V → V → V → Hp → (Hp → Prop) → Prop := fun o i v H Q => rSetL o i v H Q ∨ ∃ a H', o = .ref a ∧ DP H a i v H' ∧ Q H'
theorem set_any (b : Bd X) : PSet X rSetA := by
  intro pins s σ H o i v ov iv u Q I ro ri rv h
  have hu : X.A.units + 1 < cLine := Nat.lt_of_le_of_lt (by omega) b.un
  rcases h with h | ⟨a, H', rfl, g, q⟩
  · exact set_list pins s σ H o i v ov iv u Q I ro ri rv h
  · cases ro
    rcases g with g | ⟨e, b', ks, rfl, eb, rfl⟩ | ⟨e, k, rfl, rfl⟩
    · exact d_setItem hu I g ri rv fun s' J => ⟨H', J, q⟩
    · have ne : b' ≠ a := fun z => by subst z; rw [e] at eb; cases eb
      have I' := Inv.kt I e
      refine d_setItem hu I' (H' := upd H a (.dT [(ks, v)])) (.inr ⟨[], ks, b', upd_same, rfl, by rw [upd_ne ne]; exact eb, by decide, ?_⟩) ri rv fun s' J => ⟨_, J, q⟩
      rw [upd_upd]
      rfl
    · have I' := Inv.tk I e
      refine d_setItem hu I' (H' := upd H a (.dK [(k, v)])) (.inl ⟨[], k, upd_same, rfl, by decide, ?_⟩) ri rv fun s' J => ⟨_, J, q⟩
      rw [upd_upd]
      rfl
theorem RpK.put {K : PySem.W.Frag} {S : Hp} {v : V} {d : D} (r : Rp K S v d) (k : Key) (ok : okK k = true) {kvs : List (Key × V)} {es : List (D × D)} (h : RpK K S kvs es) : RpK K S (putK kvs k v) (putD es (keyD k) d) := by
  have e1 : (kvs.any fun kv => decide (kv.1 = k)) = (lookD es (keyD k)).isSome := by
    rw [valV_any]
    rcases h.look k with ⟨h1, h2⟩ | ⟨w, d', h1, h2, _⟩
    · rw [h1, h2]; rfl
    · rw [h1, h2]; rfl
  have app : ∀ {kvs : List (Key × V)} {es : List (D × D)}, RpK K S kvs es → RpK K S (kvs ++ [(k, v)]) (es ++ [(keyD k, d)]) := by
    intro kvs
    induction kvs with
    | nil => intro es h; cases h; exact .cons ok r .nil
    | cons p ps ih => intro es h; cases h with | cons o a b => exact .cons o a (ih b)
  have mp : ∀ {kvs : List (Key × V)} {es : List (D × D)}, RpK K S kvs es → RpK K S (kvs.map fun kv => if kv.1 = k then (kv.1, v) else kv) (es.map fun p => if PyData.eqv p.1 (keyD k) = true then (p.1, d) else p) := by
    intro kvs
    induction kvs with
    | nil => intro es h; cases h; exact .nil
    | cons p ps ih =>
      intro es h
      cases h with
      | @cons k' v' d' _ es' o a b =>
        simp only [List.map_cons, keyD_eqv]
        by_cases hk : k' = k
        · subst hk
          simp only [decide_eq_true, if_true]
          exact .cons o r (ih b)
        · simp only [hk, decide_false, if_false, Bool.false_eq_true]
          exact .cons o a (ih b)
  unfold putK putD
  rw [e1]
  split
  · exact mp h
  · exact app h
theorem RpT.put {K : PySem.W.Frag} {S : Hp} {v : V} {d : D} (r : Rp K S v d) (k : List Key) (ok : ∀ x ∈ k, okK x = true) {kvs : List (List Key × V)} {es : List (D × D)} (h : RpT K S kvs es) : RpT K S (putK kvs k v) (putD es (.tuple (k.map keyD)) d) := by
  have e0 : ∀ k' : List Key, PyData.eqv (.tuple (k'.map keyD)) (.tuple (k.map keyD)) = decide (k' = k) := fun k' => by
    simp only [PyData.eqv, keyDs_eqv]
  have e1 : (kvs.any fun kv => decide (kv.1 = k)) = (lookD es (.tuple (k.map keyD))).isSome := by
    rw [valV_any]
    rcases h.look k with ⟨h1, h2⟩ | ⟨w, d', h1, h2, _⟩
    · rw [h1, h2]; rfl
    · rw [h1, h2]; rfl
  have app : ∀ {kvs : List (List Key × V)} {es : List (D × D)}, RpT K S kvs es → RpT K S (kvs ++ [(k, v)]) (es ++ [(.tuple (k.map keyD), d)]) := by
    intro kvs
    induction kvs with
    | nil => intro es h; cases h; exact .cons ok r .nil
    | cons p ps ih => intro es h; cases h with | cons o a b => exact .cons o a (ih b)
  have mp : ∀ {kvs : List (List Key × V)} {es : List (D × D)}, RpT K S kvs es → RpT K S (kvs.map fun kv => if kv.1 = k then (kv.1, v) else kv) (es.map fun p => if PyData.eqv p.1 (.tuple (k.map keyD)) = true then (p.1, d) else p) := by
    intro kvs
    induction kvs with
    | nil => intro es h; cases h; exact .nil
    | cons p ps ih =>
      intro es h
      cases h with
      | @cons k' v' d' _ es' o a b =>
        simp only [List.map_cons, e0]
        by_cases hk : k' = k
        · subst hk
          simp only [decide_eq_true, if_true]
          exact .cons o r (ih b)
        · simp only [hk, decide_false, if_false, Bool.false_eq_true]
          exact .cons o a (ih b)
  unfold putK putD
  rw [e1]
  split
  · exact mp h
  · exact app h
theorem RpK.length {K : PySem.W.Frag} {S : Hp} : ∀ {v : List (Key × V)} {d : List (D × D)}, RpK K S v d → v.length = d.length
  | _, _, .nil => rfl
  | _, _, .cons _ _ b => congrArg (· + 1) (RpK.length b)
theorem RpT.length {K : PySem.W.Frag} {S : Hp} : ∀ {v : List (List Key × V)} {d : List (D × D)}, RpT K S v d → v.length = d.length
  | _, _, .nil => rfl
  | _, _, .cons _ _ b => congrArg (· + 1) (RpT.length b)
/-- a container of ours is written -/
theorem upC_run {K : PySem.W.Frag} {G : Fra} {T : List (V × E)} {ρ : Ev} {σ : Sg} {S H : Hp} {x i v : V} {ex : E} {k d : D} {o' : O} {Q : Hp → Prop} (s : Stt K G ((x, ex) :: T) ρ σ S H) (ri : Rt K S H i k) (rv : Rp K S v d) (e : upC ex.o k d = some o')
    (q : ∀ H', Stt K G ((x, ⟨ex.io, o'⟩) :: T) ρ σ S H' → Q H') : rSetA x i v H Q := by
  obtain ⟨io, o⟩ := ex
  obtain ⟨F, ow, fl⟩ := s.head
  have ekey : ∀ k' : Key, asKey k = some k' → i = kV k' := fun k' hk' => by
    have ek := asKey_eq hk'
    subst ek
    cases k' with
    | inl i => exact ri.int_of
    | inr i => exact ri.str_of
  have eok : ∀ k' : Key, asKey k = some k' → okK k' = true := fun k' hk' => by
    have ek := asKey_eq hk'
    subst ek
    cases k' with
    | inl i => rfl
    | inr i => exact ri.str_ok
  have etup : ∀ ds ks, k = .tuple ds → asKeys ds = some ks → ∃ b, i = .ref b ∧ H b = some (.tup (ks.map kV)) ∧ ∀ x ∈ ks, okK x = true := fun ds ks e1 hks => by
    subst e1
    have e1 := asKeys_eq hks
    subst e1
    obtain ⟨b, xs, rfl, _, hb, rr⟩ := ri.tup_S
    have e2 := rr.keys
    subst e2
    exact ⟨b, rfl, hb, rr.keysOk⟩
  cases ow with
  | leaf r => cases e
  | @lst a xs ds e1 n1 r1 =>
    cases k with
    | int j =>
      obtain ⟨n, hn, rfl⟩ := Option.map_eq_some_iff.mp (show (ixN ds.length j).map (fun n => O.lst (ds.set n d)) = some o' from e)
      refine .inl ⟨a, xs, j, n, rfl, ri.int_of, e1, by rw [r1.length]; exact hn, q _ ?_⟩
      exact s.write (o' := .lst (ds.set n d)) (.lst e1 n1 r1) (.lst upd_same n1 (r1.set rv n))
    | _ => cases e
  | @dK a kvs' kvs e1 n1 r1 =>
    have e : (if kindOk kvs k = true ∧ kvs.length < sizeLine then some (O.dic (putD kvs k d)) else none) = some o' := by
      cases k <;> exact e
    split at e <;> try (cases e; done)
    rename_i hk
    cases e
    obtain ⟨hk, hlen⟩ := hk
    have fin : ∀ k', asKey k = some k' → rSetA (.ref a) i v H Q := fun k' hk' => by
      have ek := asKey_eq hk'
      refine .inr ⟨a, upd H a (.dK (putK kvs' k' v)), rfl, .inl (.inl ⟨kvs', k', e1, ekey k' hk', by rw [r1.length]; exact hlen, rfl⟩), q _ ?_⟩
      subst ek
      exact s.write (o' := .dic (putD kvs (keyD k') d)) (.dK e1 n1 r1) (.dK upd_same n1 (r1.put rv k' (eok k' hk')))
    cases r1 with
    | nil =>
      rcases kind_nil hk with ⟨k', hk'⟩ | ⟨ds, ks, e2, hks⟩
      · exact fin k' hk'
      · obtain ⟨b, ei, hb, ok⟩ := etup ds ks e2 hks
        have e3 := asKeys_eq hks
        subst e2 e3 ei
        refine .inr ⟨a, upd H a (.dT [(ks, v)]), rfl, .inr (.inl ⟨e1, b, ks, rfl, hb, rfl⟩), q _ ?_⟩
        exact s.write (o' := .dic (putD [] (.tuple (ks.map keyD)) d)) (.dK e1 n1 .nil) (.dT upd_same n1 (.cons ok rv .nil))
    | cons o1 a1 b1 =>
      obtain ⟨k', hk'⟩ := kind_K hk
      exact fin k' hk'
  | @dT a kvs' kvs e1 n1 r1 =>
    have e : (if kindOk kvs k = true ∧ kvs.length < sizeLine then some (O.dic (putD kvs k d)) else none) = some o' := by
      cases k <;> exact e
    split at e <;> try (cases e; done)
    rename_i hk
    cases e
    obtain ⟨hk, hlen⟩ := hk
    have fin : ∀ ds ks, k = .tuple ds → asKeys ds = some ks → rSetA (.ref a) i v H Q := fun ds ks e2 hks => by
      obtain ⟨b, ei, hb, ok⟩ := etup ds ks e2 hks
      have e3 := asKeys_eq hks
      subst e2 e3 ei
      refine .inr ⟨a, upd H a (.dT (putK kvs' ks v)), rfl, .inl (.inr ⟨kvs', ks, b, e1, rfl, hb, by rw [r1.length]; exact hlen, rfl⟩), q _ ?_⟩
      exact s.write (o' := .dic (putD kvs (.tuple (ks.map keyD)) d)) (.dT e1 n1 r1) (.dT upd_same n1 (r1.put rv ks ok))
    cases r1 with
    | nil =>
      rcases kind_nil hk with ⟨k', hk'⟩ | ⟨ds, ks, e2, hks⟩
      · have ek := asKey_eq hk'
        refine .inr ⟨a, upd H a (.dK [(k', v)]), rfl, .inr (.inr ⟨e1, k', ekey k' hk', rfl⟩), q _ ?_⟩
        subst ek
        exact s.write (o' := .dic (putD [] (keyD k') d)) (.dT e1 n1 .nil) (.dK upd_same n1 (.cons (eok k' hk') rv .nil))
      · exact fin ds ks e2 hks
    | cons o1 a1 b1 =>
      obtain ⟨ds, ks, e2, hks⟩ := kind_T hk
      exact fin ds ks e2 hks
/-- x[i] = v, x a name of ours -/
def gSubS (j : Nat) (fi : Ev → Rs B) : O → Ev → Rs Unit := fun o => bnd (bv j) fun _ => bnd fi fun ix ρ1 => match ix.val ρ1 with
  | some k => (match ρ1[j]? with
    | some (some ex) => (match upC ex.o k o.d with
      | some c => .ok () (ρ1.set j (some ⟨ex.io, c⟩))
      | none => .stk)
    | _ => .stk)
  | none => .stk
theorem dg_sub {j : Nat} {x i : Expr} {fi : Ev → Rs B} (b : Bd X) (hx : PE X x (tVar j)) (hi : DB X W i fi) (ha : ∀ v, assign (.Subscript x i pos) X.env v = (do
      let ov ← holding [v] (eval x X.env)
      let iv ← holding [v, ov] (eval i X.env)
      standAt pos
      holding [v, ov, iv] (setItem ov iv v)
      release [v, ov, iv] []) := by intro _; rfl) : DG' X W (.Subscript x i pos) (gSubS j fi) :=
  PG.imp (pg_sub hx hi (set_any b) ha) fun v σ H Q ⟨G, T, S, ρ, o, s, q⟩ => by
    unfold gSubS bnd at q
    unfold bv at q
    cases e0 : ρ[j]? with
    | none => rw [e0] at q; exact q.elim
    | some m =>
      cases m with
      | none => rw [e0] at q; exact q.elim
      | some ex =>
        rw [e0] at q
        simp only at q
        obtain ⟨w, hw, _⟩ := s.take e0
        refine ⟨w, hw, G, (v, ow o) :: T, S, ρ, s, ?_⟩
        cases e1 : fi ρ with
        | stk => rw [e1] at q; exact q.elim
        | er x ρ' => rw [e1] at q; exact fun S' H' s' => q σ S' H' s'.drop1
        | ok ix ρ1 =>
          rw [e1] at q
          intro i' S1 H1 s1 at1
          simp only at q
          cases e2 : ix.val ρ1 with
          | none => rw [e2] at q; exact q.elim
          | some k =>
            rw [e2] at q
            simp only at q
            cases e3 : ρ1[j]? with
            | none => rw [e3] at q; exact q.elim
            | some m =>
              cases m with
              | none => rw [e3] at q; exact q.elim
              | some ex1 =>
                rw [e3] at q
                simp only at q
                cases e4 : upC ex1.o k o.d with
                | none => rw [e4] at q; exact q.elim
                | some c =>
                  rw [e4] at q
                  simp only at q
                  obtain ⟨S2, s2, _, rv⟩ := (s1.permT (T' := (v, ow o) :: (ix.tm i' ++ T)) List.perm_middle).freeze
                  have ri : Rt X.K S2 H1 i' k := B.rt s2 (fun p m => List.mem_cons_of_mem _ (List.mem_append_left _ m)) at1 e2
                  obtain ⟨w', hw', s3⟩ := s2.take e3
                  rw [hw] at hw'
                  cases hw'
                  refine upC_run s3 ri rv e4 fun H' s4 => ?_
                  have s5 := s4.back e3 hw fun io => s2.ios j ex1 e3 io
                  exact q σ S2 H' s5.drop1.dropL
end
end Y
/-! Y: what is walked; comprehensions; statements and loops -/
namespace Y
open PySem PySem.Spec PyProof.Rows L2

/-! ### what is walked -/
def ItOk (K : PySem.W.Frag) (J : It) (ds : List D) (L : List (V × E)) : Prop := ∀ (G : Fra) (T : List (V × E)) (ρ : Ev) (σ : Sg) (S H : Hp), Stt K G (L ++ T) ρ σ S H →
  (∀ (i : Nat) (d : D), ds[i]? = some d → J.go i H ∧ ∀ x H', J.yld i H x H' → ∃ S', Stt K G ((x, lf d) :: (L ++ T)) ρ σ S' H') ∧ (∀ i : Nat, ds.length ≤ i → J.stop i H)
def tI (K : PySem.W.Frag) (W : XW) (f : Ev → Rs (List D)) : TI := fun σ H R => ∃ G T S ρ, Stt K G T ρ σ S H ∧ GoR K W G T σ (fun ds ρ' => ∀ J L S' H', Stt K G (L ++ T) ρ' σ S' H' → ItOk K J ds L → R J H') (f ρ)
abbrev DI (X : Cx) (W : XW) (tg e : Expr) (f : Ev → Rs (List D)) : Prop := PI X tg e (tI X.K W f)
theorem PI.imp {X : Cx} {tg e : Expr} {t u : TI} (h : PI X tg e t) (k : ∀ σ H R, u σ H R → t σ H R) : PI X tg e u := ⟨fun pins s σ H R I q => h.run pins s σ H R I (k σ H R q)⟩
theorem PI.or {X : Cx} {tg e : Expr} {t u : TI} (h : PI X tg e t) (h' : PI X tg e u) : PI X tg e (fun σ H R => t σ H R ∨ u σ H R) := ⟨fun pins s σ H R I q => by
  rcases q with q | q
  · exact h.run pins s σ H R I q
  · exact h'.run pins s σ H R I q⟩
def chars (z : Str) : List D := z.cps.toList.map fun c => .str ⟨#[c]⟩
def rangeD (lo hi : Int) : List D := (List.range (hi - lo).toNat).map fun i => .int (lo + (i : Nat))
def rangeDown (lo hi : Int) : List D := (List.range (lo - hi).toNat).map fun i => .int (lo - (i : Nat))
def enumD : Nat → List D → List D
  | _, [] => []
  | i, d :: ds => .tuple [.int i, d] :: enumD (i + 1) ds
def zipD : List D → List D → List D
  | a :: as, b :: bs => .tuple [a, b] :: zipD as bs
  | _, _ => []
theorem enumD_get : ∀ (ds : List D) (k i : Nat) (d : D), (enumD k ds)[i]? = some d → ∃ e, ds[i]? = some e ∧ d = .tuple [.int ((k + i : Nat) : Int), e]
  | [], _, _, _, h => by simp [enumD] at h
  | a :: ds, k, 0, d, h => by simp [enumD] at h; exact ⟨a, rfl, h.symm⟩
  | a :: ds, k, i + 1, d, h => by
    obtain ⟨e, h1, h2⟩ := enumD_get ds (k + 1) i d (by simpa [enumD] using h)
    exact ⟨e, by simpa using h1, by rw [h2, show k + 1 + i = k + (i + 1) by omega]⟩
theorem enumD_len : ∀ (ds : List D) (k : Nat), (enumD k ds).length = ds.length
  | [], _ => rfl
  | a :: ds, k => by simp [enumD, enumD_len ds]
theorem zipD_get : ∀ (as bs : List D) (i : Nat) (d : D), (zipD as bs)[i]? = some d → ∃ a b, as[i]? = some a ∧ bs[i]? = some b ∧ d = .tuple [a, b]
  | [], _, _, _, h => by simp [zipD] at h
  | _ :: _, [], _, _, h => by simp [zipD] at h
  | a :: as, b :: bs, 0, d, h => by simp [zipD] at h; exact ⟨a, b, rfl, rfl, h.symm⟩
  | a :: as, b :: bs, i + 1, d, h => by
    obtain ⟨x, y, h1, h2, h3⟩ := zipD_get as bs i d (by simpa [zipD] using h)
    exact ⟨x, y, by simpa using h1, by simpa using h2, h3⟩
theorem zipD_len : ∀ (as bs : List D), (zipD as bs).length = min as.length bs.length
  | [], _ => by simp [zipD]
  | _ :: _, [] => by simp [zipD]
  | a :: as, b :: bs => by simp [zipD, zipD_len as bs]
theorem Stt.newTup {K : PySem.W.Frag} {G : Fra} {T : List (V × E)} {ρ : Ev} {σ : Sg} {S H : Hp} {xs : List V} {ds : List D} {p : Addr} (s : Stt K G T ρ σ S H) (r : RpA K S xs ds) (n : H p = none) : ∃ S', Stt K G ((.ref p, lf (.tuple ds)) :: T) ρ σ S' (upd H p (.tup xs)) := by
  have hsp : S p = none := s.sub.free n
  have s1 := s.share (u := .tup xs) n
  have ss : Same S (upd S p (.tup xs)) := fun b o e => by rw [upd_ne (ne_of_none e hsp)]; exact e
  exact ⟨_, s1.push (.tup upd_same (r.mono ss))⟩
def seqI (f : Ev → Rs O) : Ev → Rs (List D) := bnd f fun o ρ => match o.d with
  | .list ds => .ok ds ρ
  | .tuple ds => .ok ds ρ
  | .str z => .ok (chars z) ρ
  | _ => .stk
/-- a test that nothing tries to reckon -/
noncomputable def cif {α : Type} (c : Prop) (a b : α) : α := @ite α c (Classical.propDecidable c) a b
theorem cif_pos {α : Type} {c : Prop} {a b : α} (h : c) : cif c a b = a := by unfold cif; rw [if_pos h]
theorem cif_neg {α : Type} {c : Prop} {a b : α} (h : ¬ c) : cif c a b = b := by unfold cif; rw [if_neg h]
noncomputable def rng1 (fs : Ev → Rs (List B)) : Ev → Rs (List D) := bnd fs fun bs ρ => match vals ρ bs with
  | some [.int j] => cif (-(2 ^ 62) ≤ j ∧ j < 2 ^ 62) (.ok (rangeD 0 j) ρ) .stk
  | _ => .stk
noncomputable def rng2 (fs : Ev → Rs (List B)) : Ev → Rs (List D) := bnd fs fun bs ρ => match vals ρ bs with
  | some [.int i, .int j] => cif (-(2 ^ 62) ≤ i ∧ i < 2 ^ 62 ∧ -(2 ^ 62) ≤ j ∧ j < 2 ^ 62) (.ok (rangeD i j) ρ) .stk
  | _ => .stk
noncomputable def rng3 (fs : Ev → Rs (List B)) : Ev → Rs (List D) := bnd fs fun bs ρ => match vals ρ bs with
  | some [.int i, .int j, .int c] => cif (c = -1 ∧ -(2 ^ 62) ≤ i ∧ i < 2 ^ 62 ∧ -(2 ^ 62) ≤ j ∧ j < 2 ^ 62) (.ok (rangeDown i j) ρ) .stk
  | _ => .stk
def enumI (fs : Ev → Rs (List B)) : Ev → Rs (List D) := bnd fs fun bs ρ => match tmpD bs with
  | some [.list ds] => .ok (enumD 0 ds) ρ
  | _ => .stk
def zipI (fs : Ev → Rs (List B)) : Ev → Rs (List D) := bnd fs fun bs ρ => match tmpD bs with
  | some [.list ds, .list es] => .ok (zipD ds es) ρ
  | _ => .stk
section
variable {X : Cx} {W : XW} {tg e : Expr} {es : List Expr} {f : Ev → Rs O} {fs : Ev → Rs (List B)} {pos p : Pos}
theorem itl_ok {K : PySem.W.Frag} {a : Addr} {ds : List D} : ItOk K (Itl K a) ds [(.ref a, lf (.list ds))] := by
  intro G T ρ σ S H s
  obtain ⟨a', xs, e, h1, r1⟩ := (s.rtT (v := .ref a) (e := lf (.list ds)) (by simp)).lst_of
  cases e
  refine ⟨fun i d hd => ?_, fun i hi => ⟨xs, h1, by rw [r1.length]; exact hi⟩⟩
  obtain ⟨v, hv, rv⟩ := r1.get hd
  refine ⟨⟨xs, v, h1, hv⟩, fun x H' y => ?_⟩
  obtain ⟨rfl, y⟩ := y
  have := y xs h1
  rw [hv] at this
  cases this
  exact ⟨S, s.push rv⟩
theorem itt_ok {K : PySem.W.Frag} {a : Addr} {ds : List D} : ItOk K (Itt K a) ds [(.ref a, lf (.tuple ds))] := by
  intro G T ρ σ S H s
  obtain ⟨a', xs, e, h1, r1⟩ := (s.rtT (v := .ref a) (e := lf (.tuple ds)) (by simp)).tup_of
  cases e
  refine ⟨fun i d hd => ?_, fun i hi => ⟨xs, h1, by rw [r1.length]; exact hi⟩⟩
  obtain ⟨v, hv, rv⟩ := r1.get hd
  refine ⟨⟨xs, v, h1, hv⟩, fun x H' y => ?_⟩
  obtain ⟨rfl, y⟩ := y
  have := y xs h1
  rw [hv] at this
  cases this
  exact ⟨S, s.push rv⟩
theorem its_ok {K : PySem.W.Frag} {z : Str} (hz : okS z = true) : ItOk K (Its z) (chars z) [] := by
  intro G T ρ σ S H s
  rw [okS_iff] at hz
  refine ⟨fun i d hd => ?_, fun i hi => by simpa [chars, Its] using hi⟩
  obtain ⟨c, hc, rfl⟩ : ∃ c, z.cps.toList[i]? = some c ∧ d = .str ⟨#[c]⟩ := by
    unfold chars at hd
    rw [List.getElem?_map] at hd
    obtain ⟨c, hc, e⟩ := Option.map_eq_some_iff.mp hd
    exact ⟨c, hc, e.symm⟩
  have hi : i < z.cps.size := by
    have := (List.getElem?_eq_some_iff.mp hc).1
    simpa using this
  refine ⟨hi, fun x H' y => ?_⟩
  obtain ⟨rfl, c', hc', rfl⟩ := y
  have : c' = c := by
    rw [Array.getElem?_toList] at hc
    rw [hc] at hc'
    exact (Option.some.inj hc').symm
  subst this
  refine ⟨S, s.push (.str _ ?_)⟩
  rw [okS_iff]
  intro d hd
  have : d = c' := by simpa using hd
  subst this
  exact hz d (List.mem_of_getElem? hc)
theorem di_seq (h : DE X W e f) : DI X W tg e (seqI f) := PI.imp (PI.or (pi_list h) (PI.or (pi_tup h) (pi_str h))) fun σ H R ⟨G, T, S, ρ, s, g⟩ => by
  unfold seqI at g
  cases e1 : f ρ with
  | stk => rw [bnd, e1] at g; exact g.elim
  | er x ρ' =>
    refine .inl ⟨G, T, S, ρ, s, ?_⟩
    rw [bnd, e1] at g
    rw [e1]
    exact g
  | ok o ρ' =>
    rw [bnd_ok e1] at g
    split at g
    · rename_i ds hd
      refine .inl ⟨G, T, S, ρ, s, ?_⟩
      rw [e1]
      intro v S1 H1 s1
      obtain ⟨S2, s2, _, r⟩ := s1.freeze
      rw [hd] at s2 r
      obtain ⟨a, xs, rfl, h1, r1⟩ := (r.rt s2.sub).lst_of
      exact ⟨a, rfl, ⟨xs, h1⟩, g _ _ S2 H1 s2 itl_ok⟩
    · rename_i ds hd
      refine .inr (.inl ⟨G, T, S, ρ, s, ?_⟩)
      rw [e1]
      intro v S1 H1 s1
      obtain ⟨S2, s2, _, r⟩ := s1.freeze
      rw [hd] at s2 r
      obtain ⟨a, xs, rfl, h1, r1⟩ := (r.rt s2.sub).tup_of
      exact ⟨a, rfl, ⟨xs, h1⟩, g _ _ S2 H1 s2 itt_ok⟩
    · rename_i z hd
      refine .inr (.inr ⟨G, T, S, ρ, s, ?_⟩)
      rw [e1]
      intro v S1 H1 s1
      obtain ⟨S2, s2, _, r⟩ := s1.freeze
      rw [hd] at s2 r
      have r' := r.rt s2.sub
      exact ⟨z, r'.str_of, g (Its z) [] S2 H1 s2.drop1 (its_ok r'.str_ok)⟩
    · exact g.elim
theorem itr_ok {K : PySem.W.Frag} {lo hi : Int} : ItOk K (Itr lo (hi - lo).toNat) (rangeD lo hi) [] := by
  intro G T ρ σ S H s
  refine ⟨fun i d hd => ?_, fun i hi => by simpa [rangeD, Itr] using hi⟩
  unfold rangeD at hd
  rw [List.getElem?_map] at hd
  obtain ⟨c, hc, rfl⟩ := Option.map_eq_some_iff.mp hd
  obtain ⟨h1, h2⟩ := List.getElem?_eq_some_iff.mp hc
  rw [List.length_range] at h1
  rw [List.getElem_range] at h2
  subst h2
  refine ⟨h1, fun x H' y => ?_⟩
  obtain ⟨rfl, rfl⟩ := y
  exact ⟨S, s.push (.int _)⟩
theorem itdown_ok {K : PySem.W.Frag} {lo hi : Int} : ItOk K (Itc lo (-1) (lo - hi).toNat) (rangeDown lo hi) [] := by
  intro G T ρ σ S H s
  refine ⟨fun i d hd => ?_, fun i hi => by simpa [rangeDown, Itc] using hi⟩
  unfold rangeDown at hd
  rw [List.getElem?_map] at hd
  obtain ⟨c, hc, rfl⟩ := Option.map_eq_some_iff.mp hd
  obtain ⟨h1, h2⟩ := List.getElem?_eq_some_iff.mp hc
  rw [List.length_range] at h1
  rw [List.getElem_range] at h2
  subst h2
  refine ⟨h1, fun x H' y => ?_⟩
  obtain ⟨rfl, rfl⟩ := y
  refine ⟨S, s.push ?_⟩
  rw [show lo + ((i : Nat) : Int) * (-1) = lo - (i : Nat) by omega]
  exact .int _
theorem di_rng1 {a : Expr} (hg : Gl X "range") (hm : X.mg "range" = none) (ha : DA X W [a] fs) (hs : starEach [a] X.env = [(false, eval a X.env)] := by rfl) : DI X W tg (.Call (.Name "range" p) [a] [] pos) (rng1 fs) := PI.imp (pi_range1 hg hm ha hs) fun σ H R ⟨G, T, S, ρ, s, g⟩ => by
  refine ⟨G, T, S, ρ, s, seq sid ?_ g⟩
  intro bs ρ1 z vs S1 H1 s1 at1
  split at z
  · rename_i j hj
    unfold cif at z
    split at z
    · rename_i hb
      obtain ⟨x, rfl, rx⟩ := (at1.rt s1 (fun x m => List.mem_append_left _ m) hj).one
      refine ⟨j, by rw [rx.int_of], hb.1, hb.2, ?_⟩
      have := z (Itr 0 (j - 0).toNat) [] S1 H1 s1.dropL itr_ok
      rw [Int.sub_zero] at this
      exact this
    · exact z.elim
  · exact z.elim
theorem di_rng2 {a b : Expr} (hg : Gl X "range") (hm : X.mg "range" = none) (ha : DA X W [a, b] fs) (hs : starEach [a, b] X.env = [(false, eval a X.env), (false, eval b X.env)] := by rfl) (hs2 : starEach [b] X.env = [(false, eval b X.env)] := by rfl) :
    DI X W tg (.Call (.Name "range" p) [a, b] [] pos) (rng2 fs) := PI.imp (pi_range2 hg hm ha hs hs2) fun σ H R ⟨G, T, S, ρ, s, g⟩ => by
  refine ⟨G, T, S, ρ, s, seq sid ?_ g⟩
  intro bs ρ1 z vs S1 H1 s1 at1
  split at z
  · rename_i i j hj
    unfold cif at z
    split at z
    · rename_i hb
      obtain ⟨x, y, rfl, rx, ry⟩ := (at1.rt s1 (fun x m => List.mem_append_left _ m) hj).two
      exact ⟨i, j, by rw [rx.int_of, ry.int_of], hb, z (Itr i (j - i).toNat) [] S1 H1 s1.dropL itr_ok⟩
    · exact z.elim
  · exact z.elim
theorem di_rng3 {a b c : Expr} (hg : Gl X "range") (hm : X.mg "range" = none) (ha : DA X W [a, b, c] fs) (hs : starEach [a, b, c] X.env = (false, eval a X.env) :: starEach [b, c] X.env := by rfl) (hpl : (backTo pos (starEach [b, c] X.env)).any (·.1) = false := by rfl) :
    DI X W tg (.Call (.Name "range" p) [a, b, c] [] pos) (rng3 fs) := PI.imp (pi_range3 hg hm ha hs hpl) fun σ H R ⟨G, T, S, ρ, s, g⟩ => by
  refine ⟨G, T, S, ρ, s, seq sid ?_ g⟩
  intro bs ρ1 z vs S1 H1 s1 at1
  split at z
  · rename_i i j c hj
    unfold cif at z
    split at z
    · rename_i hb
      obtain ⟨rfl, hb1, hb2, hb3, hb4⟩ := hb
      have hr := at1.rt s1 (fun x m => List.mem_append_left _ m) hj
      cases hr with
      | cons rx hr => cases hr with
        | cons ry hr => cases hr with
          | cons rz hr =>
            cases hr
            exact ⟨i, j, -1, (i - j).toNat, by rw [rx.int_of, ry.int_of, rz.int_of], RgC.neg hb1 hb2 hb3 hb4, z (Itc i (-1) (i - j).toNat) [] S1 H1 s1.dropL itdown_ok⟩
    · exact z.elim
  · exact z.elim
theorem ite_ok {K : PySem.W.Frag} {a : Addr} {ds : List D} : ItOk K (Ite K a) (enumD 0 ds) [(.ref a, lf (.list ds))] := by
  intro G T ρ σ S H s
  obtain ⟨a', xs, e, h1, r1⟩ := (s.rtT (v := .ref a) (e := lf (.list ds)) (by simp)).lst_of
  cases e
  refine ⟨fun i d hd => ?_, fun i hi => ⟨xs, h1, by rw [r1.length]; rw [enumD_len] at hi; exact hi⟩⟩
  obtain ⟨d', hd', rfl⟩ := enumD_get ds 0 i d hd
  obtain ⟨v, hv, rv⟩ := r1.get hd'
  refine ⟨⟨xs, v, h1, hv⟩, fun x H' y => ?_⟩
  obtain ⟨t, w, rfl, n, rfl, y⟩ := y
  have := y xs h1
  rw [hv] at this
  cases this
  rw [Nat.zero_add]
  exact s.newTup (.cons (.int _) (.cons rv .nil)) n
theorem di_enum {elts : List Expr} {kk : Nat} {tpos : Pos} (hg : Gl X "enumerate") (hm : X.mg "enumerate" = none) (ha : DA X W [e] fs) (hs : starEach [e] X.env = [(false, eval e X.env)] := by rfl) : DI X W (.Tuple elts kk tpos) (.Call (.Name "enumerate" p) [e] [] pos) (enumI fs) :=
  PI.imp (pi_enum hg hm ha hs) fun σ H R ⟨G, T, S, ρ, s, g⟩ => by
    refine ⟨G, T, S, ρ, s, seq sid ?_ g⟩
    intro bs ρ1 z vs S1 H1 s1 at1
    split at z
    · rename_i ds hd
      obtain ⟨S2, s2, _, r⟩ := Stt.freezeAll at1 hd s1
      cases r with
      | cons r rr =>
        cases rr
        obtain ⟨a, xs, rfl, h1, r1⟩ := (r.rt s2.sub).lst_of
        exact ⟨a, xs, rfl, h1, z (Ite X.K a) [(.ref a, lf (.list ds))] S2 H1 (s2.push r) ite_ok⟩
    · exact z.elim
theorem itz_ok {K : PySem.W.Frag} {a b : Addr} {ds es : List D} : ItOk K (Itz K a b) (zipD ds es) [(.ref a, lf (.list ds)), (.ref b, lf (.list es))] := by
  intro G T ρ σ S H s
  obtain ⟨a', xs, e, h1, r1⟩ := (s.rtT (v := .ref a) (e := lf (.list ds)) (by simp)).lst_of
  cases e
  obtain ⟨b', ys, e, h2, r2⟩ := (s.rtT (v := .ref b) (e := lf (.list es)) (by simp)).lst_of
  cases e
  refine ⟨fun i d hd => ?_, fun i hi => ⟨xs, ys, h1, h2, by rw [zipD_len] at hi; rw [r1.length, r2.length]; omega⟩⟩
  obtain ⟨d1, d2, g1, g2, rfl⟩ := zipD_get ds es i d hd
  obtain ⟨v, hv, rv⟩ := r1.get g1
  obtain ⟨w, hw, rw'⟩ := r2.get g2
  refine ⟨⟨xs, ys, v, w, h1, h2, hv, hw⟩, fun x H' y => ?_⟩
  obtain ⟨t, v', w', rfl, n, rfl, y1, y2⟩ := y
  have q1 := y1 xs h1
  have q2 := y2 ys h2
  rw [hv] at q1
  rw [hw] at q2
  cases q1
  cases q2
  exact s.newTup (.cons rv (.cons rw' .nil)) n
theorem di_zip {e2 : Expr} {elts : List Expr} {kk : Nat} {tpos : Pos} (hg : Gl X "zip") (hm : X.mg "zip" = none) (ha : DA X W [e, e2] fs) (hs : starEach [e, e2] X.env = (false, eval e X.env) :: starEach [e2] X.env := by rfl) (hpl : (backTo pos (starEach [e2] X.env)).any (·.1) = false := by rfl) :
    DI X W (.Tuple elts kk tpos) (.Call (.Name "zip" p) [e, e2] [] pos) (zipI fs) := PI.imp (pi_zip hg hm ha hs hpl) fun σ H R ⟨G, T, S, ρ, s, g⟩ => by
    refine ⟨G, T, S, ρ, s, seq sid ?_ g⟩
    intro bs ρ1 z vs S1 H1 s1 at1
    split at z
    · rename_i ds es hd
      obtain ⟨S2, s2, _, r⟩ := Stt.freezeAll at1 hd s1
      cases r with
      | cons r rr =>
        cases rr with
        | cons r' rr =>
          cases rr
          obtain ⟨a, xs, rfl, h1, r1⟩ := (r.rt s2.sub).lst_of
          obtain ⟨b, ys, rfl, h2, r2⟩ := (r'.rt s2.sub).lst_of
          exact ⟨a, b, xs, ys, rfl, h1, h2, z (Itz X.K a b) [(.ref a, lf (.list ds)), (.ref b, lf (.list es))] S2 H1 ((s2.push r').push r) itz_ok⟩
    · exact z.elim
end

/-! ### comprehensions -/
def wipeE (ρ : Ev) : List Nat → Ev
  | [] => ρ
  | v :: vs => (wipeE ρ vs).set v none
/-- an entry that a block's own name may hide: none, or shared data -/
def hidable (ρ : Ev) (vs : List Nat) : Bool := vs.all fun v => match ρ[v]? with
  | some (some ⟨false, .leaf _⟩) => true
  | some none => true
  | none => true
  | _ => false
/-- what a block leaves, with the hidden entries again -/
def unhide (ρ ρ' : Ev) : List Nat → Ev
  | [] => ρ'
  | v :: vs => (unhide ρ ρ' vs).set v ((ρ[v]?).getD none)
def lcGo (vs : List Nat) (tg : O → Ev → Rs Unit) (tt : Ev → Rs Bool) (el : Ev → Rs O) : List D → Ev → Rs (List D)
  | [], ρ => .ok [] ρ
  | d :: ds, ρ => match tg (.leaf d) ρ with
    | .ok _ ρ1 => (match tt ρ1 with
      | .ok true ρ2 => (match el ρ2 with
        | .ok o ρ3 => (match lcGo vs tg tt el ds (wipeE ρ3 vs) with
          | .ok ys ρ4 => .ok (o.d :: ys) ρ4
          | _ => .stk)
        | _ => .stk)
      | .ok false ρ2 => lcGo vs tg tt el ds (wipeE ρ2 vs)
      | _ => .stk)
    | _ => .stk
def lcE (it : Ev → Rs (List D)) (vs : List Nat) (tg : O → Ev → Rs Unit) (tt : Ev → Rs Bool) (el : Ev → Rs O) : Ev → Rs O := bnd it fun ds ρ =>
  if hidable ρ vs = true ∧ ds.length ≤ sizeLine then (match lcGo vs tg tt el ds (wipeE ρ vs) with
    | .ok ys ρ' => .ok (.lst ys) (unhide ρ ρ' vs)
    | _ => .stk) else .stk
end Y
/-! Y: comprehensions -/
namespace Y
open PySem PySem.Spec PyProof.Rows L2
theorem wipe_get {σ : Sg} {j : Nat} : ∀ {vs : List Nat}, (wipe σ vs)[j]? = if j ∈ vs then (if j < σ.length then some none else none) else σ[j]?
  | [] => by simp [wipe]
  | v :: vs => by
    unfold wipe
    by_cases hv : v = j
    · subst hv
      by_cases hl : v < σ.length
      · rw [List.getElem?_set_self (by rw [wipe_length]; exact hl)]
        simp [hl]
      · rw [List.getElem?_eq_none (by rw [List.length_set, wipe_length]; omega)]
        simp [hl]
    · rw [List.getElem?_set_ne hv, wipe_get (vs := vs)]
      have : (j ∈ v :: vs) = (j ∈ vs) := by
        simp only [List.mem_cons, eq_iff_iff, or_iff_right_iff_imp]
        exact fun z => absurd z.symm hv
      simp only [this]
theorem wipe_set {σ : Sg} {i : Nat} {x : Option V} {vs : List Nat} (h : i ∈ vs) : wipe (σ.set i x) vs = wipe σ vs := by
  refine List.ext_getElem? fun j => ?_
  rw [wipe_get, wipe_get, List.length_set]
  split
  · rfl
  · rename_i hj
    exact List.getElem?_set_ne (fun z : i = j => hj (by subst z; exact h))
theorem wipe_wipe {σ : Sg} {vs : List Nat} : wipe (wipe σ vs) vs = wipe σ vs := by
  refine List.ext_getElem? fun j => ?_
  rw [wipe_get, wipe_length, wipe_get]
  split <;> rfl
section
variable {K : PySem.W.Frag} {G : Fra} {T : List (V × E)} {ρ : Ev} {σ : Sg} {S H : Hp}
theorem Stt.clr2 (s : Stt K G T ρ σ S H) (i : Nat) : Stt K G T (ρ.set i none) (σ.set i none) S H := by
  obtain ⟨L, F, sl, sep⟩ := s.res
  obtain ⟨L', sb, _, sl'⟩ := sl.clr i
  obtain ⟨F1, sep1, _⟩ := sep.sub ((List.Sublist.refl T).append sb)
  refine ⟨s.sub, s.s0, s.keep, s.dom, s.new, fun j e2 q io => ?_, L', F1, sl' none, sep1⟩
  by_cases hj : i = j
  · subst hj
    by_cases hl : i < ρ.length
    · rw [List.getElem?_set_self hl] at q; cases q
    · rw [List.getElem?_eq_none (by simpa using hl)] at q; cases q
  · rw [List.getElem?_set_ne hj] at q ⊢; exact s.ios j e2 q io
theorem Stt.wiped (s : Stt K G T ρ σ S H) : ∀ vs : List Nat, Stt K G T (wipeE ρ vs) (wipe σ vs) S H
  | [] => s
  | v :: vs => (s.wiped vs).clr2 v
/-- the slots' values do not matter where nothing is known -/
theorem Stt.slots (s : Stt K G T ρ σ S H) {σ' : Sg} (hl : σ'.length = σ.length) (h : ∀ (i : Nat) (e : E), ρ[i]? = some (some e) → σ'[i]? = σ[i]?) : Stt K G T ρ σ' S H := by
  obtain ⟨L, F, sl, sep⟩ := s.res
  have key : ∀ {σ : Sg} {ρ : Ev} {L : List (V × E)}, Sl σ ρ L → ∀ {σ' : Sg}, σ'.length = σ.length → (∀ (i : Nat) (e : E), ρ[i]? = some (some e) → σ'[i]? = σ[i]?) → Sl σ' ρ L := by
    intro σ ρ L sl
    induction sl with
    | nil => intro σ' hl _; cases σ' with | nil => exact .nil | cons _ _ => simp at hl
    | out _ ih =>
      intro σ' hl h
      cases σ' with
      | nil => simp at hl
      | cons x σ' => exact .out (ih (by simpa using hl) fun i e q => by simpa using h (i + 1) e (by simpa using q))
    | inn _ ih =>
      intro σ' hl h
      cases σ' with
      | nil => simp at hl
      | cons x σ' =>
        have := h 0 _ rfl
        simp at this
        subst this
        exact .inn (ih (by simpa using hl) fun i e q => by simpa using h (i + 1) e (by simpa using q))
  exact ⟨s.sub, s.s0, s.keep, s.dom, s.new, fun j e q io => (h j e q).trans (s.ios j e q io), L, F, key sl hl h, sep⟩
theorem wipeE_get {ρ : Ev} {j : Nat} : ∀ {vs : List Nat}, (wipeE ρ vs)[j]? = if j ∈ vs then (if j < ρ.length then some none else none) else ρ[j]?
  | [] => by simp [wipeE]
  | v :: vs => by
    have hlen : ∀ vs : List Nat, (wipeE ρ vs).length = ρ.length := fun vs => by
      induction vs with
      | nil => rfl
      | cons v vs ih => unfold wipeE; rw [List.length_set, ih]
    unfold wipeE
    by_cases hv : v = j
    · subst hv
      by_cases hl : v < ρ.length
      · rw [List.getElem?_set_self (by rw [hlen]; exact hl)]
        simp [hl]
      · rw [List.getElem?_eq_none (by rw [List.length_set, hlen]; omega)]
        simp [hl]
    · rw [List.getElem?_set_ne hv, wipeE_get (vs := vs)]
      have : (j ∈ v :: vs) = (j ∈ vs) := by
        simp only [List.mem_cons, eq_iff_iff, or_iff_right_iff_imp]
        exact fun z => absurd z.symm hv
      simp only [this]
theorem wipeE_length {ρ : Ev} : ∀ vs : List Nat, (wipeE ρ vs).length = ρ.length
  | [] => rfl
  | v :: vs => by unfold wipeE; rw [List.length_set, wipeE_length vs]
/-- hidden entries, held -/
def hidT (σ : Sg) (ρ : Ev) : List Nat → List (V × E)
  | [] => []
  | v :: vs => (match ρ[v]?, σ[v]? with
    | some (some e), some (some w) => [(w, e)]
    | _, _ => []) ++ hidT σ ρ vs
theorem Stt.hide (s : Stt K G T ρ σ S H) : ∀ {vs : List Nat}, hidable ρ vs = true → Stt K G (hidT σ ρ vs ++ T) ρ σ S H
  | [], _ => s
  | v :: vs, h => by
    unfold hidable at h
    rw [List.all_cons, Bool.and_eq_true] at h
    have s1 := s.hide (vs := vs) h.2
    unfold hidT
    cases e1 : ρ[v]? with
    | none => exact s1
    | some m =>
      cases m with
      | none => exact s1
      | some e =>
        obtain ⟨w, hw, _⟩ := s.take e1
        rw [hw]
        obtain ⟨io, o⟩ := e
        have h1 := h.1
        rw [e1] at h1
        cases io with
        | true => cases o <;> cases h1
        | false =>
          cases o with
          | leaf d =>
            obtain ⟨w', hw', s2⟩ := s1.take e1
            rw [hw] at hw'
            cases hw'
            obtain ⟨F, o, _⟩ := s2.head
            cases o with
            | leaf r => exact s1.push r
          | lst _ => cases h1
          | dic _ => cases h1
theorem Stt.relf {v : Nat} {w : V} {d : D} (s : Stt K G T ρ σ S H) (m : (w, lf d) ∈ T) (hv : σ[v]? = some (some w)) : Stt K G T (ρ.set v (some (lf d))) σ S H := by
  have r : Rp K S w d := by
    obtain ⟨L, F, sl, sep⟩ := s.res
    obtain ⟨F', o⟩ := sep.mem (List.mem_append_left _ m)
    cases o with
    | leaf r => exact r
  have hl : v < σ.length := (List.getElem?_eq_some_iff.mp hv).1
  have s1 := (s.push r).store hl
  have e1 : σ.set v (some w) = σ := by
    obtain ⟨h1, h2⟩ := List.getElem?_eq_some_iff.mp hv
    rw [← h2, List.set_getElem_self]
  rw [e1] at s1
  exact s1
/-- after the block -/
theorem Stt.unhide {ρ0 : Ev} (h0 : ∀ (i : Nat) (e : E), ρ0[i]? = some (some e) → ∃ w, σ[i]? = some (some w)) (hlen : ρ0.length = ρ.length) : ∀ {vs : List Nat}, (∀ x ∈ hidT σ ρ0 vs, x ∈ T) → hidable ρ0 vs = true → Stt K G T ρ σ S H → Stt K G T (unhide ρ0 ρ vs) σ S H
  | [], _, _, s => s
  | v :: vs, m, h, s => by
    unfold hidable at h
    rw [List.all_cons, Bool.and_eq_true] at h
    have s1 := Stt.unhide h0 hlen (vs := vs) (fun x hx => m x (by unfold hidT; exact List.mem_append_right _ hx)) h.2 s
    unfold Y.unhide
    cases e1 : ρ0[v]? with
    | none => exact s1.clr v
    | some q =>
      cases q with
      | none => exact s1.clr v
      | some e =>
        obtain ⟨w, hw⟩ := h0 v e e1
        obtain ⟨io, o⟩ := e
        have h1 := h.1
        rw [e1] at h1
        cases io with
        | true => cases o <;> cases h1
        | false =>
          cases o with
          | leaf d =>
            refine s1.relf (w := w) (d := d) (m _ ?_) hw
            unfold hidT
            rw [e1, hw]
            simp
          | lst _ => cases h1
          | dic _ => cases h1
end

/-! ### a comprehension's targets: they change its own slots alone -/
def tC' (K : PySem.W.Frag) (W : XW) (vs : List Nat) (g : O → Ev → Rs Unit) : TG := fun v σ H Q => ∃ G T S ρ o, Stt K G ((v, ow o) :: T) ρ σ S H ∧ GoG K W G T (fun _ ρ' => ∀ σ' S' H', wipe σ' vs = wipe σ vs → Stt K G T ρ' σ' S' H' → Q σ' H') (g o ρ)
def tCs (K : PySem.W.Frag) (W : XW) (ws : List Nat) (g : List D → Ev → Rs Unit) : TGs := fun vs σ H Q => ∃ G T S ρ ds, vs.length = ds.length ∧ Stt K G (lfs vs ds ++ T) ρ σ S H ∧ GoG K W G T (fun _ ρ' => ∀ σ' S' H', wipe σ' ws = wipe σ ws → Stt K G T ρ' σ' S' H' → Q σ' H') (g ds ρ)
abbrev CG (X : Cx) (W : XW) (vs : List Nat) (e : Expr) (g : O → Ev → Rs Unit) : Prop := PG X e (tC' X.K W vs g)
abbrev CGs (X : Cx) (W : XW) (vs : List Nat) (es : List Expr) (g : List D → Ev → Rs Unit) : Prop := PGs X es (tCs X.K W vs g)
section
variable {X : Cx} {W : XW} {ws : List Nat} {e : Expr} {es : List Expr} {pos : Pos} {g : O → Ev → Rs Unit} {r : List D → Ev → Rs Unit}
theorem cg_name {i : Nat} (h : PG X e (gName i)) (hi : i ∈ ws) : CG X W ws e (gN i) := PG.imp h fun v σ H Q ⟨G, T, S, ρ, o, s, k⟩ => by
  unfold gN at k
  split at k
  · rename_i hl
    exact k _ _ _ (wipe_set hi) (s.store (by rw [s.len]; exact hl))
  · exact k.elim
theorem cgs_nil : CGs X W ws [] gNilS := PGs.imp pgs_nil fun vs σ H Q ⟨G, T, S, ρ, ds, hl, s, k⟩ => by
  unfold gNilS at k
  split at k
  · cases vs with
    | nil => exact ⟨rfl, k _ _ _ rfl s⟩
    | cons _ _ => simp at hl
  · exact k.elim
theorem cgs_cons (h1 : CG X W ws e g) (h2 : CGs X W ws es r) (hs : (assignEach (e :: es) X.env).map (·.2) = assign e X.env :: (assignEach es X.env).map (·.2) := by rfl) : CGs X W ws (e :: es) (gConsS g r) := PGs.imp (pgs_cons h1 h2 hs) fun vs σ H Q ⟨G, T, S, ρ, ds, hl, s, k⟩ => by
  cases ds with
  | nil => exact k.elim
  | cons d ds =>
    cases vs with
    | nil => simp at hl
    | cons v vs =>
      refine ⟨v, vs, rfl, G, lfs vs ds ++ T, S, ρ, .leaf d, s, ?_⟩
      have k : GoG X.K W G T (fun _ ρ' => ∀ σ' S' H', wipe σ' ws = wipe σ ws → Stt X.K G T ρ' σ' S' H' → Q σ' H') (match g (.leaf d) ρ with | .ok _ ρ' => r ds ρ' | .er x ρ' => .er x ρ' | .stk => .stk) := k
      cases e1 : g (.leaf d) ρ with
      | ok a ρ' =>
        rw [e1] at k
        intro σ' S' H' hw s'
        refine ⟨G, T, S', ρ', ds, by simpa using hl, s', ?_⟩
        show GoG X.K W G T _ (r ds ρ')
        have k2 : GoG X.K W G T (fun _ ρ' => ∀ σ' S' H', wipe σ' ws = wipe σ ws → Stt X.K G T ρ' σ' S' H' → Q σ' H') (r ds ρ') := k
        cases e2 : r ds ρ' with
        | ok a ρ2 => rw [e2] at k2; exact fun σ2 S2 H2 hw2 s2 => k2 σ2 S2 H2 (hw2.trans hw) s2
        | er x ρ2 => rw [e2] at k2; exact k2
        | stk => rw [e2] at k2; exact k2
      | er x ρ' =>
        rw [e1] at k
        exact fun σ' S' H' s' => k σ' S' H' s'.dropL
      | stk => rw [e1] at k; exact k
theorem cg_tup {k n : Nat} (b : Bd X) (h : CGs X W ws es r) (hn : (assignEach es X.env).length = n := by rfl) (hst : (assignEach es X.env).findIdx? (·.1) = none := by rfl) : CG X W ws (.Tuple es k pos) (gTupS n r) :=
  PG.imp (PG.or (pg_tup b.calm h hn hst) (pg_unl b.calm h hn hst)) fun v σ H Q ⟨G, T, S, ρ, o, s, q⟩ => by
    have hr := s.rtT (v := v) (e := ow o) (by simp)
    unfold gTupS at q
    split at q
    · rename_i ds
      split at q
      · rename_i hl
        obtain ⟨a, xs, rfl, h1, r1⟩ := hr.tup_of
        exact .inl ⟨a, xs, rfl, h1, by rw [r1.length]; exact hl, G, T, S, ρ, ds, r1.length, s.drop1.pushAll r1, q⟩
      · exact q.elim
    · rename_i ds
      split at q
      · rename_i hl
        obtain ⟨a, xs, rfl, h1, r1⟩ := hr.lst_of
        exact .inr ⟨a, xs, rfl, h1, by rw [r1.length]; exact hl, G, T, S, ρ, ds, r1.length, s.drop1.pushAll r1, q⟩
      · exact q.elim
    · rename_i ds
      split at q
      · rename_i hl
        obtain ⟨a, xs, rfl, h1, r1⟩ := hr.lst_of
        exact .inr ⟨a, xs, rfl, h1, by rw [r1.length]; exact hl, G, T, S, ρ, ds, r1.length, s.drop1.pushAll r1, q⟩
      · exact q.elim
    · exact q.elim
end

/-! ### the comprehension -/
/-- nothing leaves a block -/
abbrev W0 : XW := fun _ _ _ => False
abbrev tTs (K : PySem.W.Frag) (f : Ev → Rs Bool) : TT := tT K W0 f
theorem GoR.tt {α : Type} {K : PySem.W.Frag} {G : Fra} {T : List (V × E)} {σ : Sg} {P : α → Ev → Prop} {W : XW} : ∀ {r : Rs α}, (∀ a ρ', r = .ok a ρ' → P a ρ') → (∃ a ρ', r = .ok a ρ') → GoR K W G T σ P r
  | .ok a ρ', h, _ => h a ρ' rfl
  | .er _ _, _, ⟨_, _, e⟩ => nomatch e
  | .stk, _, ⟨_, _, e⟩ => nomatch e
section
variable {X : Cx} {W : XW} {elt tg iter : Expr} {ifs : List Expr} {scope : Scope} {own : List (Str × Nat)} {pos : Pos} {it : Ev → Rs (List D)} {g : O → Ev → Rs Unit} {tt : Ev → Rs Bool} {el : Ev → Rs O}
theorem lc_reads {K : PySem.W.Frag} {vs : List Nat} {σ : Sg} {H : Hp} {Q : VK} (q : tE K W (lcE it vs g tt el) σ H Q) : tLc (tI K W it) (tC' K W0 vs g) (tTs K tt) (tE K W0 el) vs σ H Q := by
  obtain ⟨G, T, S, ρ, s, q⟩ := q
  refine ⟨G, T, S, ρ, s, seq sid ?_ q⟩
  intro ds ρ1 z J L S1 H1 s1 iok D' hD
  split at z
  · rename_i hh
    obtain ⟨hhid, hsz⟩ := hh
    -- the new list, our hidden entries held
    have s2 := (s1.hide (vs := vs) hhid)
    have s3 := s2.make (o := .lst []) hD (u := .lst []) (.lst upd_same (s2.sub.free hD) .nil)
    have s4 := s3.wiped vs
    refine ⟨fun i m H' => m = ds.length - i ∧ i ≤ ds.length ∧ ∃ acc ρi S', acc.length ≤ i ∧ Stt K G ((.ref D', ow (.lst acc)) :: (hidT σ ρ1 vs ++ (L ++ T))) (wipeE ρi vs) (wipe σ vs) S' H' ∧ ρi.length = ρ1.length ∧
      ∃ ys ρe, lcGo vs g tt el (ds.drop i) (wipeE ρi vs) = .ok ys ρe ∧ ∀ v S'' H'', Stt K G ((v, ow (.lst (acc ++ ys))) :: T) (unhide ρ1 ρe vs) σ S'' H'' → Q v H'', ⟨ds.length, ?_⟩, ?_⟩
    · refine ⟨by omega, Nat.zero_le _, [], ρ1, S1, Nat.zero_le _, s4, rfl, ?_⟩
      split at z
      · rename_i ys ρe he
        exact ⟨ys, ρe, he, by rw [List.nil_append]; exact z⟩
      · exact z.elim
    · rintro i m H' ⟨rfl, hi, acc, ρi, S', hacc, si, hlen, ys, ρe, he, fin⟩
      have iok' := iok G ((.ref D', ow (.lst acc)) :: (hidT σ ρ1 vs ++ T)) (wipeE ρi vs) (wipe σ vs) S' H' (si.permT (by
        refine List.Perm.trans ?_ (List.perm_middle (l₁ := L)).symm
        refine List.Perm.cons _ ?_
        rw [← List.append_assoc, ← List.append_assoc]
        exact List.Perm.append_right T List.perm_append_comm))
      by_cases hlt : i < ds.length
      · have hd : ds[i]? = some ds[i] := List.getElem?_eq_getElem hlt
        obtain ⟨go, yld⟩ := iok'.1 i _ hd
        have hdrop : ds.drop i = ds[i] :: ds.drop (i + 1) := List.drop_eq_getElem_cons hlt
        rw [hdrop] at he
        -- what a turn is to reach
        refine .inr ⟨go, fun H2 => i + 1 ≤ ds.length ∧ ∃ acc ρi S', acc.length ≤ i + 1 ∧ Stt K G ((.ref D', ow (.lst acc)) :: (hidT σ ρ1 vs ++ (L ++ T))) (wipeE ρi vs) (wipe σ vs) S' H2 ∧ ρi.length = ρ1.length ∧
          ∃ ys ρe, lcGo vs g tt el (ds.drop (i + 1)) (wipeE ρi vs) = .ok ys ρe ∧ ∀ v S'' H'', Stt K G ((v, ow (.lst (acc ++ ys))) :: T) (unhide ρ1 ρe vs) σ S'' H'' → Q v H'', fun H2 h2 => ⟨ds.length - (i + 1), by omega, rfl, h2.1, h2.2⟩, ?_⟩
        intro x H2 y
        obtain ⟨S2, sx⟩ := yld x H2 y
        have sx' : Stt K G ((x, lf ds[i]) :: ((.ref D', ow (.lst acc)) :: (hidT σ ρ1 vs ++ (L ++ T)))) (wipeE ρi vs) (wipe σ vs) S2 H2 := sx.permT (by
          refine List.Perm.cons _ ?_
          refine List.Perm.trans (List.perm_middle (l₁ := L)) ?_
          refine List.Perm.cons _ ?_
          rw [← List.append_assoc, ← List.append_assoc]
          exact List.Perm.append_right T List.perm_append_comm)
        unfold lcGo at he
        cases e1 : g (.leaf ds[i]) (wipeE ρi vs) with
        | stk => rw [e1] at he; cases he
        | er x ρ' => rw [e1] at he; cases he
        | ok u ρa =>
          rw [e1] at he
          simp only at he
          refine ⟨G, _, S2, _, .leaf ds[i], sx', ?_⟩
          rw [e1]
          intro σ3 S3 H3 hw s5
          rw [wipe_wipe] at hw
          refine ⟨hw, G, _, S3, ρa, s5, ?_⟩
          have hla : ρa.length = ρ1.length := by
            have h1 := s5.len
            have h2 := s1.len
            have h3 := congrArg List.length hw
            rw [wipe_length, wipe_length] at h3
            omega
          -- the list that grows
          have next : ∀ {S4 H4 : Hp} {ρ4 : Ev} {acc' : List D}, Stt K G ((.ref D', ow (.lst acc')) :: (hidT σ ρ1 vs ++ (L ++ T))) ρ4 σ3 S4 H4 → Stt K G ((.ref D', ow (.lst acc')) :: (hidT σ ρ1 vs ++ (L ++ T))) (wipeE ρ4 vs) (wipe σ vs) S4 H4 := fun s6 => by
            have := s6.wiped vs
            rw [hw] at this
            exact this
          cases e2 : tt ρa with
          | stk => rw [e2] at he; cases he
          | er x ρ' => rw [e2] at he; cases he
          | ok b ρb =>
            rw [e2] at he
            intro S4 H4 s6
            have hlb : ρb.length = ρ1.length := by
              have h1 := s6.len
              have h3 := congrArg List.length hw
              have h2 := s1.len
              rw [wipe_length, wipe_length] at h3
              omega
            cases b with
            | false =>
              rw [if_neg Bool.false_ne_true]
              simp only at he
              exact ⟨hlt, acc, ρb, S4, Nat.le_succ_of_le hacc, next s6, hlb, ys, ρe, he, fin⟩
            | true =>
              rw [if_pos rfl]
              simp only at he
              refine ⟨G, _, S4, ρb, s6, ?_⟩
              cases e3 : el ρb with
              | stk => rw [e3] at he; cases he
              | er x ρ' => rw [e3] at he; cases he
              | ok o ρc =>
                rw [e3] at he
                simp only at he
                intro v S5 H5 s7
                have hlc : ρc.length = ρ1.length := by
                  have h1 := s7.len
                  have h3 := congrArg List.length hw
                  have h2 := s1.len
                  rw [wipe_length, wipe_length] at h3
                  omega
                obtain ⟨S6, s8, _, rv⟩ := s7.freeze
                have s9 := s8.drop1
                obtain ⟨F, ow', _⟩ := s9.head
                cases hgo : lcGo vs g tt el (ds.drop (i + 1)) (wipeE ρc vs) with
                | stk => rw [hgo] at he; cases he
                | er x ρ' => rw [hgo] at he; cases he
                | ok ys' ρ4 =>
                  rw [hgo] at he
                  simp only at he
                  cases he
                  cases ow' with
                  | @lst _ xs _ eH nS rA =>
                    refine ⟨xs, eH, by rw [rA.length]; omega, hlt, acc ++ [o.d], ρc, S6, by rw [List.length_append]; simp; omega, next ?_, hlc, ys', _, hgo, ?_⟩
                    · exact s9.write (o' := .lst (acc ++ [o.d])) (.lst eH nS rA) (.lst upd_same nS (rA.app (.cons rv .nil)))
                    · intro v' S'' H'' h
                      refine fin v' S'' H'' ?_
                      rw [List.append_assoc] at h
                      exact h
      · have e : i = ds.length := by omega
        subst e
        refine .inl ⟨iok'.2 _ (Nat.le_refl _), ?_⟩
        rw [List.drop_length] at he
        have : ys = [] ∧ ρe = wipeE ρi vs := by
          unfold lcGo at he
          injection he with h1 h2
          exact ⟨h1.symm, h2.symm⟩
        obtain ⟨rfl, rfl⟩ := this
        rw [List.append_nil] at fin
        refine fin _ S' H' ?_
        -- back to the slots as they were
        have ent : ∀ (j : Nat) (e : E), ρ1[j]? = some (some e) → ∃ w, σ[j]? = some (some w) := fun j e he => let ⟨w, hw, _⟩ := s1.take he; ⟨w, hw⟩
        have sσ : Stt K G ((.ref D', ow (.lst acc)) :: (hidT σ ρ1 vs ++ (L ++ T))) (wipeE ρi vs) σ S' H' := by
          refine si.slots (by rw [wipe_length]) fun j e he => ?_
          rw [wipeE_get] at he
          rw [wipe_get]
          split at he
          · split at he <;> cases he
          · rename_i hj
            rw [if_neg hj]
        have su := Stt.unhide (ρ0 := ρ1) ent (by rw [wipeE_length]; exact hlen.symm) (vs := vs) (fun x hx => List.mem_cons_of_mem _ (List.mem_append_left _ hx)) hhid sσ
        exact su.subT (List.Sublist.cons_cons _ ((List.sublist_append_right _ _).trans (List.sublist_append_right _ _)))
  · exact z.elim
theorem de_lc (b : Bd X) (hi : DI X W tg iter it) (ok : BlkOk X.N X.env.scope scope own)
    (hg : ∀ (s : Shared) (H : Hp) (C : Addr) (cl : List (Str × Addr)) (fp : List Addr), PG (X.blk s H scope (compEnvC scope cl C X.env) fp) tg (tC' X.K W0 (own.map (·.2)) g))
    (ht : ∀ (s : Shared) (H : Hp) (C : Addr) (cl : List (Str × Addr)) (fp : List Addr), PTs (X.blk s H scope (compEnvC scope cl C X.env) fp) ifs (tTs X.K tt))
    (he : ∀ (s : Shared) (H : Hp) (C : Addr) (cl : List (Str × Addr)) (fp : List Addr), PE (X.blk s H scope (compEnvC scope cl C X.env) fp) elt (tE X.K W0 el)) (hs : ∀ x, foldedSetIterable iter X.env x = pure x := by intro _; rfl) :
    DE X W (.ListComp elt [⟨tg, iter, ifs, 0⟩] scope pos) (lcE it (own.map (·.2)) g tt el) := PE.imp (pe_lc b.calm b.nd hi ok hg ht he hs) fun σ H Q q => lc_reads q
theorem Bd.blk (b : Bd X) {s : Shared} {H : Hp} {cenv : Env} {fp : List Addr} : Bd (X.blk s H scope cenv fp) := ⟨b.calm, b.un, b.nd⟩
def yesT : Ev → Rs Bool := fun ρ => .ok true ρ
theorem PTs.imp {X : Cx} {e : List Expr} {t u : TT} (h : PTs X e t) (k : ∀ σ H Q, u σ H Q → t σ H Q) : PTs X e u := ⟨fun pins s σ H Q I q => h.run pins s σ H Q I (k σ H Q q)⟩
theorem dts_nil {X : Cx} {K : PySem.W.Frag} : PTs X [] (tTs K yesT) := PTs.imp pts_nil fun σ H Q ⟨G, T, S, ρ, s, g⟩ => g S H s
theorem dts_one {X : Cx} {c : Expr} {f : Ev → Rs Bool} (h : DT X W0 c f) : PTs X [c] (tTs X.K f) := pts_one h
end
end Y
/-! Y: statements and loops -/
namespace Y
open PySem PySem.Spec PyProof.Rows L2

inductive Ctl where
  | nx
  | rt (o : O)
  | bk
  | ct
def GoS (K : PySem.W.Frag) (W : XW) (G : Fra) (T : List (V × E)) (Dn : Ends) : Rs Ctl → Prop
  | .ok .nx ρ' => ∀ σ' S' H', Stt K G T ρ' σ' S' H' → Dn.nx σ' H'
  | .ok (.rt o) ρ' => ∀ v σ' S' H', Stt K G ((v, ow o) :: T) ρ' σ' S' H' → Dn.rt v H'
  | .ok .bk ρ' => ∀ σ' S' H', Stt K G T ρ' σ' S' H' → Dn.bk σ' H'
  | .ok .ct ρ' => ∀ σ' S' H', Stt K G T ρ' σ' S' H' → Dn.ct σ' H'
  | .er x ρ' => ∀ σ' S' H', Stt K G T ρ' σ' S' H' → W x σ' H'
  | .stk => False
def tS (K : PySem.W.Frag) (W : XW) (f : Ev → Rs Ctl) : TS := fun Dn σ H => ∃ G T S ρ, Stt K G T ρ σ S H ∧ GoS K W G T Dn (f ρ)
abbrev DS (X : Cx) (W : XW) (st : Stmt) (f : Ev → Rs Ctl) : Prop := PS X st (tS X.K W f)
abbrev DSs (X : Cx) (W : XW) (sts : List Stmt) (f : Ev → Rs Ctl) : Prop := PSs X sts (tS X.K W f)
theorem PS.imp {X : Cx} {e : Stmt} {t u : TS} (h : PS X e t) (k : ∀ D σ H, u D σ H → t D σ H) : PS X e u := ⟨fun pins s σ H D I q => h.run pins s σ H D I (k D σ H q)⟩
theorem PSs.imp {X : Cx} {e : List Stmt} {t u : TS} (h : PSs X e t) (k : ∀ D σ H, u D σ H → t D σ H) : PSs X e u := ⟨fun pins s σ H D I q => h.run pins s σ H D I (k D σ H q)⟩
section
variable {K : PySem.W.Frag} {W : XW} {G : Fra} {T T1 : List (V × E)} {σ : Sg} {S H : Hp} {ρ : Ev} {α : Type} {Dn : Ends}
/-- an expression ahead of a statement's rest -/
theorem seqS {f : Ev → Rs α} {k : α → Ev → Rs Ctl} {P : α → Ev → Prop} (hT : ∀ ρ' S' H', Stt K G T1 ρ' σ S' H' → Stt K G T ρ' σ S' H')
    (hk : ∀ a ρ', GoS K W G T Dn (k a ρ') → P a ρ') (h : GoS K W G T Dn (bnd f k ρ)) : GoR K W G T1 σ P (f ρ) := by
  unfold bnd at h
  cases e : f ρ with
  | ok a ρ' => rw [e] at h; exact hk a ρ' h
  | er x ρ' => rw [e] at h; exact fun S' H' s => h σ S' H' (hT _ _ _ s)
  | stk => rw [e] at h; exact h
end
/-! ### small statements, blocks -/
def nxS : Ev → Rs Ctl := fun ρ => .ok .nx ρ
def bkS : Ev → Rs Ctl := fun ρ => .ok .bk ρ
def ctS : Ev → Rs Ctl := fun ρ => .ok .ct ρ
def cons (f g : Ev → Rs Ctl) : Ev → Rs Ctl := fun ρ => match f ρ with
  | .ok .nx ρ' => g ρ'
  | .ok c ρ' => .ok c ρ'
  | .er x ρ' => .er x ρ'
  | .stk => .stk
def ifS (t : Ev → Rs Bool) (f g : Ev → Rs Ctl) : Ev → Rs Ctl := bnd t fun b ρ => if b = true then f ρ else g ρ
def retS (f : Ev → Rs O) : Ev → Rs Ctl := bnd f fun o ρ => .ok (.rt o) ρ
def retN : Ev → Rs Ctl := fun ρ => .ok (.rt (.leaf .none)) ρ
def asgS (f : Ev → Rs O) (g : O → Ev → Rs Unit) : Ev → Rs Ctl := bnd f fun o => bnd (g o) fun _ ρ => .ok .nx ρ
section
variable {X : Cx} {W : XW} {st : Stmt} {sts a b : List Stmt} {e c tg : Expr} {pos : Pos} {f g : Ev → Rs Ctl} {fe : Ev → Rs O} {ft : Ev → Rs Bool} {gt : O → Ev → Rs Unit}
theorem dss_nil : DSs X W [] nxS := PSs.imp pss_nil fun Dn σ H ⟨G, T, S, ρ, s, q⟩ => q σ S H s
theorem dss_cons (h1 : DS X W st f) (h2 : DSs X W sts g) : DSs X W (st :: sts) (cons f g) := PSs.imp (pss_cons h1 h2) fun Dn σ H ⟨G, T, S, ρ, s, q⟩ => by
  refine ⟨G, T, S, ρ, s, ?_⟩
  unfold cons at q
  cases e1 : f ρ with
  | stk => rw [e1] at q; exact q
  | er x ρ' => rw [e1] at q; exact q
  | ok c ρ' =>
    rw [e1] at q
    cases c with
    | nx => exact fun σ' S' H' s' => ⟨G, T, S', ρ', s', q⟩
    | rt d => exact q
    | bk => exact q
    | ct => exact q
theorem dss_one (h1 : DS X W st f) : DSs X W [st] f := pss_one h1
theorem ds_pass : DS X W (.Pass pos) nxS := PS.imp ps_pass fun Dn σ H ⟨G, T, S, ρ, s, q⟩ => q σ S H s
theorem ds_break : DS X W (.Break pos) bkS := PS.imp ps_break fun Dn σ H ⟨G, T, S, ρ, s, q⟩ => q σ S H s
theorem ds_continue : DS X W (.Continue pos) ctS := PS.imp ps_continue fun Dn σ H ⟨G, T, S, ρ, s, q⟩ => q σ S H s
theorem ds_if (hc : DT X W c ft) (ha : DSs X W a f) (hb : DSs X W b g) : DS X W (.If c a b pos) (ifS ft f g) := PS.imp (ps_if hc ha hb) fun Dn σ H ⟨G, T, S, ρ, s, q⟩ => by
  refine ⟨G, T, S, ρ, s, seqS sid ?_ q⟩
  intro b ρ' z S' H' s'
  cases b with
  | true => exact ⟨G, T, S', ρ', s', z⟩
  | false => exact ⟨G, T, S', ρ', s', z⟩
theorem ds_ret (h : DE X W e fe) : DS X W (.Return (some e) pos) (retS fe) := PS.imp (ps_ret h) fun Dn σ H ⟨G, T, S, ρ, s, q⟩ => by
  refine ⟨G, T, S, ρ, s, seqS sid ?_ q⟩
  intro o ρ' z v S' H' s'
  exact z v σ S' H' s'
/-- a name's value, moved out: for the def's end -/
def mv (i : Nat) : Ev → Rs O := fun ρ => match ρ[i]? with
  | some (some ⟨false, .leaf d⟩) => .ok (.leaf d) ρ
  | some (some ⟨true, .leaf d⟩) => .ok (.leaf d) ρ
  | some (some ⟨false, o⟩) => .ok o (ρ.set i none)
  | _ => .stk
theorem de_mv {i : Nat} (h : PE X e (tVar i)) : DE X W e (mv i) := PE.imp h fun σ H Q ⟨G, T, S, ρ, s, g⟩ => by
  unfold mv at g
  have lf1 : ∀ {io : Bool} {d : D}, ρ[i]? = some (some ⟨io, .leaf d⟩) → (∀ v S' H', Stt X.K G ((v, ow (.leaf d)) :: T) ρ σ S' H' → Q v H') → tVar i σ H Q := fun ho g => by
    obtain ⟨v, hv, s1⟩ := s.take ho
    obtain ⟨F, o, _⟩ := s1.head
    cases o with
    | leaf r => exact ⟨v, hv, g v S H (s.push r)⟩
  split at g
  · rename_i d ho; exact lf1 ho g
  · rename_i d ho; exact lf1 ho g
  · rename_i o h1 ho
    obtain ⟨v, hv, s1⟩ := s.take ho
    exact ⟨v, hv, g v S H s1⟩
  · exact g.elim
theorem ds_retN : DS X W (.Return none pos) retN := PS.imp ps_retN fun Dn σ H ⟨G, T, S, ρ, s, q⟩ => q .non σ S H (s.push .non)
theorem ds_asg (he : DE X W e fe) (hg : DG' X W tg gt) (hs : swapsWithSole [tg] e pos.line X.env = pure false := by rfl) (hw : swappedStores [tg] e X.env = pure none := by rfl)
    (h1 : (assignEach [tg] X.env).map (·.2) = [assign tg X.env] := by rfl) : DS X W (.Assign [tg] e pos) (asgS fe gt) := PS.imp (ps_asg he hg hs hw h1) fun Dn σ H ⟨G, T, S, ρ, s, q⟩ => by
  refine ⟨G, T, S, ρ, s, seqS sid ?_ q⟩
  intro o ρ' z v S' H' s'
  refine ⟨G, T, S', ρ', o, s', ?_⟩
  unfold bnd at z
  cases e1 : gt o ρ' with
  | ok u ρ2 => rw [e1] at z; exact z
  | er x ρ2 => rw [e1] at z; exact z
  | stk => rw [e1] at z; exact z
/-- an expression for what it does -/
def tXq (K : PySem.W.Frag) (W : XW) (f : Ev → Rs Unit) : TE := fun σ H Q => ∃ G T S ρ, Stt K G T ρ σ S H ∧ GoR K W G T σ (fun _ ρ' => ∀ v S' H', Stt K G T ρ' σ S' H' → Q v H') (f ρ)
abbrev DX (X : Cx) (W : XW) (e : Expr) (f : Ev → Rs Unit) : Prop := PE X e (tXq X.K W f)
def expS (f : Ev → Rs Unit) : Ev → Rs Ctl := bnd f fun _ ρ => .ok .nx ρ
theorem ds_expr {f : Ev → Rs Unit} (h : DX X W e f) (hs : swapsWith e none pos.line X.env = pure false := by rfl) : DS X W (.Expr e pos) (expS f) := PS.imp (ps_expr h hs) fun Dn σ H ⟨G, T, S, ρ, s, q⟩ => by
  refine ⟨G, T, S, ρ, s, seqS sid ?_ q⟩
  intro o ρ' z v S' H' s'
  exact z σ S' H' s'
def dropE (f : Ev → Rs O) : Ev → Rs Unit := bnd f fun _ ρ => .ok () ρ
theorem dx_e (h : DE X W e fe) : DX X W e (dropE fe) := PE.imp h fun σ H Q ⟨G, T, S, ρ, s, g⟩ => by
  refine ⟨G, T, S, ρ, s, seq sid ?_ g⟩
  intro o ρ' z v S' H' s'
  exact z v S' H' s'.drop1
end

/-! ### for -/
def clrs (ρ : Ev) : List Nat → Ev
  | [] => ρ
  | i :: is => (clrs ρ is).set i none
theorem Stt.clrs {K : PySem.W.Frag} {G : Fra} {T : List (V × E)} {ρ : Ev} {σ : Sg} {S H : Hp} (s : Stt K G T ρ σ S H) : ∀ is : List Nat, Stt K G T (clrs ρ is) σ S H
  | [] => s
  | i :: is => (s.clrs is).clr i
def forGo (cl : List Nat) (tg : O → Ev → Rs Unit) (body : Ev → Rs Ctl) : List D → Ev → Rs Ctl
  | [], ρ => .ok .nx ρ
  | d :: ds, ρ => match tg (.leaf d) ρ with
    | .ok _ ρ1 => (match body ρ1 with
      | .ok .nx ρ2 => forGo cl tg body ds (clrs ρ2 cl)
      | .ok .ct ρ2 => forGo cl tg body ds (clrs ρ2 cl)
      | .ok .bk ρ2 => .ok .nx ρ2
      | .ok (.rt d) ρ2 => .ok (.rt d) ρ2
      | .er x ρ2 => .er x ρ2
      | .stk => .stk)
    | .er x ρ1 => .er x ρ1
    | .stk => .stk
def forS (it : Ev → Rs (List D)) (tg : O → Ev → Rs Unit) (body : Ev → Rs Ctl) (cl : List Nat) : Ev → Rs Ctl := bnd it fun ds ρ => forGo cl tg body ds (clrs ρ cl)
section
variable {X : Cx} {W : XW} {tg iter c : Expr} {body : List Stmt} {pos : Pos} {it : Ev → Rs (List D)} {gt : O → Ev → Rs Unit} {fb : Ev → Rs Ctl} {ft : Ev → Rs Bool}
theorem GoS.dropL {K : PySem.W.Frag} {G : Fra} {T L : List (V × E)} {Dn : Ends} : ∀ {r : Rs Ctl}, GoS K W G T Dn r → GoS K W G (L ++ T) Dn r
  | .ok .nx ρ', h => fun σ' S' H' s => h σ' S' H' s.dropL
  | .ok (.rt d) ρ', h => fun v σ' S' H' s => h v σ' S' H' (s.subT (List.Sublist.cons_cons _ (List.sublist_append_right _ _)))
  | .ok .bk ρ', h => fun σ' S' H' s => h σ' S' H' s.dropL
  | .ok .ct ρ', h => fun σ' S' H' s => h σ' S' H' s.dropL
  | .er x ρ', h => fun σ' S' H' s => h σ' S' H' s.dropL
  | .stk, h => h
theorem ds_for (b : Bd X) (hp : PassesOwn (model X.prog X.w) X.A X.env X.xe) (cl : List Nat) (hi : DI X W tg iter it) (hg : DG' X W tg gt) (hb : DSs X W body fb) (hs : ∀ x, foldedSetIterable iter X.env x = pure x := by intro _; rfl) :
    DS X W (.For tg iter body [] pos) (forS it gt fb cl) := PS.imp (ps_for hp b.calm hi hg hb hs) fun Dn σ H ⟨G, T, S, ρ, s, q⟩ => by
  refine ⟨G, T, S, ρ, s, seqS sid ?_ q⟩
  intro ds ρ1 z J L S1 H1 s1 iok
  refine ⟨fun i m σ' H' => m = ds.length - i ∧ i ≤ ds.length ∧ ∃ ρi S', Stt X.K G (L ++ T) ρi σ' S' H' ∧ GoS X.K W G T Dn (forGo cl gt fb (ds.drop i) ρi), ⟨ds.length, by omega, Nat.zero_le _, clrs ρ1 cl, S1, s1.clrs cl, z⟩, ?_⟩
  rintro i m σ' H' ⟨rfl, hi, ρi, S', si, qi⟩
  have iok' := iok G T ρi σ' S' H' si
  by_cases hlt : i < ds.length
  · have hd : ds[i]? = some ds[i] := List.getElem?_eq_getElem hlt
    obtain ⟨go, yld⟩ := iok'.1 i _ hd
    have hdrop : ds.drop i = ds[i] :: ds.drop (i + 1) := List.drop_eq_getElem_cons hlt
    rw [hdrop] at qi
    refine .inr ⟨go, fun σ2 H2 => i + 1 ≤ ds.length ∧ ∃ ρi S', Stt X.K G (L ++ T) ρi σ2 S' H2 ∧ GoS X.K W G T Dn (forGo cl gt fb (ds.drop (i + 1)) ρi), fun σ2 H2 h2 => ⟨ds.length - (i + 1), by omega, rfl, h2.1, h2.2⟩, ?_⟩
    intro x H2 y
    obtain ⟨S2, sx⟩ := yld x H2 y
    refine ⟨G, L ++ T, S2, ρi, .leaf ds[i], sx, ?_⟩
    unfold forGo at qi
    cases e1 : gt (.leaf ds[i]) ρi with
    | stk => rw [e1] at qi; exact qi
    | er x ρ' => rw [e1] at qi; exact fun σ' S' H' s' => qi σ' S' H' s'.dropL
    | ok u ρa =>
      rw [e1] at qi
      intro σ3 S3 H3 s3
      refine ⟨G, L ++ T, S3, ρa, s3, ?_⟩
      simp only at qi
      cases e2 : fb ρa with
      | stk => rw [e2] at qi; exact qi
      | er x ρ' => rw [e2] at qi; exact fun σ' S' H' s' => qi σ' S' H' s'.dropL
      | ok c ρb =>
        rw [e2] at qi
        cases c with
        | nx => exact fun σ4 S4 H4 s4 => ⟨hlt, clrs ρb cl, S4, s4.clrs cl, qi⟩
        | ct => exact fun σ4 S4 H4 s4 => ⟨hlt, clrs ρb cl, S4, s4.clrs cl, qi⟩
        | bk => exact fun σ4 S4 H4 s4 => qi σ4 S4 H4 s4.dropL
        | rt d => exact fun v σ4 S4 H4 s4 => qi v σ4 S4 H4 (s4.subT (List.Sublist.cons_cons _ (List.sublist_append_right _ _)))
  · have e : i = ds.length := by omega
    subst e
    rw [List.drop_length] at qi
    exact .inl ⟨iok'.2 _ (Nat.le_refl _), qi σ' S' H' si.dropL⟩

/-! ### while -/
def whN (cl : List Nat) (c : Ev → Rs Bool) (body : Ev → Rs Ctl) : Nat → Ev → Rs Ctl
  | 0, _ => .stk
  | n + 1, ρ => match c ρ with
    | .ok true ρ1 => (match body ρ1 with
      | .ok .nx ρ2 => whN cl c body n (clrs ρ2 cl)
      | .ok .ct ρ2 => whN cl c body n (clrs ρ2 cl)
      | .ok .bk ρ2 => .ok .nx ρ2
      | .ok (.rt d) ρ2 => .ok (.rt d) ρ2
      | .er x ρ2 => .er x ρ2
      | .stk => .stk)
    | .ok false ρ1 => .ok .nx ρ1
    | .er x ρ1 => .er x ρ1
    | .stk => .stk
open Classical in
/-- the while's outcome, where it has one -/
noncomputable def whS (cl : List Nat) (c : Ev → Rs Bool) (body : Ev → Rs Ctl) : Ev → Rs Ctl := fun ρ => if h : ∃ n, whN cl c body n (clrs ρ cl) ≠ .stk then whN cl c body (choose h) (clrs ρ cl) else .stk
theorem whN_mono {cl : List Nat} {c : Ev → Rs Bool} {body : Ev → Rs Ctl} : ∀ {n : Nat} {ρ : Ev}, whN cl c body n ρ ≠ .stk → ∀ m, n ≤ m → whN cl c body m ρ = whN cl c body n ρ
  | 0, ρ, h, _, _ => absurd rfl h
  | n + 1, ρ, h, m, hm => by
    obtain ⟨k, rfl⟩ : ∃ k, m = k + 1 := ⟨m - 1, by omega⟩
    unfold whN at h ⊢
    cases e1 : c ρ with
    | stk => rfl
    | er x ρ' => rfl
    | ok b ρ1 =>
      rw [e1] at h
      cases b with
      | false => rfl
      | true =>
        simp only at h ⊢
        cases e2 : body ρ1 with
        | stk => rfl
        | er x ρ' => rfl
        | ok c' ρ2 =>
          rw [e2] at h
          cases c' with
          | nx => exact whN_mono h k (by omega)
          | ct => exact whN_mono h k (by omega)
          | bk => rfl
          | rt d => rfl
theorem whS_eq {cl : List Nat} {c : Ev → Rs Bool} {body : Ev → Rs Ctl} {ρ : Ev} {n : Nat} {r : Rs Ctl} (h : whN cl c body n (clrs ρ cl) = r) (hr : r ≠ .stk) : whS cl c body ρ = r := by
  unfold whS
  have he : ∃ n, whN cl c body n (clrs ρ cl) ≠ .stk := ⟨n, by rw [h]; exact hr⟩
  rw [dif_pos he]
  have h1 := Classical.choose_spec he
  rcases Nat.le_total n (Classical.choose he) with hle | hle
  · rw [whN_mono (by rw [h]; exact hr) _ hle, h]
  · rw [← whN_mono h1 _ hle, h]
theorem ds_while (b : Bd X) (hp : PassesOwn (model X.prog X.w) X.A X.env X.xe) (cl : List Nat) (hc : DT X W c ft) (hb : DSs X W body fb) : DS X W (.While c body [] pos) (whS cl ft fb) := PS.imp (ps_while hp hc hb) fun Dn σ H ⟨G, T, S, ρ, s, q⟩ => by
  have hq : ∃ n, GoS X.K W G T Dn (whN cl ft fb n (clrs ρ cl)) := by
    unfold whS at q
    split at q
    · rename_i h
      exact ⟨_, q⟩
    · exact q.elim
  obtain ⟨n, q⟩ := hq
  refine ⟨fun m σ' H' => ∃ ρi S', Stt X.K G T ρi σ' S' H' ∧ GoS X.K W G T Dn (whN cl ft fb m ρi), ⟨n, clrs ρ cl, S, s.clrs cl, q⟩, ?_⟩
  rintro m σ' H' ⟨ρi, S', si, qi⟩
  cases m with
  | zero => exact qi.elim
  | succ m =>
    refine ⟨G, T, S', ρi, si, ?_⟩
    unfold whN at qi
    cases e1 : ft ρi with
    | stk => rw [e1] at qi; exact qi
    | er x ρ' => rw [e1] at qi; exact fun S' H' s' => qi σ' S' H' s'
    | ok b ρ1 =>
      rw [e1] at qi
      intro S2 H2 s2
      cases b with
      | false => exact qi σ' S2 H2 s2
      | true =>
        rw [if_pos rfl]
        refine ⟨fun σ3 H3 => ∃ ρi S', Stt X.K G T ρi σ3 S' H3 ∧ GoS X.K W G T Dn (whN cl ft fb m ρi), fun σ3 H3 h3 => ⟨m, Nat.lt_succ_self m, h3⟩, G, T, S2, ρ1, s2, ?_⟩
        simp only at qi
        cases e2 : fb ρ1 with
        | stk => rw [e2] at qi; exact qi
        | er x ρ' => rw [e2] at qi; exact qi
        | ok c ρ2 =>
          rw [e2] at qi
          cases c with
          | nx => exact fun σ4 S4 H4 s4 => ⟨clrs ρ2 cl, S4, s4.clrs cl, qi⟩
          | ct => exact fun σ4 S4 H4 s4 => ⟨clrs ρ2 cl, S4, s4.clrs cl, qi⟩
          | bk => exact qi
          | rt d => exact qi
end
/-! ### list.append on a name of ours -/
def appS (j : Nat) (fe : Ev → Rs O) : Ev → Rs Unit := bnd (bv j) fun _ ρ => match ρ[j]? with
  | some (some ⟨_, .lst _⟩) => bnd fe (fun o ρ1 => match ρ1[j]? with
    | some (some ⟨io, .lst ds⟩) => if ds.length < sizeLine then .ok () (ρ1.set j (some ⟨io, .lst (ds ++ [o.d])⟩)) else .stk
    | _ => .stk) ρ
  | _ => .stk
section
variable {X : Cx} {W : XW} {o e : Expr} {apos pos : Pos} {fe : Ev → Rs O}
theorem dx_append {j : Nat} (ho : PE X o (tVar j)) (he : DE X W e fe) (hat : attributeBase o "append" X.env (eval o X.env) = eval o X.env := by rfl)
    (hall : (((backTo pos (starEach [e] X.env)).all fun x => !x.fst) && ((backToKw pos (keywordEach [] X.env)).all fun x => x.fst.isSome) && decide ((([e] : List Expr).length + ([] : List Keyword).length + if ([] : List Keyword).isEmpty = true then 0 else 1) < 30)) = true := by rfl)
    (hline : (apos.endLine == pos.line) = true := by rfl) (hs : starEach [e] X.env = (false, eval e X.env) :: starEach [] X.env := by rfl) (hpl : ((backTo pos (starEach [] X.env)).any fun x => x.fst) = false := by rfl) :
    DX X W (.Call (.Attribute o "append" apos) [e] [] pos) (appS j fe) := PE.imp (pe_bm PySem.F.plainAttrs_list PySem.F.slot_list_append PySem.F.type_list_append mt_append ho (pa_cons he pa_nil hs) hat hall hline hs hpl) fun σ H Q ⟨G, T, S, ρ, s, g⟩ => by
  unfold appS bnd bv at g
  cases e0 : ρ[j]? with
  | none => rw [e0] at g; exact g.elim
  | some m =>
    cases m with
    | none => rw [e0] at g; exact g.elim
    | some ex =>
      obtain ⟨w, hw, s0⟩ := s.take e0
      rw [e0] at g
      simp only [e0] at g
      obtain ⟨io, o⟩ := ex
      cases o with
      | leaf d => exact g.elim
      | dic d => exact g.elim
      | lst ds0 =>
        simp only at g
        obtain ⟨F0, own0, _⟩ := s0.head
        have hrt := own0.rt s0.sub
        obtain ⟨a, xs0, rfl, h1, _⟩ := hrt.lst_of
        refine ⟨_, hw, .inl ⟨rfl, xs0, h1⟩, G, T, S, ρ, s, ?_⟩
        cases e1 : fe ρ with
        | stk => rw [e1] at g; exact g.elim
        | er x ρ' => rw [e1] at g; exact g
        | ok oe ρ1 =>
          rw [e1] at g
          intro v S1 H1 s1
          simp only at g
          cases e2 : ρ1[j]? with
          | none => rw [e2] at g; exact g.elim
          | some m =>
            cases m with
            | none => rw [e2] at g; exact g.elim
            | some ex1 =>
              rw [e2] at g
              obtain ⟨io1, o1⟩ := ex1
              cases o1 with
              | leaf d => exact g.elim
              | dic d => exact g.elim
              | lst ds =>
                simp only at g
                split at g
                · rename_i hlen
                  obtain ⟨S2, s2, _, rv⟩ := s1.freeze
                  obtain ⟨w', hw', s3⟩ := s2.take e2
                  rw [hw] at hw'
                  cases hw'
                  obtain ⟨F, own, _⟩ := s3.head
                  cases own with
                  | @lst _ xs _ eH nS rA =>
                    refine ⟨a, xs, v, rfl, rfl, eH, by rw [rA.length]; exact hlen, ?_⟩
                    have s4 := s3.write (o' := .lst (ds ++ [oe.d])) (.lst eH nS rA) (u := .lst (xs ++ [v])) (.lst upd_same nS (rA.app (.cons rv .nil)))
                    have s5 := s4.back e2 hw fun io => s2.ios j _ e2 io
                    exact g _ S2 _ s5.drop1
                · exact g.elim
end
end Y
/-! Y: defs of the text, their calls -/
namespace Y
open PySem PySem.Spec PyProof.Rows L2

abbrev Fn := List E → Rs O
/-- what a def computes: n parameters, N names -/
def fnS (n N : Nat) (body : Ev → Rs Ctl) : Fn := fun es => match body (es.map some ++ List.replicate (N - n) none) with
  | .ok .nx ρ => .ok (.leaf .none) ρ
  | .ok (.rt o) ρ => .ok o ρ
  | .ok _ _ => .stk
  | .er x ρ => .er x ρ
  | .stk => .stk
/-- a def's promise -/
def spF (K : PySem.W.Frag) (n : Nat) (F : Fn) : Sp := fun vs H Q _ => vs.length = n ∧ ∃ S M es, es.length = n ∧ Stt K ⟨S, H, M, vs.map some⟩ [] (es.map some) (vs.map some) S H ∧
  match F es with
  | .ok o ρ' => ∀ v σ' S' H', Stt K ⟨S, H, M, vs.map some⟩ [(v, ow o)] ρ' σ' S' H' → Q v H'
  | _ => False
theorem Sl.pad {σ : Sg} {ρ : Ev} {L : List (V × E)} (h : Sl σ ρ L) (m : Nat) : Sl (σ ++ List.replicate m none) (ρ ++ List.replicate m none) L := by
  induction h with
  | nil =>
    induction m with
    | zero => exact .nil
    | succ m ih => exact .out ih
  | out _ ih => exact .out ih
  | inn _ ih => exact .inn ih
theorem Stt.pad {K : PySem.W.Frag} {G : Fra} {T : List (V × E)} {ρ : Ev} {σ : Sg} {S H : Hp} (s : Stt K G T ρ σ S H) (m : Nat) : Stt K G T (ρ ++ List.replicate m none) (σ ++ List.replicate m none) S H := by
  have hl := s.len
  obtain ⟨L, F, sl, sep⟩ := s.res
  refine ⟨s.sub, s.s0, s.keep, s.dom, s.new, fun i e h io => ?_, L, F, sl.pad m, sep⟩
  by_cases hi : i < ρ.length
  · rw [List.getElem?_append_left hi] at h
    rw [List.getElem?_append_left (by omega)]
    exact s.ios i e h io
  · rw [List.getElem?_append_right (by omega), List.getElem?_replicate] at h
    split at h <;> cases h
section
variable {P : Program} {w : World} {K : PySem.W.Frag} {mg : Str → Option Value} {base : Heap}
theorem fn_ok {x qual : Str} {st : Stmt} {f : Addr} {fd : FuncData} {N ps : List Str} {k : Nat} (F : L2.Fun K x qual st f fd) (Sc : FnScope N ps (L2.defScope st)) (body : Ev → Rs Ctl)
    (hb : ∀ (cdv : Value) (A : Around) (outer : List Env) (s : Shared) (H : Hp) (E : XK), Room k (A.deeper (envOfC qual (L2.defScope st) s.heap.objs.size f cdv)) →
      DSs (cxOf CX0 P w K mg base N qual (L2.defScope st) f cdv A outer s H E).nox W0 (L2.defBody st) body) :
    FnOk P w K mg base CX0 (k + 1) f fd ps (spF K ps.length (fnS ps.length N.length body)) := by
  refine F.ok Sc (fun vs H Q E h => h.1) fun cdv A outer s H vs Q E hr h => ⟨_, hb cdv A outer s H E hr, ?_⟩
  obtain ⟨hl, S, M, es, hes, st', h⟩ := h
  unfold fnS at h
  refine ⟨⟨S, H, M, vs.map some⟩, [], S, es.map some ++ List.replicate (N.length - ps.length) none, ?_, ?_⟩
  · have := st'.pad (N.length - ps.length)
    unfold L2.start
    rw [hl]
    exact this
  · cases e : body (es.map some ++ List.replicate (N.length - ps.length) none) with
    | stk => rw [e] at h; exact h.elim
    | er x ρ' => rw [e] at h; exact h.elim
    | ok c ρ' =>
      rw [e] at h
      cases c with
      | nx => exact fun σ' S' H' s' => h .non σ' S' H' (s'.push .non)
      | rt d => exact fun v σ' S' H' s' => h v σ' S' H' s'
      | bk => exact h.elim
      | ct => exact h.elim
/-- nothing is promised -/
theorem fn_stk {f : Addr} {fd : FuncData} {ps : List Str} {k : Nat} : FnOk P w K mg base CX0 k f fd ps (spF K ps.length fun _ => .stk) :=
  ⟨fun vs H Q E h => h.1, fun A outer s H args us vs Q E hr e0 hb r h => by
    obtain ⟨_, S, M, es, _, _, h⟩ := h
    exact h.elim⟩
end

/-! ### calls -/
def ce (e : E) : E := match e.o with
  | .leaf d => lf d
  | o => ⟨true, o⟩
/-- what is handed in; a list or dict of ours is lent -/
def lend : List B → Ev → Option (List E × Ev)
  | [], ρ => some ([], ρ)
  | .tmp o :: bs, ρ => (match lend bs ρ with | some (es, ρ') => some (lf o.d :: es, ρ') | none => none)
  | .slot j :: bs, ρ => (match ρ[j]? with
    | some (some ⟨io, .leaf d⟩) => (match lend bs ρ with | some (es, ρ') => some (lf d :: es, ρ') | none => none)
    | some (some ⟨io, .lst d⟩) => (match lend bs (ρ.set j none) with | some (es, ρ') => some (⟨io, .lst d⟩ :: es, ρ') | none => none)
    | some (some ⟨io, .dic d⟩) => (match lend bs (ρ.set j none) with | some (es, ρ') => some (⟨io, .dic d⟩ :: es, ρ') | none => none)
    | _ => none)
/-- what was lent comes back -/
def unlend (ρ' : Ev) : Nat → List B → List E → Ev → Option Ev
  | _, [], _, ρ => some ρ
  | i, .tmp _ :: bs, _ :: es, ρ => unlend ρ' (i + 1) bs es ρ
  | i, .slot j :: bs, e :: es, ρ => (match e.o with
    | .leaf _ => unlend ρ' (i + 1) bs es ρ
    | _ => (match ρ'[i]? with
      | some (some ⟨true, o'⟩) => unlend ρ' (i + 1) bs es (ρ.set j (some ⟨e.io, o'⟩))
      | _ => none))
  | _, _, _, _ => none
def callS (F : Fn) (fs : Ev → Rs (List B)) : Ev → Rs O := bnd fs fun bs ρ => match lend bs ρ with
  | some (es, ρl) => (match F (es.map ce) with
    | .ok d ρ' => (match unlend ρ' 0 bs es ρl with | some ρ2 => .ok d ρ2 | none => .stk)
    | _ => .stk)
  | none => .stk
inductive Lent (G : Fra) (σ : Sg) : List V → List B → List E → Prop
  | nil : Lent G σ [] [] []
  | leaf {v : V} {vs : List V} {b : B} {bs : List B} {d : D} {es : List E} : Lent G σ vs bs es → Lent G σ (v :: vs) (b :: bs) (lf d :: es)
  | own {v : V} {vs : List V} {j : Nat} {bs : List B} {e : E} {es : List E} : σ[j]? = some (some v) → (e.io = true → σ[j]? = G.P[j]?) → (∀ d, e.o ≠ .leaf d) → Lent G σ vs bs es → Lent G σ (v :: vs) (.slot j :: bs) (e :: es)
theorem Lent.len {G : Fra} {σ : Sg} {vs : List V} {bs : List B} {es : List E} (h : Lent G σ vs bs es) : es.length = vs.length := by
  induction h with
  | nil => rfl
  | leaf _ ih => simp [ih]
  | own _ _ _ _ ih => simp [ih]
section
variable {K : PySem.W.Frag} {G : Fra} {T : List (V × E)} {ρ : Ev} {σ : Sg} {S H : Hp}
theorem lend_run {vs : List V} {bs : List B} (h : AllAt σ vs bs) : ∀ {T : List (V × E)} {ρ : Ev} {S : Hp} {es : List E} {ρl : Ev}, lend bs ρ = some (es, ρl) → Stt K G (tms vs bs ++ T) ρ σ S H → ∃ S', Stt K G (vs.zip es ++ T) ρl σ S' H ∧ Lent G σ vs bs es := by
  induction h with
  | nil => intro T ρ S es ρl e s; cases e; exact ⟨S, s, .nil⟩
  | @cons v b vs bs a h ih =>
    intro T ρ S es ρl e s
    cases b with
    | tmp o =>
      unfold lend at e
      split at e
      · rename_i es' ρ' he
        cases e
        have s' : Stt K G ((v, ow o) :: (tms vs bs ++ T)) ρ σ S H := s
        obtain ⟨S1, s1, _, _⟩ := s'.freeze
        obtain ⟨S2, s2, l2⟩ := ih he (s1.permT (T' := tms vs bs ++ ((v, lf o.d) :: T)) List.perm_middle.symm)
        exact ⟨S2, s2.permT List.perm_middle, .leaf l2⟩
      · cases e
    | slot j =>
      have s' : Stt K G (tms vs bs ++ T) ρ σ S H := s
      have a : σ[j]? = some (some v) := a
      unfold lend at e
      split at e
      · rename_i io d hj
        split at e
        · rename_i es' ρ' he
          cases e
          obtain ⟨v', hv', s1⟩ := s'.take hj
          rw [a] at hv'
          cases hv'
          obtain ⟨F, o, _⟩ := s1.head
          cases o with
          | leaf r =>
            have s2 := s'.push r
            obtain ⟨S2, s3, l2⟩ := ih he (s2.permT (T' := tms vs bs ++ ((v, lf d) :: T)) List.perm_middle.symm)
            exact ⟨S2, s3.permT List.perm_middle, .leaf l2⟩
        · cases e
      · rename_i io d hj
        split at e
        · rename_i es' ρ' he
          cases e
          obtain ⟨v', hv', s1⟩ := s'.take hj
          rw [a] at hv'
          cases hv'
          obtain ⟨S2, s3, l2⟩ := ih he (s1.permT (T' := tms vs bs ++ ((v, ⟨io, .lst d⟩) :: T)) List.perm_middle.symm)
          exact ⟨S2, s3.permT List.perm_middle, .own a (s.ios j _ hj) (by intro d z; cases z) l2⟩
        · cases e
      · rename_i io d hj
        split at e
        · rename_i es' ρ' he
          cases e
          obtain ⟨v', hv', s1⟩ := s'.take hj
          rw [a] at hv'
          cases hv'
          obtain ⟨S2, s3, l2⟩ := ih he (s1.permT (T' := tms vs bs ++ ((v, ⟨io, .dic d⟩) :: T)) List.perm_middle.symm)
          exact ⟨S2, s3.permT List.perm_middle, .own a (s.ios j _ hj) (by intro d z; cases z) l2⟩
        · cases e
      · cases e
theorem Own.notup {v : V} {o : O} {F : List Addr} (h : Own K S H v o F) : ∀ a ∈ F, ∀ xs, H a ≠ some (.tup xs) := by
  intro a m
  cases h with
  | leaf r => cases m
  | lst e n r => simp at m; subst m; rw [e]; intro xs z; cases z
  | dK e n r => simp at m; subst m; rw [e]; intro xs z; cases z
  | dT e n r => simp at m; subst m; rw [e]; intro xs z; cases z
theorem Sep.notup {L : List (V × E)} {F : List Addr} (h : Sep K G S H L F) : ∀ a ∈ F, ∀ xs, H a ≠ some (.tup xs) := by
  induction h with
  | nil => intro a m; cases m
  | cons o f _ dj ih =>
    intro a m
    rcases List.mem_append.mp m with m | m
    · exact o.notup a m
    · exact ih a m
theorem Sep.split {A L : List (V × E)} : ∀ {F : List Addr}, Sep K G S H (A ++ L) F → ∃ FA FB, Sep K G S H A FA ∧ Sep K G S H L FB ∧ (∀ a ∈ FA, a ∉ FB) ∧ F = FA ++ FB := by
  induction A with
  | nil => intro F h; exact ⟨[], F, .nil, h, by simp, rfl⟩
  | cons x A ih =>
    intro F h
    cases h with
    | @cons v e _ F1 F2 o f h2 dj =>
      obtain ⟨FA, FB, h3, h4, h5, rfl⟩ := ih h2
      refine ⟨F1 ++ FA, FB, .cons o f h3 fun a m m' => dj a m (List.mem_append_left _ m'), h4, fun a m m' => ?_, (List.append_assoc _ _ _).symm⟩
      rcases List.mem_append.mp m with m | m
      · exact dj a m (List.mem_append_right _ m')
      · exact h5 a m m'
theorem Sep.join {A L : List (V × E)} {FB : List Addr} (hB : Sep K G S H L FB) : ∀ {FA : List Addr}, Sep K G S H A FA → (∀ a ∈ FA, a ∉ FB) → Sep K G S H (A ++ L) (FA ++ FB) := by
  intro FA h
  induction h with
  | nil => intro _; exact hB
  | @cons v e _ F1 F2 o f h2 dj ih =>
    intro h5
    have := ih fun a m => h5 a (List.mem_append_right _ m)
    refine (List.append_assoc F1 F2 FB) ▸ Sep.cons o f this fun a m m' => ?_
    rcases List.mem_append.mp m' with m' | m'
    · exact dj a m m'
    · exact h5 a (List.mem_append_left _ m) m'
theorem Sl.all : ∀ {vs : List V} {es : List E}, es.length = vs.length → Sl (vs.map some) (es.map some) (vs.zip es)
  | [], [], _ => .nil
  | v :: vs, e :: es, h => .inn (Sl.all (by simpa using h))
/-- the callee's resources -/
theorem sep_ce {P : Sg} {M : Addr → Prop} : ∀ {vs : List V} {es : List E} {F : List Addr}, Sep K G S H (vs.zip es) F → (∀ a ∈ F, M a) → es.length = vs.length → Sep K ⟨S, H, M, P⟩ S H (vs.zip (es.map ce)) F
  | [], [], _, h, _, _ => by cases h; exact .nil
  | v :: vs, e :: es, F, h, hm, hl => by
    cases h with
    | @cons _ _ _ F1 F2 o f h2 dj =>
      have ih := sep_ce (P := P) h2 (fun a m => hm a (List.mem_append_right _ m)) (by simpa using hl)
      refine .cons (e := ce e) ?_ (fun a m => ?_) ih dj
      · obtain ⟨io, o'⟩ := e
        cases o' <;> exact o
      · have := hm a (List.mem_append_left _ m)
        obtain ⟨io, o'⟩ := e
        cases o' with
        | leaf d => cases o; cases m
        | lst d => exact .inl this
        | dic d => exact .inl this
def retT (ρ' : Ev) : Nat → List V → List E → List (V × E)
  | i, v :: vs, e :: es => (match e.o with
    | .leaf _ => []
    | _ => (match ρ'[i]? with
      | some (some ⟨true, o'⟩) => [(v, ⟨true, o'⟩)]
      | _ => [])) ++ retT ρ' (i + 1) vs es
  | _, _, _ => []
def retV (ρ' : Ev) : Nat → List V → List E → List (V × E)
  | i, v :: vs, e :: es => (match e.o with
    | .leaf _ => []
    | _ => (match ρ'[i]? with
      | some (some ⟨true, o'⟩) => [(v, ⟨e.io, o'⟩)]
      | _ => [])) ++ retV ρ' (i + 1) vs es
  | _, _, _ => []
theorem retT_set {ρ' : Ev} {j : Nat} : ∀ {vs : List V} {es : List E} {i : Nat}, j < i → retT (ρ'.set j none) i vs es = retT ρ' i vs es
  | [], _, _, _ => by cases ‹List E› <;> rfl
  | _ :: _, [], _, _ => rfl
  | v :: vs, e :: es, i, h => by
    unfold retT
    rw [List.getElem?_set_ne (by omega), retT_set (by omega)]
theorem ret_run : ∀ {vs : List V} {es : List E} {i : Nat} {T : List (V × E)} {ρ : Ev}, Stt K G T ρ σ S H → (∀ k v, vs[k]? = some v → G.P[i + k]? = some (some v)) → ∃ ρ2, Stt K G (retT ρ i vs es ++ T) ρ2 σ S H
  | [], es, i, T, ρ, s, _ => by cases es <;> exact ⟨ρ, s⟩
  | v :: vs, [], i, T, ρ, s, _ => ⟨ρ, s⟩
  | v :: vs, e :: es, i, T, ρ, s, hP => by
    have hP' : ∀ k v', vs[k]? = some v' → G.P[i + 1 + k]? = some (some v') := fun k v' h => by
      have := hP (k + 1) v' (by simpa using h)
      rw [show i + 1 + k = i + (k + 1) by omega]
      exact this
    unfold retT
    have skip : ∃ ρ2, Stt K G ([] ++ retT ρ (i + 1) vs es ++ T) ρ2 σ S H := ret_run s hP'
    have one : (match ρ[i]? with
      | some (some ⟨true, o'⟩) => [(v, (⟨true, o'⟩ : E))]
      | _ => []) = [] ∨ ∃ o', ρ[i]? = some (some ⟨true, o'⟩) ∧ (match ρ[i]? with
      | some (some ⟨true, o'⟩) => [(v, (⟨true, o'⟩ : E))]
      | _ => []) = [(v, ⟨true, o'⟩)] := by
      split
      · rename_i o' ho; exact .inr ⟨o', ho, rfl⟩
      · exact .inl rfl
    have main : ∃ ρ2, Stt K G ((match ρ[i]? with
      | some (some ⟨true, o'⟩) => [(v, (⟨true, o'⟩ : E))]
      | _ => []) ++ retT ρ (i + 1) vs es ++ T) ρ2 σ S H := by
      rcases one with h | ⟨o', ho, h⟩
      · rw [h]; exact skip
      · rw [h]
        obtain ⟨w, hw, s1⟩ := s.take ho
        have e1 := s.ios i _ ho rfl
        have e2 := hP 0 v rfl
        rw [Nat.add_zero] at e2
        rw [e2, hw] at e1
        cases e1
        obtain ⟨ρ2, s2⟩ := ret_run (es := es) s1 hP'
        rw [retT_set (Nat.lt_succ_self i)] at s2
        exact ⟨ρ2, s2.permT List.perm_middle⟩
    split
    · exact skip
    · exact main
theorem ret_conv {G' : Fra} {S1 H1 : Hp} {ρ' : Ev} : ∀ {vs : List V} {es : List E} {i : Nat} {FR FA : List Addr}, Sep K G' S H (retT ρ' i vs es) FR → Sep K G S1 H1 (vs.zip es) FA → Sep K G S H (retV ρ' i vs es) FR ∧ ∀ a ∈ FR, a ∈ FA
  | [], es, i, FR, FA, h, _ => by cases es <;> (cases h; exact ⟨.nil, by simp⟩)
  | v :: vs, [], i, FR, FA, h, _ => by cases h; exact ⟨.nil, by simp⟩
  | v :: vs, e :: es, i, FR, FA, h, h2 => by
    cases h2 with
    | @cons _ _ _ F1 F2 o f h3 dj =>
      have skip : ∀ {FR}, Sep K G' S H ([] ++ retT ρ' (i + 1) vs es) FR → Sep K G S H ([] ++ retV ρ' (i + 1) vs es) FR ∧ ∀ a ∈ FR, a ∈ F1 ++ F2 := fun h => by
        obtain ⟨g1, g2⟩ := ret_conv h h3
        exact ⟨g1, fun a m => List.mem_append_right _ (g2 a m)⟩
      have one : ∀ {FR}, (∀ d, e.o ≠ .leaf d) → Sep K G' S H ((match ρ'[i]? with
        | some (some ⟨true, o'⟩) => [(v, (⟨true, o'⟩ : E))]
        | _ => []) ++ retT ρ' (i + 1) vs es) FR → Sep K G S H ((match ρ'[i]? with
        | some (some ⟨true, o'⟩) => [(v, (⟨e.io, o'⟩ : E))]
        | _ => []) ++ retV ρ' (i + 1) vs es) FR ∧ ∀ a ∈ FR, a ∈ F1 ++ F2 := fun {FR} hne h => by
        split at h
        · rename_i o' ho
          cases h with
          | @cons _ _ _ F1' F2' o2 f2 h4 dj2 =>
            obtain ⟨g1, g2⟩ := ret_conv h4 h3
            have sub : ∀ a ∈ F1', a ∈ F1 := by
              obtain ⟨io, eo⟩ := e
              cases eo with
              | leaf d => exact absurd rfl (hne d)
              | lst d => cases o; cases o2 <;> simp
              | dic d => cases o <;> cases o2 <;> simp
            refine ⟨.cons (e := ⟨e.io, o'⟩) o2 (fun a m => f a (sub a m)) g1 dj2, fun a m => ?_⟩
            rcases List.mem_append.mp m with m | m
            · exact List.mem_append_left _ (sub a m)
            · exact List.mem_append_right _ (g2 a m)
        · exact skip h
      unfold retT at h
      unfold retV
      obtain ⟨io, eo⟩ := e
      cases eo with
      | leaf d => exact skip h
      | lst d => exact one (by intro d z; cases z) h
      | dic d => exact one (by intro d z; cases z) h
/-- a temporary is given to the slot whose value it is -/
theorem Stt.give {i : Nat} {v : V} {e : E} (s : Stt K G ((v, e) :: T) ρ σ S H) (hv : σ[i]? = some (some v)) (hio : e.io = true → σ[i]? = G.P[i]?) : Stt K G T (ρ.set i (some e)) σ S H := by
  have hl : i < σ.length := (List.getElem?_eq_some_iff.mp hv).1
  have hi : i < ρ.length := by rw [← s.len]; exact hl
  obtain ⟨L, F, sl, sep⟩ := s.res
  obtain ⟨L', L'', sb, sl', p⟩ := sl.put v e hl
  have e1 : σ.set i (some v) = σ := by
    obtain ⟨h1, h2⟩ := List.getElem?_eq_some_iff.mp hv
    rw [← h2, List.set_getElem_self]
  rw [e1] at sl'
  obtain ⟨F1, sep1, _⟩ := sep.sub ((List.Sublist.cons_cons (v, e) ((List.Sublist.refl T).append sb)))
  obtain ⟨F2, sep2, _⟩ := sep1.perm ((List.perm_middle.symm).trans (List.Perm.append_left T p.symm))
  refine ⟨s.sub, s.s0, s.keep, s.dom, s.new, fun j e2 q io => ?_, L'', F2, sl', sep2⟩
  by_cases hj : i = j
  · subst hj
    rw [List.getElem?_set_self hi] at q
    cases q
    exact hio io
  · rw [List.getElem?_set_ne hj] at q
    exact s.ios j e2 q io
theorem unlend_run {vs : List V} {bs : List B} {es : List E} (h : Lent G σ vs bs es) {ρ' : Ev} : ∀ {i : Nat} {ρ ρ2 : Ev} {T : List (V × E)}, unlend ρ' i bs es ρ = some ρ2 → Stt K G (retV ρ' i vs es ++ T) ρ σ S H → Stt K G T ρ2 σ S H := by
  induction h with
  | nil => intro i ρ ρ2 T e s; cases e; exact s
  | @leaf v vs b bs d es h ih =>
    intro i ρ ρ2 T e s
    have s : Stt K G (retV ρ' (i + 1) vs es ++ T) ρ σ S H := s
    have e : unlend ρ' (i + 1) bs es ρ = some ρ2 := by
      cases b <;> exact e
    exact ih e s
  | @own v vs j bs e es h1 h2 h3 h ih =>
    intro i ρ ρ2 T e' s
    obtain ⟨io, eo⟩ := e
    have go : (match ρ'[i]? with
      | some (some ⟨true, o'⟩) => unlend ρ' (i + 1) bs es (ρ.set j (some ⟨io, o'⟩))
      | _ => none) = some ρ2 → Stt K G ((match ρ'[i]? with
      | some (some ⟨true, o'⟩) => [(v, (⟨io, o'⟩ : E))]
      | _ => []) ++ retV ρ' (i + 1) vs es ++ T) ρ σ S H → Stt K G T ρ2 σ S H := fun e' s => by
      split at e'
      · rename_i o' ho
        rw [ho] at s
        exact ih e' (s.give h1 h2)
      · cases e'
    cases eo with
    | leaf d => exact absurd rfl (h3 d)
    | lst d => exact go e' s
    | dic d => exact go e' s
end
section
variable {X : Cx} {fs : Ev → Rs (List B)}
theorem call_run {n : Nat} {F : Fn} {σ : Sg} {H : Hp} {Q : VK} (q : tE X.K W0 (callS F fs) σ H Q) (hn : ∀ ρ bs ρ', fs ρ = .ok bs ρ' → bs.length = n) : tCall (spF X.K n F) [] E0 (tA X.K W0 fs) σ H Q := by
  obtain ⟨G, T, S, ρ, s, q⟩ := q
  refine ⟨G, T, S, ρ, s, ?_⟩
  unfold callS bnd at q
  cases e0 : fs ρ with
  | stk => rw [e0] at q; exact q
  | er x ρ' => rw [e0] at q; exact q
  | ok bs ρ1 =>
    rw [e0] at q
    intro vs S1 H1 s1 at1
    simp only at q
    cases e1 : lend bs ρ1 with
    | none => rw [e1] at q; exact q.elim
    | some p =>
      obtain ⟨es, ρl⟩ := p
      rw [e1] at q
      simp only at q
      obtain ⟨S2, s2, ln⟩ := lend_run at1 e1 s1
      have hle := ln.len
      have hvl : vs.length = n := by rw [at1.len]; exact hn ρ bs ρ1 e0
      rw [List.append_nil]
      obtain ⟨L, FF, sl, sep⟩ := s2.res
      rw [List.append_assoc] at sep
      obtain ⟨FA, FB, sA, sB, dj, _⟩ := sep.split
      refine ⟨hvl, S2, fun a => a ∈ FA, es.map ce, by rw [List.length_map]; omega, ?_, ?_⟩
      · exact ⟨s2.sub, Same.refl _, fun a o _ h => h, fun a h => h, fun a _ h => .inl h, fun i e h io => rfl, _, FA, Sl.all (by rw [List.length_map]; exact hle), by rw [List.nil_append]; exact sep_ce sA (fun a m => m) hle⟩
      · cases e2 : F (es.map ce) with
        | stk => rw [e2] at q; exact q.elim
        | er x ρ' => rw [e2] at q; exact q.elim
        | ok d ρ' =>
          rw [e2] at q
          intro v σ' S' H' s'
          simp only at q
          cases e3 : unlend ρ' 0 bs es ρl with
          | none => rw [e3] at q; exact q.elim
          | some ρ2 =>
            rw [e3] at q
            refine q v S' H' ?_
            -- what was lent
            have hP : ∀ k w, vs[k]? = some w → (vs.map some)[0 + k]? = some (some w) := fun k w h => by
              rw [Nat.zero_add, List.getElem?_map, h]; rfl
            obtain ⟨ρ3, s3⟩ := ret_run (vs := vs) (es := es) (i := 0) s' hP
            obtain ⟨L3, F3, sl3, sep3⟩ := s3.res
            rw [List.append_assoc] at sep3
            obtain ⟨FR, F4, sR, sRest, djR, _⟩ := sep3.split
            obtain ⟨sR2, hsub⟩ := ret_conv (G := G) sR sA
            cases sRest with
            | @cons _ _ _ F5 F6 oV fV _ djV =>
              have hFB : ∀ a ∈ FB, H' a = H1 a ∧ S' a = none := fun a m => by
                obtain ⟨h1, h2⟩ := sB.there a m
                have hk : H' a = H1 a := by
                  cases e : H1 a with
                  | none => exact absurd e h1
                  | some o => exact s'.keep a o (fun z => dj a z m) e
                refine ⟨hk, ?_⟩
                rcases s'.new a h1 h2 with h | ⟨xs, h⟩
                · exact h
                · have := s'.sub _ _ h
                  rw [hk] at this
                  exact absurd this (sB.notup a m xs)
              have sB' : Sep X.K G S' H' (T ++ L) FB := sB.mono s'.s0 hFB
              have hV : ∀ a ∈ F5, H1 a = none := fV
              have sV : Sep X.K G S' H' ((v, ow d) :: (T ++ L)) (F5 ++ FB) := .cons oV (fun a m => by
                show G.H0 a = none
                cases q : G.H0 a with
                | none => rfl
                | some o => exact absurd (hV a m) (s2.dom a (by rw [q]; simp))) sB' (fun a m m' => (sB.there a m').1 (hV a m))
              have sAll := Sep.join sV sR2 (fun a m m' => by
                rcases List.mem_append.mp m' with m' | m'
                · exact djR a m (List.mem_append_left _ m')
                · exact dj a (hsub a m) m')
              have flA : ∀ a ∈ FA, G.M a ∨ G.H0 a = none := by
                have key : ∀ {A : List (V × E)} {F : List Addr}, Sep X.K G S2 H1 A F → ∀ a ∈ F, G.M a ∨ G.H0 a = none := by
                  intro A F h
                  induction h with
                  | nil => intro a m; cases m
                  | @cons v e _ F1 F2 o f _ _ ih =>
                    intro a m
                    rcases List.mem_append.mp m with m | m
                    · have := f a m
                      unfold Flag at this
                      split at this
                      · exact this
                      · exact .inr this
                    · exact ih a m
                exact key sA
              have newT : ∀ a, G.H0 a ≠ none → G.S0 a = none → S' a = none ∨ ∃ xs, S' a = some (.tup xs) := fun a h h' => by
                rcases s2.new a h h' with h2 | ⟨xs, h2⟩
                · exact s'.new a (s2.dom a h) h2
                · exact .inr ⟨xs, s'.s0 _ _ h2⟩
              refine unlend_run ln e3 (ρ' := ρ') ?_
              refine ⟨s'.sub, s2.s0.trans s'.s0, fun a o hm h => ?_, fun a h => s'.dom a (s2.dom a h), fun a h h' => newT a h h', s2.ios, L, FR ++ (F5 ++ FB), sl, ?_⟩
              · refine s'.keep a o (fun z => ?_) (s2.keep a o hm h)
                rcases flA a z with z | z
                · exact hm z
                · rw [z] at h; cases h
              · rw [List.append_assoc]; exact sAll
end
/-- how many arguments -/
def Ar (n : Nat) (fs : Ev → Rs (List B)) : Prop := ∀ ρ bs ρ', fs ρ = .ok bs ρ' → bs.length = n
theorem ar_nil : Ar 0 aNil := fun _ _ _ h => by cases h; rfl
theorem ar_cons {n : Nat} {f : Ev → Rs B} {r : Ev → Rs (List B)} (h : Ar n r) : Ar (n + 1) (aCons f r) := fun ρ bs ρ' e => by
  unfold aCons bnd at e
  cases e1 : f ρ with
  | stk => rw [e1] at e; cases e
  | er x ρ' => rw [e1] at e; cases e
  | ok b ρ1 =>
    rw [e1] at e
    simp only at e
    cases e2 : r ρ1 with
    | stk => rw [e2] at e; cases e
    | er x ρ' => rw [e2] at e; cases e
    | ok bs' ρ2 =>
      rw [e2] at e
      simp only at e
      cases e
      rw [List.length_cons, h _ _ _ e2]
abbrev Cal (P : Program) (w : World) (K : PySem.W.Frag) (mg : Str → Option Value) (base : Heap) (k : Nat) (x : Str) (n : Nat) (F : Fn) : Prop := C8.Cal P w K mg base k x (spF K n F) []
section
variable {X : Cx} {k j n : Nat} {x : Str} {F : Fn} {e : Expr} {es : List Expr} {p pos : Pos} {fs : Ev → Rs (List B)}
theorem de_call (c : Cal X.prog X.w X.K X.mg X.base k x n F) (hr : Room j X.A) (hk : k ≤ j) (hg : Gl X x) (ha : DA X W0 (e :: es) fs) (hn : Ar n fs)
    (hdb : (x == ("__debug__" : Str)) = false := by decide) (he : starEach (e :: es) X.env = (false, eval e X.env) :: starEach es X.env := by rfl) (hpl : (backTo pos (starEach es X.env)).any (·.1) = false := by rfl) :
    DE X W0 (.Call (.Name x p) (e :: es) [] pos) (callS F fs) := PE.imp (C8.pe_c c hr hk hg ha hdb he hpl) fun σ H Q q => call_run q hn
end
end Y
/-! Y: isinstance, methods of texts, walking a dict -/
namespace Y
open PySem PySem.Spec PyProof.Rows L2

/-! ### isinstance(x, T) -/
def tyN : D → String
  | .none => "NoneType"
  | .bool _ => "bool"
  | .int _ => "int"
  | .str _ => "str"
  | .list _ => "list"
  | .tuple _ => "tuple"
  | .dict _ => "dict"
def isT (d : D) (t : String) : Option Bool := if t = "int" then some (match d with | .int _ => true | .bool _ => true | _ => false) else if t = "str" ∨ t = "list" ∨ t = "tuple" ∨ t = "dict" ∨ t = "bool" then some (tyN d == t) else none
theorem isT_kit {d : D} {t : String} {b : Bool} (h : isT d t = some b) : kitB (tyN d) t = some b := by
  unfold isT at h
  split at h
  · rename_i e
    subst e
    cases d <;> cases h <;> (dsimp only [tyN]; decide +kernel)
  · split at h
    · rename_i e
      cases h
      rcases e with e | e | e | e | e <;> subst e <;> cases d <;> (dsimp only [tyN]; decide +kernel)
    · cases h
def rIsY (K : PySem.W.Frag) : List V → Hp → VK → Prop := fun xs H Q => ∃ (x : V) (d : D) (t : String) (b : Bool) (S : Hp), xs = [x, .ty t] ∧ Rt K S H x d ∧ isT d t = some b ∧ Q (.bl b) H
theorem call_isY {X : Cx} : CallR X (.builtin "isinstance") (rIsY X.K) := by
  intro pins s σ H xs us Q I r h
  obtain ⟨x, d, t, b, S, rfl, rt, e, q⟩ := h
  have ek := isT_kit e
  have base : ∀ {tv : String}, TyX X.K H x (.type tv) → tyN d = tv → wpAny (model X.prog X.w) X.A (call (.builtin "isinstance") us) (EP X pins σ Q) X.xe s := fun {tv} ty et => by
    subst et
    exact call_isi pins s σ H _ us Q I r ⟨x, .ty t, .type (tyN d), .type t, b, rfl, .ty t, ty, kit_ty ek, q⟩
  cases rt with
  | non => exact base (.base .non) rfl
  | bl k => exact base (.base (.bl k)) rfl
  | int i => exact base (.base (.int i)) rfl
  | str y hy => exact base (.base (.str y)) rfl
  | lst h1 h2 =>
    rcases h1 with (h1 | ⟨o, h1⟩) | ⟨o, _, _, h1, h2, _⟩
    · exact base (.base (.lst h1)) rfl
    · exact base (.base (.frz h1)) rfl
    · exact base (.kList h1 h2) rfl
  | tup h0 h1 h2 => exact base (.base (.tup h1)) rfl
  | dK h1 h2 h3 =>
    rcases h1 with h1 | ⟨o, h1⟩
    · exact base (.base (.dK h1)) rfl
    · exact base (.fDict h1) rfl
  | dT h1 h2 h3 =>
    rcases h1 with h1 | ⟨o, h1⟩
    · exact base (.base (.dT h1)) rfl
    · obtain ⟨u1, u2, rfl, r1, r2⟩ := vals2 r
      cases (show u2 = Value.type t from r2)
      cases r1
      obtain ⟨hs, hgd, hx, _⟩ := I.frzT h1
      exact PySem.W.kia_one PySem.W.kitx_dict I.kIn ⟨o, hgd, hx.1⟩ (kit_ty ek) (fun z => nomatch z) fun tk => ⟨.bl b, H, I.tok tk, rfl, q⟩
def isiE (t : String) (fa : Ev → Rs B) : Ev → Rs Bool := bnd fa fun b ρ => match b.val ρ with
  | some d => (match isT d t with | some k => .ok k ρ | none => .stk)
  | none => .stk
section
variable {X : Cx} {W : XW} {a : Expr} {fa : Ev → Rs B} {pos p p2 : Pos} {x : Str} {t : String}
theorem dv_isi (hg : Gl X "isinstance") (hm : X.mg "isinstance" = none) (ha : DB X W a fa) (hg2 : Gl X x) (hm2 : X.mg x = none) (hv : bootBuiltins x = some (.type t)) (hn : x ≠ "__name__" := by decide) (hd : (x == ("__debug__" : Str)) = false := by decide)
    (he : starEach [a, .Name x p2] X.env = (false, eval a X.env) :: starEach [.Name x p2] X.env := by rfl) (he2 : starEach [.Name x p2] X.env = (false, eval (.Name x p2) X.env) :: starEach [] X.env := by rfl) (hpl : (backTo pos (starEach [.Name x p2] X.env)).any (·.1) = false := by rfl) :
    DV X W (.Call (.Name "isinstance" p) [a, .Name x p2] [] pos) (isiE t fa) :=
  PE.imp (pe_callB call_isY hg hm (by rfl) (pa_cons ha (pa_cons (pe_bltn (v := .ty t) hg2 hm2 hv rfl hn hd) pa_nil he2) he) (he := he) (hpl := hpl)) fun σ H Q ⟨G, T, S, ρ, s, g⟩ => by
    refine ⟨G, T, S, ρ, s, seq sid ?_ g⟩
    intro b ρ1 z v S1 H1 s1 at1
    split at z
    · rename_i d hd
      split at z
      · rename_i k hk
        exact ⟨v, d, t, k, S1, rfl, B.rt s1 (fun x m => List.mem_append_left _ m) at1 hd, hk, z S1 H1 s1.dropL⟩
      · exact z.elim
    · exact z.elim
end

/-! ### len, dicts of text and int keys too -/
def kkeys (kvs : List (D × D)) : Bool := kvs.all fun p => (asKey p.1).isSome
def gLenA : List D → Option O
  | [.dict kvs] => if kvs ≠ [] ∧ kkeys kvs = true then some (.leaf (.int kvs.length)) else if kvs = [] then some (.leaf (.int 0)) else none
  | ds => gLen ds
def rLenA (K : PySem.W.Frag) : List V → Hp → VK → Prop := fun xs H Q => (∃ x n, xs = [x] ∧ LenV K x H n ∧ Q (.int n) H) ∨ ∃ a kvs, xs = [V.ref a] ∧ (Rd H a (.dK kvs) ∨ (kvs = [] ∧ H a = some (.dT []))) ∧ Q (.int (kvs.length : Nat)) H
theorem call_lenA {X : Cx} : CallR X (.builtin "len") (rLenA X.K) := by
  intro pins s σ H xs us Q I r h
  rcases h with h | ⟨a, kvs, rfl, ha, q⟩
  · exact call_len pins s σ H xs us Q I r h
  · obtain ⟨u, rfl, ru⟩ := vals1 r
    cases ru
    rcases ha with ha | ⟨rfl, ha⟩
    · exact d_len I ha fun t s' I' => ⟨.int kvs.length, H, I', ⟨t, rfl⟩, q⟩
    · refine d_len (Inv.tk I ha) (.inl upd_same) fun t s' I' => ?_
      have := Inv.kt I' upd_same
      rw [upd_back ha] at this
      exact ⟨.int (0 : Nat), H, this, ⟨t, rfl⟩, q⟩
theorem does_lenA {X : Cx} : DoesL X gLenA (rLenA X.K) := by
  intro xs ds o G T ρ σ S H Q s r e q
  have base : gLen ds = some o → rLenA X.K xs H Q := fun e => .inl (does_len xs ds o G T ρ σ S H Q s r e q)
  unfold gLenA at e
  split at e
  · rename_i kvs
    obtain ⟨x, rfl, rx⟩ := r.one
    split at e
    · rename_i h
      cases e
      cases rx with
      | dK h1 h2 h3 => exact .inr ⟨_, _, rfl, .inl h1, by rw [h3.length]; exact s.val (.int _) q⟩
      | dT h1 h2 h3 =>
        cases h3 with
        | nil => exact absurd rfl h.1
        | cons _ _ _ => simp [kkeys, asKey] at h
    · split at e
      · rename_i h
        cases e
        subst h
        cases rx with
        | dK h1 h2 h3 => cases h3; exact .inr ⟨_, [], rfl, .inl h1, s.val (.int _) q⟩
        | dT h1 h2 h3 => cases h3; exact .inr ⟨_, [], rfl, .inr ⟨rfl, h2 rfl⟩, s.val (.int _) q⟩
      · cases e
  · exact base e

/-! ### methods -/
def tyOk (T : String) (d : D) : Bool := match d with
  | .str _ => T == "str"
  | .list _ => T == "list"
  | _ => false
def mth (T : String) (g : D → List D → Option O) (fo : Ev → Rs B) (fs : Ev → Rs (List B)) : Ev → Rs O := bnd fo fun a ρ => match a.val ρ with
  | some x => if tyOk T x = true then bnd fs (fun bs ρ' => match a.val ρ' with
    | some y => (match vals ρ' bs with
      | some ds => (match g y ds with | some o => .ok o ρ' | none => .stk)
      | none => .stk)
    | none => .stk) ρ else .stk
  | none => .stk
theorem tyOk_V {K : PySem.W.Frag} {S H : Hp} {v : V} {d : D} {T : String} (r : Rt K S H v d) (h : tyOk T d = true) : tyV K T v H := by
  cases r with
  | str x hx => exact eq_of_beq h
  | lst h1 h2 => exact .inl ⟨eq_of_beq h, _, h1⟩
  | _ => cases h
def DoesM (X : Cx) (g : D → List D → Option O) (r : V → List V → Hp → VK → Prop) : Prop := ∀ (x : V) (dx : D) (xs : List V) (ds : List D) (o : O) (G : Fra) (T : List (V × E)) (ρ : Ev) (σ : Sg) (S H : Hp) (Q : VK), Stt X.K G T ρ σ S H → Rt X.K S H x dx → RtA X.K S H xs ds → g dx ds = some o →
  (∀ v S' H', Stt X.K G ((v, ow o) :: T) ρ σ S' H' → Q v H') → r x xs H Q
section
variable {X : Cx} {W : XW} {o e : Expr} {es : List Expr} {apos pos : Pos} {fo : Ev → Rs B} {fs : Ev → Rs (List B)}
theorem mth_run {T : String} {g : D → List D → Option O} {r : V → List V → Hp → VK → Prop} (h : DoesM X g r) {σ : Sg} {H : Hp} {Q : VK} (q : tE X.K W (mth T g fo fs) σ H Q) : tBM X.K T r (tB' X.K W fo) (tA X.K W fs) σ H Q := by
  obtain ⟨G, TT, S, ρ, s, q⟩ := q
  refine ⟨G, TT, S, ρ, s, seq sid (fun a ρ1 z x S1 H1 s1 at1 => ?_) q⟩
  split at z
  · rename_i dx hx
    split at z
    · rename_i ht
      have rx : Rt X.K S1 H1 x dx := B.rt s1 (fun p m => List.mem_append_left _ m) at1 hx
      refine ⟨tyOk_V rx ht, G, a.tm x ++ TT, S1, ρ1, s1, seq sdr (fun bs ρ2 z2 xs S2 H2 s2 at2 => ?_) z⟩
      split at z2
      · rename_i y hy
        split at z2
        · rename_i ds hds
          split at z2
          · rename_i o ho
            have ry : Rt X.K S2 H2 x y := B.rt s2 (fun p m => List.mem_append_right _ (List.mem_append_left _ m)) at1 hy
            have rs := at2.rt s2 (fun p m => List.mem_append_left _ m) hds
            exact h x y xs ds o G _ ρ2 σ S2 H2 Q s2 ry rs ho fun v S' H' s' => z2 v S' H' (s'.subT (List.Sublist.cons_cons _ ((List.sublist_append_right _ _).trans (List.sublist_append_right _ _))))
          · exact z2.elim
        · exact z2.elim
      · exact z2.elim
    · exact z.elim
  · exact z.elim
theorem de_mth {T id : String} {name : Str} {g : D → List D → Option O} {r : V → List V → Hp → VK → Prop} (h : DoesM X g r) (pa : PlainAttrs T) (slot : Slot T name id) (hty : typeOf (.builtin id) = pure (.type "method_descriptor")) (hm : MtR X id r) (ho : DB X W o fo) (he : DA X W (e :: es) fs)
    (hbase : attributeBase o name X.env (eval o X.env) = eval o X.env := by rfl)
    (hfew : ((backTo pos (starEach (e :: es) X.env)).all (fun x => !x.1) && (backToKw pos (keywordEach [] X.env)).all (fun x => x.1.isSome)
      && decide ((e :: es).length + ([] : List Keyword).length + (if ([] : List Keyword).isEmpty then 0 else 1) < 30)) = true := by rfl)
    (hline : (apos.endLine == pos.line) = true := by rfl) (hs : starEach (e :: es) X.env = (false, eval e X.env) :: starEach es X.env := by rfl) (hplain : (backTo pos (starEach es X.env)).any (·.1) = false := by rfl) :
    DE X W (.Call (.Attribute o name apos) (e :: es) [] pos) (mth T g fo fs) := PE.imp (pe_bm pa slot hty hm ho he hbase hfew hline hs hplain) fun _ _ _ q => mth_run h q
def gStarts : D → List D → Option O
  | .str a, [.str b] => some (.leaf (.bool (Txt.startswith a b)))
  | _, _ => none
theorem does_starts : DoesM X gStarts (fun x xs H Q => ∃ a b, x = .str a ∧ xs = [.str b] ∧ Q (.bl (Txt.startswith a b)) H) := by
  intro x dx xs ds o G T ρ σ S H Q s rx r e q
  unfold gStarts at e
  split at e
  · obtain ⟨y, rfl, ry⟩ := r.one
    cases e
    have h2 := ry.str_of
    subst h2
    exact ⟨_, _, rx.str_of, rfl, s.val (.bl _) q⟩
  · cases e
end
end Y
/-! Y: walking a dict -/
namespace Y
open PySem PySem.Spec PyProof.Rows L2

/-! ### a dict is locked, and unlocked again -/
def DictNe : HO → Prop
  | .dK (_ :: _) => True
  | .dT (_ :: _) => True
  | _ => False
structure Sw (d : Addr) (S1 S2 : Hp) : Prop where
  off : ∀ b, b ≠ d → S2 b = S1 b
  at1 : ∃ od u, DictNe u ∧ ((S1 d = some u ∧ S2 d = some (.frz od u)) ∨ (S1 d = some (.frz od u) ∧ S2 d = some u))
section
variable {d a : Addr} {S1 S2 : Hp} {K : PySem.W.Frag}
theorem Sw.plain (w : Sw d S1 S2) {u : HO} (h : S1 a = some u) (h1 : ¬ DictNe u) (h2 : ∀ o v, DictNe v → u ≠ .frz o v) : S2 a = some u := by
  by_cases e : a = d
  · subst e
    exfalso
    obtain ⟨od, v, hv, ⟨g1, g2⟩ | ⟨g1, g2⟩⟩ := w.at1
    · rw [h] at g1; cases g1; exact h1 hv
    · rw [h] at g1; cases g1; exact h2 _ _ hv rfl
  · exact (w.off a e).trans h
theorem Sw.rd (w : Sw d S1 S2) {u : HO} (hf : ∀ o v, u ≠ .frz o v) (h : Rd S1 a u) : Rd S2 a u := by
  by_cases e : a = d
  · subst e
    obtain ⟨od, v, hv, ⟨g1, g2⟩ | ⟨g1, g2⟩⟩ := w.at1
    · rcases h with h | ⟨o, h⟩
      · rw [h] at g1; cases g1; exact .inr ⟨od, g2⟩
      · rw [h] at g1; cases g1; exact hv.elim
    · rcases h with h | ⟨o, h⟩
      · rw [h] at g1; cases g1; exact absurd rfl (hf od v)
      · rw [h] at g1; cases g1; exact .inl g2
  · rcases h with h | ⟨o, h⟩
    · exact .inl ((w.off a e).trans h)
    · exact .inr ⟨o, (w.off a e).trans h⟩
theorem Sw.sqL (w : Sw d S1 S2) {xs : List V} (h : SqL K S1 a xs) : SqL K S2 a xs := by
  rcases h with h | h
  · exact .inl (w.rd (fun _ _ z => nomatch z) h)
  · exact .inr h
theorem Sw.emK (w : Sw d S1 S2) {kvs : List (Key × V)} (h : kvs = [] → S1 a = some (.dK kvs)) : kvs = [] → S2 a = some (.dK kvs) := fun z => by
  have h := h z
  subst z
  exact w.plain h (fun z => z) (fun _ _ _ z => nomatch z)
theorem Sw.emT (w : Sw d S1 S2) {kvs : List (List Key × V)} (h : kvs = [] → S1 a = some (.dT kvs)) : kvs = [] → S2 a = some (.dT kvs) := fun z => by
  have h := h z
  subst z
  exact w.plain h (fun z => z) (fun _ _ _ z => nomatch z)
theorem Sw.rdK (w : Sw d S1 S2) {kvs : List (Key × V)} (h : Rd S1 a (.dK kvs)) : Rd S2 a (.dK kvs) := w.rd (fun _ _ z => nomatch z) h
theorem Sw.rdT (w : Sw d S1 S2) {kvs : List (List Key × V)} (h : Rd S1 a (.dT kvs)) : Rd S2 a (.dT kvs) := w.rd (fun _ _ z => nomatch z) h
theorem Sw.tup (w : Sw d S1 S2) {xs : List V} (h : S1 a = some (.tup xs)) : S2 a = some (.tup xs) := w.plain h (fun z => z) (fun _ _ _ z => nomatch z)
end
mutual
theorem Rp.sw {d : Addr} {S1 S2 : Hp} {K : PySem.W.Frag} (w : Sw d S1 S2) : ∀ {v : V} {x : D}, Rp K S1 v x → Rp K S2 v x
  | _, _, .non => .non
  | _, _, .bl b => .bl b
  | _, _, .int i => .int i
  | _, _, .str x h => .str x h
  | _, _, .lst a b => .lst (w.sqL a) (RpA.sw w b)
  | _, _, .tup a b => .tup (w.tup a) (RpA.sw w b)
  | _, _, .dK a c b => .dK (w.rdK a) (w.emK c) (RpK.sw w b)
  | _, _, .dT a c b => .dT (w.rdT a) (w.emT c) (RpT.sw w b)
theorem RpA.sw {d : Addr} {S1 S2 : Hp} {K : PySem.W.Frag} (w : Sw d S1 S2) : ∀ {v : List V} {x : List D}, RpA K S1 v x → RpA K S2 v x
  | _, _, .nil => .nil
  | _, _, .cons a b => .cons (Rp.sw w a) (RpA.sw w b)
theorem RpK.sw {d : Addr} {S1 S2 : Hp} {K : PySem.W.Frag} (w : Sw d S1 S2) : ∀ {v : List (Key × V)} {x : List (D × D)}, RpK K S1 v x → RpK K S2 v x
  | _, _, .nil => .nil
  | _, _, .cons o a b => .cons o (Rp.sw w a) (RpK.sw w b)
theorem RpT.sw {d : Addr} {S1 S2 : Hp} {K : PySem.W.Frag} (w : Sw d S1 S2) : ∀ {v : List (List Key × V)} {x : List (D × D)}, RpT K S1 v x → RpT K S2 v x
  | _, _, .nil => .nil
  | _, _, .cons o a b => .cons o (Rp.sw w a) (RpT.sw w b)
end
section
variable {d a : Addr} {S1 S2 : Hp} {K : PySem.W.Frag}
theorem Sw.non (w : Sw d S1 S2) (h : S1 a = none) : S2 a = none := by
  by_cases e : a = d
  · subst e
    obtain ⟨od, v, hv, ⟨g1, g2⟩ | ⟨g1, g2⟩⟩ := w.at1 <;> rw [h] at g1 <;> cases g1
  · exact (w.off a e).trans h
theorem Sw.ne (w : Sw d S1 S2) (h : S1 a = none) : a ≠ d := fun e => by
  subst e
  obtain ⟨od, v, hv, ⟨g1, g2⟩ | ⟨g1, g2⟩⟩ := w.at1 <;> rw [h] at g1 <;> cases g1
theorem Own.sw {H1 H2 : Hp} (w : Sw d S1 S2) (hH : ∀ b, b ≠ d → H2 b = H1 b) {v : V} {o : O} {F : List Addr} (h : Own K S1 H1 v o F) : Own K S2 H2 v o F := by
  cases h with
  | leaf r => exact .leaf (r.sw w)
  | lst e n r => exact .lst ((hH _ (w.ne n)).trans e) (w.non n) (r.sw w)
  | dK e n r => exact .dK ((hH _ (w.ne n)).trans e) (w.non n) (r.sw w)
  | dT e n r => exact .dT ((hH _ (w.ne n)).trans e) (w.non n) (r.sw w)
theorem Sep.sw {G1 G2 : Fra} {H1 H2 : Hp} (w : Sw d S1 S2) (hH : ∀ b, b ≠ d → H2 b = H1 b) (hF : ∀ io a, a ≠ d → Flag G1 io a → Flag G2 io a) {L : List (V × E)} {F : List Addr} (h : Sep K G1 S1 H1 L F) : Sep K G2 S2 H2 L F := by
  induction h with
  | nil => exact .nil
  | @cons v e _ F1 F2 o f _ dj ih => exact .cons (o.sw w hH) (fun a m => hF _ a (w.ne (o.there a m).2) (f a m)) ih dj
end
/-- the frame of what runs under the lock -/
def Fra.lk (G : Fra) (d : Addr) (u : HO) : Fra := ⟨upd G.S0 d u, upd G.H0 d u, G.M, G.P⟩
theorem Stt.lock {K : PySem.W.Frag} {G : Fra} {T : List (V × E)} {ρ : Ev} {σ : Sg} {S H : Hp} {d : Addr} {u : HO} {od : Obj} (s : Stt K G T ρ σ S H) (hd : S d = some u) (hu : DictNe u) :
    Stt K (G.lk d (.frz od u)) T ρ σ (upd S d (.frz od u)) (upd H d (.frz od u)) ∧
    (∀ T' ρ' σ' S' H', Stt K (G.lk d (.frz od u)) T' ρ' σ' S' H' → H' d = some (.frz od u) ∧ Stt K G T' ρ' σ' (upd S' d u) (upd H' d u)) := by
  constructor
  · obtain ⟨L, F, sl, sep⟩ := s.res
    refine ⟨fun b o e => ?_, fun b o e => ?_, fun b o m e => ?_, fun b m => ?_, fun b m z => ?_, s.ios, L, F, sl, sep.sw ⟨fun b hb => upd_ne hb, od, u, hu, .inl ⟨hd, upd_same⟩⟩ (fun b hb => upd_ne hb) fun io a ha f => ?_⟩
    · by_cases hb : b = d
      · subst hb; rw [upd_same] at e ⊢; exact e
      · rw [upd_ne hb] at e ⊢; exact s.sub _ _ e
    · by_cases hb : b = d
      · subst hb
        have e : upd G.S0 b (.frz od u) b = some o := e
        rw [upd_same] at e ⊢; exact e
      · have e : upd G.S0 d (.frz od u) b = some o := e
        rw [upd_ne hb] at e ⊢; exact s.s0 _ _ e
    · by_cases hb : b = d
      · subst hb
        have e : upd G.H0 b (.frz od u) b = some o := e
        rw [upd_same] at e ⊢; exact e
      · have e : upd G.H0 d (.frz od u) b = some o := e
        rw [upd_ne hb] at e ⊢; exact s.keep _ _ m e
    · by_cases hb : b = d
      · subst hb; rw [upd_same]; simp
      · have m : upd G.H0 d (.frz od u) b ≠ none := m
        rw [upd_ne hb] at m ⊢; exact s.dom _ m
    · by_cases hb : b = d
      · subst hb
        have z : upd G.S0 b (.frz od u) b = none := z
        rw [upd_same] at z; cases z
      · have m : upd G.H0 d (.frz od u) b ≠ none := m
        have z : upd G.S0 d (.frz od u) b = none := z
        rw [upd_ne hb] at m z ⊢; exact s.new _ m z
    · unfold Flag at f ⊢
      show if io = true then G.M a ∨ upd G.H0 d (.frz od u) a = none else upd G.H0 d (.frz od u) a = none
      rw [upd_ne ha]
      exact f
  · intro T' ρ' σ' S' H' s'
    have eS : S' d = some (.frz od u) := s'.s0 d _ (show upd G.S0 d (.frz od u) d = _ from upd_same)
    have eH := s'.sub _ _ eS
    refine ⟨eH, ?_⟩
    obtain ⟨L, F, sl, sep⟩ := s'.res
    refine ⟨fun b o e => ?_, fun b o e => ?_, fun b o m e => ?_, fun b m => ?_, fun b m z => ?_, s'.ios, L, F, sl, sep.sw ⟨fun b hb => upd_ne hb, od, u, hu, .inr ⟨eS, upd_same⟩⟩ (fun b hb => upd_ne hb) fun io a ha f => ?_⟩
    · by_cases hb : b = d
      · subst hb; rw [upd_same] at e ⊢; exact e
      · rw [upd_ne hb] at e ⊢; exact s'.sub _ _ e
    · by_cases hb : b = d
      · subst hb
        have := s.s0 _ _ e
        rw [hd] at this
        rw [upd_same]; exact this
      · rw [upd_ne hb]
        exact s'.s0 b o (by show upd G.S0 d (.frz od u) b = some o; rw [upd_ne hb]; exact e)
    · by_cases hb : b = d
      · subst hb
        have := s.keep _ _ m e
        rw [s.sub _ _ hd] at this
        rw [upd_same]; exact this
      · rw [upd_ne hb]
        exact s'.keep b o m (by show upd G.H0 d (.frz od u) b = some o; rw [upd_ne hb]; exact e)
    · by_cases hb : b = d
      · subst hb; rw [upd_same]; simp
      · rw [upd_ne hb]
        exact s'.dom b (by show upd G.H0 d (.frz od u) b ≠ none; rw [upd_ne hb]; exact m)
    · by_cases hb : b = d
      · subst hb
        rcases s.new _ m z with h | ⟨xs, h⟩
        · rw [hd] at h; cases h
        · rw [hd] at h; cases h; exact hu.elim
      · rw [upd_ne hb]
        exact s'.new b (by show upd G.H0 d (.frz od u) b ≠ none; rw [upd_ne hb]; exact m) (by show upd G.S0 d (.frz od u) b = none; rw [upd_ne hb]; exact z)
    · have f : if io = true then G.M a ∨ upd G.H0 d (.frz od u) a = none else upd G.H0 d (.frz od u) a = none := f
      rw [upd_ne ha] at f
      exact f
/-- a tuple that stands there is shared -/
theorem Stt.tupIn {K : PySem.W.Frag} {G : Fra} {T : List (V × E)} {ρ : Ev} {σ : Sg} {S H : Hp} {q : Addr} {xs : List V} (s : Stt K G T ρ σ S H) (h : H q = some (.tup xs)) : ∃ S', Stt K G T ρ σ S' H ∧ Same S S' ∧ S' q = some (.tup xs) := by
  cases hS : S q with
  | some o =>
    have := s.sub _ _ hS
    rw [h] at this
    cases this
    exact ⟨S, s, Same.refl _, hS⟩
  | none =>
    have ss : Same S (upd S q (.tup xs)) := fun b o e => by rw [upd_ne (ne_of_none e hS)]; exact e
    obtain ⟨L, F, sl, sep⟩ := s.res
    have hF : ∀ a ∈ F, a ≠ q := fun a m z => sep.notup a m xs (z ▸ h)
    refine ⟨upd S q (.tup xs), ⟨fun b o e => ?_, s.s0.trans ss, s.keep, s.dom, fun b m z => ?_, s.ios, L, F, sl, sep.mono ss fun a m => ⟨rfl, by rw [upd_ne (hF a m)]; exact (sep.there a m).2⟩⟩, ss, upd_same⟩
    · by_cases hb : b = q
      · subst hb; rw [upd_same] at e; rw [← e]; exact h
      · rw [upd_ne hb] at e; exact s.sub _ _ e
    · by_cases hb : b = q
      · subst hb; exact .inr ⟨xs, upd_same⟩
      · rw [upd_ne hb]; exact s.new b m z

/-! ### the loop once, from what is walked -/
section
variable {K : PySem.W.Frag} {W : XW} {G : Fra} {T : List (V × E)} {gt : O → Ev → Rs Unit} {fb : Ev → Rs Ctl} {Dn : Ends}
def tFor1 (J : It) (g : TG) (tb : TS) (Dn : Ends) (σ : Sg) (H : Hp) : Prop := ∃ W : Nat → Nat → Sg → Hp → Prop, (∃ m, W 0 m σ H) ∧ ∀ i m σ H, W i m σ H →
  (J.stop i H ∧ Dn.nx σ H) ∨ (J.go i H ∧ ∃ N : Sg → Hp → Prop, (∀ σ' H', N σ' H' → ∃ m', m' < m ∧ W (i + 1) m' σ' H') ∧ ∀ x H', J.yld i H x H' → g x σ H' fun σ2 H2 => tb { Dn with nx := N, ct := N, bk := Dn.nx } σ2 H2)
def ItOkG (K : PySem.W.Frag) (G : Fra) (J : It) (ds : List D) (L : List (V × E)) : Prop := ∀ (T : List (V × E)) (ρ : Ev) (σ : Sg) (S H : Hp), Stt K G (L ++ T) ρ σ S H →
  (∀ (i : Nat) (d : D), ds[i]? = some d → J.go i H ∧ ∀ x H', J.yld i H x H' → ∃ S', Stt K G ((x, lf d) :: (L ++ T)) ρ σ S' H') ∧ (∀ i : Nat, ds.length ≤ i → J.stop i H)
theorem for_core {cl : List Nat} {σ : Sg} {S H : Hp} {ρ : Ev} {ds : List D} {J : It} {L : List (V × E)} (s1 : Stt K G (L ++ T) ρ σ S H) (iok : ItOkG K G J ds L) (z : GoS K W G T Dn (forGo cl gt fb ds (clrs ρ cl))) : tFor1 J (tG K W gt) (tS K W fb) Dn σ H := by
  refine ⟨fun i m σ' H' => m = ds.length - i ∧ i ≤ ds.length ∧ ∃ ρi S', Stt K G (L ++ T) ρi σ' S' H' ∧ GoS K W G T Dn (forGo cl gt fb (ds.drop i) ρi), ⟨ds.length, by omega, Nat.zero_le _, clrs ρ cl, S, s1.clrs cl, z⟩, ?_⟩
  rintro i m σ' H' ⟨rfl, hi, ρi, S', si, qi⟩
  have iok' := iok T ρi σ' S' H' si
  by_cases hlt : i < ds.length
  · have hd : ds[i]? = some ds[i] := List.getElem?_eq_getElem hlt
    obtain ⟨go, yld⟩ := iok'.1 i _ hd
    have hdrop : ds.drop i = ds[i] :: ds.drop (i + 1) := List.drop_eq_getElem_cons hlt
    rw [hdrop] at qi
    refine .inr ⟨go, fun σ2 H2 => i + 1 ≤ ds.length ∧ ∃ ρi S', Stt K G (L ++ T) ρi σ2 S' H2 ∧ GoS K W G T Dn (forGo cl gt fb (ds.drop (i + 1)) ρi), fun σ2 H2 h2 => ⟨ds.length - (i + 1), by omega, rfl, h2.1, h2.2⟩, ?_⟩
    intro x H2 y
    obtain ⟨S2, sx⟩ := yld x H2 y
    refine ⟨G, L ++ T, S2, ρi, .leaf ds[i], sx, ?_⟩
    unfold forGo at qi
    cases e1 : gt (.leaf ds[i]) ρi with
    | stk => rw [e1] at qi; exact qi
    | er x ρ' => rw [e1] at qi; exact fun σ' S' H' s' => qi σ' S' H' s'.dropL
    | ok u ρa =>
      rw [e1] at qi
      intro σ3 S3 H3 s3
      refine ⟨G, L ++ T, S3, ρa, s3, ?_⟩
      simp only at qi
      cases e2 : fb ρa with
      | stk => rw [e2] at qi; exact qi
      | er x ρ' => rw [e2] at qi; exact fun σ' S' H' s' => qi σ' S' H' s'.dropL
      | ok c ρb =>
        rw [e2] at qi
        cases c with
        | nx => exact fun σ4 S4 H4 s4 => ⟨hlt, clrs ρb cl, S4, s4.clrs cl, qi⟩
        | ct => exact fun σ4 S4 H4 s4 => ⟨hlt, clrs ρb cl, S4, s4.clrs cl, qi⟩
        | bk => exact fun σ4 S4 H4 s4 => qi σ4 S4 H4 s4.dropL
        | rt d => exact fun v σ4 S4 H4 s4 => qi v σ4 S4 H4 (s4.subT (List.Sublist.cons_cons _ (List.sublist_append_right _ _)))
  · have e : i = ds.length := by omega
    subst e
    rw [List.drop_length] at qi
    exact .inl ⟨iok'.2 _ (Nat.le_refl _), qi σ' S' H' si.dropL⟩
end
/-! ### for k in d -/
def keyL (kvs : List (D × D)) : List D := kvs.map (·.1)
theorem keyL_get {kvs : List (D × D)} {i : Nat} {k : D} (h : (keyL kvs)[i]? = some k) : ∃ d, kvs[i]? = some (k, d) := by
  unfold keyL at h
  rw [List.getElem?_map] at h
  obtain ⟨⟨a, b⟩, h1, h2⟩ := Option.map_eq_some_iff.mp h
  cases h2
  exact ⟨b, h1⟩
/-- what is walked of a locked dict: keys, values, pairs -/
inductive Wk where
  | ks
  | vs
  | its
def Wk.ds : Wk → List (D × D) → List D
  | .ks, es => keyL es
  | .vs, es => es.map (·.2)
  | .its, es => es.map fun p => .tuple [p.1, p.2]
def Wk.itK (d : Addr) (od : Obj) (kvs : List (Key × V)) : Wk → It
  | .ks => Itk d od kvs
  | .vs => Itd d od kvs
  | .its => Iti d od kvs
theorem Wk.len (k : Wk) (es : List (D × D)) : (k.ds es).length = es.length := by cases k <;> simp [Wk.ds, keyL]
theorem keyD_rp {K : PySem.W.Frag} {S : Hp} {k : Key} (h : okK k = true) : Rp K S (kV k) (keyD k) := by
  cases k with
  | inl i => exact .int i
  | inr i => exact .str i h
theorem RpK.getO {K : PySem.W.Frag} {S : Hp} : ∀ {kvs : List (Key × V)} {es : List (D × D)}, RpK K S kvs es → ∀ {i : Nat} {k d : D}, es[i]? = some (k, d) → ∃ k' v, kvs[i]? = some (k', v) ∧ k = keyD k' ∧ okK k' = true ∧ Rp K S v d
  | _, _, .nil, _, _, _, h => by simp at h
  | _, _, .cons (k := k') o a b, 0, _, _, h => by simp at h; obtain ⟨h1, h2⟩ := h; subst h1 h2; exact ⟨k', _, rfl, rfl, o, a⟩
  | _, _, .cons o a b, i + 1, _, _, h => by
    obtain ⟨k', v, e, r⟩ := RpK.getO b (i := i) (by simpa using h)
    exact ⟨k', v, by simpa using e, r⟩
theorem RpT.getO {K : PySem.W.Frag} {S : Hp} : ∀ {kvs : List (List Key × V)} {es : List (D × D)}, RpT K S kvs es → ∀ {i : Nat} {k d : D}, es[i]? = some (k, d) → ∃ k' v, kvs[i]? = some (k', v) ∧ k = .tuple (k'.map keyD) ∧ (∀ x ∈ k', okK x = true) ∧ Rp K S v d
  | _, _, .nil, _, _, _, h => by simp at h
  | _, _, .cons (k := k') o a b, 0, _, _, h => by simp at h; obtain ⟨h1, h2⟩ := h; subst h1 h2; exact ⟨k', _, rfl, rfl, o, a⟩
  | _, _, .cons o a b, i + 1, _, _, h => by
    obtain ⟨k', v, e, r⟩ := RpT.getO b (i := i) (by simpa using h)
    exact ⟨k', v, by simpa using e, r⟩
def Wk.pick : Wk → D → D → D
  | .ks, a, _ => a
  | .vs, _, b => b
  | .its, a, b => .tuple [a, b]
theorem Wk.get {k : Wk} {es : List (D × D)} {i : Nat} {x : D} (h : (k.ds es)[i]? = some x) : ∃ a b, es[i]? = some (a, b) ∧ x = k.pick a b := by
  cases k <;>
  · unfold Wk.ds at h
    try unfold keyL at h
    rw [List.getElem?_map] at h
    obtain ⟨⟨a, b⟩, h1, h2⟩ := Option.map_eq_some_iff.mp h
    exact ⟨a, b, h1, h2.symm⟩
section
variable {K : PySem.W.Frag} {G : Fra} {d : Addr} {od : Obj}
theorem itk_ok {kvs : List (Key × V)} {es : List (D × D)} (k : Wk) (h0 : G.S0 d = some (.frz od (.dK kvs))) : ItOkG K G (k.itK d od kvs) (k.ds es) [(.ref d, lf (.dict es))] := by
  intro T ρ σ S H s
  have hS := s.s0 _ _ h0
  have hH := s.sub _ _ hS
  obtain ⟨F, o, _⟩ := s.head
  have r0 : RpK K S kvs es := by
    cases o with
    | leaf r =>
      cases r with
      | dK h1 h2 h3 =>
        rcases h1 with h1 | ⟨_, h1⟩
        · rw [hS] at h1; cases h1
        · rw [hS] at h1; cases h1; exact h3
      | dT h1 h2 h3 =>
        rcases h1 with h1 | ⟨_, h1⟩
        · rw [hS] at h1; cases h1
        · rw [hS] at h1; cases h1
  have hl := r0.length
  refine ⟨fun i x hx => ?_, fun i hi => ?_⟩
  · obtain ⟨a, b, hab, rfl⟩ := Wk.get hx
    obtain ⟨k', v, h1, rfl, ok, rv⟩ := r0.getO hab
    have hlt := (List.getElem?_eq_some_iff.mp h1).1
    cases k with
    | ks =>
      refine ⟨⟨hH, hlt⟩, fun x H' y => ?_⟩
      obtain ⟨rfl, k2, v2, e2, rfl⟩ := y
      rw [h1] at e2
      cases e2
      exact ⟨S, s.push (keyD_rp ok)⟩
    | vs =>
      refine ⟨⟨hH, hlt⟩, fun x H' y => ?_⟩
      obtain ⟨rfl, k2, e2⟩ := y
      rw [h1] at e2
      cases e2
      exact ⟨S, s.push rv⟩
    | its =>
      refine ⟨⟨hH, hlt⟩, fun x H' y => ?_⟩
      obtain ⟨t, k2, v2, e2, rfl, n, rfl⟩ := y
      rw [h1] at e2
      cases e2
      exact s.newTup (.cons (keyD_rp ok) (.cons rv .nil)) n
  · rw [Wk.len] at hi
    cases k <;> exact ⟨hH, by omega⟩
theorem itkt_ok {kvs : List (List Key × V)} {es : List (D × D)} (h0 : G.S0 d = some (.frz od (.dT kvs))) : ItOkG K G (Itkt d od kvs) (keyL es) [(.ref d, lf (.dict es))] := by
  intro T ρ σ S H s
  have hS := s.s0 _ _ h0
  have hH := s.sub _ _ hS
  obtain ⟨F, o, _⟩ := s.head
  have r0 : RpT K S kvs es := by
    cases o with
    | leaf r =>
      cases r with
      | dT h1 h2 h3 =>
        rcases h1 with h1 | ⟨_, h1⟩
        · rw [hS] at h1; cases h1
        · rw [hS] at h1; cases h1; exact h3
      | dK h1 h2 h3 =>
        rcases h1 with h1 | ⟨_, h1⟩
        · rw [hS] at h1; cases h1
        · rw [hS] at h1; cases h1
  have hl := r0.length
  refine ⟨fun i x hx => ?_, fun i hi => ⟨hH, by unfold keyL at hi; rw [List.length_map] at hi; omega⟩⟩
  obtain ⟨b, hab⟩ := keyL_get hx
  obtain ⟨k', v, h1, rfl, ok, rv⟩ := r0.getO hab
  refine ⟨⟨hH, (List.getElem?_eq_some_iff.mp h1).1⟩, fun x H' y => ?_⟩
  obtain ⟨rfl, k2, v2, q, e2, rfl, hq⟩ := y
  rw [h1] at e2
  cases e2
  obtain ⟨S', s', ss, hS'⟩ := s.tupIn hq
  refine ⟨S', s'.push (.tup hS' ?_)⟩
  have : ∀ ks : List Key, (∀ x ∈ ks, okK x = true) → RpA K S' (ks.map kV) (ks.map keyD) := by
    intro ks
    induction ks with
    | nil => intro _; exact .nil
    | cons x xs ih => intro h; exact .cons (keyD_rp (h x (by simp))) (ih fun y m => h y (by simp [m]))
  exact this _ ok
/-- what is known to stay -/
theorem Stt.pin {T : List (V × E)} {ρ : Ev} {σ : Sg} {S H : Hp} {u : HO} (s : Stt K G T ρ σ S H) (hd : S d = some (.frz od u)) :
    Stt K ⟨upd G.S0 d (.frz od u), G.H0, G.M, G.P⟩ T ρ σ S H ∧ (∀ T' ρ' σ' S' H', Stt K ⟨upd G.S0 d (.frz od u), G.H0, G.M, G.P⟩ T' ρ' σ' S' H' → Stt K G T' ρ' σ' S' H') := by
  have fl : ∀ {T : List (V × E)} {S H : Hp} {F : List Addr} {S0 S0' : Hp}, Sep K ⟨S0, G.H0, G.M, G.P⟩ S H T F → Sep K ⟨S0', G.H0, G.M, G.P⟩ S H T F := by
    intro T S H F S0 S0' h
    induction h with
    | nil => exact .nil
    | cons o f _ dj ih => exact .cons o f ih dj
  constructor
  · obtain ⟨L, F, sl, sep⟩ := s.res
    refine ⟨s.sub, fun b o e => ?_, s.keep, s.dom, fun b m z => ?_, s.ios, L, F, sl, fl (S0 := G.S0) sep⟩
    · by_cases hb : b = d
      · subst hb
        have e : upd G.S0 b (.frz od u) b = some o := e
        rw [upd_same] at e; cases e; exact hd
      · have e : upd G.S0 d (.frz od u) b = some o := e
        rw [upd_ne hb] at e; exact s.s0 _ _ e
    · by_cases hb : b = d
      · subst hb
        have z : upd G.S0 b (.frz od u) b = none := z
        rw [upd_same] at z; cases z
      · have z : upd G.S0 d (.frz od u) b = none := z
        rw [upd_ne hb] at z; exact s.new _ m z
  · intro T' ρ' σ' S' H' s'
    obtain ⟨L, F, sl, sep⟩ := s'.res
    refine ⟨s'.sub, fun b o e => ?_, s'.keep, s'.dom, fun b m z => ?_, s'.ios, L, F, sl, fl (S0' := G.S0) sep⟩
    · by_cases hb : b = d
      · subst hb
        have h1 := s.s0 _ _ e
        rw [hd] at h1
        cases h1
        exact s'.s0 b _ (show upd G.S0 b (.frz od u) b = _ from upd_same)
      · exact s'.s0 b o (by show upd G.S0 d (.frz od u) b = some o; rw [upd_ne hb]; exact e)
    · by_cases hb : b = d
      · subst hb
        rcases s.new _ m z with h | ⟨xs, h⟩
        · rw [hd] at h; cases h
        · rw [hd] at h; cases h
      · exact s'.new b m (by show upd G.S0 d (.frz od u) b = none; rw [upd_ne hb]; exact z)
end
end Y
/-! Y: walking what a name holds -/
namespace Y
open PySem PySem.Spec PyProof.Rows L2

theorem PS.or {X : Cx} {st : Stmt} {t u : TS} (h : PS X st t) (h' : PS X st u) : PS X st (fun D σ H => t D σ H ∨ u D σ H) := ⟨fun pins s σ H D I q => by
  rcases q with q | q
  · exact h.run pins s σ H D I q
  · exact h'.run pins s σ H D I q⟩
theorem PE.orr {X : Cx} {e : Expr} {t u : TE} (h : PE X e t) (h' : PE X e u) : PE X e (fun σ H Q => t σ H Q ∨ u σ H Q) := ⟨fun pins s σ H Q I q => by
  rcases q with q | q
  · exact h.run pins s σ H Q I q
  · exact h'.run pins s σ H Q I q⟩
/-! an empty dict of tuple keys, as one of text keys -/
def tRel (t : TS) : TS := fun D σ H => ∃ d, H d = some (.dT []) ∧ t ⟨fun σ' H' => H' d = some (.dK []) ∧ D.nx σ' (upd H' d (.dT [])), fun v H' => H' d = some (.dK []) ∧ D.rt v (upd H' d (.dT [])), fun σ' H' => H' d = some (.dK []) ∧ D.bk σ' (upd H' d (.dT [])), fun σ' H' => H' d = some (.dK []) ∧ D.ct σ' (upd H' d (.dT []))⟩ σ (upd H d (.dK []))
def tRelE (t : TE) : TE := fun σ H Q => ∃ d, H d = some (.dT []) ∧ t σ (upd H d (.dK [])) fun v H' => H' d = some (.dK []) ∧ Q v (upd H' d (.dT []))
section
variable {X : Cx}
theorem ps_rel {st : Stmt} {t : TS} (h : PS X st t) : PS X st (tRel t) := by
  refine ⟨fun pins s σ H D I hw => ?_⟩
  obtain ⟨d, hd, hw⟩ := hw
  refine thn (h.run pins s σ _ _ (Inv.tk I hd) hw) fun f s1 q => ?_
  cases f with
  | next => obtain ⟨σ', H', I2, e, q⟩ := q; exact ⟨σ', _, Inv.kt I2 e, q⟩
  | brk => obtain ⟨σ', H', I2, e, q⟩ := q; exact ⟨σ', _, Inv.kt I2 e, q⟩
  | cont => obtain ⟨σ', H', I2, e, q⟩ := q; exact ⟨σ', _, Inv.kt I2 e, q⟩
  | ret v => obtain ⟨x, σ', H', I2, r, e, q⟩ := q; exact ⟨x, σ', _, Inv.kt I2 e, r, q⟩
theorem pe_rel {e : Expr} {t : TE} (h : PE X e t) : PE X e (tRelE t) := by
  refine ⟨fun pins s σ H Q I hw => ?_⟩
  obtain ⟨d, hd, hw⟩ := hw
  refine thn (h.run pins s σ _ _ (Inv.tk I hd) hw) fun v s1 ⟨x, H1, I2, r, e2, q⟩ => ?_
  exact ⟨x, _, Inv.kt I2 e2, r, q⟩
end
def tLc1 (J : It) (g : TG) (tt : TT) (te : TE) (vs : List Nat) (σ : Sg) (Q : VK) (H1 : Hp) : Prop := ∀ D, H1 D = none → ∃ W : Nat → Nat → Hp → Prop, (∃ m, W 0 m (upd H1 D (.lst []))) ∧ ∀ i m H, W i m H →
  (J.stop i H ∧ Q (.ref D) H) ∨ (J.go i H ∧ ∃ Nx : Hp → Prop, (∀ H', Nx H' → ∃ m', m' < m ∧ W (i + 1) m' H') ∧ ∀ x H', J.yld i H x H' → g x (wipe σ vs) H' fun σ2 H2 => wipe σ2 vs = wipe σ vs ∧ tt σ2 H2 fun b H3 =>
    if b = true then te σ2 H3 fun y H4 => ∃ acc, H4 D = some (.lst acc) ∧ acc.length < sizeLine ∧ Nx (upd H4 D (.lst (acc ++ [y]))) else Nx H3)
theorem lc_core {K : PySem.W.Frag} {vs : List Nat} {σ : Sg} {H1 : Hp} {Q : VK} {g : O → Ev → Rs Unit} {tt : Ev → Rs Bool} {el : Ev → Rs O} {G : Fra} {T L : List (V × E)} {S1 : Hp} {ρ1 : Ev} {ds : List D} {J : It} (s1 : Stt K G (L ++ T) ρ1 σ S1 H1) (iok : ItOkG K G J ds L)
    (z : GoE K W0 G T σ Q (if hidable ρ1 vs = true ∧ ds.length ≤ sizeLine then (match lcGo vs g tt el ds (wipeE ρ1 vs) with
    | .ok ys ρ' => .ok (.lst ys) (unhide ρ1 ρ' vs)
    | _ => .stk) else .stk)) : tLc1 J (tC' K W0 vs g) (tTs K tt) (tE K W0 el) vs σ Q H1 := by
  intro D' hD
  split at z
  · rename_i hh
    obtain ⟨hhid, hsz⟩ := hh
    -- the new list, our hidden entries held
    have s2 := (s1.hide (vs := vs) hhid)
    have s3 := s2.make (o := .lst []) hD (u := .lst []) (.lst upd_same (s2.sub.free hD) .nil)
    have s4 := s3.wiped vs
    refine ⟨fun i m H' => m = ds.length - i ∧ i ≤ ds.length ∧ ∃ acc ρi S', acc.length ≤ i ∧ Stt K G ((.ref D', ow (.lst acc)) :: (hidT σ ρ1 vs ++ (L ++ T))) (wipeE ρi vs) (wipe σ vs) S' H' ∧ ρi.length = ρ1.length ∧
      ∃ ys ρe, lcGo vs g tt el (ds.drop i) (wipeE ρi vs) = .ok ys ρe ∧ ∀ v S'' H'', Stt K G ((v, ow (.lst (acc ++ ys))) :: T) (unhide ρ1 ρe vs) σ S'' H'' → Q v H'', ⟨ds.length, ?_⟩, ?_⟩
    · refine ⟨by omega, Nat.zero_le _, [], ρ1, S1, Nat.zero_le _, s4, rfl, ?_⟩
      split at z
      · rename_i ys ρe he
        exact ⟨ys, ρe, he, by rw [List.nil_append]; exact z⟩
      · exact z.elim
    · rintro i m H' ⟨rfl, hi, acc, ρi, S', hacc, si, hlen, ys, ρe, he, fin⟩
      have iok' := iok ((.ref D', ow (.lst acc)) :: (hidT σ ρ1 vs ++ T)) (wipeE ρi vs) (wipe σ vs) S' H' (si.permT (by
        refine List.Perm.trans ?_ (List.perm_middle (l₁ := L)).symm
        refine List.Perm.cons _ ?_
        rw [← List.append_assoc, ← List.append_assoc]
        exact List.Perm.append_right T List.perm_append_comm))
      by_cases hlt : i < ds.length
      · have hd : ds[i]? = some ds[i] := List.getElem?_eq_getElem hlt
        obtain ⟨go, yld⟩ := iok'.1 i _ hd
        have hdrop : ds.drop i = ds[i] :: ds.drop (i + 1) := List.drop_eq_getElem_cons hlt
        rw [hdrop] at he
        -- what a turn is to reach
        refine .inr ⟨go, fun H2 => i + 1 ≤ ds.length ∧ ∃ acc ρi S', acc.length ≤ i + 1 ∧ Stt K G ((.ref D', ow (.lst acc)) :: (hidT σ ρ1 vs ++ (L ++ T))) (wipeE ρi vs) (wipe σ vs) S' H2 ∧ ρi.length = ρ1.length ∧
          ∃ ys ρe, lcGo vs g tt el (ds.drop (i + 1)) (wipeE ρi vs) = .ok ys ρe ∧ ∀ v S'' H'', Stt K G ((v, ow (.lst (acc ++ ys))) :: T) (unhide ρ1 ρe vs) σ S'' H'' → Q v H'', fun H2 h2 => ⟨ds.length - (i + 1), by omega, rfl, h2.1, h2.2⟩, ?_⟩
        intro x H2 y
        obtain ⟨S2, sx⟩ := yld x H2 y
        have sx' : Stt K G ((x, lf ds[i]) :: ((.ref D', ow (.lst acc)) :: (hidT σ ρ1 vs ++ (L ++ T)))) (wipeE ρi vs) (wipe σ vs) S2 H2 := sx.permT (by
          refine List.Perm.cons _ ?_
          refine List.Perm.trans (List.perm_middle (l₁ := L)) ?_
          refine List.Perm.cons _ ?_
          rw [← List.append_assoc, ← List.append_assoc]
          exact List.Perm.append_right T List.perm_append_comm)
        unfold lcGo at he
        cases e1 : g (.leaf ds[i]) (wipeE ρi vs) with
        | stk => rw [e1] at he; cases he
        | er x ρ' => rw [e1] at he; cases he
        | ok u ρa =>
          rw [e1] at he
          simp only at he
          refine ⟨G, _, S2, _, .leaf ds[i], sx', ?_⟩
          rw [e1]
          intro σ3 S3 H3 hw s5
          rw [wipe_wipe] at hw
          refine ⟨hw, G, _, S3, ρa, s5, ?_⟩
          have hla : ρa.length = ρ1.length := by
            have h1 := s5.len
            have h2 := s1.len
            have h3 := congrArg List.length hw
            rw [wipe_length, wipe_length] at h3
            omega
          -- the list that grows
          have next : ∀ {S4 H4 : Hp} {ρ4 : Ev} {acc' : List D}, Stt K G ((.ref D', ow (.lst acc')) :: (hidT σ ρ1 vs ++ (L ++ T))) ρ4 σ3 S4 H4 → Stt K G ((.ref D', ow (.lst acc')) :: (hidT σ ρ1 vs ++ (L ++ T))) (wipeE ρ4 vs) (wipe σ vs) S4 H4 := fun s6 => by
            have := s6.wiped vs
            rw [hw] at this
            exact this
          cases e2 : tt ρa with
          | stk => rw [e2] at he; cases he
          | er x ρ' => rw [e2] at he; cases he
          | ok b ρb =>
            rw [e2] at he
            intro S4 H4 s6
            have hlb : ρb.length = ρ1.length := by
              have h1 := s6.len
              have h3 := congrArg List.length hw
              have h2 := s1.len
              rw [wipe_length, wipe_length] at h3
              omega
            cases b with
            | false =>
              rw [if_neg Bool.false_ne_true]
              simp only at he
              exact ⟨hlt, acc, ρb, S4, Nat.le_succ_of_le hacc, next s6, hlb, ys, ρe, he, fin⟩
            | true =>
              rw [if_pos rfl]
              simp only at he
              refine ⟨G, _, S4, ρb, s6, ?_⟩
              cases e3 : el ρb with
              | stk => rw [e3] at he; cases he
              | er x ρ' => rw [e3] at he; cases he
              | ok o ρc =>
                rw [e3] at he
                simp only at he
                intro v S5 H5 s7
                have hlc : ρc.length = ρ1.length := by
                  have h1 := s7.len
                  have h3 := congrArg List.length hw
                  have h2 := s1.len
                  rw [wipe_length, wipe_length] at h3
                  omega
                obtain ⟨S6, s8, _, rv⟩ := s7.freeze
                have s9 := s8.drop1
                obtain ⟨F, ow', _⟩ := s9.head
                cases hgo : lcGo vs g tt el (ds.drop (i + 1)) (wipeE ρc vs) with
                | stk => rw [hgo] at he; cases he
                | er x ρ' => rw [hgo] at he; cases he
                | ok ys' ρ4 =>
                  rw [hgo] at he
                  simp only at he
                  cases he
                  cases ow' with
                  | @lst _ xs _ eH nS rA =>
                    refine ⟨xs, eH, by rw [rA.length]; omega, hlt, acc ++ [o.d], ρc, S6, by rw [List.length_append]; simp; omega, next ?_, hlc, ys', _, hgo, ?_⟩
                    · exact s9.write (o' := .lst (acc ++ [o.d])) (.lst eH nS rA) (.lst upd_same nS (rA.app (.cons rv .nil)))
                    · intro v' S'' H'' h
                      refine fin v' S'' H'' ?_
                      rw [List.append_assoc] at h
                      exact h
      · have e : i = ds.length := by omega
        subst e
        refine .inl ⟨iok'.2 _ (Nat.le_refl _), ?_⟩
        rw [List.drop_length] at he
        have : ys = [] ∧ ρe = wipeE ρi vs := by
          unfold lcGo at he
          injection he with h1 h2
          exact ⟨h1.symm, h2.symm⟩
        obtain ⟨rfl, rfl⟩ := this
        rw [List.append_nil] at fin
        refine fin _ S' H' ?_
        -- back to the slots as they were
        have ent : ∀ (j : Nat) (e : E), ρ1[j]? = some (some e) → ∃ w, σ[j]? = some (some w) := fun j e he => let ⟨w, hw, _⟩ := s1.take he; ⟨w, hw⟩
        have sσ : Stt K G ((.ref D', ow (.lst acc)) :: (hidT σ ρ1 vs ++ (L ++ T))) (wipeE ρi vs) σ S' H' := by
          refine si.slots (by rw [wipe_length]) fun j e he => ?_
          rw [wipeE_get] at he
          rw [wipe_get]
          split at he
          · split at he <;> cases he
          · rename_i hj
            rw [if_neg hj]
        have su := Stt.unhide (ρ0 := ρ1) ent (by rw [wipeE_length]; exact hlen.symm) (vs := vs) (fun x hx => List.mem_cons_of_mem _ (List.mem_append_left _ hx)) hhid sσ
        exact su.subT (List.Sublist.cons_cons _ ((List.sublist_append_right _ _).trans (List.sublist_append_right _ _)))
  · exact z.elim

/-! ### what a walk of the dict at slot i reads -/
def wkT (k : Wk) (td : TE) : TI := match k with
  | .ks => iKeys td
  | .vs => iVals td
  | .its => iItems td
def Wk.ok : Wk → List (D × D) → Bool
  | .ks, _ => true
  | _, kvs => kkeys kvs
def wkI (k : Wk) (i : Nat) : Ev → Rs (List D) := bnd (rv i) fun o ρ => match o.d with
  | .dict kvs => if k.ok kvs = true then .ok (k.ds kvs) ρ else .stk
  | _ => .stk
def nmI (i : Nat) : Ev → Rs (List D) := bnd (rv i) fun o ρ => match o.d with
  | .list ds => .ok ds ρ
  | .tuple ds => .ok ds ρ
  | .str z => .ok (chars z) ρ
  | .dict kvs => .ok (keyL kvs) ρ
  | _ => .stk
theorem rv_run {K : PySem.W.Frag} {G : Fra} {T : List (V × E)} {ρ ρ1 : Ev} {σ : Sg} {S H : Hp} {i : Nat} {o : O} (s : Stt K G T ρ σ S H) (e : rv i ρ = .ok o ρ1) : ∃ v S1, σ[i]? = some (some v) ∧ Stt K G ((v, lf o.d) :: T) ρ1 σ S1 H ∧ Rp K S1 v o.d := by
  unfold rv at e
  split at e
  · rename_i o' ho
    obtain ⟨v, hv, s1⟩ := s.take ho
    obtain ⟨S2, s2, _, r⟩ := s1.freeze
    have s3 := (s2.back ho hv (by intro z; cases z)).push r
    cases e
    refine ⟨v, S2, hv, ?_, r⟩
    cases o' with
    | leaf d =>
      have e : ρ.set i (some (lf (O.leaf d).d)) = ρ := Stt.set_leaf ho
      rw [e] at s3
      exact s3
    | lst ds => exact s3
    | dic ds => exact s3
  · rename_i d ho
    obtain ⟨v, hv, s1⟩ := s.take ho
    obtain ⟨F, o, _⟩ := s1.head
    cases e
    cases o with
    | leaf r => exact ⟨v, S, hv, s.push r, r⟩
  · cases e
theorem rv_er {i : Nat} {ρ ρ' : Ev} {x : Err} : rv i ρ ≠ .er x ρ' := by
  unfold rv
  split <;> intro z <;> cases z
theorem wk_readK {k : Wk} {i : Nat} {σ : Sg} {H : Hp} {R : It → Hp → Prop} {d : Addr} {od : Obj} {kvs : List (Key × V)} (hv : σ[i]? = some (some (.ref d))) (hd : H d = some (.frz od (.dK kvs))) (r : R (k.itK d od kvs) H) : wkT k (tVar i) σ H R := by
  cases k with
  | ks => exact ⟨_, hv, d, od, rfl, .inl ⟨kvs, hd, r⟩⟩
  | vs => exact ⟨_, hv, d, od, kvs, rfl, hd, r⟩
  | its => exact ⟨_, hv, d, od, kvs, rfl, hd, r⟩
theorem wk_readT {i : Nat} {σ : Sg} {H : Hp} {R : It → Hp → Prop} {d : Addr} {od : Obj} {kvs : List (List Key × V)} (hv : σ[i]? = some (some (.ref d))) (hd : H d = some (.frz od (.dT kvs))) (r : R (Itkt d od kvs) H) : wkT .ks (tVar i) σ H R := ⟨_, hv, d, od, rfl, .inr ⟨kvs, hd, r⟩⟩
def lkD (Dn : Ends) (d : Addr) (od : Obj) (u : HO) : Ends := ⟨fun σ' H' => H' d = some (.frz od u) ∧ Dn.nx σ' (upd H' d u), fun v H' => H' d = some (.frz od u) ∧ Dn.rt v (upd H' d u), fun σ' H' => H' d = some (.frz od u) ∧ Dn.bk σ' (upd H' d u), fun σ' H' => H' d = some (.frz od u) ∧ Dn.ct σ' (upd H' d u)⟩
section
variable {K : PySem.W.Frag} {G Gl : Fra} {T : List (V × E)} {d : Addr} {od : Obj} {u : HO}
theorem GoS.lk {Dn : Ends} (un : ∀ T' ρ' σ' S' H', Stt K Gl T' ρ' σ' S' H' → H' d = some (.frz od u) ∧ Stt K G T' ρ' σ' (upd S' d u) (upd H' d u)) : ∀ {r : Rs Ctl}, GoS K W0 G T Dn r → GoS K W0 Gl T (lkD Dn d od u) r
  | .ok .nx ρ', h => fun σ' S' H' s => ⟨(un _ _ _ _ _ s).1, h σ' _ _ (un _ _ _ _ _ s).2⟩
  | .ok (.rt x) ρ', h => fun v σ' S' H' s => ⟨(un _ _ _ _ _ s).1, h v σ' _ _ (un _ _ _ _ _ s).2⟩
  | .ok .bk ρ', h => fun σ' S' H' s => ⟨(un _ _ _ _ _ s).1, h σ' _ _ (un _ _ _ _ _ s).2⟩
  | .ok .ct ρ', h => fun σ' S' H' s => ⟨(un _ _ _ _ _ s).1, h σ' _ _ (un _ _ _ _ _ s).2⟩
  | .er x ρ', h => fun σ' S' H' s => False.elim (h σ' (upd S' d u) (upd H' d u) (un _ _ _ _ _ s).2)
  | .stk, h => h
theorem GoS.pin {Dn : Ends} (un : ∀ T' ρ' σ' S' H', Stt K Gl T' ρ' σ' S' H' → Stt K G T' ρ' σ' S' H') : ∀ {r : Rs Ctl}, GoS K W0 G T Dn r → GoS K W0 Gl T Dn r
  | .ok .nx ρ', h => fun σ' S' H' s => h σ' _ _ (un _ _ _ _ _ s)
  | .ok (.rt x) ρ', h => fun v σ' S' H' s => h v σ' _ _ (un _ _ _ _ _ s)
  | .ok .bk ρ', h => fun σ' S' H' s => h σ' _ _ (un _ _ _ _ _ s)
  | .ok .ct ρ', h => fun σ' S' H' s => h σ' _ _ (un _ _ _ _ _ s)
  | .er x ρ', h => fun σ' S' H' s => h σ' _ _ (un _ _ _ _ _ s)
  | .stk, h => h
theorem GoE.lk {σ : Sg} {Q : VK} (un : ∀ T' ρ' σ' S' H', Stt K Gl T' ρ' σ' S' H' → H' d = some (.frz od u) ∧ Stt K G T' ρ' σ' (upd S' d u) (upd H' d u)) : ∀ {r : Rs O}, GoE K W0 G T σ Q r → GoE K W0 Gl T σ (fun v H' => H' d = some (.frz od u) ∧ Q v (upd H' d u)) r
  | .ok o ρ', h => fun v S' H' s => ⟨(un _ _ _ _ _ s).1, h v _ _ (un _ _ _ _ _ s).2⟩
  | .er x ρ', h => fun S' H' s => False.elim (h (upd S' d u) (upd H' d u) (un _ _ _ _ _ s).2)
  | .stk, h => h
theorem GoE.pin {σ : Sg} {Q : VK} (un : ∀ T' ρ' σ' S' H', Stt K Gl T' ρ' σ' S' H' → Stt K G T' ρ' σ' S' H') : ∀ {r : Rs O}, GoE K W0 G T σ Q r → GoE K W0 Gl T σ Q r
  | .ok o ρ', h => fun v S' H' s => h v _ _ (un _ _ _ _ _ s)
  | .er x ρ', h => fun S' H' s => h _ _ (un _ _ _ _ _ s)
  | .stk, h => h
end
theorem for_nil {J : It} {g : TG} {tb : TS} {Dn : Ends} {σ : Sg} {H : Hp} (h1 : J.stop 0 H) (h2 : Dn.nx σ H) : tFor1 J g tb Dn σ H :=
  ⟨fun i m σ' H' => i = 0 ∧ σ' = σ ∧ H' = H, ⟨0, rfl, rfl, rfl⟩, fun i m σ' H' ⟨a, b, c⟩ => by subst a b c; exact .inl ⟨h1, h2⟩⟩
theorem upd_upd_back {H : Hp} {a : Addr} {u u' : HO} (e : H a = some u) : upd (upd H a u') a u = H := upd_back e
section
variable {X : Cx} {tg iter : Expr} {body : List Stmt} {pos : Pos} {gt : O → Ev → Rs Unit} {fb : Ev → Rs Ctl} {i : Nat}
theorem ds_forW (b : Bd X) (hp : PassesOwn (model X.prog X.w) X.A X.env X.xe) (cl : List Nat) (k : Wk) (hi : PI X tg iter (wkT k (tVar i))) (hg : DG' X W0 tg gt) (hb : DSs X W0 body fb) (hs : ∀ x, foldedSetIterable iter X.env x = pure x := by intro _; rfl) :
    DS X W0 (.For tg iter body [] pos) (forS (wkI k i) gt fb cl) := by
  have F : PS X (.For tg iter body [] pos) (tFor (wkT k (tVar i)) (tG X.K W0 gt) (tS X.K W0 fb)) := ps_for hp b.calm hi hg hb hs
  refine PS.imp (PS.or (ps_lock F) (PS.or F (ps_rel (ps_lock F)))) fun Dn σ H ⟨G, T, S, ρ, s, q⟩ => ?_
  unfold forS wkI bnd at q
  cases e0 : rv i ρ with
  | stk => rw [e0] at q; exact q.elim
  | er x ρ' => exact absurd e0 rv_er
  | ok o ρ1 =>
    rw [e0] at q
    obtain ⟨v, S1, hv, s1, r⟩ := rv_run s e0
    simp only at q
    split at q
    · rename_i a ρa hq
      split at hq
      · rename_i es hes
        split at hq
        · rename_i hk
          cases hq
          rw [hes] at r s1
          have s0 := s1.drop1
          cases r with
          | @dK d kvs _ h1 h2 h3 =>
            rcases h1 with h1 | ⟨od, h1⟩
            · -- unlocked
              have hH := s1.sub _ _ h1
              refine .inl ⟨d, _, hH, trivial, fun od => wk_readK hv upd_same ?_⟩
              cases h3 with
              | nil =>
                have e : k.ds [] = [] := by cases k <;> rfl
                rw [e] at q
                refine for_nil (by cases k <;> exact ⟨upd_same, Nat.le_refl _⟩) ⟨upd_same, ?_⟩
                rw [upd_back hH]
                exact q σ S1 H (s0.clrs cl)
              | @cons k0 v0 d0 kvs' es' o1 a1 b1 =>
                obtain ⟨sl, un⟩ := s1.lock (od := od) h1 trivial
                exact for_core (L := [(.ref d, lf (.dict ((keyD k0, d0) :: es')))]) sl (itk_ok k upd_same) (GoS.lk un q)
            · have hH := s1.sub _ _ h1
              obtain ⟨sp, un⟩ := s1.pin h1
              exact .inr (.inl (wk_readK hv hH (for_core (L := [(.ref d, lf (.dict es))]) sp (itk_ok k upd_same) (GoS.pin un q))))
          | @dT d kvs _ h1 h2 h3 =>
            rcases h1 with h1 | ⟨od, h1⟩
            · have hH := s1.sub _ _ h1
              cases h3 with
              | nil =>
                have e : k.ds [] = [] := by cases k <;> rfl
                rw [e] at q
                refine .inr (.inr ⟨d, hH, d, .dK [], upd_same, trivial, fun od => wk_readK hv upd_same ?_⟩)
                refine for_nil (by cases k <;> exact ⟨upd_same, Nat.le_refl _⟩) ⟨upd_same, ?_⟩
                rw [upd_back upd_same]
                refine ⟨upd_same, ?_⟩
                rw [upd_back hH]
                exact q σ S1 H (s0.clrs cl)
              | @cons k0 v0 d0 kvs' es' o1 a1 b1 =>
                cases k with
                | ks =>
                  refine .inl ⟨d, _, hH, trivial, fun od => wk_readT hv upd_same ?_⟩
                  obtain ⟨sl, un⟩ := s1.lock (od := od) h1 trivial
                  exact for_core (L := [(.ref d, lf (.dict ((.tuple (k0.map keyD), d0) :: es')))]) sl (itkt_ok upd_same) (GoS.lk un q)
                | vs => simp [Wk.ok, kkeys, asKey] at hk
                | its => simp [Wk.ok, kkeys, asKey] at hk
            · have hH := s1.sub _ _ h1
              obtain ⟨sp, un⟩ := s1.pin h1
              cases h3 with
              | nil => rw [h2 rfl] at h1; cases h1
              | @cons k0 v0 d0 kvs' es' o1 a1 b1 =>
                cases k with
                | ks => exact .inr (.inl (wk_readT hv hH (for_core (L := [(.ref d, lf (.dict ((.tuple (k0.map keyD), d0) :: es')))]) sp (itkt_ok upd_same) (GoS.pin un q))))
                | vs => simp [Wk.ok, kkeys, asKey] at hk
                | its => simp [Wk.ok, kkeys, asKey] at hk
        · cases hq
      · cases hq
    · rename_i hq
      split at hq
      · split at hq
        · cases hq
        · cases hq
      · cases hq
    · exact q.elim
/-- for x in NAME -/
theorem ds_forN (b : Bd X) (hp : PassesOwn (model X.prog X.w) X.A X.env X.xe) (cl : List Nat) (hx : PE X iter (tVar i)) (hg : DG' X W0 tg gt) (hb : DSs X W0 body fb) (hs : ∀ x, foldedSetIterable iter X.env x = pure x := by intro _; rfl) :
    DS X W0 (.For tg iter body [] pos) (forS (nmI i) gt fb cl) := by
  refine PS.imp (PS.or (ds_for b hp cl (di_seq (de_var hx)) hg hb hs) (ds_forW b hp cl .ks (pi_keys hx) hg hb hs)) fun Dn σ H ⟨G, T, S, ρ, s, q⟩ => ?_
  have e : forS (nmI i) gt fb cl ρ = forS (seqI (rv i)) gt fb cl ρ ∨ forS (nmI i) gt fb cl ρ = forS (wkI .ks i) gt fb cl ρ := by
    unfold forS nmI seqI wkI bnd
    cases e0 : rv i ρ with
    | stk => exact .inl rfl
    | er x ρ' => exact .inl rfl
    | ok o ρ1 =>
      simp only
      cases o.d <;> first | exact .inl rfl | exact .inr rfl
  rcases e with e | e
  · rw [e] at q; exact .inl ⟨G, T, S, ρ, s, q⟩
  · rw [e] at q; exact .inr ⟨G, T, S, ρ, s, q⟩
end
/-! ### [.. for x in NAME] -/
section
variable {K : PySem.W.Frag} {vs : List Nat} {σ : Sg} {H1 : Hp} {Q : VK} {g : O → Ev → Rs Unit} {tt : Ev → Rs Bool} {el : Ev → Rs O} {G : Fra} {T : List (V × E)} {S1 : Hp} {ρ1 : Ev}
theorem lc_nil (s1 : Stt K G T ρ1 σ S1 H1) (z : GoE K W0 G T σ Q (if hidable ρ1 vs = true ∧ ([] : List D).length ≤ sizeLine then (match lcGo vs g tt el [] (wipeE ρ1 vs) with
    | .ok ys ρ' => .ok (.lst ys) (unhide ρ1 ρ' vs)
    | _ => .stk) else .stk)) : ∀ D, H1 D = none → Q (.ref D) (upd H1 D (.lst [])) := fun D hD => by
  obtain ⟨W, ⟨m, w⟩, h⟩ := lc_core (g := g) (tt := tt) (el := el) (L := []) (J := ⟨fun _ _ => False, fun _ _ _ _ => False, fun _ _ => True⟩) s1 (fun T ρ σ S H s => ⟨fun i d hd => by simp at hd, fun i hi => trivial⟩) z D hD
  rcases h 0 m _ w with ⟨_, q⟩ | ⟨f, _⟩
  · exact q
  · exact f.elim
end
section
variable {X : Cx} {elt tg iter : Expr} {ifs : List Expr} {scope : Scope} {own : List (Str × Nat)} {pos : Pos} {g : O → Ev → Rs Unit} {tt : Ev → Rs Bool} {el : Ev → Rs O} {i : Nat}
theorem upd_comm {H : Hp} {a b : Addr} {u w : HO} (h : a ≠ b) : upd (upd H a u) b w = upd (upd H b w) a u := by
  funext c
  unfold upd
  by_cases h1 : c = b
  · subst h1
    rw [if_pos rfl, if_neg (Ne.symm h), if_pos rfl]
  · rw [if_neg h1]
    by_cases h2 : c = a
    · rw [if_pos h2, if_pos h2]
    · rw [if_neg h2, if_neg h2, if_neg h1]
theorem lcW_reads {K : PySem.W.Frag} {vs : List Nat} (k : Wk) {σ : Sg} {H : Hp} {Q : VK} (q : tE K W0 (lcE (wkI k i) vs g tt el) σ H Q) :
    tLockE (tLc (wkT k (tVar i)) (tC' K W0 vs g) (tTs K tt) (tE K W0 el) vs) σ H Q ∨ tLc (wkT k (tVar i)) (tC' K W0 vs g) (tTs K tt) (tE K W0 el) vs σ H Q ∨ tRelE (tLockE (tLc (wkT k (tVar i)) (tC' K W0 vs g) (tTs K tt) (tE K W0 el) vs)) σ H Q := by
  obtain ⟨G, T, S, ρ, s, q⟩ := q
  unfold lcE wkI bnd at q
  cases e0 : rv i ρ with
  | stk => rw [e0] at q; exact q.elim
  | er x ρ' => exact absurd e0 rv_er
  | ok o ρ1 =>
    rw [e0] at q
    obtain ⟨v, S1, hv, s1, r⟩ := rv_run s e0
    simp only at q
    split at q
    · rename_i a ρa hq
      split at hq
      · rename_i es hes
        split at hq
        · rename_i hk
          cases hq
          rw [hes] at r s1
          have s0 := s1.drop1
          cases r with
          | @dK d kvs _ h1 h2 h3 =>
            rcases h1 with h1 | ⟨od, h1⟩
            · have hH := s1.sub _ _ h1
              refine .inl ⟨d, _, hH, trivial, fun od => wk_readK hv upd_same ?_⟩
              cases h3 with
              | nil =>
                have e : k.ds [] = [] := by cases k <;> rfl
                rw [e] at q
                have z := lc_nil (g := g) (tt := tt) (el := el) s0 q
                refine fun D hD => ⟨fun i m H' => i = 0 ∧ H' = upd (upd H d (.frz od (.dK []))) D (.lst []), ⟨0, rfl, rfl⟩, fun i m H' ⟨ea, eb⟩ => .inl ?_⟩
                subst ea eb
                have hne : D ≠ d := fun e => by subst e; rw [upd_same] at hD; cases hD
                rw [upd_ne hne] at hD
                refine ⟨by cases k <;> exact ⟨by rw [upd_ne (Ne.symm hne), upd_same], Nat.le_refl _⟩, by rw [upd_ne (Ne.symm hne), upd_same], ?_⟩
                rw [upd_comm hne, upd_back hH]
                exact z D hD
              | @cons k0 v0 d0 kvs' es' o1 a1 b1 =>
                obtain ⟨sl, un⟩ := s1.lock (od := od) h1 trivial
                exact lc_core (L := [(.ref d, lf (.dict ((keyD k0, d0) :: es')))]) sl (itk_ok k upd_same) (GoE.lk un q)
            · have hH := s1.sub _ _ h1
              obtain ⟨sp, un⟩ := s1.pin h1
              exact .inr (.inl (wk_readK hv hH (lc_core (L := [(.ref d, lf (.dict es))]) sp (itk_ok k upd_same) (GoE.pin un q))))
          | @dT d kvs _ h1 h2 h3 =>
            rcases h1 with h1 | ⟨od, h1⟩
            · have hH := s1.sub _ _ h1
              cases h3 with
              | nil =>
                have e : k.ds [] = [] := by cases k <;> rfl
                rw [e] at q
                have z := lc_nil (g := g) (tt := tt) (el := el) s0 q
                refine .inr (.inr ⟨d, hH, d, .dK [], upd_same, trivial, fun od => wk_readK hv upd_same ?_⟩)
                refine fun D hD => ⟨fun i m H' => i = 0 ∧ H' = upd (upd (upd H d (.dK [])) d (.frz od (.dK []))) D (.lst []), ⟨0, rfl, rfl⟩, fun i m H' ⟨ea, eb⟩ => .inl ?_⟩
                subst ea eb
                have hne : D ≠ d := fun e => by subst e; rw [upd_same] at hD; cases hD
                rw [upd_ne hne, upd_ne hne] at hD
                refine ⟨by cases k <;> exact ⟨by rw [upd_ne (Ne.symm hne), upd_same], Nat.le_refl _⟩, by rw [upd_ne (Ne.symm hne), upd_same], ?_⟩
                rw [upd_comm hne, upd_back upd_same]
                refine ⟨by rw [upd_ne (Ne.symm hne), upd_same], ?_⟩
                rw [upd_comm hne, upd_back hH]
                exact z D hD
              | @cons k0 v0 d0 kvs' es' o1 a1 b1 =>
                cases k with
                | ks =>
                  refine .inl ⟨d, _, hH, trivial, fun od => wk_readT hv upd_same ?_⟩
                  obtain ⟨sl, un⟩ := s1.lock (od := od) h1 trivial
                  exact lc_core (L := [(.ref d, lf (.dict ((.tuple (k0.map keyD), d0) :: es')))]) sl (itkt_ok upd_same) (GoE.lk un q)
                | vs => simp [Wk.ok, kkeys, asKey] at hk
                | its => simp [Wk.ok, kkeys, asKey] at hk
            · have hH := s1.sub _ _ h1
              obtain ⟨sp, un⟩ := s1.pin h1
              cases h3 with
              | nil => rw [h2 rfl] at h1; cases h1
              | @cons k0 v0 d0 kvs' es' o1 a1 b1 =>
                cases k with
                | ks => exact .inr (.inl (wk_readT hv hH (lc_core (L := [(.ref d, lf (.dict ((.tuple (k0.map keyD), d0) :: es')))]) sp (itkt_ok upd_same) (GoE.pin un q))))
                | vs => simp [Wk.ok, kkeys, asKey] at hk
                | its => simp [Wk.ok, kkeys, asKey] at hk
        · cases hq
      · cases hq
    · rename_i hq
      split at hq
      · split at hq
        · cases hq
        · cases hq
      · cases hq
    · exact q.elim
theorem de_lcW (b : Bd X) (k : Wk) (hi : PI X tg iter (wkT k (tVar i))) (ok : BlkOk X.N X.env.scope scope own)
    (hg : ∀ (s : Shared) (H : Hp) (C : Addr) (cl : List (Str × Addr)) (fp : List Addr), PG (X.blk s H scope (compEnvC scope cl C X.env) fp) tg (tC' X.K W0 (own.map (·.2)) g))
    (ht : ∀ (s : Shared) (H : Hp) (C : Addr) (cl : List (Str × Addr)) (fp : List Addr), PTs (X.blk s H scope (compEnvC scope cl C X.env) fp) ifs (tTs X.K tt))
    (he : ∀ (s : Shared) (H : Hp) (C : Addr) (cl : List (Str × Addr)) (fp : List Addr), PE (X.blk s H scope (compEnvC scope cl C X.env) fp) elt (tE X.K W0 el)) (hs : ∀ x, foldedSetIterable iter X.env x = pure x := by intro _; rfl) :
    DE X W0 (.ListComp elt [⟨tg, iter, ifs, 0⟩] scope pos) (lcE (wkI k i) (own.map (·.2)) g tt el) := by
  have F := pe_lc (pos := pos) b.calm b.nd hi ok hg ht he hs
  exact PE.imp (PE.orr (pe_lock F) (PE.orr F (pe_rel (pe_lock F)))) fun σ H Q q => lcW_reads k q
theorem asg_tE {K : PySem.W.Frag} {W : XW} {f : Ev → Rs O} {Dn : Ends} {σ : Sg} {H : Hp} {i : Nat} (q : tS K W (asgS f (gN i)) Dn σ H) : tE K W f σ H (fun x H1 => gName i x σ H1 Dn.nx) := by
  obtain ⟨G, T, S, ρ, s, q⟩ := q
  refine ⟨G, T, S, ρ, s, seqS sid ?_ q⟩
  intro o ρ' z v S' H' s'
  unfold gN bnd at z
  by_cases hi : i < ρ'.length
  · simp only [if_pos hi] at z
    exact z _ _ _ (s'.store (by rw [s'.len]; exact hi))
  · simp only [if_neg hi] at z
    exact z.elim
/-- y = [..] on one line -/
theorem ds_setLc {j : Nat} {y : Str} {py : Pos} {spos : Pos} {it : Ev → Rs (List D)} {W : XW} (b : Bd X) (hy : X.N[j]? = some y) (hyl : X.env.scope.names.lookup y = some .local) (hsw : swapsWith (.ListComp elt [⟨tg, iter, ifs, 0⟩] scope pos) (some (.Name y py)) spos.line X.env = pure true)
    (hi : DI X W tg iter it) (ok : BlkOk X.N X.env.scope scope own)
    (hg : ∀ (s : Shared) (H : Hp) (C : Addr) (cl : List (Str × Addr)) (fp : List Addr), PG (X.blk s H scope (compEnvC scope cl C X.env) fp) tg (tC' X.K W0 (own.map (·.2)) g))
    (ht : ∀ (s : Shared) (H : Hp) (C : Addr) (cl : List (Str × Addr)) (fp : List Addr), PTs (X.blk s H scope (compEnvC scope cl C X.env) fp) ifs (tTs X.K tt))
    (he : ∀ (s : Shared) (H : Hp) (C : Addr) (cl : List (Str × Addr)) (fp : List Addr), PE (X.blk s H scope (compEnvC scope cl C X.env) fp) elt (tE X.K W0 el)) (hs : ∀ x, foldedSetIterable iter X.env x = pure x := by intro _; rfl) :
    DS X W (.Assign [.Name y py] (.ListComp elt [⟨tg, iter, ifs, 0⟩] scope pos) spos) (asgS (lcE it (own.map (·.2)) g tt el) (gN j)) :=
  PS.imp (ps_setLc b.calm b.nd hy hyl hsw hi ok hg ht he hs) fun Dn σ H q => lc_reads (asg_tE q)
theorem ds_setLcW {j : Nat} {y : Str} {py : Pos} {spos : Pos} (b : Bd X) (k : Wk) (hy : X.N[j]? = some y) (hyl : X.env.scope.names.lookup y = some .local) (hsw : swapsWith (.ListComp elt [⟨tg, iter, ifs, 0⟩] scope pos) (some (.Name y py)) spos.line X.env = pure true)
    (hi : PI X tg iter (wkT k (tVar i))) (ok : BlkOk X.N X.env.scope scope own)
    (hg : ∀ (s : Shared) (H : Hp) (C : Addr) (cl : List (Str × Addr)) (fp : List Addr), PG (X.blk s H scope (compEnvC scope cl C X.env) fp) tg (tC' X.K W0 (own.map (·.2)) g))
    (ht : ∀ (s : Shared) (H : Hp) (C : Addr) (cl : List (Str × Addr)) (fp : List Addr), PTs (X.blk s H scope (compEnvC scope cl C X.env) fp) ifs (tTs X.K tt))
    (he : ∀ (s : Shared) (H : Hp) (C : Addr) (cl : List (Str × Addr)) (fp : List Addr), PE (X.blk s H scope (compEnvC scope cl C X.env) fp) elt (tE X.K W0 el)) (hs : ∀ x, foldedSetIterable iter X.env x = pure x := by intro _; rfl) :
    DS X W0 (.Assign [.Name y py] (.ListComp elt [⟨tg, iter, ifs, 0⟩] scope pos) spos) (asgS (lcE (wkI k i) (own.map (·.2)) g tt el) (gN j)) := by
  have F := ps_setLc b.calm b.nd hy hyl hsw hi ok hg ht he hs
  exact PS.imp (PS.or (ps_lock F) (PS.or F (ps_rel (ps_lock F)))) fun Dn σ H q => lcW_reads k (asg_tE q)
theorem de_lcN (b : Bd X) (hx : PE X iter (tVar i)) (ok : BlkOk X.N X.env.scope scope own)
    (hg : ∀ (s : Shared) (H : Hp) (C : Addr) (cl : List (Str × Addr)) (fp : List Addr), PG (X.blk s H scope (compEnvC scope cl C X.env) fp) tg (tC' X.K W0 (own.map (·.2)) g))
    (ht : ∀ (s : Shared) (H : Hp) (C : Addr) (cl : List (Str × Addr)) (fp : List Addr), PTs (X.blk s H scope (compEnvC scope cl C X.env) fp) ifs (tTs X.K tt))
    (he : ∀ (s : Shared) (H : Hp) (C : Addr) (cl : List (Str × Addr)) (fp : List Addr), PE (X.blk s H scope (compEnvC scope cl C X.env) fp) elt (tE X.K W0 el)) (hs : ∀ x, foldedSetIterable iter X.env x = pure x := by intro _; rfl) :
    DE X W0 (.ListComp elt [⟨tg, iter, ifs, 0⟩] scope pos) (lcE (nmI i) (own.map (·.2)) g tt el) := by
  refine PE.imp (PE.orr (de_lc (W := W0) (pos := pos) b (di_seq (de_var hx)) ok hg ht he hs) (de_lcW (pos := pos) b .ks (pi_keys hx) ok hg ht he hs)) fun σ H Q ⟨G, T, S, ρ, s, q⟩ => ?_
  have e : lcE (nmI i) (own.map (·.2)) g tt el ρ = lcE (seqI (rv i)) (own.map (·.2)) g tt el ρ ∨ lcE (nmI i) (own.map (·.2)) g tt el ρ = lcE (wkI .ks i) (own.map (·.2)) g tt el ρ := by
    unfold lcE nmI seqI wkI bnd
    cases e0 : rv i ρ with
    | stk => exact .inl rfl
    | er x ρ' => exact .inl rfl
    | ok o ρ1 =>
      simp only
      cases o.d <;> first | exact .inl rfl | exact .inr rfl
  rcases e with e | e
  · rw [e] at q; exact .inl ⟨G, T, S, ρ, s, q⟩
  · rw [e] at q; exact .inr ⟨G, T, S, ρ, s, q⟩
theorem lcN_eq {vs : List Nat} (ρ : Ev) : lcE (nmI i) vs g tt el ρ = lcE (seqI (rv i)) vs g tt el ρ ∨ lcE (nmI i) vs g tt el ρ = lcE (wkI .ks i) vs g tt el ρ := by
  unfold lcE nmI seqI wkI bnd
  cases e0 : rv i ρ with
  | stk => exact .inl rfl
  | er x ρ' => exact .inl rfl
  | ok o ρ1 =>
    simp only
    cases o.d <;> first | exact .inl rfl | exact .inr rfl
theorem ds_setLcN {j : Nat} {y : Str} {py : Pos} {spos : Pos} (b : Bd X) (hy : X.N[j]? = some y) (hyl : X.env.scope.names.lookup y = some .local) (hsw : swapsWith (.ListComp elt [⟨tg, iter, ifs, 0⟩] scope pos) (some (.Name y py)) spos.line X.env = pure true)
    (hx : PE X iter (tVar i)) (ok : BlkOk X.N X.env.scope scope own)
    (hg : ∀ (s : Shared) (H : Hp) (C : Addr) (cl : List (Str × Addr)) (fp : List Addr), PG (X.blk s H scope (compEnvC scope cl C X.env) fp) tg (tC' X.K W0 (own.map (·.2)) g))
    (ht : ∀ (s : Shared) (H : Hp) (C : Addr) (cl : List (Str × Addr)) (fp : List Addr), PTs (X.blk s H scope (compEnvC scope cl C X.env) fp) ifs (tTs X.K tt))
    (he : ∀ (s : Shared) (H : Hp) (C : Addr) (cl : List (Str × Addr)) (fp : List Addr), PE (X.blk s H scope (compEnvC scope cl C X.env) fp) elt (tE X.K W0 el)) (hs : ∀ x, foldedSetIterable iter X.env x = pure x := by intro _; rfl) :
    DS X W0 (.Assign [.Name y py] (.ListComp elt [⟨tg, iter, ifs, 0⟩] scope pos) spos) (asgS (lcE (nmI i) (own.map (·.2)) g tt el) (gN j)) := by
  refine PS.imp (PS.or (ds_setLc (W := W0) b hy hyl hsw (di_seq (de_var hx)) ok hg ht he hs) (ds_setLcW b .ks hy hyl hsw (pi_keys hx) ok hg ht he hs)) fun Dn σ H ⟨G, T, S, ρ, s, q⟩ => ?_
  unfold asgS bnd at q ⊢
  rcases lcN_eq (g := g) (tt := tt) (el := el) (i := i) (vs := own.map (·.2)) ρ with e | e
  · rw [e] at q; exact .inl ⟨G, T, S, ρ, s, q⟩
  · rw [e] at q; exact .inr ⟨G, T, S, ρ, s, q⟩
end
end Y
/-! Y: short words for printed derivations; the law's own head -/
namespace Y
open PySem PySem.Spec PyProof.Rows L2

theorem tn {X : Cx} (b : Bd X) (i : Nat) {x : Str} {pos : Pos} (hi : X.N[i]? = some x := by rfl) (hx : Loc X.env.scope x := by first | exact Or.inl rfl | exact Or.inr rfl)
    (hf : X.fn x = true ∨ X.env.scope.names.lookup x = some .local := by first | exact .inl rfl | exact .inr rfl) : PG X (.Name x pos) (gName i) := pg_name b.nd hi hx hf
theorem bd_of {P : Program} {w : World} {K : PySem.W.Frag} {mg : Str → Option Value} {base : Heap} {N : List Str} {qual : Str} {scope : Scope} {f : Addr} {cd : Value} {A : Around} {outer : List Env} {s : Shared} {H : Hp} {E : XK} {k : Nat}
    (hr : Room k (A.deeper (envOfC qual scope s.heap.objs.size f cd))) (nd : N.Nodup) : Bd (cxOf CX0 P w K mg base N qual scope f cd A outer s H E).nox := ⟨rfl, by have := hr.un; show (A.deeper (envOfC qual scope s.heap.objs.size f cd)).units + 200 < cLine; omega, nd⟩
/-- the names that are a def's slots -/
theorem cal_mk {P : Program} {w : World} {K : PySem.W.Frag} {mg : Str → Option Value} {base : Heap} {k : Nat} {x : Str} {st : Stmt} {f : Addr} {fd : FuncData} {ps : List Str} {n : Nat} {F : Fn} (G : FnOk P w K mg base CX0 k f fd ps (spF K n F)) (hm : mg x = some (.ref f)) (D : L2.Fun K x x st f fd)
    (b : Binds K fd ps []) : Cal P w K mg base k x n F := ⟨f, fd, ps, [], G, hm, D.kp, b, .nil⟩
theorem cal_mono {P : Program} {w : World} {K : PySem.W.Frag} {mg : Str → Option Value} {base : Heap} {k j : Nat} {x : Str} {n : Nat} {F : Fn} (c : Cal P w K mg base k x n F) (h : k ≤ j) : Cal P w K mg base j x n F := by
  obtain ⟨f, fd, ps, ds, G, a, b, c, d⟩ := c.ex
  exact ⟨f, fd, ps, ds, G.mono h, a, b, c, d⟩
def scr (ns : List Int) : D := .list (ns.map .int)
def spLaw (K : PySem.W.Frag) : Sp := fun vs H Q _ => ∃ (a : Addr) (ns : List Int), vs = [.ref a] ∧ SqL K H a (ns.map V.int) ∧ ns.length ≤ 63 ∧ ∀ H', Q (.bl true) H'
theorem rpA_ints {K : PySem.W.Frag} {S : Hp} : ∀ ns : List Int, RpA K S (ns.map V.int) (ns.map PyData.int)
  | [] => .nil
  | n :: ns => .cons (.int n) (rpA_ints ns)
theorem law_sp {K : PySem.W.Frag} {F : Fn} (h : ∀ ns : List Int, ns.length ≤ 63 → ∃ ρ, F [lf (scr ns)] = .ok (.leaf (.bool true)) ρ) : ∀ vs H Q E, spLaw K vs H Q E → spF K 1 F vs H Q E := by
  rintro vs H Q E ⟨a, ns, rfl, hS, hl, q⟩
  obtain ⟨ρ, e⟩ := h ns hl
  refine ⟨rfl, H, fun _ => False, [lf (scr ns)], rfl, ⟨Same.refl _, Same.refl _, fun _ _ _ e => e, fun _ e => e, fun _ _ e => .inl e, fun _ _ _ _ => rfl, _, _, .inn .nil, .cons (.leaf (.lst hS (rpA_ints ns))) (by simp) .nil (by simp)⟩, ?_⟩
  rw [e]
  intro v σ' S' H' s
  have := (s.rtT (v := v) (e := lf (.bool true)) (by simp)).bl_of
  subst this
  exact q H'
theorem op_eqB {X : Cx} (b : Bd X) : OpR X (compareOp .Eq) (rEqD X.K) := op_eqD (by have := b.un; omega)
theorem op_neB {X : Cx} (b : Bd X) : OpR X (compareOp .NotEq) (rNeD X.K) := op_neD (by have := b.un; omega)
/-- a block's names, by the scope around it -/
def relS (scope sc : Scope) : Scope := { scope with names := scope.names.map fun (n, k) => if k == .free && sc.kind == .function && sc.names.lookup n == some .cell then (n, .cell) else (n, k) }
theorem relabel_eq {scope : Scope} {env : Env} : relabel scope env = relS scope env.scope := rfl
theorem nil_and {X : Cx} {W : XW} {a : Expr} {f : Ev → Rs Bool} (h : DV X W a f) : DV X W a f := h
/-- a name of the module, by its value -/
theorem de_gint {X : Cx} {W : XW} {x : Str} {pos : Pos} {i : Int} (hg : Gl X x) (h : ∃ u, X.mg x = some u ∧ RelV (.int i) u) (hd : (x == ("__debug__" : Str)) = false := by decide) : DE X W (.Name x pos) (kD (.int i)) := de_const (C8.pe_gc hg h hd) fun _ => .int i
/-- not x, x anything -/
theorem dv_notT {X : Cx} {W : XW} {a : Expr} {pos : Pos} {fa : Ev → Rs B} (ha : DB X W a fa) : DV X W (.UnaryOp .Not a pos) (notT (truB fa)) := PE.imp (pe_notT ha) fun σ H Q ⟨G, T, S, ρ, s, g⟩ => by
  refine ⟨G, T, S, ρ, s, ?_⟩
  unfold notT truB bnd at g
  cases e0 : fa ρ with
  | stk => rw [e0] at g; exact g.elim
  | er x ρ' => rw [e0] at g; exact g
  | ok b ρ1 =>
    rw [e0] at g
    intro x S1 H1 s1 at1
    simp only at g
    cases e1 : b.val ρ1 with
    | none => rw [e1] at g; exact g.elim
    | some d =>
      rw [e1] at g
      simp only at g
      cases e2 : gTru d with
      | none => rw [e2] at g; exact g.elim
      | some k =>
        rw [e2] at g
        exact ⟨k, tru_of (B.rt s1 (fun p m => List.mem_append_left _ m) at1 e1) e2, g S1 H1 s1.dropL⟩
end Y
/-! Y: running a semantic function -/
namespace Y
open PySem PySem.Spec PyProof.Rows L2

/-- it ends well, and then Q -/
@[irreducible] def Go {α : Type} (r : Rs α) (Q : α → Ev → Prop) : Prop := match r with
  | .ok a ρ => Q a ρ
  | _ => False
section
variable {α β : Type} {ρ : Ev} {Q : α → Ev → Prop}
theorem Go_ok {a : α} : Go (.ok a ρ) Q = Q a ρ := by unfold Go; rfl
theorem Go_er {x : Err} : Go (.er x ρ : Rs α) Q = False := by unfold Go; rfl
theorem Go_stk : Go (.stk : Rs α) Q = False := by unfold Go; rfl
theorem Go_bnd {m : Ev → Rs β} {k : β → Ev → Rs α} : Go (bnd m k ρ) Q = Go (m ρ) (fun b ρ' => Go (k b ρ') Q) := by
  unfold bnd
  cases m ρ with
  | ok b ρ' => rw [Go_ok]
  | er x ρ' => rw [Go_er, Go_er]
  | stk => rw [Go_stk, Go_stk]
theorem Go_ite {c : Prop} [Decidable c] {x y : Rs α} : Go (if c then x else y) Q = if c then Go x Q else Go y Q := by split <;> rfl
theorem Go.ex {r : Rs α} (h : Go r Q) : ∃ a ρ', r = .ok a ρ' ∧ Q a ρ' := by
  cases r with
  | ok a ρ' => rw [Go_ok] at h; exact ⟨a, ρ', rfl, h⟩
  | er => rw [Go_er] at h; exact h.elim
  | stk => rw [Go_stk] at h; exact h.elim
theorem Go.of {r : Rs α} {a : α} {ρ' : Ev} (h : r = .ok a ρ') (q : Q a ρ') : Go r Q := by rw [h, Go_ok]; exact q
theorem Go.okk {a : α} (q : Q a ρ) : Go (.ok a ρ) Q := by rw [Go_ok]; exact q
theorem Go.mono {r : Rs α} {Q' : α → Ev → Prop} (h : Go r Q) (k : ∀ a ρ, Q a ρ → Q' a ρ) : Go r Q' := by
  obtain ⟨a, ρ', e, q⟩ := h.ex
  exact Go.of e (k a ρ' q)
end
section
variable {ρ : Ev} {Q : Ctl → Ev → Prop}
theorem Go_cons {f g : Ev → Rs Ctl} : Go (cons f g ρ) Q = Go (f ρ) (fun c ρ' => match c with | .nx => Go (g ρ') Q | c => Q c ρ') := by
  unfold cons
  cases f ρ with
  | ok c ρ' => rw [Go_ok]; cases c <;> first | rfl | rw [Go_ok]
  | er => rw [Go_er, Go_er]
  | stk => rw [Go_stk, Go_stk]
theorem Go_cons_nx {f g : Ev → Rs Ctl} (h : Go (f ρ) (fun c ρ' => c = .nx ∧ Go (g ρ') Q)) : Go (cons f g ρ) Q := by
  rw [Go_cons]
  exact h.mono fun c ρ' ⟨e, q⟩ => by subst e; exact q
end
/-- a def's value, its arguments handed in whole -/
def Val (F : Fn) (es : List E) (d : O) : Prop := ∃ ρ, F es = .ok d ρ
theorem val_fnS {n N : Nat} {body : Ev → Rs Ctl} {es : List E} {d : O} (h : Go (body (es.map some ++ List.replicate (N - n) none)) (fun c _ => c = .rt d)) : Val (fnS n N body) es d := by
  obtain ⟨c, ρ', e, rfl⟩ := h.ex
  exact ⟨ρ', by unfold fnS; rw [e]⟩
theorem go_fnS {n N : Nat} {body : Ev → Rs Ctl} {es : List E} {Q : O → Ev → Prop} (h : Go (body (es.map some ++ List.replicate (N - n) none)) (fun c ρ => match c with | .rt d => Q d ρ | .nx => Q (.leaf .none) ρ | _ => False)) : Go (fnS n N body es) Q := by
  obtain ⟨c, ρ', e, q⟩ := h.ex
  unfold fnS
  rw [e]
  cases c with
  | nx => exact Go.okk q
  | rt d => exact Go.okk q
  | bk => exact q.elim
  | ct => exact q.elim
/-- a call with shared data alone -/
def leafs : List B → Ev → Option (List D)
  | [], _ => some []
  | .tmp o :: bs, ρ => (match leafs bs ρ with | some ds => some (o.d :: ds) | none => none)
  | .slot j :: bs, ρ => (match ρ[j]? with
    | some (some ⟨_, .leaf d⟩) => (match leafs bs ρ with | some ds => some (d :: ds) | none => none)
    | _ => none)
theorem lend_leafs {ρ : Ev} : ∀ {bs : List B} {ds : List D}, leafs bs ρ = some ds → lend bs ρ = some (ds.map lf, ρ)
  | [], _, h => by cases h; rfl
  | .tmp o :: bs, ds, h => by
    unfold leafs at h
    split at h
    · rename_i ds' h'
      cases h
      unfold lend
      rw [lend_leafs h']
      rfl
    · cases h
  | .slot j :: bs, ds, h => by
    unfold leafs at h
    split at h
    · rename_i io d hj
      split at h
      · rename_i ds' h'
        cases h
        unfold lend
        rw [hj]
        simp only
        rw [lend_leafs h']
        rfl
      · cases h
    · cases h
theorem unlend_leafs {ρ ρ' : Ev} : ∀ {bs : List B} {ds : List D} {i : Nat}, bs.length = ds.length → unlend ρ' i bs (ds.map lf) ρ = some ρ
  | [], [], _, _ => rfl
  | .tmp o :: bs, d :: ds, i, h => by
    show unlend ρ' (i + 1) bs (ds.map lf) ρ = some ρ
    exact unlend_leafs (by simpa using h)
  | .slot j :: bs, d :: ds, i, h => by
    show unlend ρ' (i + 1) bs (ds.map lf) ρ = some ρ
    exact unlend_leafs (by simpa using h)
theorem leafs_len {ρ : Ev} : ∀ {bs : List B} {ds : List D}, leafs bs ρ = some ds → bs.length = ds.length
  | [], _, h => by cases h; rfl
  | .tmp o :: bs, ds, h => by
    unfold leafs at h
    split at h
    · rename_i ds' h'; cases h; simp [leafs_len h']
    · cases h
  | .slot j :: bs, ds, h => by
    unfold leafs at h
    split at h
    · split at h
      · rename_i ds' h'; cases h; simp [leafs_len h']
      · cases h
    · cases h
theorem ce_lf (ds : List D) : (ds.map lf).map ce = ds.map lf := by
  rw [List.map_map]
  rfl
/-- a call whose arguments are shared data: by the def's value -/
theorem Go_call {F : Fn} {fs : Ev → Rs (List B)} {ρ : Ev} {Q : O → Ev → Prop} (h : Go (fs ρ) (fun bs ρ1 => ∃ ds d, leafs bs ρ1 = some ds ∧ Val F (ds.map lf) d ∧ Q d ρ1)) : Go (callS F fs ρ) Q := by
  unfold callS
  rw [Go_bnd]
  refine h.mono fun bs ρ1 ⟨ds, d, h1, ⟨ρ', h2⟩, q⟩ => ?_
  rw [lend_leafs h1]
  simp only [ce_lf]
  rw [h2]
  simp only
  rw [unlend_leafs (leafs_len h1)]
  exact Go.okk q
/-- the same, whatever comes out -/
theorem Go_callG {F : Fn} {fs : Ev → Rs (List B)} {ρ : Ev} {Q : O → Ev → Prop} (h : Go (fs ρ) (fun bs ρ1 => ∃ ds, leafs bs ρ1 = some ds ∧ Go (F (ds.map lf)) (fun o _ => Q o ρ1))) : Go (callS F fs ρ) Q := by
  refine Go_call (h.mono fun bs ρ1 ⟨ds, h1, h2⟩ => ?_)
  obtain ⟨o, ρ', e, q⟩ := h2.ex
  exact ⟨ds, o, h1, ⟨ρ', e⟩, q⟩
/-- a call that is lent its first argument, a list of ours at slot j -/
theorem Go_callP {F : Fn} {fs : Ev → Rs (List B)} {ρ : Ev} {Q : O → Ev → Prop} (h : Go (fs ρ) (fun bs ρ1 => ∃ j bs' io xs ds, bs = .slot j :: bs' ∧ ρ1[j]? = some (some ⟨io, .lst xs⟩) ∧ leafs bs' ρ1 = some ds ∧ leafs bs' (ρ1.set j none) = some ds ∧
    Go (F (⟨true, .lst xs⟩ :: ds.map lf)) (fun d ρ' => ∃ ys, ρ'[0]? = some (some ⟨true, .lst ys⟩) ∧ Q d ((ρ1.set j none).set j (some ⟨io, .lst ys⟩))))) : Go (callS F fs ρ) Q := by
  unfold callS
  rw [Go_bnd]
  refine h.mono fun bs ρ1 ⟨j, bs', io, xs, ds, e1, e2, h0, h1, h2⟩ => ?_
  subst e1
  obtain ⟨d, ρ', e3, ys, e4, q⟩ := h2.ex
  have el : lend (.slot j :: bs') ρ1 = some (⟨io, .lst xs⟩ :: ds.map lf, ρ1.set j none) := by
    unfold lend
    rw [e2]
    simp only
    rw [lend_leafs h1]
  rw [el]
  have ec : (⟨io, .lst xs⟩ :: ds.map lf : List E).map ce = ⟨true, .lst xs⟩ :: ds.map lf := by
    rw [List.map_cons, ce_lf]
    rfl
  simp only [ec, e3]
  have eu : unlend ρ' 0 (.slot j :: bs') (⟨io, .lst xs⟩ :: ds.map lf) (ρ1.set j none) = some ((ρ1.set j none).set j (some ⟨io, .lst ys⟩)) := by
    unfold unlend
    simp only [e4]
    exact unlend_leafs (leafs_len h1)
  rw [eu]
  exact Go.okk q
/-! ### loops -/
theorem go_for {cl : List Nat} {tg : O → Ev → Rs Unit} {body : Ev → Rs Ctl} (P : Nat → Ev → Prop) (R : O → Ev → Prop) : ∀ (ds : List D) (i : Nat) (ρ : Ev), P i ρ →
    (∀ k d ρ, ds[k]? = some d → P (i + k) ρ → Go (tg (.leaf d) ρ) (fun _ ρ1 => Go (body ρ1) (fun c ρ2 => match c with | .nx => P (i + k + 1) (clrs ρ2 cl) | .ct => P (i + k + 1) (clrs ρ2 cl) | .rt d => R d ρ2 | .bk => False))) →
    Go (forGo cl tg body ds ρ) (fun c ρ' => match c with | .nx => P (i + ds.length) ρ' | .rt d => R d ρ' | _ => False)
  | [], i, ρ, h, _ => Go.okk h
  | d :: ds, i, ρ, h, hs => by
    have h1 := hs 0 d ρ rfl h
    obtain ⟨u, ρ1, e1, h2⟩ := h1.ex
    obtain ⟨c, ρ2, e2, h3⟩ := h2.ex
    unfold forGo
    rw [e1]
    simp only
    rw [e2]
    have next : P (i + 1) (clrs ρ2 cl) → Go (forGo cl tg body ds (clrs ρ2 cl)) (fun c ρ' => match c with | .nx => P (i + (ds.length + 1)) ρ' | .rt d => R d ρ' | _ => False) := fun h => by
      have := go_for P R ds (i + 1) (clrs ρ2 cl) h fun k d ρ hk hp => by
        have := hs (k + 1) d ρ (by simpa using hk) (by rw [show i + (k + 1) = i + 1 + k by omega]; exact hp)
        rw [show i + (k + 1) = i + 1 + k by omega] at this
        exact this
      rw [show i + (ds.length + 1) = i + 1 + ds.length by omega]
      exact this
    cases c with
    | nx => exact next h3
    | ct => exact next h3
    | rt d => exact Go.okk h3
    | bk => exact h3.elim
/-- a loop that runs to its end -/
theorem Go_for {it : Ev → Rs (List D)} {cl : List Nat} {tg : O → Ev → Rs Unit} {body : Ev → Rs Ctl} {ρ : Ev} {Q : Ctl → Ev → Prop} {ds : List D} {ρ0 : Ev} (P : Nat → Ev → Prop) (hit : it ρ = .ok ds ρ0) (h0 : P 0 (clrs ρ0 cl))
    (hs : ∀ k d ρ, ds[k]? = some d → P k ρ → Go (tg (.leaf d) ρ) (fun _ ρ1 => Go (body ρ1) (fun c ρ2 => c = .nx ∧ P (k + 1) (clrs ρ2 cl))))
    (hq : ∀ ρ, P ds.length ρ → Q .nx ρ) : Go (forS it tg body cl ρ) Q := by
  unfold forS
  rw [Go_bnd, hit, Go_ok]
  have := go_for (cl := cl) (tg := tg) (body := body) P (fun _ _ => False) ds 0 (clrs ρ0 cl) h0 fun k d ρ hk hp => by
    rw [Nat.zero_add] at hp ⊢
    refine (hs k d ρ hk hp).mono fun _ ρ1 h => h.mono fun c ρ2 ⟨e, q⟩ => ?_
    subst e
    exact q
  refine this.mono fun c ρ' h => ?_
  cases c with
  | nx => rw [Nat.zero_add] at h; exact hq _ h
  | rt d => exact h.elim
  | bk => exact h.elim
  | ct => exact h.elim
theorem go_wh {cl : List Nat} {c : Ev → Rs Bool} {body : Ev → Rs Ctl} (P : Nat → Ev → Prop) (Qe : Ev → Prop) (hs : ∀ m ρ, P m ρ → Go (c ρ) (fun b ρ1 => if b = true then Go (body ρ1) (fun k ρ2 => k = .nx ∧ ∃ m', m' < m ∧ P m' (clrs ρ2 cl)) else Qe ρ1)) :
    ∀ m ρ, P m ρ → Go (whN cl c body (m + 1) ρ) (fun k ρ' => k = .nx ∧ Qe ρ') := by
  intro m
  induction m using Nat.strongRecOn with
  | _ m ih =>
    intro ρ hp
    obtain ⟨b, ρ1, e1, h1⟩ := (hs m ρ hp).ex
    unfold whN
    rw [e1]
    cases b with
    | false => exact Go.okk ⟨rfl, h1⟩
    | true =>
      simp only [if_true] at h1
      obtain ⟨k, ρ2, e2, rfl, m', hm, hp'⟩ := h1.ex
      simp only [e2]
      have := ih m' hm _ hp'
      obtain ⟨k', ρ3, e3, h3⟩ := this.ex
      rw [whN_mono (m := m) (by rw [e3]; intro z; cases z) (by omega), e3]
      exact Go.okk h3
/-- a while that ends -/
theorem Go_wh {cl : List Nat} {c : Ev → Rs Bool} {body : Ev → Rs Ctl} {ρ : Ev} {Q : Ctl → Ev → Prop} (P : Nat → Ev → Prop) (m : Nat) (h0 : P m (clrs ρ cl))
    (hs : ∀ m ρ, P m ρ → Go (c ρ) (fun b ρ1 => if b = true then Go (body ρ1) (fun k ρ2 => k = .nx ∧ ∃ m', m' < m ∧ P m' (clrs ρ2 cl)) else Q .nx ρ1)) : Go (whS cl c body ρ) Q := by
  have := go_wh (cl := cl) (body := body) P (fun ρ => Q .nx ρ) hs m _ h0
  obtain ⟨k, ρ', e, rfl, q⟩ := this.ex
  rw [whS_eq e (by intro z; cases z)]
  exact Go.okk q
/-! ### comprehensions that draw nothing -/
theorem lc_pure {vs : List Nat} {tg : O → Ev → Rs Unit} {tt : Ev → Rs Bool} {el : Ev → Rs O} {ρw : Ev} {c : D → Bool} {e : D → D} : ∀ {ds : List D},
    (∀ d ∈ ds, Go (tg (.leaf d) ρw) (fun _ ρ1 => Go (tt ρ1) (fun b ρ2 => b = c d ∧ if c d = true then Go (el ρ2) (fun o ρ3 => o.d = e d ∧ wipeE ρ3 vs = ρw) else wipeE ρ2 vs = ρw))) →
    lcGo vs tg tt el ds ρw = .ok ((ds.filter c).map e) ρw
  | [], _ => rfl
  | d :: ds, h => by
    obtain ⟨u, ρ1, e1, h1⟩ := (h d (by simp)).ex
    obtain ⟨b, ρ2, e2, rfl, h2⟩ := h1.ex
    have ih := lc_pure (ds := ds) fun x m => h x (by simp [m])
    unfold lcGo
    rw [e1]
    simp only
    rw [e2]
    cases hc : c d with
    | false =>
      rw [hc] at h2
      simp only [Bool.false_eq_true, if_false] at h2
      simp only [h2, ih, List.filter_cons, hc, Bool.false_eq_true, if_false]
    | true =>
      rw [hc] at h2
      simp only [if_true] at h2
      obtain ⟨o, ρ3, e3, h3, h4⟩ := h2.ex
      simp only [e3, h4, ih, List.filter_cons, hc, if_true, List.map_cons, h3]
theorem Go_lc {it : Ev → Rs (List D)} {vs : List Nat} {tg : O → Ev → Rs Unit} {tt : Ev → Rs Bool} {el : Ev → Rs O} {ρ ρ1 : Ev} {Q : O → Ev → Prop} {ds : List D} (c : D → Bool) (e : D → D) (hit : it ρ = .ok ds ρ1) (hh : hidable ρ1 vs = true) (hl : ds.length ≤ 1000)
    (hs : ∀ d ∈ ds, Go (tg (.leaf d) (wipeE ρ1 vs)) (fun _ ρ2 => Go (tt ρ2) (fun b ρ3 => b = c d ∧ if c d = true then Go (el ρ3) (fun o ρ4 => o.d = e d ∧ wipeE ρ4 vs = wipeE ρ1 vs) else wipeE ρ3 vs = wipeE ρ1 vs)))
    (hq : Q (.lst ((ds.filter c).map e)) (unhide ρ1 (wipeE ρ1 vs) vs)) : Go (lcE it vs tg tt el ρ) Q := by
  unfold lcE
  rw [Go_bnd, hit, Go_ok]
  rw [if_pos ⟨hh, Nat.le_of_lt (small1000 hl)⟩, lc_pure hs]
  exact Go.okk hq
theorem Go_lcm {it : Ev → Rs (List D)} {vs : List Nat} {tg : O → Ev → Rs Unit} {el : Ev → Rs O} {ρ ρ1 : Ev} {Q : O → Ev → Prop} {ds : List D} (e : D → D) (hit : it ρ = .ok ds ρ1) (hh : hidable ρ1 vs = true) (hl : ds.length ≤ 1000)
    (hs : ∀ d ∈ ds, Go (tg (.leaf d) (wipeE ρ1 vs)) (fun _ ρ2 => Go (el ρ2) (fun o ρ4 => o.d = e d ∧ wipeE ρ4 vs = wipeE ρ1 vs)))
    (hq : Q (.lst (ds.map e)) (unhide ρ1 (wipeE ρ1 vs) vs)) : Go (lcE it vs tg yesT el ρ) Q := by
  refine Go_lc (fun _ => true) e hit hh hl (fun d m => (hs d m).mono fun _ ρ2 h => ?_) (by rw [List.filter_eq_self.mpr fun _ _ => rfl]; exact hq)
  exact Go.okk ⟨rfl, by rw [if_pos rfl]; exact h⟩
end Y
/-! Y: running a semantic function, step by step -/
namespace Y
open PySem PySem.Spec PyProof.Rows L2

section
variable {α : Type} {ρ : Ev}
@[simp] theorem go_ok' {a : α} {Q : α → Ev → Prop} : Go (.ok a ρ) Q = Q a ρ := by first | rfl | exact Go_ok | exact Go_stk | exact Go_er | simp only [Go_ok, Go_stk, Go_er] | (simp only [Go_ok, Go_stk, Go_er]; rfl)
@[simp] theorem go_stk' {Q : α → Ev → Prop} : Go (.stk : Rs α) Q = False := by first | rfl | exact Go_ok | exact Go_stk | exact Go_er | simp only [Go_ok, Go_stk, Go_er] | (simp only [Go_ok, Go_stk, Go_er]; rfl)
@[simp] theorem go_ite' {c : Prop} [Decidable c] {x y : Rs α} {Q : α → Ev → Prop} : Go (if c then x else y) Q = if c then Go x Q else Go y Q := Go_ite
end
section
variable {ρ : Ev}
@[simp] theorem g_kD {d : D} {Q : O → Ev → Prop} : Go (kD d ρ) Q = Q (.leaf d) ρ := by first | rfl | exact Go_ok | exact Go_stk | exact Go_er | simp only [Go_ok, Go_stk, Go_er] | (simp only [Go_ok, Go_stk, Go_er]; rfl)
@[simp] theorem g_tm {f : Ev → Rs O} {Q : B → Ev → Prop} : Go (tm f ρ) Q = Go (f ρ) (fun o ρ' => Q (.tmp o) ρ') := by unfold tm; rw [Go_bnd]; first | rfl | exact Go_ok | exact Go_stk | exact Go_er | simp only [Go_ok, Go_stk, Go_er] | (simp only [Go_ok, Go_stk, Go_er]; rfl)
/-- what slot i holds -/
def look (ρ : Ev) (i : Nat) : Option E := match ρ[i]? with
  | some (some e) => some e
  | _ => none
@[simp] theorem look_0 {e : E} {r : Ev} : look (some e :: r) 0 = some e := rfl
@[simp] theorem look_0n {r : Ev} : look (none :: r) 0 = none := rfl
@[simp] theorem look_s {x : Option E} {r : Ev} {i : Nat} : look (x :: r) (i + 1) = look r i := by unfold look; rw [List.getElem?_cons_succ]
theorem look_of {i : Nat} {e : E} (h : look ρ i = some e) : ρ[i]? = some (some e) := by
  unfold look at h
  split at h
  · rename_i e' he; cases h; exact he
  · cases h
theorem look_none {i : Nat} (h : look ρ i = none) : ∀ e, ρ[i]? ≠ some (some e) := fun e he => by
  unfold look at h
  rw [he] at h
  cases h
@[simp] theorem g_bv {i : Nat} {Q : B → Ev → Prop} : Go (bv i ρ) Q = ((look ρ i).isSome = true ∧ Q (.slot i) ρ) := by
  unfold bv look
  split
  · rename_i e he; simp [he]
  · rename_i h
    cases e : ρ[i]? with
    | none => simp
    | some m =>
      cases m with
      | none => simp
      | some x => exact absurd e (h x)
theorem val_slot {i : Nat} : (B.slot i).val ρ = (look ρ i).map fun e => e.o.d := by
  show (match ρ[i]? with | some (some e) => some e.o.d | _ => none) = _
  unfold look
  split <;> simp
@[simp] theorem val_tmp {o : O} : (B.tmp o).val ρ = some o.d := rfl
@[simp] theorem val_slot' {i : Nat} : (B.slot i).val ρ = (look ρ i).map fun e => e.o.d := val_slot
@[simp] theorem d_leaf {d : D} : (O.leaf d).d = d := rfl
@[simp] theorem d_lst {d : List D} : (O.lst d).d = .list d := rfl
@[simp] theorem d_dic {d : List (D × D)} : (O.dic d).d = .dict d := rfl
/-- reading a name: shared from then on -/
def shr : E → Option (O × E)
  | ⟨false, o⟩ => some (.leaf o.d, lf o.d)
  | ⟨true, .leaf d⟩ => some (.leaf d, ⟨true, .leaf d⟩)
  | _ => none
@[simp] theorem shr_leaf {d : D} : shr ⟨false, .leaf d⟩ = some (.leaf d, lf d) := rfl
@[simp] theorem shr_lst {d : List D} : shr ⟨false, .lst d⟩ = some (.leaf (.list d), lf (.list d)) := rfl
@[simp] theorem shr_dic {d : List (D × D)} : shr ⟨false, .dic d⟩ = some (.leaf (.dict d), lf (.dict d)) := rfl
@[simp] theorem g_rv {i : Nat} {Q : O → Ev → Prop} : Go (rv i ρ) Q = match (look ρ i).bind shr with
    | some (o, e) => Q o (ρ.set i (some e))
    | none => False := by
  unfold rv look
  cases h : ρ[i]? with
  | none => first | rfl | exact Go_ok | exact Go_stk | exact Go_er | simp only [Go_ok, Go_stk, Go_er] | (simp only [Go_ok, Go_stk, Go_er]; rfl)
  | some m =>
    cases m with
    | none => first | rfl | exact Go_ok | exact Go_stk | exact Go_er | simp only [Go_ok, Go_stk, Go_er] | (simp only [Go_ok, Go_stk, Go_er]; rfl)
    | some e =>
      obtain ⟨io, o⟩ := e
      cases io with
      | false =>
        cases o with
        | leaf d =>
          refine Eq.trans Go_ok ?_
          show Q (.leaf d) ρ = Q (.leaf d) (ρ.set i (some (lf d)))
          rw [Stt.set_leaf h]
        | lst d => exact Go_ok
        | dic d => exact Go_ok
      | true =>
        cases o with
        | leaf d =>
          refine Eq.trans Go_ok ?_
          show Q (.leaf d) ρ = Q (.leaf d) (ρ.set i (some ⟨true, .leaf d⟩))
          have : ρ.set i (some ⟨true, .leaf d⟩) = ρ := by
            obtain ⟨h1, h2⟩ := List.getElem?_eq_some_iff.mp h
            rw [← h2, List.set_getElem_self]
          rw [this]
        | lst d => exact Go_stk
        | dic d => exact Go_stk
def mov : E → Option (O × Option E)
  | ⟨io, .leaf d⟩ => some (.leaf d, some ⟨io, .leaf d⟩)
  | ⟨false, o⟩ => some (o, none)
  | _ => none
@[simp] theorem mov_leaf {io : Bool} {d : D} : mov ⟨io, .leaf d⟩ = some (.leaf d, some ⟨io, .leaf d⟩) := rfl
@[simp] theorem mov_lst {d : List D} : mov ⟨false, .lst d⟩ = some (.lst d, none) := rfl
@[simp] theorem mov_dic {d : List (D × D)} : mov ⟨false, .dic d⟩ = some (.dic d, none) := rfl
@[simp] theorem g_mv {i : Nat} {Q : O → Ev → Prop} : Go (mv i ρ) Q = match (look ρ i).bind mov with
    | some (o, e) => Q o (ρ.set i e)
    | none => False := by
  unfold mv look
  cases h : ρ[i]? with
  | none => first | rfl | exact Go_ok | exact Go_stk | exact Go_er | simp only [Go_ok, Go_stk, Go_er] | (simp only [Go_ok, Go_stk, Go_er]; rfl)
  | some m =>
    cases m with
    | none => first | rfl | exact Go_ok | exact Go_stk | exact Go_er | simp only [Go_ok, Go_stk, Go_er] | (simp only [Go_ok, Go_stk, Go_er]; rfl)
    | some e =>
      have same : ρ.set i (some e) = ρ := by
        obtain ⟨h1, h2⟩ := List.getElem?_eq_some_iff.mp h
        rw [← h2, List.set_getElem_self]
      obtain ⟨io, o⟩ := e
      cases io <;> cases o <;> first | exact Go_ok | exact Go_stk | (refine Eq.trans Go_ok ?_; show Q _ ρ = Q _ (ρ.set i _); rw [same])
@[simp] theorem g_aNil {Q : List B → Ev → Prop} : Go (aNil ρ) Q = Q [] ρ := by first | rfl | exact Go_ok | exact Go_stk | exact Go_er | simp only [Go_ok, Go_stk, Go_er] | (simp only [Go_ok, Go_stk, Go_er]; rfl)
@[simp] theorem g_aCons {f : Ev → Rs B} {r : Ev → Rs (List B)} {Q : List B → Ev → Prop} : Go (aCons f r ρ) Q = Go (f ρ) (fun b ρ1 => Go (r ρ1) (fun bs ρ2 => Q (b :: bs) ρ2)) := by
  unfold aCons
  rw [Go_bnd]
  congr 1
  funext b ρ1
  rw [Go_bnd]
  first | rfl | exact Go_ok | exact Go_stk | exact Go_er | simp only [Go_ok, Go_stk, Go_er] | (simp only [Go_ok, Go_stk, Go_er]; rfl)
theorem vals_nil : vals ρ [] = some [] := rfl
theorem vals_cons {b : B} {bs : List B} : vals ρ (b :: bs) = (b.val ρ).bind fun d => (vals ρ bs).map fun ds => d :: ds := by
  rw [vals]
  cases b.val ρ with
  | none => first | rfl | exact Go_ok | exact Go_stk | exact Go_er | simp only [Go_ok, Go_stk, Go_er] | (simp only [Go_ok, Go_stk, Go_er]; rfl)
  | some d => cases vals ρ bs <;> (first | rfl | exact Go_ok | exact Go_stk | exact Go_er | simp only [Go_ok, Go_stk, Go_er] | (simp only [Go_ok, Go_stk, Go_er]; rfl))
@[simp] theorem vals_nil' : vals ρ [] = some [] := rfl
@[simp] theorem vals_cons' {b : B} {bs : List B} : vals ρ (b :: bs) = (b.val ρ).bind fun d => (vals ρ bs).map fun ds => d :: ds := vals_cons
@[simp] theorem tmpD_nil : tmpD [] = some [] := rfl
@[simp] theorem tmpD_tmp {o : O} {bs : List B} : tmpD (.tmp o :: bs) = (tmpD bs).map fun ds => o.d :: ds := by rw [tmpD]; cases tmpD bs <;> (first | rfl | exact Go_ok | exact Go_stk | exact Go_er | simp only [Go_ok, Go_stk, Go_er] | (simp only [Go_ok, Go_stk, Go_er]; rfl))
@[simp] theorem g_op2 {g : D → D → Option O} {fa fb : Ev → Rs B} {Q : O → Ev → Prop} : Go (op2 g fa fb ρ) Q = Go (fa ρ) (fun a ρ1 => Go (fb ρ1) (fun b ρ2 => match (a.val ρ2).bind fun x => (b.val ρ2).bind fun y => g x y with
    | some o => Q o ρ2
    | none => False)) := by
  unfold op2
  rw [Go_bnd]
  congr 1
  funext a ρ1
  rw [Go_bnd]
  congr 1
  funext b ρ2
  cases h1 : a.val ρ2 with
  | none => first | rfl | exact Go_ok | exact Go_stk | exact Go_er | simp only [Go_ok, Go_stk, Go_er] | (simp only [Go_ok, Go_stk, Go_er]; rfl)
  | some x =>
    cases h2 : b.val ρ2 with
    | none => first | rfl | exact Go_ok | exact Go_stk | exact Go_er | simp only [Go_ok, Go_stk, Go_er] | (simp only [Go_ok, Go_stk, Go_er]; rfl)
    | some y =>
      show Go (match g x y with | some o => Rs.ok o ρ2 | none => .stk) Q = (match g x y with | some o => Q o ρ2 | none => False)
      cases g x y <;> (first | rfl | exact Go_ok | exact Go_stk | exact Go_er | simp only [Go_ok, Go_stk, Go_er] | (simp only [Go_ok, Go_stk, Go_er]; rfl))
@[simp] theorem g_op1 {g : D → Option O} {fa : Ev → Rs B} {Q : O → Ev → Prop} : Go (op1 g fa ρ) Q = Go (fa ρ) (fun a ρ1 => match (a.val ρ1).bind g with
    | some o => Q o ρ1
    | none => False) := by
  unfold op1
  rw [Go_bnd]
  congr 1
  funext a ρ1
  cases h1 : a.val ρ1 with
  | none => first | rfl | exact Go_ok | exact Go_stk | exact Go_er | simp only [Go_ok, Go_stk, Go_er] | (simp only [Go_ok, Go_stk, Go_er]; rfl)
  | some x =>
    show Go (match g x with | some o => Rs.ok o ρ1 | none => .stk) Q = (match g x with | some o => Q o ρ1 | none => False)
    cases g x <;> (first | rfl | exact Go_ok | exact Go_stk | exact Go_er | simp only [Go_ok, Go_stk, Go_er] | (simp only [Go_ok, Go_stk, Go_er]; rfl))
@[simp] theorem g_cmp2 {g : D → D → Option Bool} {fa fb : Ev → Rs B} {Q : Bool → Ev → Prop} : Go (cmp2 g fa fb ρ) Q = Go (fa ρ) (fun a ρ1 => Go (fb ρ1) (fun b ρ2 => match (a.val ρ2).bind fun x => (b.val ρ2).bind fun y => g x y with
    | some o => Q o ρ2
    | none => False)) := by
  unfold cmp2
  rw [Go_bnd]
  congr 1
  funext a ρ1
  rw [Go_bnd]
  congr 1
  funext b ρ2
  cases h1 : a.val ρ2 with
  | none => first | rfl | exact Go_ok | exact Go_stk | exact Go_er | simp only [Go_ok, Go_stk, Go_er] | (simp only [Go_ok, Go_stk, Go_er]; rfl)
  | some x =>
    cases h2 : b.val ρ2 with
    | none => first | rfl | exact Go_ok | exact Go_stk | exact Go_er | simp only [Go_ok, Go_stk, Go_er] | (simp only [Go_ok, Go_stk, Go_er]; rfl)
    | some y =>
      show Go (match g x y with | some o => Rs.ok o ρ2 | none => .stk) Q = (match g x y with | some o => Q o ρ2 | none => False)
      cases g x y <;> (first | rfl | exact Go_ok | exact Go_stk | exact Go_er | simp only [Go_ok, Go_stk, Go_er] | (simp only [Go_ok, Go_stk, Go_er]; rfl))
@[simp] theorem g_chn {g g' : D → D → Option Bool} {fa fb fc : Ev → Rs B} {Q : Bool → Ev → Prop} : Go (chn g g' fa fb fc ρ) Q = Go (fa ρ) (fun a ρ1 => Go (fb ρ1) (fun b ρ2 => match (a.val ρ2).bind fun x => (b.val ρ2).bind fun y => g x y with
    | some true => Go (fc ρ2) (fun c ρ3 => match (b.val ρ3).bind fun y => (c.val ρ3).bind fun z => g' y z with
      | some d => Q d ρ3
      | none => False)
    | some false => Q false ρ2
    | none => False)) := by
  unfold chn
  rw [Go_bnd]
  congr 1
  funext a ρ1
  rw [Go_bnd]
  congr 1
  funext b ρ2
  cases h1 : a.val ρ2 with
  | none => first | rfl | exact Go_ok | exact Go_stk | exact Go_er | simp only [Go_ok, Go_stk, Go_er] | (simp only [Go_ok, Go_stk, Go_er]; rfl)
  | some x =>
    cases h2 : b.val ρ2 with
    | none => first | rfl | exact Go_ok | exact Go_stk | exact Go_er | simp only [Go_ok, Go_stk, Go_er] | (simp only [Go_ok, Go_stk, Go_er]; rfl)
    | some y =>
      simp only [Option.bind_some]
      cases h3 : g x y with
      | none => first | rfl | exact Go_ok | exact Go_stk | exact Go_er | simp only [Go_ok, Go_stk, Go_er] | (simp only [Go_ok, Go_stk, Go_er]; rfl)
      | some k =>
        cases k with
        | false => first | rfl | exact Go_ok | exact Go_stk | exact Go_er
        | true =>
          simp only
          rw [Go_bnd]
          congr 1
          funext c ρ3
          cases h4 : b.val ρ3 with
          | none => first | rfl | exact Go_ok | exact Go_stk | exact Go_er | simp only [Go_ok, Go_stk, Go_er] | (simp only [Go_ok, Go_stk, Go_er]; rfl)
          | some y' =>
            cases h5 : c.val ρ3 with
            | none => first | rfl | exact Go_ok | exact Go_stk | exact Go_er | simp only [Go_ok, Go_stk, Go_er] | (simp only [Go_ok, Go_stk, Go_er]; rfl)
            | some z =>
              show Go (match g' y' z with | some o => Rs.ok o ρ3 | none => .stk) Q = (match g' y' z with | some o => Q o ρ3 | none => False)
              cases g' y' z <;> (first | rfl | exact Go_ok | exact Go_stk | exact Go_er | simp only [Go_ok, Go_stk, Go_er] | (simp only [Go_ok, Go_stk, Go_er]; rfl))
@[simp] theorem g_bl {f : Ev → Rs Bool} {Q : O → Ev → Prop} : Go (bl f ρ) Q = Go (f ρ) (fun b ρ' => Q (.leaf (.bool b)) ρ') := by unfold bl; rw [Go_bnd]; first | rfl | exact Go_ok | exact Go_stk | exact Go_er | simp only [Go_ok, Go_stk, Go_er] | (simp only [Go_ok, Go_stk, Go_er]; rfl)
@[simp] theorem g_asB {f : Ev → Rs O} {Q : Bool → Ev → Prop} : Go (asB f ρ) Q = Go (f ρ) (fun o ρ' => match o with | .leaf (.bool b) => Q b ρ' | _ => False) := by
  unfold asB
  rw [Go_bnd]
  congr 1
  funext o ρ1
  cases o with
  | leaf d => cases d <;> (first | rfl | exact Go_ok | exact Go_stk | exact Go_er | simp only [Go_ok, Go_stk, Go_er] | (simp only [Go_ok, Go_stk, Go_er]; rfl))
  | lst _ => first | rfl | exact Go_ok | exact Go_stk | exact Go_er
  | dic _ => first | rfl | exact Go_ok | exact Go_stk | exact Go_er
@[simp] theorem g_truB {f : Ev → Rs B} {Q : Bool → Ev → Prop} : Go (truB f ρ) Q = Go (f ρ) (fun b ρ' => match (b.val ρ').bind gTru with | some c => Q c ρ' | none => False) := by
  unfold truB
  rw [Go_bnd]
  congr 1
  funext b ρ1
  cases h1 : b.val ρ1 with
  | none => first | rfl | exact Go_ok | exact Go_stk | exact Go_er | simp only [Go_ok, Go_stk, Go_er] | (simp only [Go_ok, Go_stk, Go_er]; rfl)
  | some x =>
    show Go (match gTru x with | some o => Rs.ok o ρ1 | none => .stk) Q = (match gTru x with | some o => Q o ρ1 | none => False)
    cases gTru x <;> (first | rfl | exact Go_ok | exact Go_stk | exact Go_er | simp only [Go_ok, Go_stk, Go_er] | (simp only [Go_ok, Go_stk, Go_er]; rfl))
@[simp] theorem g_andT {f g : Ev → Rs Bool} {Q : Bool → Ev → Prop} : Go (andT f g ρ) Q = Go (f ρ) (fun b ρ' => if b = true then Go (g ρ') Q else Q false ρ') := by
  unfold andT
  rw [Go_bnd]
  congr 1
  funext b ρ1
  cases b <;> (first | rfl | exact Go_ok | exact Go_stk | exact Go_er | simp only [Go_ok, Go_stk, Go_er] | (simp only [Go_ok, Go_stk, Go_er]; rfl))
@[simp] theorem g_orT {f g : Ev → Rs Bool} {Q : Bool → Ev → Prop} : Go (orT f g ρ) Q = Go (f ρ) (fun b ρ' => if b = true then Q true ρ' else Go (g ρ') Q) := by
  unfold orT
  rw [Go_bnd]
  congr 1
  funext b ρ1
  cases b <;> (first | rfl | exact Go_ok | exact Go_stk | exact Go_er | simp only [Go_ok, Go_stk, Go_er] | (simp only [Go_ok, Go_stk, Go_er]; rfl))
@[simp] theorem g_notT {f : Ev → Rs Bool} {Q : Bool → Ev → Prop} : Go (notT f ρ) Q = Go (f ρ) (fun b ρ' => Q (!b) ρ') := by unfold notT; rw [Go_bnd]; first | rfl | exact Go_ok | exact Go_stk | exact Go_er | simp only [Go_ok, Go_stk, Go_er] | (simp only [Go_ok, Go_stk, Go_er]; rfl)
@[simp] theorem g_yesT {Q : Bool → Ev → Prop} : Go (yesT ρ) Q = Q true ρ := by first | rfl | exact Go_ok | exact Go_stk | exact Go_er | simp only [Go_ok, Go_stk, Go_er] | (simp only [Go_ok, Go_stk, Go_er]; rfl)
@[simp] theorem g_ifE {α : Type} {t : Ev → Rs Bool} {f g : Ev → Rs α} {Q : α → Ev → Prop} : Go (ifE t f g ρ) Q = Go (t ρ) (fun b ρ' => if b = true then Go (f ρ') Q else Go (g ρ') Q) := by
  unfold ifE
  rw [Go_bnd]
  congr 1
  funext b ρ1
  cases b <;> (first | rfl | exact Go_ok | exact Go_stk | exact Go_er | simp only [Go_ok, Go_stk, Go_er] | (simp only [Go_ok, Go_stk, Go_er]; rfl))
@[simp] theorem g_callL {g : List D → Option O} {f : Ev → Rs (List B)} {Q : O → Ev → Prop} : Go (callL g f ρ) Q = Go (f ρ) (fun bs ρ' => match (vals ρ' bs).bind g with | some o => Q o ρ' | none => False) := by
  unfold callL
  rw [Go_bnd]
  congr 1
  funext bs ρ1
  cases vals ρ1 bs with
  | none => first | rfl | exact Go_ok | exact Go_stk | exact Go_er | simp only [Go_ok, Go_stk, Go_er] | (simp only [Go_ok, Go_stk, Go_er]; rfl)
  | some x =>
    show Go (match g x with | some o => Rs.ok o ρ1 | none => .stk) Q = (match g x with | some o => Q o ρ1 | none => False)
    cases g x <;> (first | rfl | exact Go_ok | exact Go_stk | exact Go_er | simp only [Go_ok, Go_stk, Go_er] | (simp only [Go_ok, Go_stk, Go_er]; rfl))
@[simp] theorem g_dispL {f : Ev → Rs (List B)} {Q : O → Ev → Prop} : Go (dispL f ρ) Q = Go (f ρ) (fun bs ρ' => match tmpD bs with | some ds => bs.length ≤ 1000 ∧ Q (.lst ds) ρ' | none => False) := by
  unfold dispL
  rw [Go_bnd]
  congr 1
  funext bs ρ1
  cases tmpD bs with
  | none => first | rfl | exact Go_ok | exact Go_stk | exact Go_er | simp only [Go_ok, Go_stk, Go_er] | (simp only [Go_ok, Go_stk, Go_er]; rfl)
  | some x =>
    show Go (if bs.length ≤ 1000 then _ else _) Q = (bs.length ≤ 1000 ∧ Q (.lst x) ρ1)
    by_cases h : bs.length ≤ 1000
    · rw [if_pos h]; simp [h]
    · rw [if_neg h]; simp [h]
@[simp] theorem g_dispT {f : Ev → Rs (List B)} {Q : O → Ev → Prop} : Go (dispT f ρ) Q = Go (f ρ) (fun bs ρ' => match tmpD bs with | some ds => bs.length ≤ 1000 ∧ Q (.leaf (.tuple ds)) ρ' | none => False) := by
  unfold dispT
  rw [Go_bnd]
  congr 1
  funext bs ρ1
  cases tmpD bs with
  | none => first | rfl | exact Go_ok | exact Go_stk | exact Go_er | simp only [Go_ok, Go_stk, Go_er] | (simp only [Go_ok, Go_stk, Go_er]; rfl)
  | some x =>
    show Go (if bs.length ≤ 1000 then _ else _) Q = (bs.length ≤ 1000 ∧ Q (.leaf (.tuple x)) ρ1)
    by_cases h : bs.length ≤ 1000
    · rw [if_pos h]; simp [h]
    · rw [if_neg h]; simp [h]
@[simp] theorem g_newD {Q : O → Ev → Prop} : Go (newD ρ) Q = Q (.dic []) ρ := by first | rfl | exact Go_ok | exact Go_stk | exact Go_er | simp only [Go_ok, Go_stk, Go_er] | (simp only [Go_ok, Go_stk, Go_er]; rfl)
@[simp] theorem g_isiE {t : String} {f : Ev → Rs B} {Q : Bool → Ev → Prop} : Go (isiE t f ρ) Q = Go (f ρ) (fun b ρ' => match (b.val ρ').bind (isT · t) with | some c => Q c ρ' | none => False) := by
  unfold isiE
  rw [Go_bnd]
  congr 1
  funext b ρ1
  cases h1 : b.val ρ1 with
  | none => first | rfl | exact Go_ok | exact Go_stk | exact Go_er | simp only [Go_ok, Go_stk, Go_er] | (simp only [Go_ok, Go_stk, Go_er]; rfl)
  | some x =>
    show Go (match isT x t with | some o => Rs.ok o ρ1 | none => .stk) Q = (match isT x t with | some o => Q o ρ1 | none => False)
    cases isT x t <;> (first | rfl | exact Go_ok | exact Go_stk | exact Go_er | simp only [Go_ok, Go_stk, Go_er] | (simp only [Go_ok, Go_stk, Go_er]; rfl))
@[simp] theorem g_noP {Q : Option Int → Ev → Prop} : Go (noP ρ) Q = Q none ρ := by first | rfl | exact Go_ok | exact Go_stk | exact Go_er | simp only [Go_ok, Go_stk, Go_er] | (simp only [Go_ok, Go_stk, Go_er]; rfl)
@[simp] theorem g_aP {f : Ev → Rs B} {Q : Option Int → Ev → Prop} : Go (aP f ρ) Q = Go (f ρ) (fun b ρ' => match b.val ρ' with | some (.int i) => Q (some i) ρ' | _ => False) := by
  unfold aP
  rw [Go_bnd]
  congr 1
  funext b ρ1
  cases h1 : b.val ρ1 with
  | none => first | rfl | exact Go_ok | exact Go_stk | exact Go_er | simp only [Go_ok, Go_stk, Go_er] | (simp only [Go_ok, Go_stk, Go_er]; rfl)
  | some x => cases x <;> (first | rfl | exact Go_ok | exact Go_stk | exact Go_er | simp only [Go_ok, Go_stk, Go_er] | (simp only [Go_ok, Go_stk, Go_er]; rfl))
@[simp] theorem g_slE {fa : Ev → Rs B} {fl fh : Ev → Rs (Option Int)} {Q : O → Ev → Prop} : Go (slE fa fl fh ρ) Q = Go (fa ρ) (fun a ρ1 => Go (fl ρ1) (fun l ρ2 => Go (fh ρ2) (fun h ρ3 => match (a.val ρ3).bind fun d => gSl d l h with | some o => Q o ρ3 | none => False))) := by
  unfold slE
  rw [Go_bnd]
  congr 1
  funext a ρ1
  rw [Go_bnd]
  congr 1
  funext l ρ2
  rw [Go_bnd]
  congr 1
  funext h ρ3
  cases h1 : a.val ρ3 with
  | none => first | rfl | exact Go_ok | exact Go_stk | exact Go_er | simp only [Go_ok, Go_stk, Go_er] | (simp only [Go_ok, Go_stk, Go_er]; rfl)
  | some x =>
    show Go (match gSl x l h with | some o => Rs.ok o ρ3 | none => .stk) Q = (match gSl x l h with | some o => Q o ρ3 | none => False)
    cases gSl x l h <;> (first | rfl | exact Go_ok | exact Go_stk | exact Go_er | simp only [Go_ok, Go_stk, Go_er] | (simp only [Go_ok, Go_stk, Go_er]; rfl))
@[simp] theorem g_mth {T : String} {g : D → List D → Option O} {fo : Ev → Rs B} {fs : Ev → Rs (List B)} {Q : O → Ev → Prop} : Go (mth T g fo fs ρ) Q = Go (fo ρ) (fun a ρ1 => match a.val ρ1 with
    | some x => tyOk T x = true ∧ Go (fs ρ1) (fun bs ρ2 => match (a.val ρ2).bind fun y => (vals ρ2 bs).bind fun ds => g y ds with | some o => Q o ρ2 | none => False)
    | none => False) := by
  unfold mth
  rw [Go_bnd]
  congr 1
  funext a ρ1
  cases h1 : a.val ρ1 with
  | none => first | rfl | exact Go_ok | exact Go_stk | exact Go_er | simp only [Go_ok, Go_stk, Go_er] | (simp only [Go_ok, Go_stk, Go_er]; rfl)
  | some x =>
    show Go (if tyOk T x = true then _ else _) Q = _
    by_cases ht : tyOk T x = true
    · rw [if_pos ht]
      simp only [ht, true_and]
      rw [Go_bnd]
      congr 1
      funext bs ρ2
      cases h2 : a.val ρ2 with
      | none => first | rfl | exact Go_ok | exact Go_stk | exact Go_er | simp only [Go_ok, Go_stk, Go_er] | (simp only [Go_ok, Go_stk, Go_er]; rfl)
      | some y =>
        cases h3 : vals ρ2 bs with
        | none => first | rfl | exact Go_ok | exact Go_stk | exact Go_er | simp only [Go_ok, Go_stk, Go_er] | (simp only [Go_ok, Go_stk, Go_er]; rfl)
        | some ds =>
          show Go (match g y ds with | some o => Rs.ok o ρ2 | none => .stk) Q = (match g y ds with | some o => Q o ρ2 | none => False)
          cases g y ds <;> (first | rfl | exact Go_ok | exact Go_stk | exact Go_er | simp only [Go_ok, Go_stk, Go_er] | (simp only [Go_ok, Go_stk, Go_er]; rfl))
    · rw [if_neg ht]
      simp [ht]
/-! statements -/
@[simp] theorem g_nxS {Q : Ctl → Ev → Prop} : Go (nxS ρ) Q = Q .nx ρ := by first | rfl | exact Go_ok | exact Go_stk | exact Go_er | simp only [Go_ok, Go_stk, Go_er] | (simp only [Go_ok, Go_stk, Go_er]; rfl)
@[simp] theorem g_bkS {Q : Ctl → Ev → Prop} : Go (bkS ρ) Q = Q .bk ρ := by first | rfl | exact Go_ok | exact Go_stk | exact Go_er | simp only [Go_ok, Go_stk, Go_er] | (simp only [Go_ok, Go_stk, Go_er]; rfl)
@[simp] theorem g_ctS {Q : Ctl → Ev → Prop} : Go (ctS ρ) Q = Q .ct ρ := by first | rfl | exact Go_ok | exact Go_stk | exact Go_er | simp only [Go_ok, Go_stk, Go_er] | (simp only [Go_ok, Go_stk, Go_er]; rfl)
@[simp] theorem g_retN {Q : Ctl → Ev → Prop} : Go (retN ρ) Q = Q (.rt (.leaf .none)) ρ := by first | rfl | exact Go_ok | exact Go_stk | exact Go_er | simp only [Go_ok, Go_stk, Go_er] | (simp only [Go_ok, Go_stk, Go_er]; rfl)
@[simp] theorem g_retS {f : Ev → Rs O} {Q : Ctl → Ev → Prop} : Go (retS f ρ) Q = Go (f ρ) (fun o ρ' => Q (.rt o) ρ') := by unfold retS; rw [Go_bnd]; first | rfl | exact Go_ok | exact Go_stk | exact Go_er | simp only [Go_ok, Go_stk, Go_er] | (simp only [Go_ok, Go_stk, Go_er]; rfl)
@[simp] theorem g_ifS {t : Ev → Rs Bool} {f g : Ev → Rs Ctl} {Q : Ctl → Ev → Prop} : Go (ifS t f g ρ) Q = Go (t ρ) (fun b ρ' => if b = true then Go (f ρ') Q else Go (g ρ') Q) := by
  unfold ifS
  rw [Go_bnd]
  congr 1
  funext b ρ1
  cases b <;> (first | rfl | exact Go_ok | exact Go_stk | exact Go_er | simp only [Go_ok, Go_stk, Go_er] | (simp only [Go_ok, Go_stk, Go_er]; rfl))
@[simp] theorem g_asgS {f : Ev → Rs O} {g : O → Ev → Rs Unit} {Q : Ctl → Ev → Prop} : Go (asgS f g ρ) Q = Go (f ρ) (fun o ρ1 => Go (g o ρ1) (fun _ ρ2 => Q .nx ρ2)) := by
  unfold asgS
  rw [Go_bnd]
  congr 1
  funext o ρ1
  rw [Go_bnd]
  first | rfl | exact Go_ok | exact Go_stk | exact Go_er | simp only [Go_ok, Go_stk, Go_er] | (simp only [Go_ok, Go_stk, Go_er]; rfl)
@[simp] theorem g_expS {f : Ev → Rs Unit} {Q : Ctl → Ev → Prop} : Go (expS f ρ) Q = Go (f ρ) (fun _ ρ1 => Q .nx ρ1) := by unfold expS; rw [Go_bnd]; first | rfl | exact Go_ok | exact Go_stk | exact Go_er | simp only [Go_ok, Go_stk, Go_er] | (simp only [Go_ok, Go_stk, Go_er]; rfl)
@[simp] theorem g_dropE {f : Ev → Rs O} {Q : Unit → Ev → Prop} : Go (dropE f ρ) Q = Go (f ρ) (fun _ ρ1 => Q () ρ1) := by unfold dropE; rw [Go_bnd]; first | rfl | exact Go_ok | exact Go_stk | exact Go_er | simp only [Go_ok, Go_stk, Go_er] | (simp only [Go_ok, Go_stk, Go_er]; rfl)
@[simp] theorem g_gN {i : Nat} {o : O} {Q : Unit → Ev → Prop} : Go (gN i o ρ) Q = (i < ρ.length ∧ Q () (ρ.set i (some (ow o)))) := by
  unfold gN
  by_cases h : i < ρ.length
  · rw [if_pos h]; simp [h]
  · rw [if_neg h]; simp [h]
@[simp] theorem g_gNilS {Q : Unit → Ev → Prop} : Go (gNilS [] ρ) Q = Q () ρ := by first | rfl | exact Go_ok | exact Go_stk | exact Go_er | simp only [Go_ok, Go_stk, Go_er] | (simp only [Go_ok, Go_stk, Go_er]; rfl)
@[simp] theorem g_gConsS {g : O → Ev → Rs Unit} {r : List D → Ev → Rs Unit} {d : D} {ds : List D} {Q : Unit → Ev → Prop} : Go (gConsS g r (d :: ds) ρ) Q = Go (g (.leaf d) ρ) (fun _ ρ1 => Go (r ds ρ1) Q) := by
  show Go (match g (.leaf d) ρ with | .ok _ ρ' => r ds ρ' | .er x ρ' => .er x ρ' | .stk => .stk) Q = _
  cases g (.leaf d) ρ <;> (first | rfl | exact Go_ok | exact Go_stk | exact Go_er | simp only [Go_ok, Go_stk, Go_er] | (simp only [Go_ok, Go_stk, Go_er]; rfl))
def seqD : O → Option (List D)
  | .leaf (.tuple ds) => some ds
  | .leaf (.list ds) => some ds
  | .lst ds => some ds
  | _ => none
@[simp] theorem seqD_t {ds : List D} : seqD (.leaf (.tuple ds)) = some ds := rfl
@[simp] theorem seqD_l {ds : List D} : seqD (.leaf (.list ds)) = some ds := rfl
@[simp] theorem seqD_o {ds : List D} : seqD (.lst ds) = some ds := rfl
@[simp] theorem g_gTupS {n : Nat} {r : List D → Ev → Rs Unit} {o : O} {Q : Unit → Ev → Prop} : Go (gTupS n r o ρ) Q = match seqD o with
    | some ds => ds.length = n ∧ Go (r ds ρ) Q
    | none => False := by
  have key : ∀ ds : List D, Go (if ds.length = n then r ds ρ else .stk) Q = (ds.length = n ∧ Go (r ds ρ) Q) := fun ds => by
    by_cases h : ds.length = n
    · rw [if_pos h]; simp [h]
    · rw [if_neg h]; simp [h]
  cases o with
  | leaf d => cases d <;> first | exact Go_stk | exact key _
  | lst ds => exact key ds
  | dic k => first | rfl | exact Go_ok | exact Go_stk | exact Go_er
@[simp] theorem g_gSubS {j : Nat} {fi : Ev → Rs B} {o : O} {Q : Unit → Ev → Prop} : Go (gSubS j fi o ρ) Q = ((look ρ j).isSome = true ∧ Go (fi ρ) (fun ix ρ1 => match (ix.val ρ1).bind fun k => (look ρ1 j).bind fun ex => (upC ex.o k o.d).map fun c => (⟨ex.io, c⟩ : E) with
    | some e => Q () (ρ1.set j (some e))
    | none => False)) := by
  unfold gSubS
  rw [Go_bnd, g_bv]
  congr 1
  rw [Go_bnd]
  congr 1
  funext ix ρ1
  cases ix.val ρ1 with
  | none => first | rfl | exact Go_ok | exact Go_stk | exact Go_er | simp only [Go_ok, Go_stk, Go_er] | (simp only [Go_ok, Go_stk, Go_er]; rfl)
  | some k =>
    simp only [Option.bind_some]
    unfold look
    cases ρ1[j]? with
    | none => first | rfl | exact Go_ok | exact Go_stk | exact Go_er | simp only [Go_ok, Go_stk, Go_er] | (simp only [Go_ok, Go_stk, Go_er]; rfl)
    | some m =>
      cases m with
      | none => first | rfl | exact Go_ok | exact Go_stk | exact Go_er | simp only [Go_ok, Go_stk, Go_er] | (simp only [Go_ok, Go_stk, Go_er]; rfl)
      | some ex =>
        simp only [Option.bind_some]
        cases upC ex.o k o.d <;> (first | rfl | exact Go_ok | exact Go_stk | exact Go_er | simp only [Go_ok, Go_stk, Go_er] | (simp only [Go_ok, Go_stk, Go_er]; rfl))
def appO : O → D → Option O
  | .lst ds, d => if ds.length < sizeLine then some (.lst (ds ++ [d])) else none
  | _, _ => none
@[simp] theorem g_appS {j : Nat} {fe : Ev → Rs O} {Q : Unit → Ev → Prop} : Go (appS j fe ρ) Q = ((∃ io ds, look ρ j = some ⟨io, .lst ds⟩) ∧ Go (fe ρ) (fun o ρ1 => match (look ρ1 j).bind fun ex => (appO ex.o o.d).map fun c => (⟨ex.io, c⟩ : E) with
    | some e => Q () (ρ1.set j (some e))
    | none => False)) := by
  unfold appS
  rw [Go_bnd, g_bv]
  cases h : ρ[j]? with
  | none => simp [look, h]
  | some m =>
    cases m with
    | none => simp [look, h]
    | some ex =>
      obtain ⟨io, o⟩ := ex
      have hl : look ρ j = some ⟨io, o⟩ := by unfold look; rw [h]
      rw [hl]
      cases o with
      | leaf d => simp
      | dic d => simp
      | lst ds =>
        simp only [Option.isSome_some, true_and]
        rw [Go_bnd]
        have e : (∃ io' ds', some (⟨io, .lst ds⟩ : E) = some ⟨io', .lst ds'⟩) = True := by simp
        rw [e, true_and]
        congr 1
        funext o ρ1
        unfold look
        cases ρ1[j]? with
        | none => first | rfl | exact Go_ok | exact Go_stk | exact Go_er | simp only [Go_ok, Go_stk, Go_er] | (simp only [Go_ok, Go_stk, Go_er]; rfl)
        | some m =>
          cases m with
          | none => first | rfl | exact Go_ok | exact Go_stk | exact Go_er | simp only [Go_ok, Go_stk, Go_er] | (simp only [Go_ok, Go_stk, Go_er]; rfl)
          | some ex1 =>
            obtain ⟨io1, o1⟩ := ex1
            cases o1 with
            | leaf d => first | rfl | exact Go_ok | exact Go_stk | exact Go_er
            | dic d => first | rfl | exact Go_ok | exact Go_stk | exact Go_er
            | lst ds1 =>
              show Go (if ds1.length < sizeLine then _ else _) Q = _
              simp only [Option.bind_some, appO]
              by_cases hs : ds1.length < sizeLine
              · rw [if_pos hs, if_pos hs]; exact Go_ok
              · rw [if_neg hs, if_neg hs]; exact Go_stk
/-! what is walked -/
@[simp] theorem g_seqI {f : Ev → Rs O} {Q : List D → Ev → Prop} : Go (seqI f ρ) Q = Go (f ρ) (fun o ρ' => match o.d with | .list ds => Q ds ρ' | .tuple ds => Q ds ρ' | .str z => Q (chars z) ρ' | _ => False) := by
  unfold seqI
  rw [Go_bnd]
  congr 1
  funext o ρ1
  cases o.d <;> (first | rfl | exact Go_ok | exact Go_stk | exact Go_er | simp only [Go_ok, Go_stk, Go_er] | (simp only [Go_ok, Go_stk, Go_er]; rfl))
@[simp] theorem leafs_nil : leafs [] ρ = some [] := rfl
@[simp] theorem leafs_tmp {o : O} {bs : List B} : leafs (.tmp o :: bs) ρ = (leafs bs ρ).map fun ds => o.d :: ds := by rw [leafs]; cases leafs bs ρ <;> (first | rfl | exact Go_ok | exact Go_stk | exact Go_er | simp only [Go_ok, Go_stk, Go_er] | (simp only [Go_ok, Go_stk, Go_er]; rfl))
@[simp] theorem g_nmI {i : Nat} {Q : List D → Ev → Prop} : Go (nmI i ρ) Q = Go (rv i ρ) (fun o ρ' => match o.d with | .list ds => Q ds ρ' | .tuple ds => Q ds ρ' | .str z => Q (chars z) ρ' | .dict kvs => Q (keyL kvs) ρ' | _ => False) := by
  unfold nmI
  rw [Go_bnd]
  congr 1
  funext o ρ1
  cases o.d <;> (first | rfl | exact Go_ok | exact Go_stk | exact Go_er | simp only [Go_ok, Go_stk, Go_er] | (simp only [Go_ok, Go_stk, Go_er]; rfl))
@[simp] theorem g_rng1 {fs : Ev → Rs (List B)} {Q : List D → Ev → Prop} : Go (rng1 fs ρ) Q = Go (fs ρ) (fun bs ρ' => match vals ρ' bs with | some [.int j] => (-(2 ^ 62) ≤ j ∧ j < 2 ^ 62) ∧ Q (rangeD 0 j) ρ' | _ => False) := by
  unfold rng1
  rw [Go_bnd]
  congr 1
  funext bs ρ1
  split
  · rename_i j hj
    try simp only [hj]
    by_cases h : -(2 ^ 62) ≤ j ∧ j < 2 ^ 62
    · rw [cif_pos h, Go_ok]; exact propext ⟨fun q => ⟨h, q⟩, fun q => q.2⟩
    · rw [cif_neg h, Go_stk]; exact propext ⟨False.elim, fun q => h q.1⟩
  · rename_i h
    first
    | exact Go_stk
    | (split
       · rename_i j hj; exact absurd hj (h j)
       · exact Go_stk)
@[simp] theorem g_rng2 {fs : Ev → Rs (List B)} {Q : List D → Ev → Prop} : Go (rng2 fs ρ) Q = Go (fs ρ) (fun bs ρ' => match vals ρ' bs with | some [.int i, .int j] => (-(2 ^ 62) ≤ i ∧ i < 2 ^ 62 ∧ -(2 ^ 62) ≤ j ∧ j < 2 ^ 62) ∧ Q (rangeD i j) ρ' | _ => False) := by
  unfold rng2
  rw [Go_bnd]
  congr 1
  funext bs ρ1
  split
  · rename_i i j hj
    try simp only [hj]
    by_cases h : -(2 ^ 62) ≤ i ∧ i < 2 ^ 62 ∧ -(2 ^ 62) ≤ j ∧ j < 2 ^ 62
    · rw [cif_pos h, Go_ok]; exact propext ⟨fun q => ⟨h, q⟩, fun q => q.2⟩
    · rw [cif_neg h, Go_stk]; exact propext ⟨False.elim, fun q => h q.1⟩
  · rename_i h
    first
    | exact Go_stk
    | (split
       · rename_i i j hj; exact absurd hj (h i j)
       · exact Go_stk)
@[simp] theorem g_rng3 {fs : Ev → Rs (List B)} {Q : List D → Ev → Prop} : Go (rng3 fs ρ) Q = Go (fs ρ) (fun bs ρ' => match vals ρ' bs with | some [.int i, .int j, .int c] => (c = -1 ∧ -(2 ^ 62) ≤ i ∧ i < 2 ^ 62 ∧ -(2 ^ 62) ≤ j ∧ j < 2 ^ 62) ∧ Q (rangeDown i j) ρ' | _ => False) := by
  unfold rng3
  rw [Go_bnd]
  congr 1
  funext bs ρ1
  split
  · rename_i i j c hj
    try simp only [hj]
    by_cases h : c = -1 ∧ -(2 ^ 62) ≤ i ∧ i < 2 ^ 62 ∧ -(2 ^ 62) ≤ j ∧ j < 2 ^ 62
    · rw [cif_pos h, Go_ok]; exact propext ⟨fun q => ⟨h, q⟩, fun q => q.2⟩
    · rw [cif_neg h, Go_stk]; exact propext ⟨False.elim, fun q => h q.1⟩
  · rename_i h
    first
    | exact Go_stk
    | (split
       · rename_i i j c hj; exact absurd hj (h i j c)
       · exact Go_stk)
@[simp] theorem g_enumI {fs : Ev → Rs (List B)} {Q : List D → Ev → Prop} : Go (enumI fs ρ) Q = Go (fs ρ) (fun bs ρ' => match tmpD bs with | some [.list ds] => Q (enumD 0 ds) ρ' | _ => False) := by
  unfold enumI
  rw [Go_bnd]
  congr 1
  funext bs ρ1
  split
  · rename_i ds hd; first | exact Go_ok | (simp only [hd]; exact Go_ok)
  · rename_i h
    first
    | exact Go_stk
    | (split
       · rename_i ds hd; exact absurd hd (h ds)
       · exact Go_stk)
@[simp] theorem g_zipI {fs : Ev → Rs (List B)} {Q : List D → Ev → Prop} : Go (zipI fs ρ) Q = Go (fs ρ) (fun bs ρ' => match tmpD bs with | some [.list ds, .list es] => Q (zipD ds es) ρ' | _ => False) := by
  unfold zipI
  rw [Go_bnd]
  congr 1
  funext bs ρ1
  split
  · rename_i ds es hd; first | exact Go_ok | (simp only [hd]; exact Go_ok)
  · rename_i h
    first
    | exact Go_stk
    | (split
       · rename_i ds es hd; exact absurd hd (h ds es)
       · exact Go_stk)
@[simp] theorem g_cons {f g : Ev → Rs Ctl} {Q : Ctl → Ev → Prop} : Go (cons f g ρ) Q = Go (f ρ) (fun c ρ' => match c with | .nx => Go (g ρ') Q | c => Q c ρ') := Go_cons
end
end Y
/-! Y: what the operations give, plainly -/
namespace Y
open PySem PySem.Spec PyProof.Rows L2

abbrev St (l : List Nat) : D := .str (SX.S l)
@[simp] theorem gAdd_i {a b : Int} : gAdd (.int a) (.int b) = some (.leaf (.int (a + b))) := rfl
@[simp] theorem gSub_i {a b : Int} : gSub (.int a) (.int b) = some (.leaf (.int (a - b))) := rfl
theorem gMul_i {a b : Int} : gMulI (.int a) (.int b) = if okMul a b = true then some (.leaf (.int (a * b))) else none := rfl
theorem okMul_l {a b : Int} (h1 : -(2 ^ 64) < a) (h2 : a < 2 ^ 64) : okMul a b = true := by
  unfold okMul
  rw [decide_eq_true h1, decide_eq_true h2]
  rfl
theorem okMul_r {a b : Int} (h1 : -(2 ^ 64) < b) (h2 : b < 2 ^ 64) : okMul a b = true := by
  unfold okMul
  rw [decide_eq_true h1, decide_eq_true h2]
  simp
theorem okMul_w {a b : Int} (h : a.natAbs.log2 + b.natAbs.log2 < 1000000) : okMul a b = true := by
  unfold okMul
  rw [decide_eq_true h]
  simp
theorem gMul_l {a b : Int} (h1 : -(2 ^ 64) < a) (h2 : a < 2 ^ 64) : gMulI (.int a) (.int b) = some (.leaf (.int (a * b))) := by rw [gMul_i, if_pos (okMul_l h1 h2)]
theorem gMul_r {a b : Int} (h1 : -(2 ^ 64) < b) (h2 : b < 2 ^ 64) : gMulI (.int a) (.int b) = some (.leaf (.int (a * b))) := by rw [gMul_i, if_pos (okMul_r h1 h2)]
theorem gMul_w {a b : Int} (h : a.natAbs.log2 + b.natAbs.log2 < 1000000) : gMulI (.int a) (.int b) = some (.leaf (.int (a * b))) := by rw [gMul_i, if_pos (okMul_w h)]
theorem gDiv_p {a b : Int} (h : 0 < b) (h2 : b < 2 ^ 62) : gDiv (.int a) (.int b) = some (.leaf (.int (a / b))) := by
  show (if 0 < b ∧ b.natAbs.log2 < 9000 then _ else _) = _
  have hb : b.natAbs < 2 ^ 63 := by omega
  have : b.natAbs.log2 < 63 := by
    rw [Nat.log2_lt (by omega)]
    exact hb
  rw [if_pos ⟨h, by omega⟩]
theorem gMod_p {a b : Int} (h : 0 < b) : gMod (.int a) (.int b) = some (.leaf (.int (a % b))) := by
  show (if 0 < b then _ else _) = _
  rw [if_pos h]
theorem gPow_p {a b : Int} (h : 0 ≤ b ∧ b ≤ 1000000 ∧ a.natAbs < 2 ^ 64) : gPow (.int a) (.int b) = some (.leaf (.int (a ^ b.toNat))) := by
  show (if _ then _ else _) = _
  rw [if_pos h]
@[simp] theorem gNeg_i {a : Int} : gNeg (.int a) = some (.leaf (.int (-a))) := rfl
theorem gAdd_s {a b : List Nat} (h : a.length + b.length ≤ 10000) : gAdd (St a) (St b) = some (.leaf (St (a ++ b))) := by
  show (if (SX.S a).length + (SX.S b).length ≤ sizeLine then _ else _) = _
  rw [SX.S_len, SX.S_len, if_pos (by rw [sizeLine_eq]; omega), SX.S_cat]
theorem gAdd_l {a b : List D} (h : a.length + b.length ≤ 10000) : gAdd (.list a) (.list b) = some (.lst (a ++ b)) := by
  show (if a.length + b.length ≤ sizeLine then _ else _) = _
  rw [if_pos (by rw [sizeLine_eq]; omega)]
/-! comparisons -/
@[simp] theorem gLt_i {a b : Int} : gLt (.int a) (.int b) = some (decide (a < b)) := rfl
@[simp] theorem gLe_i {a b : Int} : gLe (.int a) (.int b) = some (decide (a ≤ b)) := rfl
@[simp] theorem gGt_i {a b : Int} : gGt (.int a) (.int b) = some (decide (b < a)) := rfl
@[simp] theorem gGe_i {a b : Int} : gGe (.int a) (.int b) = some (decide (b ≤ a)) := rfl
@[simp] theorem gEq_i {a b : Int} : gEq (.int a) (.int b) = some (decide (a = b)) := by
  show (if fits 60 (.int a) = true ∧ fits 60 (.int b) = true then some (PyData.eqv (.int a) (.int b)) else none) = _
  rw [if_pos ⟨by simp [fits], by simp [fits]⟩]
  simp only [PyData.eqv]
  congr 1
@[simp] theorem gNe_i {a b : Int} : gNe (.int a) (.int b) = some (!decide (a = b)) := by
  show (if fits 60 (.int a) = true ∧ fits 60 (.int b) = true then some (!PyData.eqv (.int a) (.int b)) else none) = _
  rw [if_pos ⟨by simp [fits], by simp [fits]⟩]
  simp only [PyData.eqv]
  congr 1
theorem eqv_s {a b : List Nat} : PyData.eqv (St a) (St b) = decide (a = b) := by
  simp only [PyData.eqv]
  exact SX.S_beq_eq
@[simp] theorem gEq_s {a b : List Nat} : gEq (St a) (St b) = some (decide (a = b)) := by
  show (if fits 60 (St a) = true ∧ fits 60 (St b) = true then some (PyData.eqv (St a) (St b)) else none) = _
  rw [if_pos ⟨by simp [fits], by simp [fits]⟩, eqv_s]
@[simp] theorem gNe_s {a b : List Nat} : gNe (St a) (St b) = some (!decide (a = b)) := by
  show (if fits 60 (St a) = true ∧ fits 60 (St b) = true then some (!PyData.eqv (St a) (St b)) else none) = _
  rw [if_pos ⟨by simp [fits], by simp [fits]⟩, eqv_s]
@[simp] theorem gEq_b {a b : Bool} : gEq (.bool a) (.bool b) = some (a == b) := by
  show (if fits 60 (.bool a) = true ∧ fits 60 (.bool b) = true then some (PyData.eqv (.bool a) (.bool b)) else none) = _
  rw [if_pos ⟨by simp [fits], by simp [fits]⟩]
  cases a <;> cases b <;> simp [PyData.eqv]
@[simp] theorem gNe_b {a b : Bool} : gNe (.bool a) (.bool b) = some (!(a == b)) := by
  show (if fits 60 (.bool a) = true ∧ fits 60 (.bool b) = true then some (!PyData.eqv (.bool a) (.bool b)) else none) = _
  rw [if_pos ⟨by simp [fits], by simp [fits]⟩]
  cases a <;> cases b <;> simp [PyData.eqv]
@[simp] theorem gNe_ns {b : List Nat} : gNe .none (St b) = some true := by
  show (if fits 60 .none = true ∧ fits 60 (St b) = true then some (!PyData.eqv .none (St b)) else none) = _
  rw [if_pos ⟨by simp [fits], by simp [fits]⟩]
  simp [PyData.eqv]
@[simp] theorem gEq_ns {b : List Nat} : gEq .none (St b) = some false := by
  show (if fits 60 .none = true ∧ fits 60 (St b) = true then some (PyData.eqv .none (St b)) else none) = _
  rw [if_pos ⟨by simp [fits], by simp [fits]⟩]
  simp [PyData.eqv]
/-! built-ins -/
@[simp] theorem gInt_i {a : Int} : gInt [.int a] = some (.leaf (.int a)) := rfl
theorem gLen_s {a : List Nat} (h : a.length ≤ 10000) : gLenA [St a] = some (.leaf (.int a.length)) := by
  show (if (SX.S a).length ≤ sizeLine then some (O.leaf (.int (SX.S a).length)) else none) = _
  rw [SX.S_len, if_pos (by rw [sizeLine_eq]; omega)]
@[simp] theorem gLen_l {a : List D} : gLenA [.list a] = some (.leaf (.int a.length)) := rfl
@[simp] theorem gLen_t {a : List D} : gLenA [.tuple a] = some (.leaf (.int a.length)) := rfl
theorem gLen_d {a : List (D × D)} (h : kkeys a = true) : gLenA [.dict a] = some (.leaf (.int a.length)) := by
  show (if a ≠ [] ∧ kkeys a = true then some (O.leaf (.int a.length)) else if a = [] then some (.leaf (.int 0)) else none) = _
  by_cases e : a = []
  · subst e; simp
  · rw [if_pos ⟨e, h⟩]
@[simp] theorem gMin_2 {a b : Int} : gMinI [.int a, .int b] = some (.leaf (.int (min a b))) := rfl
@[simp] theorem gMax_2 {a b : Int} : gMax [.int a, .int b] = some (.leaf (.int (max a b))) := rfl
theorem gMax_l {ns : List Int} (h : ns ≠ []) : gMax [.list (ns.map .int)] = some (.leaf (.int (maxI ns))) := by
  show (match intsD (ns.map .int) with | some (n :: ns) => some (O.leaf (.int (maxI (n :: ns)))) | _ => none) = _
  rw [intsD_map]
  cases ns with
  | nil => exact absurd rfl h
  | cons a r => rfl
theorem gMin_l {ns : List Int} (h : ns ≠ []) : gMinI [.list (ns.map .int)] = some (.leaf (.int (minI ns))) := by
  show (match intsD (ns.map .int) with | some (n :: ns) => some (O.leaf (.int (minI (n :: ns)))) | _ => none) = _
  rw [intsD_map]
  cases ns with
  | nil => exact absurd rfl h
  | cons a r => rfl
@[simp] theorem gList_l {a : List D} : gList [.list a] = some (.lst a) := rfl
@[simp] theorem gList_t {a : List D} : gList [.tuple a] = some (.lst a) := rfl
@[simp] theorem gTuple_l {a : List D} : gTuple [.list a] = some (.leaf (.tuple a)) := rfl
theorem gAll_l {bs : List Bool} : gAll [.list (bs.map .bool)] = some (.leaf (.bool (bs.all id))) := by
  show (boolsD (bs.map .bool)).map _ = _
  rw [boolsD_map]; rfl
theorem gAny_l {bs : List Bool} : gAny [.list (bs.map .bool)] = some (.leaf (.bool (bs.any id))) := by
  show (boolsD (bs.map .bool)).map _ = _
  rw [boolsD_map]; rfl
/-! subscripts -/
theorem gIx_l {ds : List D} {i : Nat} {d : D} (h : ds[i]? = some d) : gIx (.list ds) (.int i) = some (.leaf d) := by
  show (atI ds (i : Int)).map _ = _
  rw [atI_nat h]; rfl
theorem gIx_t {ds : List D} {i : Nat} {d : D} (h : ds[i]? = some d) : gIx (.tuple ds) (.int i) = some (.leaf d) := by
  show (atI ds (i : Int)).map _ = _
  rw [atI_nat h]; rfl
@[simp] theorem gIx_l0 {a : D} {r : List D} : gIx (.list (a :: r)) (.int 0) = some (.leaf a) := gIx_l (i := 0) rfl
@[simp] theorem gIx_l1 {a b : D} {r : List D} : gIx (.list (a :: b :: r)) (.int 1) = some (.leaf b) := gIx_l (i := 1) rfl
@[simp] theorem gIx_l2 {a b c : D} {r : List D} : gIx (.list (a :: b :: c :: r)) (.int 2) = some (.leaf c) := gIx_l (i := 2) rfl
@[simp] theorem gIx_l3 {a b c d : D} {r : List D} : gIx (.list (a :: b :: c :: d :: r)) (.int 3) = some (.leaf d) := gIx_l (i := 3) rfl
@[simp] theorem gIx_t0 {a : D} {r : List D} : gIx (.tuple (a :: r)) (.int 0) = some (.leaf a) := gIx_t (i := 0) rfl
@[simp] theorem gIx_t1 {a b : D} {r : List D} : gIx (.tuple (a :: b :: r)) (.int 1) = some (.leaf b) := gIx_t (i := 1) rfl
@[simp] theorem gIx_t2 {a b c : D} {r : List D} : gIx (.tuple (a :: b :: c :: r)) (.int 2) = some (.leaf c) := gIx_t (i := 2) rfl
theorem gIx_lI {ds : List D} {i : Int} {d : D} (h0 : 0 ≤ i) (h : ds[i.toNat]? = some d) : gIx (.list ds) (.int i) = some (.leaf d) := by
  have : i = (i.toNat : Nat) := by omega
  rw [this]
  exact gIx_l (by simpa using h)
theorem gIx_s {l : List Nat} {i : Nat} {c : Nat} (hl : l.length ≤ 10000) (h : l[i]? = some c) : gIx (St l) (.int i) = some (.leaf (St [c])) := by
  show (if (SX.S l).length ≤ sizeLine then (atI (SX.S l).cps.toList (i : Int)).map _ else none) = _
  rw [SX.S_len, if_pos (by rw [sizeLine_eq]; omega), show (SX.S l).cps.toList = l from rfl, atI_nat h]
  rfl
theorem gIx_sI {l : List Nat} {i : Int} {c : Nat} (hl : l.length ≤ 10000) (h0 : 0 ≤ i) (h : l[i.toNat]? = some c) : gIx (St l) (.int i) = some (.leaf (St [c])) := by
  have : i = (i.toNat : Nat) := by omega
  rw [this]
  exact gIx_s hl (by simpa using h)
theorem ixN_nat {n i : Nat} (h : i < n) : ixN n (i : Int) = some i := by
  unfold ixN
  rw [if_pos (by omega), if_pos (by omega)]
  simp
theorem upC_l {ds : List D} {i : Nat} {d : D} (h : i < ds.length) : upC (.lst ds) (.int i) d = some (.lst (ds.set i d)) := by
  show (ixN ds.length (i : Int)).map _ = _
  rw [ixN_nat h]
  rfl
@[simp] theorem upC_4_1 {a b c d x : D} : upC (.lst [a, b, c, d]) (.int 1) x = some (.lst [a, x, c, d]) := rfl
@[simp] theorem upC_4_2 {a b c d x : D} : upC (.lst [a, b, c, d]) (.int 2) x = some (.lst [a, b, x, d]) := rfl
@[simp] theorem upC_4_3 {a b c d x : D} : upC (.lst [a, b, c, d]) (.int 3) x = some (.lst [a, b, c, x]) := rfl
/-! slices of texts and lists -/
theorem cut_to {α : Type} {l : List α} {i : Nat} : cutD l none (some (i : Int)) = l.take i := by
  unfold cutD
  rw [HT.sIx_nat, HT.sIx_none, List.drop_zero, Nat.sub_zero, List.take_eq_take_iff]
  omega
theorem cut_from {α : Type} {l : List α} {i : Nat} : cutD l (some (i : Int)) none = l.drop i := by
  unfold cutD
  rw [HT.sIx_nat, HT.sIx_none]
  by_cases h : i ≤ l.length
  · rw [Nat.min_eq_left h, List.take_of_length_le (by rw [List.length_drop]; omega)]
  · have e : min i l.length = l.length := by omega
    rw [e, List.drop_eq_nil_of_le (by omega : l.length ≤ i), List.drop_eq_nil_of_le (Nat.le_refl _)]
    simp
theorem cut_ft {α : Type} {l : List α} {i j : Nat} : cutD l (some (i : Int)) (some (j : Int)) = (l.take j).drop i := by
  unfold cutD
  rw [HT.sIx_nat, HT.sIx_nat, List.drop_take]
  by_cases h : i ≤ l.length
  · rw [Nat.min_eq_left h, List.take_eq_take_iff, List.length_drop]
    omega
  · have e : min i l.length = l.length := by omega
    rw [e, List.drop_eq_nil_of_le (by omega : l.length ≤ i), List.drop_eq_nil_of_le (Nat.le_refl _)]
    simp
theorem gSl_l {ds : List D} {a b : Option Int} : gSl (.list ds) a b = some (.lst (cutD ds a b)) := rfl
theorem gSl_s {l : List Nat} {a b : Option Int} (h : l.length ≤ 10000) : gSl (St l) a b = some (.leaf (St (cutD l a b))) := by
  show (if (SX.S l).length ≤ sizeLine then some (O.leaf (.str (cutS (SX.S l) a b))) else none) = _
  rw [SX.S_len, if_pos (by rw [sizeLine_eq]; omega)]
  have : cutS (SX.S l) a b = SX.S (cutD l a b) := by
    unfold cutS cutD
    rw [SX.S_len]
  rw [this]
end Y
/-! Y: dicts by texts, sorting, comprehensions again -/
namespace Y
open PySem PySem.Spec PyProof.Rows L2

/-! ### dicts whose keys are texts -/
def kvS (f : List Nat → D) (ls : List (List Nat)) : List (D × D) := ls.map fun l => (St l, f l)
theorem kvS_len {f : List Nat → D} {ls : List (List Nat)} : (kvS f ls).length = ls.length := by unfold kvS; rw [List.length_map]
theorem kvS_keys {f : List Nat → D} {ls : List (List Nat)} : keyL (kvS f ls) = ls.map St := by
  unfold keyL kvS
  rw [List.map_map]
  rfl
theorem kvS_kk {f : List Nat → D} {ls : List (List Nat)} : kkeys (kvS f ls) = true := by
  unfold kkeys kvS
  rw [List.all_eq_true]
  intro p hp
  obtain ⟨l, _, e⟩ := List.mem_map.mp hp
  subst e
  rfl
theorem kvS_kind {f : List Nat → D} {ls : List (List Nat)} {l : List Nat} : kindOk (kvS f ls) (St l) = true := by
  cases ls <;> rfl
theorem kvS_look {f : List Nat → D} {l : List Nat} : ∀ {ls : List (List Nat)}, lookD (kvS f ls) (St l) = if l ∈ ls then some (f l) else none
  | [] => by simp [kvS, lookD]
  | a :: ls => by
    show (if PyData.eqv (St a) (St l) = true then some (f a) else lookD (kvS f ls) (St l)) = _
    rw [eqv_s, kvS_look (ls := ls)]
    by_cases e : a = l
    · subst e; simp
    · have : ¬ l = a := fun z => e z.symm
      simp [e, this]
theorem kvS_put {f : List Nat → D} {ls : List (List Nat)} {l : List Nat} (h : l ∉ ls) : putD (kvS f ls) (St l) (f l) = kvS f (ls ++ [l]) := by
  unfold putD
  rw [kvS_look, if_neg h]
  simp [kvS]
theorem upC_s {f : List Nat → D} {ls : List (List Nat)} {l : List Nat} (h : l ∉ ls) (hl : ls.length ≤ 1000) : upC (.dic (kvS f ls)) (St l) (f l) = some (.dic (kvS f (ls ++ [l]))) := by
  show (if kindOk (kvS f ls) (St l) = true ∧ (kvS f ls).length < sizeLine then some (O.dic (putD (kvS f ls) (St l) (f l))) else none) = _
  rw [if_pos ⟨kvS_kind, by rw [kvS_len, sizeLine_eq]; omega⟩, kvS_put h]
theorem gIx_ds {f : List Nat → D} {ls : List (List Nat)} {l : List Nat} (h : l ∈ ls) : gIx (.dict (kvS f ls)) (St l) = some (.leaf (f l)) := by
  show (if kindOk (kvS f ls) (St l) = true then (lookD (kvS f ls) (St l)).map O.leaf else none) = _
  rw [if_pos kvS_kind, kvS_look, if_pos h]
  rfl
theorem gIn_ds {f : List Nat → D} {ls : List (List Nat)} {l : List Nat} : gIn (St l) (.dict (kvS f ls)) = some (decide (l ∈ ls)) := by
  show (if kindOk (kvS f ls) (St l) = true then some (lookD (kvS f ls) (St l)).isSome else none) = _
  rw [if_pos kvS_kind, kvS_look]
  by_cases h : l ∈ ls <;> simp [h]
theorem gNotIn_ds {f : List Nat → D} {ls : List (List Nat)} {l : List Nat} : gNotIn (St l) (.dict (kvS f ls)) = some (!decide (l ∈ ls)) := by
  unfold gNotIn
  rw [gIn_ds]; rfl
/-! ### lists of texts -/
theorem fits_s {n : Nat} {l : List Nat} : fits n (St l) = true := by cases n <;> rfl
theorem any_s {l : List Nat} : ∀ {ls : List (List Nat)}, (ls.map St).any (fun z => PyData.eqv z (St l)) = decide (l ∈ ls)
  | [] => by simp
  | a :: ls => by
    rw [List.map_cons, List.any_cons, any_s (ls := ls), eqv_s]
    by_cases e : a = l
    · subst e; simp
    · have : ¬ l = a := fun z => e z.symm
      simp [e, this]
theorem gIn_ls {ls : List (List Nat)} {l : List Nat} : gIn (St l) (.list (ls.map St)) = some (decide (l ∈ ls)) := by
  show (if fits 59 (St l) = true ∧ (ls.map St).all (fits 59) = true then some ((ls.map St).any fun z => PyData.eqv z (St l)) else none) = _
  rw [if_pos ⟨fits_s, by rw [List.all_eq_true]; intro d hd; obtain ⟨x, _, e⟩ := List.mem_map.mp hd; subst e; exact fits_s⟩, any_s]
theorem gNotIn_ls {ls : List (List Nat)} {l : List Nat} : gNotIn (St l) (.list (ls.map St)) = some (!decide (l ∈ ls)) := by
  unfold gNotIn
  rw [gIn_ls]; rfl
/-! ### sorting texts -/
def sortS (ls : List (List Nat)) : List (List Nat) := ls.mergeSort fun a b => decide (a ≤ b)
theorem sortS_perm (ls : List (List Nat)) : (sortS ls).Perm ls := List.mergeSort_perm ls _
theorem sortS_sorted (ls : List (List Nat)) : (sortS ls).Pairwise (· ≤ ·) := by
  have := List.pairwise_mergeSort (le := fun a b : List Nat => decide (a ≤ b)) (fun a b c h1 h2 => by
    simp only [decide_eq_true_eq] at *
    exact List.le_trans h1 h2) (fun a b => by
    rcases List.le_total a b with h | h
    · simp [h]
    · simp [h]) ls
  refine this.imp fun h => ?_
  simpa using h
theorem gSorted_s {ls : List (List Nat)} : gSorted [.list (ls.map St)] = some (.lst ((sortS ls).map St)) := by
  have hok : sortOk (ls.map St) = true := by
    unfold sortOk
    simp only [Bool.and_eq_true, Bool.or_eq_true, List.all_eq_true]
    refine ⟨⟨fun d hd e he => ?_, fun d hd => ?_⟩, .inr fun d hd => ?_⟩
    · obtain ⟨x, _, rfl⟩ := List.mem_map.mp hd
      obtain ⟨y, _, rfl⟩ := List.mem_map.mp he
      rfl
    · obtain ⟨x, _, rfl⟩ := List.mem_map.mp hd
      exact fits_s
    · obtain ⟨x, _, rfl⟩ := List.mem_map.mp hd
      rfl
  show (if sortOk (ls.map St) = true then some (O.lst (sortD (ls.map St))) else none) = _
  rw [if_pos hok]
  unfold sortD sortS
  rw [List.map_mergeSort (s := PySem.W.dataLe false id)]
  intro a _ b _
  have := congrFun (congrFun (PySem.W.dataLe_str (fun x : List Nat => SX.S x)) a) b
  exact this.symm
/-! ### comprehensions -/
theorem Go_lc2 {it : Ev → Rs (List D)} {vs : List Nat} {tg : O → Ev → Rs Unit} {tt : Ev → Rs Bool} {el : Ev → Rs O} {ρ : Ev} {Q : O → Ev → Prop} (c : D → Bool) (e : D → D)
    (h : Go (it ρ) (fun ds ρ1 => hidable ρ1 vs = true ∧ ds.length ≤ 1000 ∧
      (∀ d ∈ ds, Go (tg (.leaf d) (wipeE ρ1 vs)) (fun _ ρ2 => Go (tt ρ2) (fun b ρ3 => b = c d ∧ if c d = true then Go (el ρ3) (fun o ρ4 => o.d = e d ∧ wipeE ρ4 vs = wipeE ρ1 vs) else wipeE ρ3 vs = wipeE ρ1 vs))) ∧
      Q (.lst ((ds.filter c).map e)) (unhide ρ1 (wipeE ρ1 vs) vs))) : Go (lcE it vs tg tt el ρ) Q := by
  obtain ⟨ds, ρ1, e1, h1, h2, h3, h4⟩ := h.ex
  exact Go_lc c e e1 h1 h2 h3 h4
theorem Go_lcm2 {it : Ev → Rs (List D)} {vs : List Nat} {tg : O → Ev → Rs Unit} {el : Ev → Rs O} {ρ : Ev} {Q : O → Ev → Prop} (e : D → D)
    (h : Go (it ρ) (fun ds ρ1 => hidable ρ1 vs = true ∧ ds.length ≤ 1000 ∧
      (∀ d ∈ ds, Go (tg (.leaf d) (wipeE ρ1 vs)) (fun _ ρ2 => Go (el ρ2) (fun o ρ4 => o.d = e d ∧ wipeE ρ4 vs = wipeE ρ1 vs))) ∧
      Q (.lst (ds.map e)) (unhide ρ1 (wipeE ρ1 vs) vs))) : Go (lcE it vs tg yesT el ρ) Q := by
  obtain ⟨ds, ρ1, e1, h1, h2, h3, h4⟩ := h.ex
  exact Go_lcm e e1 h1 h2 h3 h4
theorem Go_for2 {it : Ev → Rs (List D)} {cl : List Nat} {tg : O → Ev → Rs Unit} {body : Ev → Rs Ctl} {ρ : Ev} {Q : Ctl → Ev → Prop} (h : Go (it ρ) (fun ds ρ0 => ∃ P : Nat → Ev → Prop, P 0 (clrs ρ0 cl) ∧
    (∀ k d ρ, ds[k]? = some d → P k ρ → Go (tg (.leaf d) ρ) (fun _ ρ1 => Go (body ρ1) (fun c ρ2 => c = .nx ∧ P (k + 1) (clrs ρ2 cl)))) ∧ (∀ ρ, P ds.length ρ → Q .nx ρ))) : Go (forS it tg body cl ρ) Q := by
  obtain ⟨ds, ρ0, e, P, h0, hs, hq⟩ := h.ex
  exact Go_for P e h0 hs hq
theorem tmp_leafs {ρ : Ev} : ∀ {bs : List B} {ds : List D}, tmpD bs = some ds → leafs bs ρ = some ds
  | [], _, h => by cases h; rfl
  | .tmp o :: bs, ds, h => by
    rw [tmpD_tmp] at h
    obtain ⟨ds', h', e⟩ := Option.map_eq_some_iff.mp h
    rw [leafs_tmp, tmp_leafs h', ← e]
    rfl
  | .slot _ :: _, _, h => by cases h
/-- a call that is lent the list of ours at slot j, its other arguments whole -/
theorem Go_callJ {F : Fn} {rest : Ev → Rs (List B)} {ρ : Ev} {j : Nat} {Q : O → Ev → Prop} (h : (look ρ j).isSome = true ∧ Go (rest ρ) (fun bs ρ1 => match tmpD bs, look ρ1 j with
    | some ds, some ⟨io, .lst xs⟩ => Go (F (⟨true, .lst xs⟩ :: ds.map lf)) (fun d ρ' => match look ρ' 0 with
      | some ⟨true, .lst ys⟩ => Q d (ρ1.set j (some ⟨io, .lst ys⟩))
      | _ => False)
    | _, _ => False)) : Go (callS F (aCons (bv j) rest) ρ) Q := by
  refine Go_callP ?_
  rw [g_aCons, g_bv]
  refine ⟨h.1, h.2.mono fun bs ρ1 h => ?_⟩
  split at h
  · rename_i ds io xs e1 e2
    refine ⟨j, bs, io, xs, ds, rfl, look_of e2, tmp_leafs e1, tmp_leafs e1, h.mono fun d ρ' h => ?_⟩
    split at h
    · rename_i ys e3
      refine ⟨ys, look_of e3, ?_⟩
      rw [List.set_set]
      exact h
    · exact h.elim
  · exact h.elim
/-- what a name holds is shared already -/
theorem set_same {ρ : Ev} {i : Nat} {e : E} (h : ρ[i]? = some (some e)) : ρ.set i (some e) = ρ := by
  obtain ⟨h1, h2⟩ := List.getElem?_eq_some_iff.mp h
  rw [← h2, List.set_getElem_self]
@[simp] theorem wipe_nil {ρ : Ev} : wipeE ρ [] = ρ := rfl
@[simp] theorem wipe_cons {ρ : Ev} {i : Nat} {is : List Nat} : wipeE ρ (i :: is) = (wipeE ρ is).set i none := rfl
@[simp] theorem unhide_nil {ρ ρ' : Ev} : unhide ρ ρ' [] = ρ' := rfl
@[simp] theorem unhide_cons {ρ ρ' : Ev} {i : Nat} {is : List Nat} : unhide ρ ρ' (i :: is) = (unhide ρ ρ' is).set i ((ρ[i]?).getD none) := rfl
@[simp] theorem clrs_nil {ρ : Ev} : clrs ρ [] = ρ := rfl
@[simp] theorem clrs_cons {ρ : Ev} {i : Nat} {is : List Nat} : clrs ρ (i :: is) = (clrs ρ is).set i none := rfl
def hid1 : Option E → Bool
  | some ⟨false, .leaf _⟩ => true
  | none => true
  | _ => false
@[simp] theorem hid1_none : hid1 none = true := rfl
@[simp] theorem hid1_lf {d : D} : hid1 (some ⟨false, .leaf d⟩) = true := rfl
@[simp] theorem hidable_nil {ρ : Ev} : hidable ρ [] = true := rfl
@[simp] theorem hidable_cons {ρ : Ev} {i : Nat} {is : List Nat} : hidable ρ (i :: is) = (hid1 (look ρ i) && hidable ρ is) := by
  unfold hidable
  rw [List.all_cons]
  congr 1
  unfold look hid1
  cases ρ[i]? with
  | none => rfl
  | some m =>
    cases m with
    | none => rfl
    | some e =>
      obtain ⟨io, o⟩ := e
      cases io <;> cases o <;> rfl
end Y
/-! Y: ints, pairs of ints, lists of them -/
namespace Y
open PySem PySem.Spec PyProof.Rows L2

abbrev I (i : Int) : D := .int i
def P2 (p : Int × Int) : D := .tuple [.int p.1, .int p.2]
abbrev IL (ns : List Int) : D := .list (ns.map .int)
abbrev PL (ps : List (Int × Int)) : D := .list (ps.map P2)
theorem eqv_i {a b : Int} : PyData.eqv (.int a) (.int b) = decide (a = b) := rfl
theorem eqv_p {p q : Int × Int} : PyData.eqv (P2 p) (P2 q) = decide (p = q) := by
  unfold P2
  simp only [PyData.eqv, PyData.eqvAll]
  obtain ⟨a, b⟩ := p
  obtain ⟨c, d⟩ := q
  by_cases h1 : a = c <;> by_cases h2 : b = d <;> simp [h1, h2, PyData.eqv]
theorem eqvAll_map {α : Type} [DecidableEq α] {f : α → D} (h : ∀ a b, PyData.eqv (f a) (f b) = decide (a = b)) : ∀ as bs : List α, PyData.eqvAll (as.map f) (bs.map f) = decide (as = bs)
  | [], [] => by simp [PyData.eqvAll]
  | [], b :: bs => by simp [PyData.eqvAll]
  | a :: as, [] => by simp [PyData.eqvAll]
  | a :: as, b :: bs => by
    simp only [List.map_cons, PyData.eqvAll, h, eqvAll_map h as bs]
    by_cases h1 : a = b <;> by_cases h2 : as = bs <;> simp [h1, h2]
theorem fits_i {n : Nat} {a : Int} : fits n (.int a) = true := by cases n <;> rfl
theorem fits_p {n : Nat} {p : Int × Int} : fits (n + 1) (P2 p) = true := by
  unfold P2
  simp [fits, fits_i]
theorem fits_map {α : Type} {f : α → D} {n : Nat} (h : ∀ a, fits n (f a) = true) (as : List α) : fits (n + 1) (.list (as.map f)) = true := by
  simp [fits, h]
theorem gEq_l {α : Type} [DecidableEq α] {f : α → D} (h : ∀ a b, PyData.eqv (f a) (f b) = decide (a = b)) (hf : ∀ a, fits 59 (f a) = true) (as bs : List α) : gEq (.list (as.map f)) (.list (bs.map f)) = some (decide (as = bs)) := by
  unfold gEq
  rw [if_pos ⟨fits_map hf as, fits_map hf bs⟩]
  show some (PyData.eqvAll _ _) = _
  rw [eqvAll_map h]
theorem gNe_l {α : Type} [DecidableEq α] {f : α → D} (h : ∀ a b, PyData.eqv (f a) (f b) = decide (a = b)) (hf : ∀ a, fits 59 (f a) = true) (as bs : List α) : gNe (.list (as.map f)) (.list (bs.map f)) = some (!decide (as = bs)) := by
  unfold gNe
  rw [if_pos ⟨fits_map hf as, fits_map hf bs⟩]
  show some (!PyData.eqvAll _ _) = _
  rw [eqvAll_map h]
theorem gNe_pl {as bs : List (Int × Int)} : gNe (PL as) (PL bs) = some (!decide (as = bs)) := gNe_l (fun _ _ => eqv_p) (fun _ => fits_p) as bs
theorem gNe_il {as bs : List Int} : gNe (IL as) (IL bs) = some (!decide (as = bs)) := gNe_l (fun _ _ => eqv_i) (fun _ => fits_i) as bs
theorem gEq_pl {as bs : List (Int × Int)} : gEq (PL as) (PL bs) = some (decide (as = bs)) := gEq_l (fun _ _ => eqv_p) (fun _ => fits_p) as bs
theorem gEq_il {as bs : List Int} : gEq (IL as) (IL bs) = some (decide (as = bs)) := gEq_l (fun _ _ => eqv_i) (fun _ => fits_i) as bs
theorem any_map {α : Type} [DecidableEq α] {f : α → D} (h : ∀ a b, PyData.eqv (f a) (f b) = decide (a = b)) (x : α) : ∀ as : List α, (as.map f).any (fun z => PyData.eqv z (f x)) = decide (x ∈ as)
  | [] => by simp
  | a :: as => by
    rw [List.map_cons, List.any_cons, any_map h x as, h]
    by_cases e : a = x
    · subst e; simp
    · have : ¬ x = a := fun z => e z.symm
      simp [e, this]
theorem gIn_l {α : Type} [DecidableEq α] {f : α → D} (h : ∀ a b, PyData.eqv (f a) (f b) = decide (a = b)) (hf : ∀ a, fits 59 (f a) = true) (x : α) (as : List α) : gIn (f x) (.list (as.map f)) = some (decide (x ∈ as)) := by
  show (if fits 59 (f x) = true ∧ (as.map f).all (fits 59) = true then some ((as.map f).any fun z => PyData.eqv z (f x)) else none) = _
  rw [if_pos ⟨hf x, by rw [List.all_eq_true]; intro d hd; obtain ⟨y, _, e⟩ := List.mem_map.mp hd; subst e; exact hf y⟩, any_map h]
theorem gIn_il {x : Int} {as : List Int} : gIn (.int x) (IL as) = some (decide (x ∈ as)) := gIn_l (fun _ _ => eqv_i) (fun _ => fits_i) x as
theorem gIn_pl {x : Int × Int} {as : List (Int × Int)} : gIn (P2 x) (PL as) = some (decide (x ∈ as)) := (gIn_l (fun _ _ => eqv_p) (fun _ => fits_p) x as).trans (by congr)
theorem gNotIn_il {x : Int} {as : List Int} : gNotIn (.int x) (IL as) = some (!decide (x ∈ as)) := by unfold gNotIn; rw [gIn_il]; rfl
theorem gNotIn_pl {x : Int × Int} {as : List (Int × Int)} : gNotIn (P2 x) (PL as) = some (!decide (x ∈ as)) := by unfold gNotIn; rw [gIn_pl]; rfl
/-! sorting pairs, ints -/
def leP (p q : Int × Int) : Bool := decide (p.1 < q.1 ∨ (p.1 = q.1 ∧ p.2 ≤ q.2))
def sortP (ps : List (Int × Int)) : List (Int × Int) := ps.mergeSort leP
theorem sortP_perm (ps : List (Int × Int)) : (sortP ps).Perm ps := List.mergeSort_perm ps _
theorem sortP_sorted (ps : List (Int × Int)) : (sortP ps).Pairwise fun p q => p.1 ≤ q.1 := by
  have := List.pairwise_mergeSort (le := leP) (fun a b c h1 h2 => by
    unfold leP at *
    simp only [decide_eq_true_eq] at *
    omega) (fun a b => by
    unfold leP
    simp only [Bool.or_eq_true, decide_eq_true_eq]
    omega) ps
  refine this.imp fun h => ?_
  unfold leP at h
  simp only [decide_eq_true_eq] at h
  omega
theorem gSorted_p {ps : List (Int × Int)} : gSorted [PL ps] = some (.lst ((sortP ps).map P2)) := by
  have hok : sortOk (ps.map P2) = true := by
    unfold sortOk
    simp only [Bool.and_eq_true, Bool.or_eq_true, List.all_eq_true]
    refine ⟨⟨fun d hd e he => ?_, fun d hd => ?_⟩, .inl fun d hd => ?_⟩
    · obtain ⟨x, _, rfl⟩ := List.mem_map.mp hd
      obtain ⟨y, _, rfl⟩ := List.mem_map.mp he
      rfl
    · obtain ⟨x, _, rfl⟩ := List.mem_map.mp hd
      exact fits_p
    · obtain ⟨x, _, rfl⟩ := List.mem_map.mp hd
      rfl
  show (if sortOk (ps.map P2) = true then some (O.lst (sortD (ps.map P2))) else none) = _
  rw [if_pos hok]
  unfold sortD sortP
  rw [List.map_mergeSort (s := PySem.W.dataLe false id)]
  intro a _ b _
  have := congrFun (congrFun (PySem.W.dataLe_ii (fun p : Int × Int => p.1) (fun p => p.2)) a) b
  exact this.symm
def sortI (ns : List Int) : List Int := ns.mergeSort fun a b => decide (a ≤ b)
theorem gSorted_i {ns : List Int} : gSorted [IL ns] = some (.lst ((sortI ns).map .int)) := by
  have hok : sortOk (ns.map PyData.int) = true := by
    unfold sortOk
    simp only [Bool.and_eq_true, Bool.or_eq_true, List.all_eq_true]
    refine ⟨⟨fun d hd e he => ?_, fun d hd => ?_⟩, .inr fun d hd => ?_⟩
    · obtain ⟨x, _, rfl⟩ := List.mem_map.mp hd
      obtain ⟨y, _, rfl⟩ := List.mem_map.mp he
      rfl
    · obtain ⟨x, _, rfl⟩ := List.mem_map.mp hd
      exact fits_i
    · obtain ⟨x, _, rfl⟩ := List.mem_map.mp hd
      rfl
  show (if sortOk (ns.map PyData.int) = true then some (O.lst (sortD (ns.map PyData.int))) else none) = _
  rw [if_pos hok]
  unfold sortD sortI
  rw [List.map_mergeSort (s := PySem.W.dataLe false id)]
  intro a _ b _
  have := congrFun (congrFun (PySem.W.dataLe_int (fun p : Int => p)) a) b
  exact this.symm
theorem sortI_perm (ns : List Int) : (sortI ns).Perm ns := List.mergeSort_perm ns _
/-! what is of one kind, all, any -/
theorem all_bl {α : Type} {f : α → Bool} (as : List α) : gAll [.list (as.map fun a => .bool (f a))] = some (.leaf (.bool (as.all f))) := by
  have e : (as.map fun a => (PyData.bool (f a))) = (as.map f).map .bool := by rw [List.map_map]; rfl
  rw [e, gAll_l, List.all_map]
  rfl
theorem any_bl {α : Type} {f : α → Bool} (as : List α) : gAny [.list (as.map fun a => .bool (f a))] = some (.leaf (.bool (as.any f))) := by
  have e : (as.map fun a => (PyData.bool (f a))) = (as.map f).map .bool := by rw [List.map_map]; rfl
  rw [e, gAny_l, List.any_map]
  rfl
@[simp] theorem gTru_b {b : Bool} : gTru (.bool b) = some b := rfl
@[simp] theorem gTru_l {ds : List D} : gTru (.list ds) = some (!ds.isEmpty) := rfl
@[simp] theorem gTru_n : gTru .none = some false := rfl
/-! walks over images of a list -/
theorem Go_lcf {α : Type} {it : Ev → Rs (List D)} {vs : List Nat} {tg : O → Ev → Rs Unit} {el : Ev → Rs O} {ρ : Ev} {Q : O → Ev → Prop} {f : α → D} {as : List α} (e : α → D) (ρ1 : Ev)
    (hit : Go (it ρ) (fun ds ρ' => ds = as.map f ∧ ρ' = ρ1)) (hh : hidable ρ1 vs = true) (hl : as.length ≤ 1000)
    (hs : ∀ a ∈ as, Go (tg (.leaf (f a)) (wipeE ρ1 vs)) (fun _ ρ2 => Go (el ρ2) (fun o ρ4 => o.d = e a ∧ wipeE ρ4 vs = wipeE ρ1 vs)))
    (hq : Q (.lst (as.map e)) (unhide ρ1 (wipeE ρ1 vs) vs)) : Go (lcE it vs tg yesT el ρ) Q := by
  obtain ⟨ds, ρ', e1, rfl, rfl⟩ := hit.ex
  have key : ∀ as : List α, (∀ a ∈ as, Go (tg (.leaf (f a)) (wipeE ρ' vs)) (fun _ ρ2 => Go (el ρ2) (fun o ρ4 => o.d = e a ∧ wipeE ρ4 vs = wipeE ρ' vs))) → lcGo vs tg yesT el (as.map f) (wipeE ρ' vs) = .ok (as.map e) (wipeE ρ' vs) := by
    intro as
    induction as with
    | nil => intro _; rfl
    | cons a as ih =>
      intro h
      obtain ⟨u, ρ1, e1, h1⟩ := (h a (by simp)).ex
      obtain ⟨o, ρ3, e3, h3, h4⟩ := h1.ex
      have ih := ih fun x m => h x (by simp [m])
      rw [List.map_cons]
      unfold lcGo
      rw [e1]
      simp only [yesT, e3, h4, ih, List.map_cons, h3]
  unfold lcE
  rw [Go_bnd, e1, Go_ok]
  rw [if_pos ⟨hh, by rw [List.length_map]; exact Nat.le_of_lt (small1000 hl)⟩, key as hs]
  exact Go.okk hq
theorem go_fnS_eq {n N : Nat} {body : Ev → Rs Ctl} {es : List E} {Q : O → Ev → Prop} : Go (fnS n N body es) Q = Go (body (es.map some ++ List.replicate (N - n) none)) (fun c ρ => match c with | .rt d => Q d ρ | .nx => Q (.leaf .none) ρ | _ => False) := by
  unfold fnS
  cases body (es.map some ++ List.replicate (N - n) none) with
  | ok c ρ => rw [Go_ok]; cases c <;> first | exact Go_ok | exact Go_stk
  | er => rw [Go_er, Go_er]
  | stk => rw [Go_stk, Go_stk]
/-- a loop that leaves with False where something is not good -/
theorem go_forB {cl : List Nat} {tg : O → Ev → Rs Unit} {body : Ev → Rs Ctl} {ρh : Ev} (good : Nat → Bool) : ∀ (ds : List D) (i : Nat),
    (∀ k d, ds[k]? = some d → Go (tg (.leaf d) ρh) (fun _ ρ1 => Go (body ρ1) (fun c ρ2 => if good (i + k) = true then c = .nx ∧ clrs ρ2 cl = ρh else c = .rt (.leaf (.bool false))))) →
    Go (forGo cl tg body ds ρh) (fun c ρ' => if (List.range ds.length).all (fun k => good (i + k)) = true then c = .nx ∧ ρ' = ρh else c = .rt (.leaf (.bool false)))
  | [], i, _ => by simp [forGo]
  | d :: ds, i, hs => by
    obtain ⟨u, ρ1, e1, h2⟩ := (hs 0 d rfl).ex
    obtain ⟨c, ρ2, e2, h3⟩ := h2.ex
    have ea : (List.range (d :: ds).length).all (fun k => good (i + k)) = (good i && (List.range ds.length).all (fun k => good (i + 1 + k))) := by
      rw [List.length_cons, List.range_succ_eq_map, List.all_cons, List.all_map, Nat.add_zero]
      congr 1
      congr 1
      funext k
      show good (i + (k + 1)) = good (i + 1 + k)
      rw [show i + (k + 1) = i + 1 + k by omega]
    unfold forGo
    rw [e1]
    simp only
    rw [e2, ea]
    rw [Nat.add_zero] at h3
    cases hg : good i with
    | false =>
      rw [hg] at h3
      simp only [Bool.false_eq_true, if_false] at h3
      subst h3
      simp
    | true =>
      rw [hg] at h3
      simp only [if_true] at h3
      obtain ⟨rfl, h4⟩ := h3
      simp only [Bool.true_and]
      rw [h4]
      exact go_forB good ds (i + 1) fun k d hk => by
        have := hs (k + 1) d (by simpa using hk)
        rw [show i + (k + 1) = i + 1 + k by omega] at this
        exact this
theorem Go_forB {it : Ev → Rs (List D)} {cl : List Nat} {tg : O → Ev → Rs Unit} {body : Ev → Rs Ctl} {ρ : Ev} {Q : Ctl → Ev → Prop} (good : Nat → Bool) (ρh : Ev) (n : Nat) (h : Go (it ρ) (fun ds ρ0 => ds.length = n ∧ clrs ρ0 cl = ρh ∧
    (∀ k d, ds[k]? = some d → Go (tg (.leaf d) ρh) (fun _ ρ1 => Go (body ρ1) (fun c ρ2 => if good k = true then c = .nx ∧ clrs ρ2 cl = ρh else c = .rt (.leaf (.bool false)))))))
    (hq : if (List.range n).all good = true then Q .nx ρh else ∀ ρ', Q (.rt (.leaf (.bool false))) ρ') : Go (forS it tg body cl ρ) Q := by
  obtain ⟨ds, ρ0, e, rfl, h0, hs⟩ := h.ex
  unfold forS
  rw [Go_bnd, e, Go_ok]
  rw [h0]
  have := go_forB (cl := cl) (tg := tg) (body := body) (ρh := ρh) good ds 0 fun k d hk => by
    rw [Nat.zero_add]
    exact hs k d hk
  simp only [Nat.zero_add] at this
  refine this.mono fun c ρ' h => ?_
  split at h
  · rename_i hg
    rw [if_pos hg] at hq
    obtain ⟨rfl, rfl⟩ := h
    exact hq
  · rename_i hg
    rw [if_neg hg] at hq
    subst h
    exact hq _
end Y
/-! Y: calls by their values; one premise for a loop, a comprehension -/
namespace Y
open PySem PySem.Spec PyProof.Rows L2

/-- what comes out of a def -/
def out (r : Rs O) : Option O := match r with
  | .ok d _ => some d
  | _ => none
theorem out_ok {o : O} {ρ : Ev} : out (.ok o ρ) = some o := rfl
theorem out_go {r : Rs O} {o : O} (h : Go r (fun o' _ => o' = o)) : out r = some o := by
  obtain ⟨a, ρ, e, rfl⟩ := h.ex
  rw [e]; rfl
theorem go_out {r : Rs O} {o : O} {Q : O → Ev → Prop} (h : out r = some o) (q : ∀ ρ, Q o ρ) : Go r Q := by
  cases r with
  | ok a ρ => cases h; exact Go.okk (q ρ)
  | er x ρ => cases h
  | stk => cases h
/-- a call, its arguments at hand -/
def callB (F : Fn) (bs : List B) : Ev → Rs O := fun ρ => match lend bs ρ with
  | some (es, ρl) => (match F (es.map ce) with
    | .ok d ρ' => (match unlend ρ' 0 bs es ρl with | some ρ2 => .ok d ρ2 | none => .stk)
    | _ => .stk)
  | none => .stk
section
variable {ρ : Ev}
@[simp] theorem leafs_slot {j : Nat} {bs : List B} : leafs (.slot j :: bs) ρ = match look ρ j with
    | some ⟨_, .leaf d⟩ => (leafs bs ρ).map fun ds => d :: ds
    | _ => none := by
  rw [leafs]
  unfold look
  cases ρ[j]? with
  | none => rfl
  | some m =>
    cases m with
    | none => rfl
    | some e =>
      obtain ⟨io, o⟩ := e
      cases o with
      | leaf d => cases leafs bs ρ <;> rfl
      | lst d => rfl
      | dic d => rfl
theorem go_callB {F : Fn} {bs : List B} {ds : List D} {Q : O → Ev → Prop} (h : leafs bs ρ = some ds) : Go (callB F bs ρ) Q = (match out (F (ds.map lf)) with | some d => Q d ρ | none => False) := by
  unfold callB
  rw [lend_leafs h]
  simp only [ce_lf]
  cases F (ds.map lf) with
  | ok d ρ' =>
    simp only [unlend_leafs (leafs_len h), out]
    exact Go_ok
  | er x ρ' => exact Go_stk
  | stk => exact Go_stk
theorem g_callS {F : Fn} {fs : Ev → Rs (List B)} {Q : O → Ev → Prop} : Go (callS F fs ρ) Q = Go (fs ρ) (fun bs ρ1 => match leafs bs ρ1 with
    | some ds => (match out (F (ds.map lf)) with | some d => Q d ρ1 | none => False)
    | none => Go (callB F bs ρ1) Q) := by
  have e : callS F fs ρ = bnd fs (callB F) ρ := rfl
  rw [e, Go_bnd]
  congr 1
  funext bs ρ1
  cases h : leafs bs ρ1 with
  | none => rfl
  | some ds => exact go_callB h
end
/-- a call that is lent the list of ours at slot j -/
theorem Go_lentB {F : Fn} {ρ : Ev} {j : Nat} {io : Bool} {xs : List D} {bs : List B} {ds : List D} {Q : O → Ev → Prop} (h0 : look ρ j = some ⟨io, .lst xs⟩) (h1 : tmpD bs = some ds)
    (h : Go (F (⟨true, .lst xs⟩ :: ds.map lf)) (fun d ρ' => ∃ ys, look ρ' 0 = some ⟨true, .lst ys⟩ ∧ Q d (ρ.set j (some ⟨io, .lst ys⟩)))) : Go (callB F (.slot j :: bs) ρ) Q := by
  have e : Go (callS F (fun ρ => .ok (.slot j :: bs) ρ) ρ) Q := by
    refine Go_callP ?_
    rw [Go_ok]
    refine ⟨j, bs, io, xs, ds, rfl, look_of h0, tmp_leafs h1, tmp_leafs h1, h.mono fun d ρ' ⟨ys, h2, q⟩ => ⟨ys, look_of h2, ?_⟩⟩
    rw [List.set_set]
    exact q
  have e2 : callS F (fun ρ => .ok (.slot j :: bs) ρ) ρ = callB F (.slot j :: bs) ρ := rfl
  rw [e2] at e
  exact e
/-! ### comprehensions, loops -/
theorem Go_lcA {α : Type} {it : Ev → Rs (List D)} {vs : List Nat} {tg : O → Ev → Rs Unit} {el : Ev → Rs O} {ρ : Ev} {Q : O → Ev → Prop} (f : α → D) (e : α → D) (as : List α)
    (h : Go (it ρ) (fun ds ρ1 => ds = as.map f ∧ hidable ρ1 vs = true ∧ as.length ≤ 1000 ∧
      (∀ a ∈ as, Go (tg (.leaf (f a)) (wipeE ρ1 vs)) (fun _ ρ2 => Go (el ρ2) (fun o ρ4 => o.d = e a ∧ wipeE ρ4 vs = wipeE ρ1 vs))) ∧ Q (.lst (as.map e)) (unhide ρ1 (wipeE ρ1 vs) vs))) : Go (lcE it vs tg yesT el ρ) Q := by
  obtain ⟨ds, ρ1, e1, rfl, h1, h2, h3, h4⟩ := h.ex
  exact Go_lcf (f := f) (as := as) e ρ1 (Go.of e1 ⟨rfl, rfl⟩) h1 h2 h3 h4
theorem lcGo_filter {α : Type} {vs : List Nat} {tg : O → Ev → Rs Unit} {tt : Ev → Rs Bool} {el : Ev → Rs O} {ρw : Ev} (f : α → D) (c : α → Bool) (e : α → D) : ∀ as : List α,
    (∀ a ∈ as, Go (tg (.leaf (f a)) ρw) (fun _ ρ1 => Go (tt ρ1) (fun b ρ2 => b = c a ∧ if c a = true then Go (el ρ2) (fun o ρ3 => o.d = e a ∧ wipeE ρ3 vs = ρw) else wipeE ρ2 vs = ρw))) →
    lcGo vs tg tt el (as.map f) ρw = .ok ((as.filter c).map e) ρw
  | [], _ => rfl
  | a :: as, h => by
    obtain ⟨u, ρ1, e1, h1⟩ := (h a (by simp)).ex
    obtain ⟨b, ρ2, e2, rfl, h2⟩ := h1.ex
    have ih := lcGo_filter (tg := tg) (tt := tt) (el := el) (ρw := ρw) (vs := vs) f c e as fun x m => h x (by simp [m])
    rw [List.map_cons]
    unfold lcGo
    rw [e1]
    simp only
    rw [e2]
    cases hc : c a with
    | false =>
      rw [hc] at h2
      simp only [Bool.false_eq_true, if_false] at h2
      simp only [h2, ih, List.filter_cons, hc, Bool.false_eq_true, if_false]
    | true =>
      rw [hc] at h2
      simp only [if_true] at h2
      obtain ⟨o, ρ3, e3, h3, h4⟩ := h2.ex
      simp only [e3, h4, ih, List.filter_cons, hc, if_true, List.map_cons, h3]
theorem Go_lcF {α : Type} {it : Ev → Rs (List D)} {vs : List Nat} {tg : O → Ev → Rs Unit} {tt : Ev → Rs Bool} {el : Ev → Rs O} {ρ : Ev} {Q : O → Ev → Prop} (f : α → D) (c : α → Bool) (e : α → D) (as : List α)
    (h : Go (it ρ) (fun ds ρ1 => ds = as.map f ∧ hidable ρ1 vs = true ∧ as.length ≤ 1000 ∧
      (∀ a ∈ as, Go (tg (.leaf (f a)) (wipeE ρ1 vs)) (fun _ ρ2 => Go (tt ρ2) (fun b ρ3 => b = c a ∧ if c a = true then Go (el ρ3) (fun o ρ4 => o.d = e a ∧ wipeE ρ4 vs = wipeE ρ1 vs) else wipeE ρ3 vs = wipeE ρ1 vs))) ∧
      Q (.lst ((as.filter c).map e)) (unhide ρ1 (wipeE ρ1 vs) vs))) : Go (lcE it vs tg tt el ρ) Q := by
  obtain ⟨ds, ρ1, e1, rfl, h1, h2, h3, h4⟩ := h.ex
  unfold lcE
  rw [Go_bnd, e1, Go_ok]
  rw [if_pos ⟨h1, by rw [List.length_map]; exact Nat.le_of_lt (small1000 h2)⟩, lcGo_filter f c e as h3]
  exact Go.okk h4
theorem Go_seq {f g : Ev → Rs Ctl} {ρ : Ev} {Q : Ctl → Ev → Prop} (R : Ev → Prop) (h1 : Go (f ρ) (fun c ρ' => c = .nx ∧ R ρ')) (h2 : ∀ ρ', R ρ' → Go (g ρ') Q) : Go (cons f g ρ) Q := by
  rw [Go_cons]
  refine h1.mono fun c ρ' ⟨e, r⟩ => ?_
  subst e
  exact h2 ρ' r
end Y
namespace Y
open PySem PySem.Spec PyProof.Rows L2
/-! the given program: what its defs compute (printed) -/
noncomputable def f_serves : Ev → Rs Ctl := retS (callL gAll (aCons (tm (lcE (nmI 0) [3, 4] (gTupS 2 (gConsS (gN 3) (gConsS (gN 4) (gNilS)))) (yesT) (callL gAny (aCons (tm (lcE (nmI 1) [2] (gN 2) (yesT) (bl (chn gLe gLe (bv 3) (bv 2) (bv 4))))) (aNil))))) (aNil)))
noncomputable def F_serves : Fn := fnS 2 5 f_serves
noncomputable def f_keeps : Ev → Rs Ctl := cons (forS (enumI (aCons (tm (rv 1)) (aNil))) (gTupS 2 (gConsS (gN 2) (gConsS (gN 3) (gNilS)))) (ifS (orT (notT (chn gLe gLe (tm (kD (.int 0))) (bv 3) (tm (kD (.int 60))))) (andT (cmp2 gGt (bv 2) (tm (kD (.int 0)))) (cmp2 gLt (tm (op2 gSub (bv 3) (tm (op2 gIx (bv 1) (tm (op2 gSub (bv 2) (tm (kD (.int 1))))))))) (bv 0)))) (retS (kD (.bool false))) (nxS)) [2, 3])
         (retS (kD (.bool true)))
noncomputable def F_keeps : Fn := fnS 2 4 f_keeps
noncomputable def f_fewest : Ev → Rs Ctl := cons (asgS (dispL (aNil)) (gN 1))
         (cons (asgS (dispL (aNil)) (gN 2))
         (cons (forS (seqI (callL gSorted (aCons (tm (lcE (nmI 0) [4, 3] (gTupS 2 (gConsS (gN 4) (gConsS (gN 3) (gNilS)))) (yesT) (dispT (aCons (tm (rv 3)) (aCons (tm (rv 4)) (aNil)))))) (aNil)))) (gTupS 2 (gConsS (gN 3) (gConsS (gN 4) (gNilS)))) (ifS (orT (notT (truB (bv 1))) (cmp2 gLt (tm (op2 gIx (bv 1) (tm (op1 gNeg (tm (kD (.int 1))))))) (bv 4))) (cons (expS (appS 1 (rv 3)))
           (expS (appS 2 (dispT (aCons (tm (rv 4)) (aCons (tm (rv 3)) (aNil))))))) (nxS)) [3, 4])
         (retS (dispT (aCons (tm (rv 1)) (aCons (tm (rv 2)) (aNil)))))))
noncomputable def F_fewest : Fn := fnS 1 5 f_fewest
noncomputable def f_judge_fewest : Ev → Rs Ctl := cons (ifS (orT (notT (truB (tm (callS F_keeps (aCons (tm (kD (.int 1))) (aCons (tm (rv 1)) (aNil))))))) (orT (notT (truB (tm (callS F_serves (aCons (tm (rv 0)) (aCons (tm (rv 1)) (aNil))))))) (cmp2 gNe (tm (callL gLenA (aCons (bv 2) (aNil)))) (tm (callL gLenA (aCons (bv 1) (aNil))))))) (retS (kD (.bool false))) (nxS))
         (cons (forS (enumI (aCons (tm (rv 2)) (aNil))) (gTupS 2 (gConsS (gN 3) (gConsS (gTupS 2 (gConsS (gN 4) (gConsS (gN 5) (gNilS)))) (gNilS)))) (ifS (orT (cmp2 gNotIn (tm (dispT (aCons (tm (rv 4)) (aCons (tm (rv 5)) (aNil))))) (bv 0)) (truB (tm (callL gAny (aCons (tm (lcE (seqI (slE (bv 2) (noP) (aP (bv 3)))) [6, 7] (gTupS 2 (gConsS (gN 6) (gConsS (gN 7) (gNilS)))) (yesT) (bl (andT (cmp2 gLe (bv 4) (bv 7)) (cmp2 gLe (bv 6) (bv 5)))))) (aNil)))))) (retS (kD (.bool false))) (nxS)) [3, 4, 5])
         (retS (kD (.bool true))))
noncomputable def F_judge_fewest : Fn := fnS 3 8 f_judge_fewest
noncomputable def f__law_mixed : Ev → Rs Ctl := cons (asgS (op2 gMod (tm (callL gInt (aCons (tm (op2 gAdd (tm (op2 gAdd (tm (op2 gMulI (bv 0) (tm (kD (.int 48271))))) (tm (op2 gMulI (bv 1) (tm (kD (.int 69621))))))) (tm (kD (.int 11))))) (aNil)))) (tm (kD (.int 618970019642690137449562111)))) (gN 2))
         (cons (asgS (op2 gMod (tm (callL gInt (aCons (tm (op2 gAdd (tm (op2 gAdd (tm (op2 gMulI (bv 2) (bv 2))) (tm (op2 gMulI (tm (kD (.int 7))) (bv 2))))) (bv 1))) (aNil)))) (tm (kD (.int 162259276829213363391578010288127)))) (gN 3))
         (cons (asgS (op2 gMod (tm (callL gInt (aCons (tm (op2 gAdd (tm (op2 gMulI (bv 3) (bv 3))) (bv 2))) (aNil)))) (tm (kD (.int 618970019642690137449562111)))) (gN 4))
         (retS (op2 gAdd (tm (op2 gMulI (bv 3) (tm (kD (.int 618970019642690137449562111))))) (bv 4)))))
noncomputable def F__law_mixed : Fn := fnS 2 5 f__law_mixed
noncomputable def f__law_rest : Ev → Rs Ctl := cons (asgS (kD (.int 0)) (gN 3))
         (cons (ifS (cmp2 gGt (tm (callL gLenA (aCons (bv 0) (aNil)))) (tm (kD (.int 0)))) (asgS (callL gInt (aCons (tm (op2 gIx (bv 0) (tm (op2 gMod (tm (callL gInt (aCons (bv 1) (aNil)))) (tm (callL gLenA (aCons (bv 0) (aNil)))))))) (aNil))) (gN 3)) (nxS))
         (cons (ifS (cmp2 gLt (bv 3) (tm (kD (.int 0)))) (asgS (op2 gSub (tm (kD (.int 1))) (tm (op2 gMulI (tm (kD (.int 2))) (bv 3)))) (gN 3)) (nxS))
         (cons (ifS (andT (cmp2 gEq (bv 2) (tm (kD (.int 0)))) (andT (cmp2 gLt (bv 1) (tm (callL gLenA (aCons (bv 0) (aNil))))) (cmp2 gGe (bv 3) (tm (op2 gPow (tm (kD (.int 10))) (tm (kD (.int 18)))))))) (retS (op2 gSub (bv 3) (tm (op2 gPow (tm (kD (.int 10))) (tm (kD (.int 18))))))) (nxS))
         (retS (callS F__law_mixed (aCons (tm (op2 gAdd (bv 3) (tm (op2 gMulI (bv 2) (tm (kD (.int 1000003))))))) (aCons (tm (rv 1)) (aNil))))))))
noncomputable def F__law_rest : Fn := fnS 3 4 f__law_rest
noncomputable def f__law_pool : Ev → Rs Ctl := retS (dispL (aCons (tm (rv 0)) (aCons (tm (kD (.int 0))) (aCons (tm (callS F__law_rest (aCons (tm (rv 0)) (aCons (tm (kD (.int 0))) (aCons (tm (kD (.int 0))) (aNil)))))) (aCons (tm (kD (.int 0))) (aNil))))))
noncomputable def F__law_pool : Fn := fnS 1 1 f__law_pool
noncomputable def f__law_draw : Ev → Rs Ctl := cons (ifS (cmp2 gLe (tm (op2 gIx (bv 0) (tm (kD (.int 2))))) (tm (kD (.int 1)))) (cons (asgS (op2 gAdd (tm (op2 gIx (bv 0) (tm (kD (.int 3))))) (tm (kD (.int 1)))) (gSubS 0 (tm (kD (.int 3)))))
          (asgS (callS F__law_rest (aCons (tm (op2 gIx (bv 0) (tm (kD (.int 0))))) (aCons (tm (op2 gIx (bv 0) (tm (kD (.int 1))))) (aCons (tm (op2 gIx (bv 0) (tm (kD (.int 3))))) (aNil))))) (gSubS 0 (tm (kD (.int 2)))))) (nxS))
         (cons (asgS (op2 gMod (tm (callL gInt (aCons (tm (op2 gIx (bv 0) (tm (kD (.int 2))))) (aNil)))) (bv 1)) (gN 2))
         (cons (asgS (op2 gDiv (tm (callL gInt (aCons (tm (op2 gIx (bv 0) (tm (kD (.int 2))))) (aNil)))) (bv 1)) (gSubS 0 (tm (kD (.int 2)))))
         (retS (mv 2))))
noncomputable def F__law_draw : Fn := fnS 2 3 f__law_draw
noncomputable def f__law_pick : Ev → Rs Ctl := retS (op2 gIx (bv 1) (tm (callS F__law_draw (aCons (bv 0) (aCons (tm (callL gLenA (aCons (bv 1) (aNil)))) (aNil))))))
noncomputable def F__law_pick : Fn := fnS 2 2 f__law_pick
noncomputable def f__law_same (R : Fn) : Ev → Rs Ctl := cons (ifS (isiE "dict" (bv 1)) (cons (ifS (orT (notT (isiE "dict" (bv 0))) (cmp2 gNe (tm (callL gLenA (aCons (bv 0) (aNil)))) (tm (callL gLenA (aCons (bv 1) (aNil)))))) (retS (kD (.bool false))) (nxS))
          (retS (callL gAll (aCons (tm (lcE (nmI 1) [2] (gN 2) (yesT) (bl (andT (cmp2 gIn (bv 2) (bv 0)) (asB (callS R (aCons (tm (op2 gIx (bv 0) (bv 2))) (aCons (tm (op2 gIx (bv 1) (bv 2))) (aNil))))))))) (aNil))))) (nxS))
         (cons (ifS (orT (isiE "list" (bv 1)) (isiE "tuple" (bv 1))) (cons (ifS (orT (cmp2 gNe (tm (bl (isiE "list" (bv 1)))) (tm (bl (isiE "list" (bv 0))))) (cmp2 gNe (tm (bl (isiE "tuple" (bv 1)))) (tm (bl (isiE "tuple" (bv 0)))))) (retS (kD (.bool false))) (nxS))
          (retS (bl (andT (cmp2 gEq (tm (callL gLenA (aCons (bv 0) (aNil)))) (tm (callL gLenA (aCons (bv 1) (aNil))))) (asB (callL gAll (aCons (tm (lcE (rng1 (aCons (tm (callL gLenA (aCons (bv 1) (aNil)))) (aNil))) [3] (gN 3) (yesT) (callS R (aCons (tm (op2 gIx (bv 0) (bv 3))) (aCons (tm (op2 gIx (bv 1) (bv 3))) (aNil)))))) (aNil)))))))) (nxS))
         (cons (ifS (isiE "str" (bv 1)) (retS (bl (andT (isiE "str" (bv 0)) (cmp2 gEq (bv 0) (bv 1))))) (nxS))
         (cons (ifS (orT (cmp2 gIs (bv 1) (tm (kD .none))) (orT (cmp2 gIs (bv 1) (tm (kD (.bool true)))) (cmp2 gIs (bv 1) (tm (kD (.bool false)))))) (retS (bl (orT (andT (cmp2 gIs (bv 1) (tm (kD .none))) (cmp2 gIs (bv 0) (tm (kD .none)))) (orT (andT (cmp2 gIs (bv 1) (tm (kD (.bool true)))) (cmp2 gIs (bv 0) (tm (kD (.bool true))))) (andT (cmp2 gIs (bv 1) (tm (kD (.bool false)))) (cmp2 gIs (bv 0) (tm (kD (.bool false))))))))) (nxS))
         (retS (bl (andT (isiE "int" (bv 0)) (andT (notT (isiE "bool" (bv 0))) (cmp2 gEq (bv 0) (bv 1)))))))))
noncomputable def N__law_same : Nat → Fn
  | 0 => fun _ => .stk
  | k + 1 => fnS 2 4 (f__law_same (N__law_same k))
noncomputable def F__law_same : Fn := N__law_same 6
noncomputable def f__law_serves : Ev → Rs Ctl := retS (callL gAll (aCons (tm (lcE (nmI 0) [3, 4] (gTupS 2 (gConsS (gN 3) (gConsS (gN 4) (gNilS)))) (yesT) (callL gAny (aCons (tm (lcE (nmI 1) [2] (gN 2) (yesT) (bl (chn gLe gLe (bv 3) (bv 2) (bv 4))))) (aNil))))) (aNil)))
noncomputable def F__law_serves : Fn := fnS 2 5 f__law_serves
noncomputable def f__law_keeps : Ev → Rs Ctl := cons (forS (rng1 (aCons (tm (callL gLenA (aCons (bv 1) (aNil)))) (aNil))) (gN 2) (ifS (orT (notT (chn gLe gLe (tm (kD (.int 0))) (tm (op2 gIx (bv 1) (bv 2))) (tm (kD (.int 60))))) (andT (cmp2 gGt (bv 2) (tm (kD (.int 0)))) (cmp2 gLt (tm (op2 gSub (tm (op2 gIx (bv 1) (bv 2))) (tm (op2 gIx (bv 1) (tm (op2 gSub (bv 2) (tm (kD (.int 1))))))))) (bv 0)))) (retS (kD (.bool false))) (nxS)) [2])
         (retS (kD (.bool true)))
noncomputable def F__law_keeps : Fn := fnS 2 3 f__law_keeps
noncomputable def f__law_right : Ev → Rs Ctl := cons (ifS (orT (notT (truB (tm (callS F__law_keeps (aCons (tm (kD (.int 1))) (aCons (tm (rv 1)) (aNil))))))) (orT (notT (truB (tm (callS F__law_serves (aCons (tm (rv 0)) (aCons (tm (rv 1)) (aNil))))))) (cmp2 gNe (tm (callL gLenA (aCons (bv 2) (aNil)))) (tm (callL gLenA (aCons (bv 1) (aNil))))))) (retS (kD (.bool false))) (nxS))
         (cons (forS (rng1 (aCons (tm (callL gLenA (aCons (bv 2) (aNil)))) (aNil))) (gN 3) (cons (ifS (cmp2 gNotIn (tm (op2 gIx (bv 2) (bv 3))) (bv 0)) (retS (kD (.bool false))) (nxS))
          (ifS (truB (tm (callL gAny (aCons (tm (lcE (rng1 (aCons (bv 3) (aNil))) [4] (gN 4) (yesT) (bl (andT (cmp2 gLe (tm (op2 gIx (tm (op2 gIx (bv 2) (bv 3))) (tm (kD (.int 0))))) (tm (op2 gIx (tm (op2 gIx (bv 2) (bv 4))) (tm (kD (.int 1)))))) (cmp2 gLe (tm (op2 gIx (tm (op2 gIx (bv 2) (bv 4))) (tm (kD (.int 0))))) (tm (op2 gIx (tm (op2 gIx (bv 2) (bv 3))) (tm (kD (.int 1)))))))))) (aNil))))) (retS (kD (.bool false))) (nxS))) [3])
         (retS (kD (.bool true))))
noncomputable def F__law_right : Fn := fnS 3 5 f__law_right
noncomputable def f__law_windows_drawn : Ev → Rs Ctl := cons (asgS (dispL (aNil)) (gN 3))
         (cons (forS (rng1 (aCons (tm (callS F__law_draw (aCons (bv 0) (aCons (tm (op2 gAdd (bv 1) (tm (kD (.int 1))))) (aNil))))) (aNil))) (gN 4) (cons (asgS (callS F__law_draw (aCons (bv 0) (aCons (tm (rv 2)) (aNil)))) (gN 5))
          (expS (appS 3 (dispT (aCons (tm (rv 5)) (aCons (tm (callL gMinI (aCons (tm (op2 gAdd (bv 5) (tm (callS F__law_draw (aCons (bv 0) (aCons (tm (callS F__law_pick (aCons (bv 0) (aCons (tm (dispL (aCons (tm (kD (.int 1))) (aCons (tm (kD (.int 5))) (aCons (tm (rv 2)) (aNil)))))) (aNil))))) (aNil))))))) (aCons (tm (kD (.int 60))) (aNil))))) (aNil))))))) [4, 5])
         (retS (mv 3)))
noncomputable def F__law_windows_drawn : Fn := fnS 3 6 f__law_windows_drawn
noncomputable def f__law_bent : Ev → Rs Ctl := cons (asgS (callL gList (aCons (bv 1) (aNil))) (gN 1))
         (cons (asgS (callL gList (aCons (bv 2) (aNil))) (gN 2))
         (cons (asgS (callS F__law_draw (aCons (bv 0) (aCons (tm (kD (.int 6))) (aNil)))) (gN 3))
         (cons (ifS (cmp2 gEq (bv 3) (tm (kD (.int 0)))) (asgS (slE (bv 1) (aP (tm (kD (.int 1)))) (noP)) (gN 1)) (ifS (cmp2 gEq (bv 3) (tm (kD (.int 1)))) (asgS (slE (bv 2) (aP (tm (kD (.int 1)))) (noP)) (gN 2)) (ifS (andT (cmp2 gEq (bv 3) (tm (kD (.int 2)))) (cmp2 gNe (bv 1) (tm (dispL (aNil))))) (cons (asgS (callS F__law_draw (aCons (bv 0) (aCons (tm (callL gLenA (aCons (bv 1) (aNil)))) (aNil)))) (gN 4))
            (asgS (op2 gAdd (tm (op2 gIx (bv 1) (bv 4))) (tm (callS F__law_pick (aCons (bv 0) (aCons (tm (dispL (aCons (tm (kD (.int 1))) (aCons (tm (op1 gNeg (tm (kD (.int 1))))) (aNil))))) (aNil)))))) (gSubS 1 (bv 4)))) (ifS (andT (cmp2 gEq (bv 3) (tm (kD (.int 3)))) (cmp2 gNe (bv 2) (tm (dispL (aNil))))) (asgS (op2 gIx (bv 2) (tm (op1 gNeg (tm (kD (.int 1)))))) (gSubS 2 (tm (kD (.int 0))))) (ifS (cmp2 gEq (bv 3) (tm (kD (.int 4)))) (cons (asgS (slE (bv 1) (aP (tm (kD (.int 1)))) (noP)) (gN 1))
              (asgS (slE (bv 2) (aP (tm (kD (.int 1)))) (noP)) (gN 2))) (cons (asgS (op2 gAdd (bv 1) (tm (dispL (aCons (tm (kD (.int 61))) (aNil))))) (gN 1))
              (asgS (op2 gAdd (bv 2) (tm (dispL (aCons (tm (dispT (aCons (tm (kD (.int 0))) (aCons (tm (kD (.int 60))) (aNil))))) (aNil))))) (gN 2))))))))
         (retS (dispL (aCons (tm (rv 1)) (aCons (tm (rv 2)) (aNil))))))))
noncomputable def F__law_bent : Fn := fnS 3 5 f__law_bent
noncomputable def q_law_0 : Ev → Rs Ctl := asgS (callS F__law_pool (aCons (tm (rv 0)) (aNil))) (gN 1)
noncomputable def q_law_1 : Ev → Rs Ctl := asgS (callS F__law_windows_drawn (aCons (bv 1) (aCons (tm (kD (.int 9))) (aCons (tm (callS F__law_pick (aCons (bv 1) (aCons (tm (dispL (aCons (tm (kD (.int 8))) (aCons (tm (kD (.int 30))) (aCons (tm (kD (.int 60))) (aNil)))))) (aNil))))) (aNil))))) (gN 2)
noncomputable def q_law_2 : Ev → Rs Ctl := asgS (callL gList (aCons (bv 2) (aNil))) (gN 3)
noncomputable def q_law_3 : Ev → Rs Ctl := asgS (callS F_fewest (aCons (tm (rv 3)) (aNil))) (gTupS 2 (gConsS (gN 4) (gConsS (gN 5) (gNilS))))
noncomputable def q_law_4i_0 : Ev → Rs Ctl := retS (kD (.bool false))
noncomputable def q_law_4 : Ev → Rs Ctl := ifS (orT (notT (truB (tm (callS F__law_right (aCons (tm (rv 2)) (aCons (tm (rv 4)) (aCons (tm (rv 5)) (aNil)))))))) (cmp2 gNe (bv 3) (bv 2))) (q_law_4i_0) (nxS)
noncomputable def q_law_5b_0 : Ev → Rs Ctl := asgS (op2 gAdd (tm (op2 gAdd (tm (slE (bv 4) (noP) (aP (bv 6)))) (tm (dispL (aCons (tm (op2 gAdd (tm (op2 gIx (bv 4) (bv 6))) (tm (kD (.int 1))))) (aNil)))))) (tm (slE (bv 4) (aP (tm (op2 gAdd (bv 6) (tm (kD (.int 1)))))) (noP)))) (gN 7)
noncomputable def q_law_5b_1i_0 : Ev → Rs Ctl := retS (kD (.bool false))
noncomputable def q_law_5b_1 : Ev → Rs Ctl := ifS (orT (cmp2 gNotIn (tm (op2 gIx (bv 4) (bv 6))) (tm (lcE (nmI 2) [8, 9] (gTupS 2 (gConsS (gN 8) (gConsS (gN 9) (gNilS)))) (yesT) (rv 9)))) (andT (truB (tm (callS F__law_serves (aCons (tm (rv 2)) (aCons (tm (rv 7)) (aNil)))))) (cmp2 gNotIn (tm (op2 gIx (bv 7) (bv 6))) (bv 4)))) (q_law_5b_1i_0) (nxS)
noncomputable def t_law_5b_0 : Ev → Rs Ctl := cons (q_law_5b_0) (q_law_5b_1)
noncomputable def q_law_5 : Ev → Rs Ctl := forS (rng1 (aCons (tm (callL gLenA (aCons (bv 4) (aNil)))) (aNil))) (gN 6) (t_law_5b_0) [6, 7]
noncomputable def q_law_6 : Ev → Rs Ctl := asgS (lcE (nmI 2) [8, 9] (gTupS 2 (gConsS (gN 8) (gConsS (gN 9) (gNilS)))) (yesT) (rv 9)) (gN 10)
noncomputable def q_law_7i_0 : Ev → Rs Ctl := retS (kD (.bool false))
noncomputable def q_law_7 : Ev → Rs Ctl := ifS (andT (cmp2 gGt (tm (callL gLenA (aCons (bv 4) (aNil)))) (tm (kD (.int 1)))) (truB (tm (callL gAny (aCons (tm (lcE (nmI 10) [11] (gN 11) (yesT) (callS F__law_serves (aCons (tm (rv 2)) (aCons (tm (dispL (aCons (tm (rv 11)) (aNil)))) (aNil)))))) (aNil)))))) (q_law_7i_0) (nxS)
noncomputable def q_law_8i_0 : Ev → Rs Ctl := retS (kD (.bool false))
noncomputable def q_law_8 : Ev → Rs Ctl := ifS (andT (cmp2 gGt (tm (callL gLenA (aCons (bv 4) (aNil)))) (tm (kD (.int 2)))) (truB (tm (callL gAny (aCons (tm (lcE (nmI 10) [13] (gN 13) (yesT) (callL gAny (aCons (tm (lcE (nmI 10) [12] (gN 12) (yesT) (callS F__law_serves (aCons (tm (rv 2)) (aCons (tm (dispL (aCons (tm (rv 12)) (aCons (tm (rv 13)) (aNil))))) (aNil)))))) (aNil))))) (aNil)))))) (q_law_8i_0) (nxS)
noncomputable def q_law_9b_0 : Ev → Rs Ctl := asgS (ifE (cmp2 gEq (bv 6) (tm (kD (.int 0)))) (dispL (aCons (tm (rv 4)) (aCons (tm (rv 5)) (aNil)))) (callS F__law_bent (aCons (bv 1) (aCons (tm (rv 4)) (aCons (tm (rv 5)) (aNil)))))) (gTupS 2 (gConsS (gN 14) (gConsS (gN 15) (gNilS))))
noncomputable def q_law_9b_1i_0 : Ev → Rs Ctl := retS (kD (.bool false))
noncomputable def q_law_9b_1 : Ev → Rs Ctl := ifS (notT (truB (tm (callS F__law_same (aCons (tm (callS F_judge_fewest (aCons (tm (rv 2)) (aCons (tm (callL gList (aCons (bv 14) (aNil)))) (aCons (tm (callL gList (aCons (bv 15) (aNil)))) (aNil)))))) (aCons (tm (callS F__law_right (aCons (tm (rv 2)) (aCons (tm (rv 14)) (aCons (tm (rv 15)) (aNil)))))) (aNil))))))) (q_law_9b_1i_0) (nxS)
noncomputable def q_law_9b_2 : Ev → Rs Ctl := asgS (op2 gAdd (tm (kD (.int 1))) (tm (callS F__law_draw (aCons (bv 1) (aCons (tm (kD (.int 6))) (aNil)))))) (gN 16)
noncomputable def q_law_9b_3i_0 : Ev → Rs Ctl := retS (kD (.bool false))
noncomputable def q_law_9b_3 : Ev → Rs Ctl := ifS (notT (truB (tm (callS F__law_same (aCons (tm (dispL (aCons (tm (callS F_serves (aCons (tm (rv 2)) (aCons (tm (rv 14)) (aNil))))) (aCons (tm (callS F_keeps (aCons (tm (rv 16)) (aCons (tm (rv 14)) (aNil))))) (aNil))))) (aCons (tm (dispL (aCons (tm (callS F__law_serves (aCons (tm (rv 2)) (aCons (tm (rv 14)) (aNil))))) (aCons (tm (callS F__law_keeps (aCons (tm (rv 16)) (aCons (tm (rv 14)) (aNil))))) (aNil))))) (aNil))))))) (q_law_9b_3i_0) (nxS)
noncomputable def t_law_9b_2 : Ev → Rs Ctl := cons (q_law_9b_2) (q_law_9b_3)
noncomputable def t_law_9b_1 : Ev → Rs Ctl := cons (q_law_9b_1) (t_law_9b_2)
noncomputable def t_law_9b_0 : Ev → Rs Ctl := cons (q_law_9b_0) (t_law_9b_1)
noncomputable def q_law_9 : Ev → Rs Ctl := forS (rng1 (aCons (tm (kD (.int 4))) (aNil))) (gN 6) (t_law_9b_0) [6, 14, 15, 16]
noncomputable def q_law_10 : Ev → Rs Ctl := retS (bl (cmp2 gLe (tm (callL gLenA (aCons (tm (op2 gIx (tm (callS F_fewest (aCons (tm (slE (bv 2) (aP (tm (kD (.int 1)))) (noP))) (aNil)))) (tm (kD (.int 0))))) (aNil)))) (tm (callL gLenA (aCons (bv 4) (aNil))))))
noncomputable def t_law_9 : Ev → Rs Ctl := cons (q_law_9) (q_law_10)
noncomputable def t_law_8 : Ev → Rs Ctl := cons (q_law_8) (t_law_9)
noncomputable def t_law_7 : Ev → Rs Ctl := cons (q_law_7) (t_law_8)
noncomputable def t_law_6 : Ev → Rs Ctl := cons (q_law_6) (t_law_7)
noncomputable def t_law_5 : Ev → Rs Ctl := cons (q_law_5) (t_law_6)
noncomputable def t_law_4 : Ev → Rs Ctl := cons (q_law_4) (t_law_5)
noncomputable def t_law_3 : Ev → Rs Ctl := cons (q_law_3) (t_law_4)
noncomputable def t_law_2 : Ev → Rs Ctl := cons (q_law_2) (t_law_3)
noncomputable def t_law_1 : Ev → Rs Ctl := cons (q_law_1) (t_law_2)
noncomputable def t_law_0 : Ev → Rs Ctl := cons (q_law_0) (t_law_1)
noncomputable def f_law : Ev → Rs Ctl := t_law_0
noncomputable def F_law : Fn := fnS 1 17 f_law
end Y
/-! the pool: what is drawn -/
namespace Y
open PySem PySem.Spec PyProof.Rows L2

theorem mixed_go (n p : Int) : Go (F__law_mixed [lf (.int n), lf (.int p)]) (fun o _ => ∃ r : Int, 0 ≤ r ∧ o = .leaf (.int r)) := by
  have hA : (0 : Int) < 618970019642690137449562111 := by decide
  have hB : (0 : Int) < 162259276829213363391578010288127 := by decide
  let f1 : Int := (n * 48271 + p * 69621 + 11) % 618970019642690137449562111
  let s1 : Int := (f1 * f1 + 7 * f1 + p) % 162259276829213363391578010288127
  let t1 : Int := (s1 * s1 + f1) % 618970019642690137449562111
  have hf0 : 0 ≤ f1 := Int.emod_nonneg _ (by decide)
  have hf1 : f1 < 618970019642690137449562111 := Int.emod_lt_of_pos _ hA
  have hs0 : 0 ≤ s1 := Int.emod_nonneg _ (by decide)
  have hs1 : s1 < 162259276829213363391578010288127 := Int.emod_lt_of_pos _ hB
  have ht0 : 0 ≤ t1 := Int.emod_nonneg _ (by decide)
  have lg : ∀ x : Int, 0 ≤ x → x < 2 ^ 120 → x.natAbs.log2 < 1000 := fun x h0 h1 => by
    rcases Nat.eq_zero_or_pos x.natAbs with e | e
    · rw [e]; decide
    · have : x.natAbs.log2 < 120 := by
        rw [Nat.log2_lt (by omega)]
        omega
      omega
  have lf1 := lg f1 hf0 (by omega)
  have ls1 := lg s1 hs0 (by omega)
  have e1 : gMulI (.int f1) (.int f1) = some (.leaf (.int (f1 * f1))) := gMul_w (by omega)
  have e2 : gMulI (.int s1) (.int s1) = some (.leaf (.int (s1 * s1))) := gMul_w (by omega)
  have e3 : gMulI (.int s1) (.int 618970019642690137449562111) = some (.leaf (.int (s1 * 618970019642690137449562111))) := gMul_w (by
    have : (618970019642690137449562111 : Int).natAbs.log2 < 1000 := by decide +kernel
    omega)
  have e4 : gMod (.int (n * 48271 + p * 69621 + 11)) (.int 618970019642690137449562111) = some (.leaf (.int f1)) := gMod_p hA
  have e5 : gMod (.int (f1 * f1 + 7 * f1 + p)) (.int 162259276829213363391578010288127) = some (.leaf (.int s1)) := gMod_p hB
  have e6 : gMod (.int (s1 * s1 + f1)) (.int 618970019642690137449562111) = some (.leaf (.int t1)) := gMod_p hA
  unfold F__law_mixed
  refine go_fnS ?_
  unfold f__law_mixed
  simp [gMul_r, gMul_l, e1, e2, e3, e4, e5, e6]
  have := Int.mul_nonneg hs0 (Int.le_of_lt hA)
  omega
theorem rest_go (ns : List Int) (p f : Int) (hp : 0 ≤ p) : Go (F__law_rest [lf (scr ns), lf (.int p), lf (.int f)]) (fun o _ => ∃ r : Int, 0 ≤ r ∧ o = .leaf (.int r)) := by
  have e10 : gPow (.int 10) (.int 18) = some (.leaf (.int 1000000000000000000)) := gPow_p (by decide)
  have tail : ∀ z : Int, Go (callS F__law_mixed (aCons (tm (op2 gAdd (bv 3) (tm (op2 gMulI (bv 2) (tm (kD (.int 1000003))))))) (aCons (tm (rv 1)) aNil)) [some (lf (scr ns)), some (lf (.int p)), some (lf (.int f)), some (lf (.int z))]) (fun o _ => ∃ r : Int, 0 ≤ r ∧ o = .leaf (.int r)) := fun z => by
    refine Go_callG ?_
    simp [gMul_r]
    exact mixed_go _ _
  unfold F__law_rest
  refine go_fnS ?_
  unfold f__law_rest
  rw [Go_cons]
  simp only [g_asgS, g_kD, g_gN]
  by_cases hn : 0 < ns.length
  · have e1 : gMod (.int p) (.int (ns.length : Int)) = some (.leaf (.int (p % (ns.length : Int)))) := gMod_p (by omega)
    have h0 : 0 ≤ p % (ns.length : Int) := Int.emod_nonneg _ (by omega)
    have h1 : p % (ns.length : Int) < ns.length := Int.emod_lt_of_pos _ (by omega)
    have e2 : gIx (.list (ns.map .int)) (.int (p % (ns.length : Int))) = some (.leaf (.int (ns[(p % (ns.length : Int)).toNat]'(by omega)))) := gIx_lI h0 (by rw [List.getElem?_map, List.getElem?_eq_getElem (by omega)]; rfl)
    generalize ns[(p % (ns.length : Int)).toNat]'(by omega) = z at e2
    have t1 := tail z
    have t2 := tail (1 - 2 * z)
    simp only [scr] at t1 t2
    simp [scr, e10, hn, e1, e2, gMul_l]
    repeat' split
    all_goals first | exact t1 | exact t2 | exact fun _ => t1 | exact fun _ => t2 | omega
  · have t1 := tail 0
    simp only [scr] at t1
    simp [scr, e10, hn]
    repeat' split
    all_goals first | exact t1 | exact fun _ => t1 | omega
def PoolOk (xs : List D) : Prop := ∃ (ns : List Int) (a b c : Int), xs = [scr ns, .int a, .int b, .int c] ∧ 0 ≤ a ∧ 0 ≤ b
theorem pool_go (ns : List Int) : Go (F__law_pool [lf (scr ns)]) (fun o _ => ∃ xs, o = .lst xs ∧ PoolOk xs) := by
  unfold F__law_pool
  refine go_fnS ?_
  unfold f__law_pool
  have t : Go (callS F__law_rest (aCons (tm (rv 0)) (aCons (tm (kD (.int 0))) (aCons (tm (kD (.int 0))) aNil))) [some (lf (scr ns))]) (fun o ρ => ρ = [some (lf (scr ns))] ∧ ∃ r : Int, 0 ≤ r ∧ o = .leaf (.int r)) := by
    refine Go_callG ?_
    simp
    exact rest_go ns 0 0 (by omega)
  simp
  refine t.mono fun o ρ ⟨e, r, h, e2⟩ => ?_
  subst e e2
  simp
  exact ⟨ns, 0, r, 0, rfl, by omega, h⟩
/-- the rest is read anew -/
theorem rest_at {i : Nat} {ns : List Int} {a b c : Int} {io : Bool} {r : Ev} {q : Ev → Rs B} {e : Int} (h0 : 0 ≤ a) : Go (callS F__law_rest (aCons (tm (op2 gIx (bv 0) (tm (kD (.int 0))))) (aCons (tm (op2 gIx (bv 0) (tm (kD (.int 1))))) (aCons (tm (kD (.int e))) aNil))) (some ⟨io, .lst [scr ns, .int a, .int b, .int c]⟩ :: r)) (fun o ρ => ρ = some ⟨io, .lst [scr ns, .int a, .int b, .int c]⟩ :: r ∧ ∃ z : Int, 0 ≤ z ∧ o = .leaf (.int z)) := by
  refine Go_callG ?_
  simp
  exact rest_go ns a e h0
theorem draw_go (xs : List D) (n : Int) (h : PoolOk xs) (h1 : 0 < n) (h2 : n < 2 ^ 62) : Go (F__law_draw [⟨true, .lst xs⟩, lf (.int n)]) (fun o ρ => ∃ v ys, o = .leaf (.int v) ∧ 0 ≤ v ∧ v < n ∧ look ρ 0 = some ⟨true, .lst ys⟩ ∧ PoolOk ys) := by
  obtain ⟨ns, a, b, c, rfl, ha, hb⟩ := h
  have fin : ∀ b c : Int, 0 ≤ b → Go (cons (asgS (op2 gMod (tm (callL gInt (aCons (tm (op2 gIx (bv 0) (tm (kD (.int 2))))) (aNil)))) (bv 1)) (gN 2))
      (cons (asgS (op2 gDiv (tm (callL gInt (aCons (tm (op2 gIx (bv 0) (tm (kD (.int 2))))) (aNil)))) (bv 1)) (gSubS 0 (tm (kD (.int 2)))))
      (retS (mv 2))) [some ⟨true, .lst [scr ns, .int a, .int b, .int c]⟩, some (lf (.int n)), none]) (fun c ρ => ∃ v : Int, c = .rt (.leaf (.int v)) ∧ 0 ≤ v ∧ v < n ∧ ∃ ys, look ρ 0 = some ⟨true, .lst ys⟩ ∧ PoolOk ys) := fun b c hb => by
    have e1 : gMod (.int b) (.int n) = some (.leaf (.int (b % n))) := gMod_p h1
    have e2 : gDiv (.int b) (.int n) = some (.leaf (.int (b / n))) := gDiv_p h1 h2
    simp [e1, e2]
    exact ⟨Int.emod_nonneg _ (by omega), Int.emod_lt_of_pos _ h1, ns, a, b / n, c, rfl, ha, Int.ediv_nonneg hb (by omega)⟩
  unfold F__law_draw
  refine go_fnS ?_
  unfold f__law_draw
  rw [Go_cons]
  have out : ∀ {r : Rs Ctl}, Go r (fun c ρ => ∃ v : Int, c = .rt (.leaf (.int v)) ∧ 0 ≤ v ∧ v < n ∧ ∃ ys, look ρ 0 = some ⟨true, .lst ys⟩ ∧ PoolOk ys) → Go r (fun c ρ => match c with
      | .rt d => ∃ v ys, d = .leaf (.int v) ∧ 0 ≤ v ∧ v < n ∧ look ρ 0 = some ⟨true, .lst ys⟩ ∧ PoolOk ys
      | .nx => ∃ v ys, O.leaf .none = .leaf (.int v) ∧ 0 ≤ v ∧ v < n ∧ look ρ 0 = some ⟨true, .lst ys⟩ ∧ PoolOk ys
      | _ => False) := fun h => h.mono fun c ρ ⟨v, e, h1, h2, ys, h3, h4⟩ => by subst e; exact ⟨v, ys, rfl, h1, h2, h3, h4⟩
  have pre : Go (ifS (cmp2 gLe (tm (op2 gIx (bv 0) (tm (kD (.int 2))))) (tm (kD (.int 1)))) (cons (asgS (op2 gAdd (tm (op2 gIx (bv 0) (tm (kD (.int 3))))) (tm (kD (.int 1)))) (gSubS 0 (tm (kD (.int 3)))))
          (asgS (callS F__law_rest (aCons (tm (op2 gIx (bv 0) (tm (kD (.int 0))))) (aCons (tm (op2 gIx (bv 0) (tm (kD (.int 1))))) (aCons (tm (op2 gIx (bv 0) (tm (kD (.int 3))))) (aNil))))) (gSubS 0 (tm (kD (.int 2)))))) (nxS) [some ⟨true, .lst [scr ns, .int a, .int b, .int c]⟩, some (lf (.int n)), none])
      (fun k ρ => k = .nx ∧ ∃ b c : Int, 0 ≤ b ∧ ρ = [some ⟨true, .lst [scr ns, .int a, .int b, .int c]⟩, some (lf (.int n)), none]) := by
    have t : Go (callS F__law_rest (aCons (tm (op2 gIx (bv 0) (tm (kD (.int 0))))) (aCons (tm (op2 gIx (bv 0) (tm (kD (.int 1))))) (aCons (tm (op2 gIx (bv 0) (tm (kD (.int 3))))) aNil))) [some ⟨true, .lst [scr ns, .int a, .int b, .int (c + 1)]⟩, some (lf (.int n)), none])
        (fun o ρ => ρ = [some ⟨true, .lst [scr ns, .int a, .int b, .int (c + 1)]⟩, some (lf (.int n)), none] ∧ ∃ z : Int, 0 ≤ z ∧ o = .leaf (.int z)) := by
      refine Go_callG ?_
      simp
      exact rest_go ns a (c + 1) ha
    simp
    split
    · refine t.mono fun o ρ ⟨e, z, hz, e2⟩ => ?_
      subst e e2
      simp
      exact hz
    · simp
      exact hb
  refine pre.mono fun k ρ ⟨e, b', c', hb', e2⟩ => ?_
  subst e e2
  exact out (fin b' c' hb')
end Y
/-! fewest refreshes, plainly -/
namespace Y
namespace A80
abbrev Wn := Int × Int
def serves (ws : List Wn) (ts : List Int) : Bool := ws.all fun w => ts.any fun t => decide (w.1 ≤ t) && decide (t ≤ w.2)
/-- by last time, then first: the chain of windows apart -/
def step (acc : List Wn) (p : Wn) : List Wn := if (match acc.getLast? with | none => true | some a => decide (a.2 < p.2)) = true then acc ++ [(p.2, p.1)] else acc
theorem step_len (acc : List Wn) (x : Wn) : (step acc x).length ≤ acc.length + 1 := by
  unfold step
  cases acc.getLast? with
  | none => simp
  | some a =>
    by_cases h : a.2 < x.2
    · simp [h]
    · simp [h]
def greedy (ws : List Wn) : List Wn := (sortP (ws.map fun w => (w.2, w.1))).foldl step []
structure Inv (done acc : List Wn) : Prop where
  chain : acc.Pairwise fun a b => a.2 < b.1
  mem : ∀ a ∈ acc, (a.2, a.1) ∈ done ∧ a.1 ≤ a.2
  served : ∀ p ∈ done, ∃ a ∈ acc, p.2 ≤ a.2 ∧ a.2 ≤ p.1
theorem getLast_of {acc : List Wn} {a : Wn} (h : acc.getLast? = some a) : ∃ r, acc = r ++ [a] := by
  rw [List.getLast?_eq_some_iff] at h
  exact h
theorem inv_step {done acc : List Wn} {p : Wn} (I : Inv done acc) (hs : ∀ q ∈ done, q.1 ≤ p.1) (hp : p.2 ≤ p.1) : Inv (done ++ [p]) (step acc p) := by
  unfold step
  cases hl : acc.getLast? with
  | none =>
    have e : acc = [] := List.getLast?_eq_none_iff.mp hl
    subst e
    refine ⟨by simp, by simp; exact hp, ?_⟩
    intro q hq
    rcases List.mem_append.mp hq with hq | hq
    · obtain ⟨a, ha, _⟩ := I.served q hq
      simp at ha
    · simp at hq
      subst hq
      exact ⟨(q.2, q.1), by simp, hp, Int.le_refl _⟩
  | some a =>
    obtain ⟨r, rfl⟩ := getLast_of hl
    have hle : ∀ b ∈ r ++ [a], b.2 ≤ a.2 := fun b hb => by
      rcases List.mem_append.mp hb with hb | hb
      · have h1 := (List.pairwise_append.mp I.chain).2.2 b hb a (by simp)
        have h2 := (I.mem a (by simp)).2
        omega
      · simp at hb; subst hb; exact Int.le_refl _
    have ha1 : a.2 ≤ p.1 := hs _ (I.mem a (by simp)).1
    by_cases h : a.2 < p.2
    · simp only [h, decide_true, if_true]
      refine ⟨?_, ?_, ?_⟩
      · rw [List.pairwise_append]
        refine ⟨I.chain, by simp, fun b hb c hc => ?_⟩
        simp at hc
        subst hc
        have := hle b hb
        show b.2 < p.2
        omega
      · intro b hb
        rcases List.mem_append.mp hb with hb | hb
        · exact ⟨List.mem_append_left _ (I.mem b hb).1, (I.mem b hb).2⟩
        · simp at hb; subst hb; exact ⟨by simp, hp⟩
      · intro q hq
        rcases List.mem_append.mp hq with hq | hq
        · obtain ⟨b, hb, h1⟩ := I.served q hq
          exact ⟨b, List.mem_append_left _ hb, h1⟩
        · simp at hq
          subst hq
          exact ⟨(q.2, q.1), by simp, hp, Int.le_refl _⟩
    · simp only [h, decide_false, Bool.false_eq_true, if_false]
      refine ⟨I.chain, fun b hb => ⟨List.mem_append_left _ (I.mem b hb).1, (I.mem b hb).2⟩, fun q hq => ?_⟩
      rcases List.mem_append.mp hq with hq | hq
      · exact I.served q hq
      · simp at hq
        subst hq
        exact ⟨a, by simp, by omega, ha1⟩
theorem inv_fold : ∀ (ps done acc : List Wn), Inv done acc → (done ++ ps).Pairwise (fun p q => p.1 ≤ q.1) → (∀ p ∈ ps, p.2 ≤ p.1) → Inv (done ++ ps) (ps.foldl step acc)
  | [], done, acc, I, _, _ => by rw [List.append_nil]; exact I
  | p :: ps, done, acc, I, hs, hp => by
    have e : done ++ p :: ps = (done ++ [p]) ++ ps := by simp
    rw [e] at hs ⊢
    rw [List.foldl_cons]
    refine inv_fold ps (done ++ [p]) (step acc p) (inv_step I (fun q hq => ?_) (hp p (by simp))) hs fun q hq => hp q (by simp [hq])
    have := (List.pairwise_append.mp hs).1
    exact (List.pairwise_append.mp this).2.2 q hq p (by simp)
structure Good (ws ap : List Wn) : Prop where
  chain : ap.Pairwise fun a b => a.2 < b.1
  mem : ∀ a ∈ ap, a ∈ ws
  ord : ∀ a ∈ ap, a.1 ≤ a.2
  served : ∀ w ∈ ws, ∃ a ∈ ap, w.1 ≤ a.2 ∧ a.2 ≤ w.2
theorem greedy_good {ws : List Wn} (h : ∀ w ∈ ws, w.1 ≤ w.2) : Good ws (greedy ws) := by
  have hp := sortP_perm (ws.map fun w => (w.2, w.1))
  have mem : ∀ p : Wn, p ∈ sortP (ws.map fun w => (w.2, w.1)) ↔ (p.2, p.1) ∈ ws := fun p => by
    rw [hp.mem_iff, List.mem_map]
    constructor
    · rintro ⟨w, hw, e⟩
      subst e
      exact hw
    · intro hw
      exact ⟨_, hw, rfl⟩
  have I := inv_fold (sortP (ws.map fun w => (w.2, w.1))) [] [] ⟨.nil, by simp, by simp⟩ (sortP_sorted _) fun p hp => h _ ((mem p).mp hp)
  rw [List.nil_append] at I
  refine ⟨I.chain, fun a ha => ?_, fun a ha => (I.mem a ha).2, fun w hw => ?_⟩
  · have := (mem _).mp (I.mem a ha).1
    exact this
  · exact I.served (w.2, w.1) ((mem _).mpr hw)
/-- windows apart need as many times -/
theorem need : ∀ (ap : List Wn) (ts : List Int), ap.Pairwise (fun a b => a.2 < b.1) → (∀ a ∈ ap, ∃ t ∈ ts, a.1 ≤ t ∧ t ≤ a.2) → ap.length ≤ ts.length
  | [], ts, _, _ => by simp
  | a :: ap, ts, hc, hs => by
    obtain ⟨t, ht, h1, h2⟩ := hs a (by simp)
    obtain ⟨g1, g2⟩ := List.pairwise_cons.mp hc
    have := need ap (ts.erase t) g2 fun b hb => by
      obtain ⟨u, hu, h3, h4⟩ := hs b (by simp [hb])
      have := g1 b hb
      exact ⟨u, (List.mem_erase_of_ne (by omega)).mpr hu, h3, h4⟩
    rw [List.length_erase_of_mem ht] at this
    have hpos : 0 < ts.length := List.length_pos_of_mem ht
    simp
    omega
theorem serves_iff {ws : List Wn} {ts : List Int} : serves ws ts = true ↔ ∀ w ∈ ws, ∃ t ∈ ts, w.1 ≤ t ∧ t ≤ w.2 := by
  unfold serves
  simp only [List.all_eq_true, List.any_eq_true, Bool.and_eq_true, decide_eq_true_eq]
theorem Good.need {ws ap : List Wn} (g : Good ws ap) {ts : List Int} (h : serves ws ts = true) : ap.length ≤ ts.length :=
  A80.need ap ts g.chain fun a ha => serves_iff.mp h a (g.mem a ha)
theorem Good.serves {ws ap : List Wn} (g : Good ws ap) : serves ws (ap.map (·.2)) = true := by
  rw [serves_iff]
  intro w hw
  obtain ⟨a, ha, h1, h2⟩ := g.served w hw
  exact ⟨a.2, List.mem_map.mpr ⟨a, ha, rfl⟩, h1, h2⟩
def overlap (a b : Wn) : Bool := decide (a.1 ≤ b.2) && decide (b.1 ≤ a.2)
def keeps (gap : Int) (ts : List Int) : Bool := (List.range ts.length).all fun i => (decide (0 ≤ ts.getD i 0) && decide (ts.getD i 0 ≤ 60)) && (i == 0 || decide (gap ≤ ts.getD i 0 - ts.getD (i - 1) 0))
def goodA (ws ap : List Wn) (k : Nat) : Bool := decide (ap.getD k (0, 0) ∈ ws) && !((ap.take k).any fun b => overlap (ap.getD k (0, 0)) b)
def right (ws : List Wn) (ts : List Int) (ap : List Wn) : Bool := keeps 1 ts && serves ws ts && (ap.length == ts.length) && (List.range ap.length).all (goodA ws ap)
theorem Good.right {ws ap : List Wn} (g : Good ws ap) (hw : ∀ w ∈ ws, 0 ≤ w.1 ∧ w.2 ≤ 60) : right ws (ap.map (·.2)) ap = true := by
  unfold A80.right
  simp only [Bool.and_eq_true]
  refine ⟨⟨⟨?_, g.serves⟩, by simp⟩, ?_⟩
  · unfold keeps
    rw [List.all_eq_true]
    intro i hi
    have hi : i < ap.length := by simpa using hi
    have e : (ap.map (·.2)).getD i 0 = ap[i].2 := by simp [List.getD, hi]
    have h1 := hw _ (g.mem ap[i] (List.getElem_mem hi))
    have h2 := g.ord ap[i] (List.getElem_mem hi)
    rw [e]
    simp only [Bool.and_eq_true, decide_eq_true_eq, Bool.or_eq_true, beq_iff_eq]
    refine ⟨⟨by omega, h1.2⟩, ?_⟩
    by_cases h0 : i = 0
    · exact .inl h0
    · right
      have hj : i - 1 < ap.length := by omega
      have e' : (ap.map (·.2)).getD (i - 1) 0 = ap[i - 1].2 := by simp [List.getD, hj]
      rw [e']
      have := List.pairwise_iff_getElem.mp g.chain (i - 1) i hj hi (by omega)
      omega
  · rw [List.all_eq_true]
    intro k hk
    have hk : k < ap.length := by simpa using hk
    have e : ap.getD k (0, 0) = ap[k] := by simp [List.getD, hk]
    unfold goodA
    rw [e, Bool.and_eq_true, Bool.not_eq_true', List.any_eq_false]
    refine ⟨by rw [decide_eq_true_eq]; exact g.mem _ (List.getElem_mem hk), fun b hb => ?_⟩
    obtain ⟨j, hj⟩ := List.mem_iff_getElem?.mp hb
    rw [List.getElem?_take] at hj
    split at hj
    · rename_i hjk
      obtain ⟨h3, h4⟩ := List.getElem?_eq_some_iff.mp hj
      have := List.pairwise_iff_getElem.mp g.chain j k h3 hk hjk
      rw [h4] at this
      unfold overlap
      simp
      intro h
      omega
    · cases hj
/-- each time is as late as can be -/
theorem Good.late {ws ap : List Wn} (g : Good ws ap) {k : Nat} (hk : k < ap.length) : A80.serves ws ((ap.map (·.2)).set k (ap[k].2 + 1)) = false := by
  rw [Bool.eq_false_iff]
  intro h
  rw [serves_iff] at h
  obtain ⟨t, ht, h1, h2⟩ := h ap[k] (g.mem _ (List.getElem_mem hk))
  obtain ⟨j, hj⟩ := List.mem_iff_getElem?.mp ht
  rw [List.getElem?_set] at hj
  split at hj
  · split at hj
    · cases hj; omega
    · cases hj
  · rename_i hne
    rw [List.getElem?_map] at hj
    obtain ⟨a, ha, rfl⟩ := Option.map_eq_some_iff.mp hj
    obtain ⟨h3, h4⟩ := List.getElem?_eq_some_iff.mp ha
    have ho := g.ord a (by rw [← h4]; exact List.getElem_mem h3)
    rcases Nat.lt_or_gt_of_ne hne with q | q
    · have := List.pairwise_iff_getElem.mp g.chain k j hk h3 q
      rw [h4] at this
      omega
    · have := List.pairwise_iff_getElem.mp g.chain j k h3 hk q
      rw [h4] at this
      omega
end A80
end Y
/-! fewest refreshes: what the defs give -/
namespace Y
open PySem PySem.Spec PyProof.Rows L2
open A80
theorem serves_body {ws : List Wn} {ts : List Int} (h1 : ws.length ≤ 1000) (h2 : ts.length ≤ 1000) : Go (retS (callL gAll (aCons (tm (lcE (nmI 0) [3, 4] (gTupS 2 (gConsS (gN 3) (gConsS (gN 4) (gNilS)))) (yesT) (callL gAny (aCons (tm (lcE (nmI 1) [2] (gN 2) (yesT) (bl (chn gLe gLe (bv 3) (bv 2) (bv 4))))) (aNil))))) (aNil)))
    [some (lf (PL ws)), some (lf (IL ts)), none, none, none]) (fun c _ => c = .rt (.leaf (.bool (serves ws ts)))) := by
  rw [g_retS, g_callL, g_aCons, g_tm]
  refine Go_lcf (f := P2) (as := ws) (fun w => .bool (ts.any fun t => decide (w.1 ≤ t) && decide (t ≤ w.2))) [some (lf (PL ws)), some (lf (IL ts)), none, none, none] (by simp) (by simp) h1 ?_ ?_
  · intro w hw
    simp [P2]
    refine Go_lcf (f := PyData.int) (as := ts) (fun t => .bool (decide (w.1 ≤ t) && decide (t ≤ w.2))) [some (lf (PL ws)), some (lf (IL ts)), none, some (lf (.int w.1)), some (lf (.int w.2))] (by simp) (by simp) h2 ?_ ?_
    · intro t ht
      simp
      by_cases h : w.1 ≤ t <;> simp [h]
    · simp [any_bl]
  · simp [all_bl, serves]
theorem serves_go {ws : List Wn} {ts : List Int} (h1 : ws.length ≤ 1000) (h2 : ts.length ≤ 1000) : Go (F_serves [lf (PL ws), lf (IL ts)]) (fun o _ => o = .leaf (.bool (serves ws ts))) := by
  unfold F_serves
  refine go_fnS ?_
  exact (serves_body h1 h2).mono fun c _ e => by subst e; rfl
theorem lserves_go {ws : List Wn} {ts : List Int} (h1 : ws.length ≤ 1000) (h2 : ts.length ≤ 1000) : Go (F__law_serves [lf (PL ws), lf (IL ts)]) (fun o _ => o = .leaf (.bool (serves ws ts))) := by
  unfold F__law_serves
  refine go_fnS ?_
  exact (serves_body h1 h2).mono fun c _ e => by subst e; rfl
def goodK (gap : Int) (ts : List Int) (i : Nat) : Bool := (decide (0 ≤ ts.getD i 0) && decide (ts.getD i 0 ≤ 60)) && (i == 0 || decide (gap ≤ ts.getD i 0 - ts.getD (i - 1) 0))
theorem ixI {ts : List Int} {k : Nat} (h : k < ts.length) : gIx (IL ts) (.int (k : Int)) = some (.leaf (.int (ts.getD k 0))) := by
  refine gIx_l ?_
  rw [List.getElem?_map, List.getElem?_eq_getElem h]
  simp [List.getD, h]
theorem keeps_go {gap : Int} {ts : List Int} (h : ts.length ≤ 1000) : Go (F_keeps [lf (.int gap), lf (IL ts)]) (fun o _ => o = .leaf (.bool (keeps gap ts))) := by
  unfold F_keeps
  refine go_fnS ?_
  unfold f_keeps
  rw [Go_cons]
  refine Go_forB (goodK gap ts) [some (lf (.int gap)), some (lf (IL ts)), none, none] ts.length ?_ ?_
  · simp [enumD_len]
    intro k d hk
    obtain ⟨d', hd', rfl⟩ := enumD_get _ 0 k d hk
    rw [List.getElem?_map] at hd'
    obtain ⟨t, ht, rfl⟩ := Option.map_eq_some_iff.mp hd'
    obtain ⟨hk1, hk2⟩ := List.getElem?_eq_some_iff.mp ht
    have e0 : ts.getD k 0 = t := by simp [List.getD, hk1, hk2]
    rw [Nat.zero_add]
    unfold goodK
    rw [e0]
    simp
    by_cases g1 : 0 ≤ t
    · by_cases g2 : t ≤ 60
      · by_cases g3 : k = 0
        · subst g3
          simp [g1, g2]
        · have e1 : gIx (IL ts) (.int ((k : Int) - 1)) = some (.leaf (.int (ts.getD (k - 1) 0))) := by
            rw [show (k : Int) - 1 = ((k - 1 : Nat) : Int) by omega]
            exact ixI (by omega)
          have g3' : 0 < k := by omega
          simp [g1, g2, g3, g3', e1]
      · simp [g1, g2]
    · simp [g1]
  · have : keeps gap ts = (List.range ts.length).all (goodK gap ts) := rfl
    rw [this]
    split <;> simp [*]
theorem lkeeps_go {gap : Int} {ts : List Int} (h : ts.length ≤ 1000) : Go (F__law_keeps [lf (.int gap), lf (IL ts)]) (fun o _ => o = .leaf (.bool (keeps gap ts))) := by
  unfold F__law_keeps
  rw [go_fnS_eq]
  unfold f__law_keeps
  rw [Go_cons]
  refine Go_forB (goodK gap ts) [some (lf (.int gap)), some (lf (IL ts)), none] ts.length ?_ ?_
  · simp
    refine ⟨by omega, by unfold rangeD; rw [List.length_map, List.length_range]; omega, ?_⟩
    intro k d hk
    have hkl : k < ts.length := by
      have := (List.getElem?_eq_some_iff.mp hk).1
      simpa [rangeD] using this
    have hd : d = .int (k : Int) := by
      unfold rangeD at hk
      rw [List.getElem?_map] at hk
      obtain ⟨i, hi, e⟩ := Option.map_eq_some_iff.mp hk
      obtain ⟨g1, g2⟩ := List.getElem?_eq_some_iff.mp hi
      rw [List.getElem_range] at g2
      subst g2
      rw [← e, Int.zero_add]
    subst hd
    have e0 := ixI hkl
    unfold goodK
    generalize ts.getD k 0 = t at e0
    by_cases g1 : 0 ≤ t
    · by_cases g2 : t ≤ 60
      · by_cases g3 : k = 0
        · subst g3
          simp at e0
          simp [g1, g2, e0]
        · have e1 : gIx (IL ts) (.int ((k : Int) - 1)) = some (.leaf (.int (ts.getD (k - 1) 0))) := by
            rw [show (k : Int) - 1 = ((k - 1 : Nat) : Int) by omega]
            exact ixI (by omega)
          have g3' : 0 < k := by omega
          simp [g1, g2, g3, g3', e0, e1]
      · simp [g1, g2, e0]
    · simp [g1, e0]
  · have : keeps gap ts = (List.range ts.length).all (goodK gap ts) := rfl
    rw [this]
    split <;> simp [*]
theorem rangeD_get {n k : Nat} {d : D} (h : (rangeD 0 (n : Int))[k]? = some d) : k < n ∧ d = .int (k : Int) := by
  unfold rangeD at h
  rw [List.getElem?_map] at h
  obtain ⟨i, hi, e⟩ := Option.map_eq_some_iff.mp h
  obtain ⟨g1, g2⟩ := List.getElem?_eq_some_iff.mp hi
  rw [List.getElem_range] at g2
  rw [List.length_range] at g1
  subst g2
  exact ⟨by omega, by rw [← e, Int.zero_add]⟩
theorem rangeD_len {n : Nat} : (rangeD 0 (n : Int)).length = n := by
  unfold rangeD
  rw [List.length_map, List.length_range]
  omega
theorem rangeD_eq {n : Nat} : rangeD 0 (n : Int) = (List.range n).map fun i => .int ((i : Nat) : Int) := by
  unfold rangeD
  rw [show ((n : Int) - 0).toNat = n by omega]
  refine List.map_congr_left fun i _ => ?_
  rw [Int.zero_add]
theorem ixP {ps : List Wn} {k : Nat} (h : k < ps.length) : gIx (PL ps) (.int (k : Int)) = some (.leaf (P2 (ps.getD k (0, 0)))) := by
  refine gIx_l ?_
  rw [List.getElem?_map, List.getElem?_eq_getElem h]
  simp [List.getD, h]
theorem ixP0 {p : Wn} : gIx (P2 p) (.int 0) = some (.leaf (.int p.1)) := rfl
theorem ixP1 {p : Wn} : gIx (P2 p) (.int 1) = some (.leaf (.int p.2)) := rfl
theorem notin_P {a b : Int} {ws : List Wn} : gNotIn (.tuple [.int a, .int b]) (PL ws) = some (!decide ((a, b) ∈ ws)) := gNotIn_pl (x := (a, b))
theorem judge_go {ws : List Wn} {ts : List Int} {ap : List Wn} (h1 : ws.length ≤ 1000) (h2 : ts.length ≤ 1000) (h3 : ap.length ≤ 1000) : Go (F_judge_fewest [lf (PL ws), lf (IL ts), lf (PL ap)]) (fun o _ => o = .leaf (.bool (right ws ts ap))) := by
  unfold F_judge_fewest
  rw [go_fnS_eq]
  unfold f_judge_fewest
  rw [Go_cons]
  rw [g_ifS, g_orT, g_notT, g_truB, g_tm]
  refine Go_callG ?_
  simp
  refine (keeps_go h2).mono fun o _ e => ?_
  subst e
  unfold right
  cases hk : keeps 1 ts with
  | false => simp
  | true =>
    simp
    refine Go_callG ?_
    simp
    refine (serves_go h1 h2).mono fun o _ e => ?_
    subst e
    cases hs : serves ws ts with
    | false => simp
    | true =>
      simp
      by_cases hl : ap.length = ts.length
      · simp [hl]
        refine Go_forB (goodA ws ap) [some (lf (PL ws)), some (lf (IL ts)), some (lf (PL ap)), none, none, none, none, none] ap.length ?_ ?_
        · simp [enumD_len]
          intro k d hkk
          obtain ⟨d', hd', rfl⟩ := enumD_get _ 0 k d hkk
          rw [List.getElem?_map] at hd'
          obtain ⟨p, hp, rfl⟩ := Option.map_eq_some_iff.mp hd'
          obtain ⟨hk1, hk2⟩ := List.getElem?_eq_some_iff.mp hp
          have e0 : ap.getD k (0, 0) = p := by simp [List.getD, hk1, hk2]
          rw [Nat.zero_add]
          unfold goodA
          rw [e0]
          simp [P2, notin_P]
          by_cases g1 : p ∈ ws
          · simp [g1]
            have sl : gSl (PL ap) none (some (k : Int)) = some (.lst ((ap.take k).map P2)) := by rw [gSl_l, cut_to, List.map_take]
            refine Go_lcf (f := P2) (as := ap.take k) (fun b => .bool (overlap p b)) [some (lf (PL ws)), some (lf (IL ts)), some (lf (PL ap)), some (lf (.int (k : Int))), some (lf (.int p.1)), some (lf (.int p.2)), none, none] (by simp [sl]) (by simp) (by simp; omega) ?_ ?_
            · intro b hb
              simp [P2, overlap]
              by_cases g2 : p.1 ≤ b.2 <;> simp [g2]
            · simp [any_bl]
              have ea : gAny [.list (List.take k (List.map (fun b => PyData.bool (overlap p b)) ap))] = some (.leaf (.bool ((ap.take k).any (overlap p)))) := by rw [← List.map_take]; exact any_bl _
              rw [ea]
              simp only [d_leaf, gTru_b]
              cases h : (ap.take k).any (overlap p) with
              | false =>
                rw [if_neg Bool.false_ne_true]
                intro a b hab
                simpa using List.any_eq_false.mp h (a, b) hab
              | true =>
                rw [if_pos rfl]
                obtain ⟨x, hx, e⟩ := List.any_eq_true.mp h
                exact ⟨x.1, x.2, hx, e⟩
          · simp [g1]
        · cases hg : (List.range ap.length).all (goodA ws ap) with
          | true => rw [if_pos rfl]; simp [hl]; simpa [hl] using hg
          | false => rw [if_neg Bool.false_ne_true]; intro ρ'; simp [hl]; simpa [hl] using hg
      · have hl' : ¬ (ap.length : Int) = (ts.length : Int) := by omega
        simp [hl, hl']
theorem any_range {ap : List Wn} {k : Nat} {f : Wn → Bool} (h : k ≤ ap.length) : (List.range k).any (fun i => f (ap.getD i (0, 0))) = (ap.take k).any f := by
  rw [Bool.eq_iff_iff, List.any_eq_true, List.any_eq_true]
  constructor
  · rintro ⟨i, hi, e⟩
    have hi : i < k := by simpa using hi
    refine ⟨ap.getD i (0, 0), List.mem_iff_getElem?.mpr ⟨i, ?_⟩, e⟩
    rw [List.getElem?_take, if_pos hi, List.getElem?_eq_getElem (by omega)]
    simp [List.getD, show i < ap.length by omega]
  · rintro ⟨b, hb, e⟩
    obtain ⟨i, hi⟩ := List.mem_iff_getElem?.mp hb
    rw [List.getElem?_take] at hi
    split at hi
    · rename_i hik
      refine ⟨i, by simpa using hik, ?_⟩
      obtain ⟨h1, h2⟩ := List.getElem?_eq_some_iff.mp hi
      simpa [List.getD, h1, h2] using e
    · cases hi
theorem right_go {ws : List Wn} {ts : List Int} {ap : List Wn} (h1 : ws.length ≤ 1000) (h2 : ts.length ≤ 1000) (h3 : ap.length ≤ 1000) : Go (F__law_right [lf (PL ws), lf (IL ts), lf (PL ap)]) (fun o _ => o = .leaf (.bool (right ws ts ap))) := by
  unfold F__law_right
  rw [go_fnS_eq]
  unfold f__law_right
  rw [Go_cons]
  rw [g_ifS, g_orT, g_notT, g_truB, g_tm]
  refine Go_callG ?_
  simp
  refine (lkeeps_go h2).mono fun o _ e => ?_
  subst e
  unfold right
  cases hk : keeps 1 ts with
  | false => simp
  | true =>
    simp
    refine Go_callG ?_
    simp
    refine (lserves_go h1 h2).mono fun o _ e => ?_
    subst e
    cases hs : serves ws ts with
    | false => simp
    | true =>
      simp
      by_cases hl : ap.length = ts.length
      · simp [hl]
        refine Go_forB (goodA ws ap) [some (lf (PL ws)), some (lf (IL ts)), some (lf (PL ap)), none, none] ap.length ?_ ?_
        · rw [g_rng1]
          simp
          refine ⟨by omega, rangeD_len, ?_⟩
          intro k d hkk
          obtain ⟨hkl, rfl⟩ := rangeD_get hkk
          have e0 := ixP hkl
          unfold goodA
          generalize hp : ap.getD k (0, 0) = p at e0
          simp [e0, gNotIn_pl]
          by_cases g1 : p ∈ ws
          · simp [g1]
            refine Go_lcf (f := fun i : Nat => PyData.int (i : Int)) (as := List.range k) (fun i => .bool (overlap p (ap.getD i (0, 0)))) [some (lf (PL ws)), some (lf (IL ts)), some (lf (PL ap)), some (lf (.int (k : Int))), none] ?_ (by simp) (by simp; omega) ?_ ?_
            · rw [g_rng1]
              simp
              exact ⟨by omega, rangeD_eq⟩
            · intro i hi
              have hik : i < k := by simpa using hi
              have e1 := ixP (ps := ap) (k := i) (by omega)
              simp [e0, e1, ixP0, ixP1, overlap]
              by_cases g2 : p.1 ≤ (ap.getD i (0, 0)).2
              · simp at g2
                simp [g2]
              · simp at g2
                have : ¬ p.1 ≤ (ap[i]?.getD (0, 0)).2 := by omega
                simp [this]
            · have ea : gAny [.list ((List.range k).map fun i => PyData.bool (overlap p (ap.getD i (0, 0))))] = some (.leaf (.bool ((ap.take k).any (overlap p)))) := by rw [any_bl, any_range (by omega)]
              simp only [g_truB, d_lst, ea]
              simp only [vals_cons', vals_nil', val_tmp, d_lst, Option.bind_some, Option.map_some, ea, d_leaf, gTru_b]
              cases h : (ap.take k).any (overlap p) with
              | false =>
                simp
                intro a b hab
                simpa using List.any_eq_false.mp h (a, b) hab
              | true =>
                simp
                obtain ⟨x, hx, e⟩ := List.any_eq_true.mp h
                exact ⟨x.1, x.2, hx, e⟩
          · simp [g1]
        · cases hg : (List.range ap.length).all (goodA ws ap) with
          | true => rw [if_pos rfl]; simp [hl]; simpa [hl] using hg
          | false => rw [if_neg Bool.false_ne_true]; intro ρ'; simp [hl]; simpa [hl] using hg
      · have hl' : ¬ (ap.length : Int) = (ts.length : Int) := by omega
        simp [hl, hl']
end Y
/-! fewest refreshes: the rest -/
namespace Y
open PySem PySem.Spec PyProof.Rows L2
open A80
@[simp] theorem seqD_P2 {p : Wn} : seqD (.leaf (P2 p)) = some [.int p.1, .int p.2] := rfl
theorem tup_P2 {a b : Int} : PyData.tuple [.int a, .int b] = P2 (a, b) := rfl
@[simp] theorem isT_b_dict {a : Bool} : isT (.bool a) "dict" = some false := rfl
@[simp] theorem isT_b_list {a : Bool} : isT (.bool a) "list" = some false := rfl
@[simp] theorem isT_b_tuple {a : Bool} : isT (.bool a) "tuple" = some false := rfl
@[simp] theorem isT_b_str {a : Bool} : isT (.bool a) "str" = some false := rfl
@[simp] theorem isT_l_dict {a : List D} : isT (.list a) "dict" = some false := rfl
@[simp] theorem isT_l_list {a : List D} : isT (.list a) "list" = some true := rfl
@[simp] theorem isT_l_tuple {a : List D} : isT (.list a) "tuple" = some false := rfl
@[simp] theorem gIs_bn {a : Bool} : gIs (.bool a) .none = some false := rfl
@[simp] theorem gIs_bb {a b : Bool} : gIs (.bool a) (.bool b) = some (a == b) := rfl
theorem same_b (a : Bool) (k : Nat) : Go (N__law_same (k + 1) [lf (.bool a), lf (.bool a)]) (fun o _ => o = .leaf (.bool true)) := by
  show Go (fnS 2 4 (f__law_same (N__law_same k)) _) _
  rw [go_fnS_eq]
  unfold f__law_same
  cases a <;> simp
theorem same_lb (bs : List Bool) (hb : bs.length ≤ 100) (k : Nat) : Go (N__law_same (k + 2) [lf (.list (bs.map .bool)), lf (.list (bs.map .bool))]) (fun o _ => o = .leaf (.bool true)) := by
  show Go (fnS 2 4 (f__law_same (N__law_same (k + 1))) _) _
  rw [go_fnS_eq]
  unfold f__law_same
  simp
  refine Go_lcf (f := fun i : Nat => PyData.int (i : Int)) (as := List.range bs.length) (fun i => .bool true) [some (lf (.list (bs.map .bool))), some (lf (.list (bs.map .bool))), none, none] ?_ (by simp) (by simp; omega) ?_ ?_
  · rw [g_rng1]
    simp
    exact ⟨by omega, rangeD_eq⟩
  · intro i hi
    have hi : i < bs.length := by simpa using hi
    have e : gIx (.list (bs.map .bool)) (.int (i : Int)) = some (.leaf (.bool bs[i])) := gIx_l (by simp [hi])
    simp
    refine Go_callG ?_
    simp [e]
    exact (same_b bs[i] k).mono fun o _ e => by subst e; simp
  · have ea : gAll [.list ((List.range bs.length).map fun i => PyData.bool true)] = some (.leaf (.bool true)) := by
      rw [all_bl (f := fun _ => true)]
      simp
    simp only [d_lst]
    simp [ea]
theorem fewest_go {ws : List Wn} (h : ws.length ≤ 100) : Go (F_fewest [lf (PL ws)]) (fun o _ => o = .leaf (.tuple [IL ((greedy ws).map (·.2)), PL (greedy ws)])) := by
  have hps : (sortP (ws.map fun w => (w.2, w.1))).length = ws.length := by rw [(sortP_perm _).length_eq, List.length_map]
  unfold F_fewest
  rw [go_fnS_eq]
  unfold f_fewest
  rw [Go_cons]
  simp
  refine Go_for2 ?_
  rw [g_seqI, g_callL, g_aCons, g_tm]
  refine Go_lcf (f := P2) (as := ws) (fun w => P2 (w.2, w.1)) [some (lf (PL ws)), some (ow (.lst [])), some (ow (.lst [])), none, none] (by simp) (by simp) (by omega) ?_ ?_
  · intro w hw
    simp [P2]
  · have es : gSorted [.list (ws.map fun w => P2 (w.2, w.1))] = some (.lst ((sortP (ws.map fun w => (w.2, w.1))).map P2)) := by
      have := gSorted_p (ps := ws.map fun w => (w.2, w.1))
      rw [← this]
      simp [PL, List.map_map]
      rfl
    generalize hq : sortP (ws.map fun w => (w.2, w.1)) = ps at es hps
    simp only [d_lst, g_aNil, vals_cons', vals_nil', val_tmp, Option.bind_some, Option.map_some, es, unhide_cons, unhide_nil, wipe_cons, wipe_nil]
    refine ⟨fun k ρ => ρ = [some (lf (PL ws)), some (ow (.lst (((ps.take k).foldl A80.step []).map fun a => PyData.int a.2))), some (ow (.lst (((ps.take k).foldl A80.step []).map P2))), none, none], by simp, ?_, ?_⟩
    · rintro k d ρ hk rfl
      rw [List.getElem?_map] at hk
      obtain ⟨p, hp, rfl⟩ := Option.map_eq_some_iff.mp hk
      have hkl := (List.getElem?_eq_some_iff.mp hp).1
      have tk : ps.take (k + 1) = ps.take k ++ [p] := by rw [List.take_add_one, hp]; rfl
      dsimp only
      rw [tk, List.foldl_append]
      have hacc : ((ps.take k).foldl A80.step []).length ≤ k := by
        have : ∀ (xs acc : List Wn), (xs.foldl A80.step acc).length ≤ acc.length + xs.length := by
          intro xs
          induction xs with
          | nil => intro acc; simp
          | cons x xs ih =>
            intro acc
            rw [List.foldl_cons]
            have := ih (A80.step acc x)
            have h2 := step_len acc x
            simp
            omega
        have := this (ps.take k) []
        simp at this
        omega
      generalize (ps.take k).foldl A80.step [] = acc at hacc ⊢
      simp [tup_P2]
      cases hl : acc.getLast? with
      | none =>
        have e : acc = [] := List.getLast?_eq_none_iff.mp hl
        subst e
        simp [appO, A80.step, sizeLine_eq]
      | some a =>
        obtain ⟨r, rfl⟩ := getLast_of hl
        have e1 : gIx (.list ((r ++ [a]).map fun a => PyData.int a.2)) (.int (-1)) = some (.leaf (.int a.2)) := by
          show (atI _ (-1 : Int)).map _ = _
          rw [List.map_append]
          show (atI (r.map (fun a => PyData.int a.2) ++ [PyData.int a.2]) (-1 : Int)).map _ = _
          rw [atI_last]
          rfl
        have ap1 : appO (.lst ((r ++ [a]).map fun a => PyData.int a.2)) (.int p.1) = some (.lst ((r ++ [a] ++ [(p.2, p.1)]).map fun a => PyData.int a.2)) := by
          show (if _ < _ then _ else _) = _
          rw [if_pos (by rw [List.length_map, sizeLine_eq]; omega), List.map_append (l₁ := r ++ [a])]
          rfl
        have ap2 : appO (.lst ((r ++ [a]).map P2)) (P2 (p.2, p.1)) = some (.lst ((r ++ [a] ++ [(p.2, p.1)]).map P2)) := by
          show (if _ < _ then _ else _) = _
          rw [if_pos (by rw [List.length_map, sizeLine_eq]; omega), List.map_append (l₁ := r ++ [a])]
          rfl
        have ne : (List.map (fun a : Wn => PyData.int a.2) (r ++ [a])).isEmpty = false := by simp
        simp only [List.map_append, List.map_cons, List.map_nil] at e1 ap1 ap2
        simp [e1]
        by_cases h : a.2 < p.2
        · simp [h, ap1, ap2, A80.step]
        · simp [h, A80.step]
    · rintro ρ rfl
      have : List.take (ps.map P2).length ps = ps := by rw [List.length_map, List.take_length]
      rw [this]
      simp [greedy, hq, List.map_map]
def WinsOk (ws : List Wn) : Prop := ∀ w ∈ ws, 0 ≤ w.1 ∧ w.1 ≤ w.2 ∧ w.2 ≤ 60
theorem pick_go (xs : List D) (opts : List Int) (h : PoolOk xs) (h1 : opts ≠ []) (h2 : opts.length ≤ 1000) : Go (F__law_pick [⟨true, .lst xs⟩, lf (IL opts)]) (fun o ρ => (∃ d ∈ opts, o = .leaf (.int d)) ∧ ∃ ys, look ρ 0 = some ⟨true, .lst ys⟩ ∧ PoolOk ys) := by
  have hpos : 0 < opts.length := List.length_pos_iff.mpr h1
  unfold F__law_pick
  rw [go_fnS_eq]
  unfold f__law_pick
  rw [g_retS, g_op2, g_bv]
  refine ⟨rfl, ?_⟩
  rw [g_tm]
  refine Go_callJ ?_
  simp
  refine (draw_go xs opts.length h (by omega) (by omega)).mono fun o ρ ⟨v, ys, e, h3, h4, h5, h6⟩ => ?_
  subst e
  rw [h5]
  have e2 : gIx (IL opts) (.int v) = some (.leaf (.int (opts[v.toNat]'(by omega)))) := gIx_lI h3 (by rw [List.getElem?_map, List.getElem?_eq_getElem (by omega)]; rfl)
  simp [e2]
  exact h6
theorem wins_go (xs : List D) (m : Int) (h : PoolOk xs) (h1 : 1 ≤ m) (h2 : m ≤ 60) : Go (F__law_windows_drawn [⟨true, .lst xs⟩, lf (.int 9), lf (.int m)]) (fun o ρ => (∃ ws, o = .lst (ws.map P2) ∧ ws.length ≤ 9 ∧ WinsOk ws) ∧ ∃ ys, look ρ 0 = some ⟨true, .lst ys⟩ ∧ PoolOk ys) := by
  unfold F__law_windows_drawn
  rw [go_fnS_eq]
  unfold f__law_windows_drawn
  rw [Go_cons]
  simp
  refine Go_for2 ?_
  rw [g_rng1, g_aCons, g_tm]
  refine Go_callJ ?_
  simp
  refine (draw_go xs 10 h (by decide) (by decide)).mono fun o ρ ⟨v, ys, e, h5, h6, h7, h8⟩ => ?_
  subst e
  rw [h7]
  simp
  refine ⟨by omega, fun k ρ => ∃ zs ws, PoolOk zs ∧ WinsOk ws ∧ ws.length = k ∧ ρ = [some ⟨true, .lst zs⟩, some (lf (.int 9)), some (lf (.int m)), some (ow (.lst (ws.map P2))), none, none], ⟨ys, [], h8, (by intro w hw; cases hw), rfl, rfl⟩, ?_, ?_⟩
  · rintro k d ρ hk ⟨zs, ws, hz, hw, hwl, rfl⟩
    have hkv : k < v.toNat := by
      have := (List.getElem?_eq_some_iff.mp hk).1
      simpa [rangeD] using this
    simp
    refine Go_callJ ?_
    simp
    refine (draw_go zs m hz (by omega) (by omega)).mono fun o ρ ⟨f, us, e, g1, g2, g3, g4⟩ => ?_
    subst e
    rw [g3]
    simp
    refine Go_callJ ?_
    simp
    refine Go_callJ ?_
    simp
    refine (pick_go us [1, 5, m] g4 (by simp) (by simp)).mono fun o ρ ⟨⟨q, hq, e⟩, vs, q1, q2⟩ => ?_
    subst e
    rw [q1]
    simp
    have hq1 : 1 ≤ q ∧ q ≤ 60 := by
      simp at hq
      omega
    refine (draw_go vs q q2 (by omega) (by omega)).mono fun o ρ ⟨w, ts, e, r1, r2, r3, r4⟩ => ?_
    subst e
    rw [r3]
    have ap : appO (.lst (ws.map P2)) (P2 (f, min (f + w) 60)) = some (.lst ((ws ++ [(f, min (f + w) 60)]).map P2)) := by
      show (if _ < _ then _ else _) = _
      rw [if_pos (by rw [List.length_map, sizeLine_eq]; omega), List.map_append]
      rfl
    simp [tup_P2, ap]
    refine ⟨ts, r4, ws ++ [(f, min (f + w) 60)], ?_, by simp; omega, rfl, by simp⟩
    intro x hx
    rcases List.mem_append.mp hx with hx | hx
    · exact hw x hx
    · simp at hx
      subst hx
      dsimp only
      omega
  · rintro ρ ⟨zs, ws, hz, hw, hwl, rfl⟩
    simp
    have : ws.length = v.toNat := by rw [hwl]; simp [rangeD]
    exact ⟨⟨ws, rfl, by omega, hw⟩, hz⟩
theorem gNe_ie {as : List Int} : gNe (IL as) (.list []) = some (!decide (as = [])) := gNe_il (bs := [])
theorem gNe_pe {as : List Wn} : gNe (PL as) (.list []) = some (!decide (as = [])) := gNe_pl (bs := [])
theorem bent_go (xs : List D) (ts : List Int) (ap : List Wn) (h : PoolOk xs) (h1 : ts.length ≤ 100) (h2 : ap.length ≤ 100) : Go (F__law_bent [⟨true, .lst xs⟩, lf (IL ts), lf (PL ap)])
    (fun o ρ => (∃ us bs, o = .lst [IL us, PL bs] ∧ us.length ≤ ts.length + 1 ∧ bs.length ≤ ap.length + 1) ∧ ∃ ys, look ρ 0 = some ⟨true, .lst ys⟩ ∧ PoolOk ys) := by
  unfold F__law_bent
  rw [go_fnS_eq]
  unfold f__law_bent
  rw [Go_cons]
  simp
  refine Go_callJ ?_
  simp
  refine (draw_go xs 6 h (by decide) (by decide)).mono fun o ρ ⟨v, ys, e, h5, h6, h7, h8⟩ => ?_
  subst e
  rw [h7]
  have si : gSl (IL ts) (some 1) none = some (.lst ((ts.drop 1).map .int)) := by
    rw [gSl_l, show (1 : Int) = ((1 : Nat) : Int) from rfl, cut_from, List.map_drop]
  have sp : gSl (PL ap) (some 1) none = some (.lst ((ap.drop 1).map P2)) := by
    rw [gSl_l, show (1 : Int) = ((1 : Nat) : Int) from rfl, cut_from, List.map_drop]
  simp [si, sp, gNe_ie, gNe_pe]
  have a1 : gAdd (IL ts) (.list [.int 61]) = some (.lst ((ts ++ [61]).map .int)) := by
    rw [gAdd_l (by simp; omega), List.map_append]; rfl
  have a2 : gAdd (PL ap) (.list [P2 (0, 60)]) = some (.lst ((ap ++ [(0, 60)]).map P2)) := by
    rw [gAdd_l (by simp; omega), List.map_append]; rfl
  have last : ∃ us bs, (List.map PyData.int ts ++ [PyData.int 61] = List.map PyData.int us ∧ List.map P2 ap ++ [P2 (0, 60)] = List.map P2 bs) ∧ us.length ≤ ts.length + 1 ∧ bs.length ≤ ap.length + 1 := ⟨ts ++ [61], ap ++ [(0, 60)], ⟨by simp, by simp⟩, by simp, by simp⟩
  have hv : v = 0 ∨ v = 1 ∨ v = 2 ∨ v = 3 ∨ v = 4 ∨ v = 5 := by omega
  rcases hv with rfl | rfl | rfl | rfl | rfl | rfl
  · simp
    exact ⟨⟨ts.tail, ap, ⟨by simp, rfl⟩, by simp; omega, by omega⟩, h8⟩
  · simp
    exact ⟨⟨ts, ap.tail, ⟨rfl, by simp⟩, by omega, by simp; omega⟩, h8⟩
  · by_cases ht : ts = []
    · subst ht
      simp [tup_P2, a1, a2]
      exact ⟨⟨[61], ap ++ [(0, 60)], ⟨rfl, by simp⟩, by simp, by simp⟩, h8⟩
    · have hpos : 0 < ts.length := List.length_pos_iff.mpr ht
      simp [ht]
      refine Go_callJ ?_
      simp
      refine (draw_go ys ts.length h8 (by omega) (by omega)).mono fun o ρ ⟨w, zs, e, g1, g2, g3, g4⟩ => ?_
      subst e
      rw [g3]
      have e2 : gIx (IL ts) (.int w) = some (.leaf (.int (ts[w.toNat]'(by omega)))) := gIx_lI g1 (by rw [List.getElem?_map, List.getElem?_eq_getElem (by omega)]; rfl)
      simp [e2]
      refine Go_callJ ?_
      simp
      refine (pick_go zs [1, -1] g4 (by simp) (by simp)).mono fun o ρ ⟨⟨q, hq, e⟩, us, q1, q2⟩ => ?_
      subst e
      rw [q1]
      have e3 : ∀ z : Int, upC (.lst (ts.map .int)) (.int w) (.int z) = some (.lst ((ts.set w.toNat z).map .int)) := fun z => by
        have := upC_l (i := w.toNat) (d := .int z) (ds := ts.map PyData.int) (by rw [List.length_map]; omega)
        rw [Int.toNat_of_nonneg g1] at this
        rw [this, List.map_set]
      simp [e2, e3]
      exact ⟨⟨ts.set w.toNat (ts[w.toNat]'(by omega) + q), ap, ⟨by rw [List.map_set], rfl⟩, by rw [List.length_set]; omega, by omega⟩, q2⟩
  · by_cases ht : ap = []
    · subst ht
      simp [tup_P2, a1, a2]
      exact ⟨⟨ts ++ [61], [(0, 60)], ⟨by simp, rfl⟩, by simp, by simp⟩, h8⟩
    · obtain ⟨r, p, rfl⟩ : ∃ r p, ap = r ++ [p] := ⟨_, _, (List.dropLast_concat_getLast ht).symm⟩
      have e1 : gIx (.list (r.map P2 ++ [P2 p])) (.int (-1)) = some (.leaf (P2 p)) := by
        show (atI _ (-1 : Int)).map _ = _
        rw [atI_last]
        rfl
      have e3 : upC (.lst (r.map P2 ++ [P2 p])) (.int 0) (P2 p) = some (.lst (((r ++ [p]).set 0 p).map P2)) := by
        rw [show (0 : Int) = ((0 : Nat) : Int) from rfl, upC_l (by simp), List.map_set, List.map_append]
        rfl
      simp [e1, e3]
      exact ⟨⟨ts, (r ++ [p]).set 0 p, ⟨rfl, by simp⟩, by omega, by simp⟩, h8⟩
  · simp
    exact ⟨⟨ts.tail, ap.tail, ⟨by simp, by simp⟩, by simp; omega, by simp; omega⟩, h8⟩
  · simp [tup_P2, a1, a2]
    exact ⟨last, h8⟩
end Y
/-! fewest refreshes: the law -/
namespace Y
open PySem PySem.Spec PyProof.Rows L2
open A80
theorem wins_pos {ws : List Wn} (h : WinsOk ws) : ∀ w ∈ ws, w.1 ≤ w.2 := fun w m => (h w m).2.1
theorem serves_v {ws : List Wn} {ts : List Int} (h1 : ws.length ≤ 1000) (h2 : ts.length ≤ 1000) : out (F_serves [lf (PL ws), lf (IL ts)]) = some (.leaf (.bool (serves ws ts))) := out_go (serves_go h1 h2)
theorem lserves_v {ws : List Wn} {ts : List Int} (h1 : ws.length ≤ 1000) (h2 : ts.length ≤ 1000) : out (F__law_serves [lf (PL ws), lf (IL ts)]) = some (.leaf (.bool (serves ws ts))) := out_go (lserves_go h1 h2)
theorem keeps_v {g : Int} {ts : List Int} (h2 : ts.length ≤ 1000) : out (F_keeps [lf (.int g), lf (IL ts)]) = some (.leaf (.bool (keeps g ts))) := out_go (keeps_go h2)
theorem lkeeps_v {g : Int} {ts : List Int} (h2 : ts.length ≤ 1000) : out (F__law_keeps [lf (.int g), lf (IL ts)]) = some (.leaf (.bool (keeps g ts))) := out_go (lkeeps_go h2)
theorem judge_v {ws : List Wn} {ts : List Int} {ap : List Wn} (h1 : ws.length ≤ 1000) (h2 : ts.length ≤ 1000) (h3 : ap.length ≤ 1000) : out (F_judge_fewest [lf (PL ws), lf (IL ts), lf (PL ap)]) = some (.leaf (.bool (right ws ts ap))) := out_go (judge_go h1 h2 h3)
theorem right_v {ws : List Wn} {ts : List Int} {ap : List Wn} (h1 : ws.length ≤ 1000) (h2 : ts.length ≤ 1000) (h3 : ap.length ≤ 1000) : out (F__law_right [lf (PL ws), lf (IL ts), lf (PL ap)]) = some (.leaf (.bool (right ws ts ap))) := out_go (right_go h1 h2 h3)
theorem fewest_v {ws : List Wn} (h1 : ws.length ≤ 100) : out (F_fewest [lf (PL ws)]) = some (.leaf (.tuple [IL ((greedy ws).map (·.2)), PL (greedy ws)])) := out_go (fewest_go h1)
theorem same_bv (a : Bool) : out (F__law_same [lf (.bool a), lf (.bool a)]) = some (.leaf (.bool true)) := out_go (same_b a 5)
theorem same_lbv (bs : List Bool) (hb : bs.length ≤ 100) : out (F__law_same [lf (.list (bs.map .bool)), lf (.list (bs.map .bool))]) = some (.leaf (.bool true)) := out_go (same_lb bs hb 4)

abbrev env (ns : List Int) (xs : List D) (ws : List Wn) (ts : List Int) (ap : List Wn) (a6 a7 a10 a14 a15 a16 : Option E) : Ev := [some (lf (scr ns)), some (ow (.lst xs)), some (lf (PL ws)), some (lf (PL ws)), some (lf (IL ts)), some (lf (PL ap)), a6, a7, none, none, a10, none, none, none, a14, a15, a16]
theorem p_right {ns : List Int} {xs : List D} {ws : List Wn} {ts : List Int} {ap : List Wn} (h1 : ws.length ≤ 9) (h2 : ts.length ≤ 9) (h3 : ap.length ≤ 9) (hR : right ws ts ap = true) :
    Go (q_law_4 [some (lf (scr ns)), some (ow (.lst xs)), some (ow (.lst (ws.map P2))), some (lf (PL ws)), some (lf (IL ts)), some (lf (PL ap)), none, none, none, none, none, none, none, none, none, none, none])
    (fun c ρ => c = .nx ∧ ρ = env ns xs ws ts ap none none none none none none) := by
  unfold q_law_4
  have e := right_v (ws := ws) (ts := ts) (ap := ap) (by omega) (by omega) (by omega)
  simp [g_callS, e, hR, gNe_pl]

theorem p_late {ns : List Int} {xs : List D} {ws : List Wn} {ts : List Int} {ap : List Wn} (h1 : ws.length ≤ 9) (h2 : ap.length ≤ 9) (hts : ts = ap.map (·.2)) (G : Good ws ap) :
    Go (q_law_5 (env ns xs ws ts ap none none none none none none)) (fun c ρ => c = .nx ∧ ρ = env ns xs ws ts ap none none none none none none) := by
  have hl : ts.length = ap.length := by rw [hts, List.length_map]
  unfold q_law_5
  refine Go_for2 ?_
  simp
  refine ⟨by omega, fun k ρ => ρ = env ns xs ws ts ap none none none none none none, rfl, ?_, fun ρ e => e⟩
  rintro k d ρ hk rfl
  obtain ⟨hkl, rfl⟩ := rangeD_get hk
  have hka : k < ap.length := by omega
  have e0 := ixI hkl
  have et : ts.getD k 0 = ap[k].2 := by subst hts; simp [List.getD, hka]
  rw [et] at e0
  have late : serves ws (ts.set k (ap[k].2 + 1)) = false := by subst hts; exact G.late hka
  have hmem := G.mem ap[k] (List.getElem_mem hka)
  generalize ap[k] = a at e0 late hmem et
  have s1 : gSl (IL ts) none (some (k : Int)) = some (.lst ((ts.take k).map .int)) := by rw [gSl_l, cut_to, List.map_take]
  have s2 : gSl (IL ts) (some ((k : Int) + 1)) none = some (.lst ((ts.drop (k + 1)).map .int)) := by
    rw [show (k : Int) + 1 = ((k + 1 : Nat) : Int) by omega, gSl_l, cut_from, List.map_drop]
  have s3 : gAdd (IL (ts.take k)) (.list [.int (a.2 + 1)]) = some (.lst ((ts.take k ++ [a.2 + 1]).map .int)) := by
    rw [gAdd_l (by simp; omega), List.map_append]; rfl
  have s4 : gAdd (IL (ts.take k ++ [a.2 + 1])) (IL (ts.drop (k + 1))) = some (.lst ((ts.set k (a.2 + 1)).map .int)) := by
    rw [gAdd_l (by simp; omega), ← List.map_append]
    have : ts.take k ++ [a.2 + 1] ++ ts.drop (k + 1) = ts.set k (a.2 + 1) := by
      rw [List.set_eq_take_append_cons_drop, if_pos hkl]
      simp
    rw [this]
  unfold t_law_5b_0 q_law_5b_0 q_law_5b_1 q_law_5b_1i_0
  simp [e0, s1, s2, s3, s4, -List.map_append, -List.map_take, -List.map_drop, -List.map_set]
  refine Go_lcA P2 (fun w => PyData.int w.2) ws ?_
  have em : gNotIn (.int a.2) (.list (ws.map fun w => PyData.int w.2)) = some false := by
    rw [show (ws.map fun w => PyData.int w.2) = (ws.map (·.2)).map PyData.int from by rw [List.map_map]; rfl]
    refine (gNotIn_il (x := a.2) (as := ws.map (·.2))).trans ?_
    have hm : a.2 ∈ ws.map (·.2) := List.mem_map.mpr ⟨a, hmem, rfl⟩
    simp only [hm, decide_true, Bool.not_true]
  have e5 := lserves_v (ws := ws) (ts := ts.set k (a.2 + 1)) (by omega) (by rw [List.length_set]; omega)
  simp [em, g_callS, e5, late, -List.map_set]
  omega
theorem p_ends {ns : List Int} {xs : List D} {ws : List Wn} {ts : List Int} {ap : List Wn} (h1 : ws.length ≤ 9) :
    Go (q_law_6 (env ns xs ws ts ap none none none none none none)) (fun c ρ => c = .nx ∧ ρ = env ns xs ws ts ap none none (some (ow (.lst ((ws.map (·.2)).map .int)))) none none none) := by
  unfold q_law_6
  rw [g_asgS]
  refine Go_lcA P2 (fun w => PyData.int w.2) ws ?_
  simp [Function.comp_def]
  omega
theorem p_one {ns : List Int} {xs : List D} {ws : List Wn} {ts es : List Int} {ap : List Wn} {o : E} (ho : o = ow (.lst (es.map .int)) ∨ o = lf (IL es)) (h1 : ws.length ≤ 9) (h2 : es.length ≤ 9) (hs : 1 < ts.length → ∀ e ∈ es, serves ws [e] = false) :
    Go (q_law_7 (env ns xs ws ts ap none none (some o) none none none)) (fun c ρ => c = .nx ∧ ∃ o, (o = ow (.lst (es.map .int)) ∨ o = lf (IL es)) ∧ ρ = env ns xs ws ts ap none none (some o) none none none) := by
  unfold q_law_7 q_law_7i_0
  simp
  split
  · rename_i hgt
    have hs := hs (by omega)
    refine Go_lcA PyData.int (fun e => .bool (serves ws [e])) es ?_
    have e5 := fun e => lserves_v (ws := ws) (ts := [e]) (by omega) (by simp)
    have ea : gAny [.list (es.map fun e => PyData.bool (serves ws [e]))] = some (.leaf (.bool false)) := by
      rw [any_bl]
      have : es.any (fun e => serves ws [e]) = false := by rw [List.any_eq_false]; intro e he; simp [hs e he]
      rw [this]
    simp only [IL, List.map_cons, List.map_nil] at e5
    rcases ho with rfl | rfl
    · simp [g_callS, e5, ea]
      omega
    · simp [g_callS, e5, ea]
      omega
  · exact ho
theorem p_two {ns : List Int} {xs : List D} {ws : List Wn} {ts es : List Int} {ap : List Wn} {o : E} (ho : o = ow (.lst (es.map .int)) ∨ o = lf (IL es)) (h1 : ws.length ≤ 9) (h2 : es.length ≤ 9) (hs : 2 < ts.length → ∀ e ∈ es, ∀ f ∈ es, serves ws [e, f] = false) :
    Go (q_law_8 (env ns xs ws ts ap none none (some o) none none none)) (fun c ρ => c = .nx ∧ ∃ o, (o = ow (.lst (es.map .int)) ∨ o = lf (IL es)) ∧ ρ = env ns xs ws ts ap none none (some o) none none none) := by
  unfold q_law_8 q_law_8i_0
  simp
  split
  · rename_i hgt
    have hs := hs (by omega)
    refine Go_lcA PyData.int (fun f => .bool (es.any fun e => serves ws [e, f])) es ?_
    have e5 := fun e f => lserves_v (ws := ws) (ts := [e, f]) (by omega) (by simp)
    have ea : gAny [.list (es.map fun f => PyData.bool (es.any fun e => serves ws [e, f]))] = some (.leaf (.bool false)) := by
      rw [any_bl]
      have : es.any (fun f => es.any fun e => serves ws [e, f]) = false := by
        rw [List.any_eq_false]; intro f hf
        simp only [Bool.not_eq_true, List.any_eq_false]
        intro e he
        simp [hs e he f hf]
      rw [this]
    have ei : ∀ f ∈ es, Go (lcE (nmI 10) [12] (gN 12) yesT (callS F__law_serves (aCons (tm (rv 2)) (aCons (tm (dispL (aCons (tm (rv 12)) (aCons (tm (rv 13)) aNil)))) aNil))) [some (lf (scr ns)), some (ow (.lst xs)), some (lf (PL ws)), some (lf (PL ws)), some (lf (IL ts)), some (lf (PL ap)), none, none, none, none, some (lf (IL es)), none, none, some (ow (.leaf (.int f))), none, none, none])
        (fun o ρ => o = .lst (es.map fun e => PyData.bool (serves ws [e, f])) ∧ ρ = [some (lf (scr ns)), some (ow (.lst xs)), some (lf (PL ws)), some (lf (PL ws)), some (lf (IL ts)), some (lf (PL ap)), none, none, none, none, some (lf (IL es)), none, none, some (ow (.leaf (.int f))), none, none, none]) := by
      intro f hf
      refine Go_lcA PyData.int (fun e => .bool (serves ws [e, f])) es ?_
      simp only [IL, List.map_cons, List.map_nil] at e5
      simp [g_callS, e5]
      omega
    have el : ∀ f, gAny [.list (es.map fun e => PyData.bool (serves ws [e, f]))] = some (.leaf (.bool (es.any fun e => serves ws [e, f]))) := fun f => any_bl es
    have fin : Go (nmI 10 [some (lf (scr ns)), some (ow (.lst xs)), some (lf (PL ws)), some (lf (PL ws)), some (lf (IL ts)), some (lf (PL ap)), none, none, none, none, some o, none, none, none, none, none, none]) (fun ds ρ => ds = es.map .int ∧ ρ = [some (lf (scr ns)), some (ow (.lst xs)), some (lf (PL ws)), some (lf (PL ws)), some (lf (IL ts)), some (lf (PL ap)), none, none, none, none, some (lf (IL es)), none, none, none, none, none, none]) := by
      rcases ho with rfl | rfl <;> simp
    refine fin.mono fun ds ρ ⟨e1, e2⟩ => ?_
    subst e1 e2
    refine ⟨rfl, by simp, by omega, fun f hf => ?_, ?_⟩
    · simp
      refine (ei f hf).mono fun o ρ ⟨e1, e2⟩ => ?_
      subst e1 e2
      simp [el]
    · simp [ea]
  · exact ho

theorem Go_drawB {ρ : Ev} {j : Nat} {io : Bool} {xs : List D} {n : Int} {Q : O → Ev → Prop} (h0 : look ρ j = some ⟨io, .lst xs⟩) (hp : PoolOk xs) (h1 : 0 < n) (h2 : n < 2 ^ 62)
    (h : ∀ v ys, 0 ≤ v → v < n → PoolOk ys → Q (.leaf (.int v)) (ρ.set j (some ⟨io, .lst ys⟩))) : Go (callB F__law_draw [.slot j, .tmp (.leaf (.int n))] ρ) Q :=
  Go_lentB h0 rfl ((draw_go xs n hp h1 h2).mono fun o ρ ⟨v, ys, e, h3, h4, h5, h6⟩ => ⟨ys, h5, by subst e; exact h v ys h3 h4 h6⟩)
theorem p_turn {ns : List Int} {xs : List D} {ws : List Wn} {ts es : List Int} {ap : List Wn} {o : E} {k : Nat} (hx : PoolOk xs) (h1 : ws.length ≤ 9) (h2 : ts.length ≤ 9) (h3 : ap.length ≤ 9) (hk : k < 4) :
    Go (t_law_9b_0 (env ns xs ws ts ap (some (lf (.int (k : Int)))) none (some o) none none none)) (fun c ρ => c = .nx ∧ ∃ ys, PoolOk ys ∧ clrs ρ [6, 14, 15, 16] = env ns ys ws ts ap none none (some o) none none none) := by
  unfold t_law_9b_0
  refine Go_seq (fun ρ => ∃ ys us bs, PoolOk ys ∧ us.length ≤ 10 ∧ bs.length ≤ 10 ∧ ρ = env ns ys ws ts ap (some (lf (.int (k : Int)))) none (some o) (some (lf (IL us))) (some (lf (PL bs))) none) ?_ ?_
  · unfold q_law_9b_0
    simp
    split
    · exact ⟨xs, hx, ts, by omega, ap, by omega, rfl, rfl, rfl⟩
    · simp [g_callS]
      refine Go_lentB rfl rfl ((bent_go xs ts ap hx (by omega) (by omega)).mono fun o ρ ⟨⟨us, bs, e, g1, g2⟩, ys, g3, g4⟩ => ⟨ys, g3, ?_⟩)
      subst e
      simp
      exact ⟨ys, g4, us, by omega, bs, by omega, rfl, rfl, rfl⟩
  rintro ρ ⟨ys, us, bs, hy, hu, hb, rfl⟩
  unfold t_law_9b_1
  refine Go_seq (fun ρ => ρ = env ns ys ws ts ap (some (lf (.int (k : Int)))) none (some o) (some (lf (IL us))) (some (lf (PL bs))) none) ?_ ?_
  · unfold q_law_9b_1 q_law_9b_1i_0
    have e1 := judge_v (ws := ws) (ts := us) (ap := bs) (by omega) (by omega) (by omega)
    have e2 := right_v (ws := ws) (ts := us) (ap := bs) (by omega) (by omega) (by omega)
    simp [g_callS, e1, e2, same_bv]
  rintro ρ rfl
  unfold t_law_9b_2
  refine Go_seq (fun ρ => ∃ zs g, PoolOk zs ∧ ρ = env ns zs ws ts ap (some (lf (.int (k : Int)))) none (some o) (some (lf (IL us))) (some (lf (PL bs))) (some (lf (.int g)))) ?_ ?_
  · unfold q_law_9b_2
    simp [g_callS]
    refine Go_drawB rfl hy (by decide) (by decide) fun v zs g1 g2 g3 => ?_
    simp
    exact g3
  rintro ρ ⟨zs, g, hz, rfl⟩
  unfold q_law_9b_3 q_law_9b_3i_0
  have e1 := serves_v (ws := ws) (ts := us) (by omega) (by omega)
  have e2 := lserves_v (ws := ws) (ts := us) (by omega) (by omega)
  have e3 := keeps_v (g := g) (ts := us) (by omega)
  have e4 := lkeeps_v (g := g) (ts := us) (by omega)
  have e5 := same_lbv [serves ws us, keeps g us] (by simp)
  simp only [List.map_cons, List.map_nil] at e5
  simp [g_callS, e1, e2, e3, e4, e5]
  exact hz
theorem p_last {ns : List Int} {xs : List D} {ws : List Wn} {ts es : List Int} {ap : List Wn} {o : E} (h1 : ws.length ≤ 9) (hle : (greedy (ws.drop 1)).length ≤ ts.length) :
    Go (q_law_10 (env ns xs ws ts ap none none (some o) none none none)) (fun c ρ => c = .rt (.leaf (.bool true))) := by
  unfold q_law_10
  have sl : gSl (PL ws) (some 1) none = some (.lst ((ws.drop 1).map P2)) := by
    rw [gSl_l, show (1 : Int) = ((1 : Nat) : Int) from rfl, cut_from, List.map_drop]
  have e := fewest_v (ws := ws.drop 1) (by rw [List.length_drop]; omega)
  simp [g_callS, sl, e, -List.map_drop, -List.drop_one, -List.map_tail]
  omega
theorem law_true (ns : List Int) (hn : ns.length ≤ 63) : ∃ ρ, F_law [lf (scr ns)] = .ok (.leaf (.bool true)) ρ := by
  suffices h : Go (F_law [lf (scr ns)]) (fun o _ => o = .leaf (.bool true)) by
    obtain ⟨o, ρ, e, rfl⟩ := h.ex
    exact ⟨ρ, e⟩
  unfold F_law
  rw [go_fnS_eq]
  unfold f_law t_law_0
  refine Go_seq (fun ρ => ∃ xs, PoolOk xs ∧ ρ = [some (lf (scr ns)), some (ow (.lst xs)), none, none, none, none, none, none, none, none, none, none, none, none, none, none, none]) ?_ ?_
  · unfold q_law_0
    rw [g_asgS]
    refine Go_callG ?_
    simp
    exact (pool_go ns).mono fun o ρ ⟨xs, e, h⟩ => by subst e; exact ⟨xs, h, rfl⟩
  rintro ρ ⟨xs, hx, rfl⟩
  unfold t_law_1
  refine Go_seq (fun ρ => ∃ xs ws, PoolOk xs ∧ ws.length ≤ 9 ∧ WinsOk ws ∧ ρ = [some (lf (scr ns)), some (ow (.lst xs)), some (ow (.lst (ws.map P2))), none, none, none, none, none, none, none, none, none, none, none, none, none, none]) ?_ ?_
  · unfold q_law_1
    rw [g_asgS]
    refine Go_callJ ?_
    simp
    refine Go_callJ ?_
    simp
    refine (pick_go xs [8, 30, 60] hx (by simp) (by simp)).mono fun o ρ ⟨⟨m, hm, e⟩, ys, g1, g2⟩ => ?_
    subst e
    rw [g1]
    simp
    have hm1 : 1 ≤ m ∧ m ≤ 60 := by
      simp at hm
      omega
    refine (wins_go ys m g2 hm1.1 hm1.2).mono fun o ρ ⟨⟨ws, e, hl, hw⟩, zs, q1, q2⟩ => ?_
    subst e
    rw [q1]
    simp
    exact ⟨zs, q2, ws, hl, hw, rfl, rfl⟩
  rintro ρ ⟨xs, ws, hx, hl, hw, rfl⟩
  have pos := wins_pos hw
  have G := greedy_good pos
  have hR : right ws ((greedy ws).map (·.2)) (greedy ws) = true := G.right fun w m => ⟨(hw w m).1, (hw w m).2.2⟩
  have sl : serves ws (ws.map (·.2)) = true := by
    rw [serves_iff]
    intro w m
    exact ⟨w.2, List.mem_map.mpr ⟨w, m, rfl⟩, pos w m, Int.le_refl _⟩
  have hgl : (greedy ws).length ≤ 9 := by
    have := G.need sl
    rw [List.length_map] at this
    omega
  have G1 := greedy_good (ws := ws.drop 1) fun w m => pos w (List.mem_of_mem_drop m)
  have less : (greedy (ws.drop 1)).length ≤ (greedy ws).length := by
    have := G1.need (ts := (greedy ws).map (·.2)) (by
      have h := G.serves
      rw [serves_iff] at h ⊢
      exact fun w m => h w (List.mem_of_mem_drop m))
    rw [List.length_map] at this
    exact this
  generalize hap : greedy ws = ap at G hR hgl less
  have hll : (ap.map (·.2)).length ≤ 9 := by rw [List.length_map]; exact hgl
  unfold t_law_2
  refine Go_seq (fun ρ => ρ = [some (lf (scr ns)), some (ow (.lst xs)), some (ow (.lst (ws.map P2))), some (ow (.lst (ws.map P2))), none, none, none, none, none, none, none, none, none, none, none, none, none]) (by unfold q_law_2; simp) ?_
  rintro ρ rfl
  unfold t_law_3
  refine Go_seq (fun ρ => ρ = [some (lf (scr ns)), some (ow (.lst xs)), some (ow (.lst (ws.map P2))), some (lf (PL ws)), some (lf (IL (ap.map (·.2)))), some (lf (PL ap)), none, none, none, none, none, none, none, none, none, none, none]) ?_ ?_
  · unfold q_law_3
    have e := fewest_v (ws := ws) (by omega)
    rw [hap] at e
    simp [g_callS, e]
  rintro ρ rfl
  generalize hts : ap.map (·.2) = ts at hR hll
  have htl : ts.length = ap.length := by rw [← hts, List.length_map]
  unfold t_law_4
  refine Go_seq _ (p_right (by omega) (by omega) (by omega) hR) ?_
  rintro ρ rfl
  unfold t_law_5
  refine Go_seq _ (p_late (by omega) (by omega) hts.symm G) ?_
  rintro ρ rfl
  unfold t_law_6
  refine Go_seq _ (p_ends (by omega)) ?_
  rintro ρ rfl
  have few : ∀ us : List Int, us.length < ts.length → serves ws us = false := fun us h => by
    rw [Bool.eq_false_iff]
    intro hs
    have := G.need hs
    omega
  have hes : (ws.map (·.2)).length ≤ 9 := by rw [List.length_map]; exact hl
  generalize ws.map (·.2) = es at hes
  unfold t_law_7
  refine Go_seq _ (p_one (es := es) (.inl rfl) (by omega) hes fun h e he => few _ (by simpa using h)) ?_
  rintro ρ ⟨o, ho, rfl⟩
  unfold t_law_8
  refine Go_seq _ (p_two (es := es) ho (by omega) hes fun h e he f hf => few _ (by simpa using h)) ?_
  rintro ρ ⟨o, ho, rfl⟩
  unfold t_law_9
  refine Go_seq (fun ρ => ∃ ys, PoolOk ys ∧ ρ = env ns ys ws ts ap none none (some o) none none none) ?_ ?_
  · unfold q_law_9
    refine Go_for2 ?_
    simp
    refine ⟨fun k ρ => ∃ ys, PoolOk ys ∧ ρ = env ns ys ws ts ap none none (some o) none none none, ⟨xs, hx, rfl⟩, ?_, fun ρ e => e⟩
    rintro k d ρ hk ⟨ys, hy, rfl⟩
    obtain ⟨hkl, rfl⟩ := rangeD_get (n := 4) hk
    simp
    exact p_turn (es := es) hy (by omega) (by omega) (by omega) hkl
  rintro ρ ⟨ys, hy, rfl⟩
  refine (p_last (es := es) hl (by omega)).mono fun c ρ e => ?_
  subst e
  rfl
end Y
namespace Y
open PySem PySem.Spec PyProof.Rows L2
/-! the derivations (printed) -/
def top (i : Nat) : Stmt := PySem.Challenge.pw_screenwise_k80_whole_fewest_refreshes.main.body.getD i (.Pass ⟨0, 0, 0, 0⟩)
section
variable {P : Program} {w : World} {K : PySem.W.Frag} {mg : Str → Option Value} {base : Heap}
abbrev s_serves : Stmt := top 2
theorem sc_serves : FnScope ["windows", "times", "time", "first", "last"] ["windows", "times"] (L2.defScope s_serves) := ⟨rfl, rfl, rfl, by decide +kernel, rfl, by decide +kernel, by decide +kernel⟩
theorem ok_serves {f : Addr} {fd : FuncData} (F : L2.Fun K "serves" "serves" s_serves f fd) (m_all : mg "all" = none) (m_any : mg "any" = none) : FnOk P w K mg base CX0 (0 + 1) f fd ["windows", "times"] (spF K 2 (fnS 2 5 f_serves)) :=
  fn_ok F sc_serves f_serves fun cdv A outer s H E hr => by
    have bd := bd_of (P := P) (w := w) (K := K) (mg := mg) (base := base) (outer := outer) (H := H) (E := E) hr sc_serves.nd
    exact dss_one (ds_ret (de_callB (cr_all bd.calm) does_all rfl m_all rfl (da_cons (db_tm (de_lcN (own := [("first", 3), ("last", 4)]) bd (pv 0) (blkOk_by (by dsimp only [cxOf, Cx.nox, Cx.wish, Cx.blk, envOfC, compEnvC]; (try simp only [relabel_eq]); decide +kernel)) (fun _ _ _ _ _ => cg_tup (Bd.blk bd) (cgs_cons (cg_name (tn (Bd.blk bd) 3) (by decide)) (cgs_cons (cg_name (tn (Bd.blk bd) 4) (by decide)) (cgs_nil)))) (fun _ _ _ _ _ => dts_nil) (fun _ _ _ _ _ => de_callB (cr_any (Bd.blk bd).calm) does_any rfl m_any rfl (da_cons (db_tm (de_lcN (own := [("time", 2)]) (Bd.blk bd) (pv 1) (blkOk_by (by dsimp only [cxOf, Cx.nox, Cx.wish, Cx.blk, envOfC, compEnvC]; (try simp only [relabel_eq]); decide +kernel)) (fun _ _ _ _ _ => cg_name (tn (Bd.blk (Bd.blk bd)) 2) (by decide)) (fun _ _ _ _ _ => dts_nil) (fun _ _ _ _ _ => de_v (dv_chn op_leIS op_leIS does_le does_le (db_var (pv 3)) (db_var (pv 2)) (db_var (pv 4)) rfl)))) (da_nil))))) (da_nil))))
theorem b_serves {f : Addr} {fd : FuncData} (F : L2.Fun K "serves" "serves" s_serves f fd) : Binds K fd ["windows", "times"] [] := F.binds (ps := ["windows", "times"]) fun _ _ _ _ _ _ us hl => match us, hl with | [_, _], _ => rfl
theorem k_serves {f : Addr} {fd : FuncData} (F : L2.Fun K "serves" "serves" s_serves f fd) (hm : mg "serves" = some (.ref f)) (m_all : mg "all" = none) (m_any : mg "any" = none) : Cal P w K mg base 1 "serves" 2 F_serves := cal_mk (ok_serves F m_all m_any) hm F (b_serves F)
abbrev s_keeps : Stmt := top 3
theorem sc_keeps : FnScope ["gap", "times", "at", "time"] ["gap", "times"] (L2.defScope s_keeps) := ⟨rfl, rfl, rfl, by decide +kernel, rfl, by decide +kernel, by decide +kernel⟩
theorem ok_keeps {f : Addr} {fd : FuncData} (F : L2.Fun K "keeps" "keeps" s_keeps f fd) (m_enumerate : mg "enumerate" = none) (c_LAST : ∃ u, mg "LAST" = some u ∧ RelV (.int 60) u) : FnOk P w K mg base CX0 (0 + 1) f fd ["gap", "times"] (spF K 2 (fnS 2 4 f_keeps)) :=
  fn_ok F sc_keeps f_keeps fun cdv A outer s H E hr => by
    have bd := bd_of (P := P) (w := w) (K := K) (mg := mg) (base := base) (outer := outer) (H := H) (E := E) hr sc_keeps.nd
    exact dss_cons (ds_for bd PassesOwn.never [2, 3] (di_enum rfl m_enumerate (da_cons (db_tm (de_var (pv 1))) (da_nil))) (dg_tup bd (dgs_cons (dg_name (tn bd 2)) (dgs_cons (dg_name (tn bd 3)) (dgs_nil)))) (dss_one (ds_if (dw_t (dw_or (dt_not (dt_chn op_leIS op_leIS does_le does_le (db_tm (de_int)) (db_var (pv 3)) (db_tm (de_gint rfl c_LAST)) rfl)) (dw_or1 (dw_t (dw_and (dt_cmp op_gt does_gt (db_var (pv 2)) (db_tm (de_int)) rfl) (dw_and1 (dt_cmp op_ltIS does_lt (db_tm (de_sub (db_var (pv 3)) (db_tm (de_ix bd (db_var (pv 1)) (db_tm (de_sub (db_var (pv 2)) (db_tm (de_int)))) (fun _ _ => rfl))))) (db_var (pv 0)) rfl))))))) (dss_one (ds_ret (de_bl))) (dss_nil))))
         (dss_one (ds_ret (de_bl)))
theorem b_keeps {f : Addr} {fd : FuncData} (F : L2.Fun K "keeps" "keeps" s_keeps f fd) : Binds K fd ["gap", "times"] [] := F.binds (ps := ["gap", "times"]) fun _ _ _ _ _ _ us hl => match us, hl with | [_, _], _ => rfl
theorem k_keeps {f : Addr} {fd : FuncData} (F : L2.Fun K "keeps" "keeps" s_keeps f fd) (hm : mg "keeps" = some (.ref f)) (m_enumerate : mg "enumerate" = none) (c_LAST : ∃ u, mg "LAST" = some u ∧ RelV (.int 60) u) : Cal P w K mg base 1 "keeps" 2 F_keeps := cal_mk (ok_keeps F m_enumerate c_LAST) hm F (b_keeps F)
abbrev s_fewest : Stmt := top 4
theorem sc_fewest : FnScope ["windows", "times", "apart", "last", "first"] ["windows"] (L2.defScope s_fewest) := ⟨rfl, rfl, rfl, by decide +kernel, rfl, by decide +kernel, by decide +kernel⟩
theorem ok_fewest {f : Addr} {fd : FuncData} (F : L2.Fun K "fewest" "fewest" s_fewest f fd) (m_sorted : mg "sorted" = none) : FnOk P w K mg base CX0 (0 + 1) f fd ["windows"] (spF K 1 (fnS 1 5 f_fewest)) :=
  fn_ok F sc_fewest f_fewest fun cdv A outer s H E hr => by
    have bd := bd_of (P := P) (w := w) (K := K) (mg := mg) (base := base) (outer := outer) (H := H) (E := E) hr sc_fewest.nd
    exact dss_cons (ds_asg (de_list (da_nil)) (dg_name (tn bd 1)))
         (dss_cons (ds_asg (de_list (da_nil)) (dg_name (tn bd 2)))
         (dss_cons (ds_for bd PassesOwn.never [3, 4] (di_seq (de_callB (cr_sortD bd) does_sorted rfl m_sorted rfl (da_cons (db_tm (de_lcN (own := [("first", 4), ("last", 3)]) bd (pv 0) (blkOk_by (by dsimp only [cxOf, Cx.nox, Cx.wish, Cx.blk, envOfC, compEnvC]; (try simp only [relabel_eq]); decide +kernel)) (fun _ _ _ _ _ => cg_tup (Bd.blk bd) (cgs_cons (cg_name (tn (Bd.blk bd) 4) (by decide)) (cgs_cons (cg_name (tn (Bd.blk bd) 3) (by decide)) (cgs_nil)))) (fun _ _ _ _ _ => dts_nil) (fun _ _ _ _ _ => de_tuple (da_cons (db_tm (de_var (pv 3))) (da_cons (db_tm (de_var (pv 4))) (da_nil)))))) (da_nil)))) (dg_tup bd (dgs_cons (dg_name (tn bd 3)) (dgs_cons (dg_name (tn bd 4)) (dgs_nil)))) (dss_one (ds_if (dw_t (dw_or (dt_not (dt_b (db_var (pv 1)) (fun _ => rfl))) (dw_or1 (dt_cmp op_ltIS does_lt (db_tm (de_ix bd (db_var (pv 1)) (db_tm (de_neg (db_tm (de_int)))) (fun _ _ => rfl))) (db_var (pv 4)) rfl)))) (dss_cons (ds_expr (dx_append (pv 1) (de_var (pv 3))))
           (dss_one (ds_expr (dx_append (pv 2) (de_tuple (da_cons (db_tm (de_var (pv 4))) (da_cons (db_tm (de_var (pv 3))) (da_nil)))))))) (dss_nil))))
         (dss_one (ds_ret (de_tuple (da_cons (db_tm (de_var (pv 1))) (da_cons (db_tm (de_var (pv 2))) (da_nil))))))))
theorem b_fewest {f : Addr} {fd : FuncData} (F : L2.Fun K "fewest" "fewest" s_fewest f fd) : Binds K fd ["windows"] [] := F.binds (ps := ["windows"]) fun _ _ _ _ _ _ us hl => match us, hl with | [_], _ => rfl
theorem k_fewest {f : Addr} {fd : FuncData} (F : L2.Fun K "fewest" "fewest" s_fewest f fd) (hm : mg "fewest" = some (.ref f)) (m_sorted : mg "sorted" = none) : Cal P w K mg base 1 "fewest" 1 F_fewest := cal_mk (ok_fewest F m_sorted) hm F (b_fewest F)
abbrev s_judge_fewest : Stmt := top 6
theorem sc_judge_fewest : FnScope ["windows", "times", "apart", "at", "first", "last", "low", "high"] ["windows", "times", "apart"] (L2.defScope s_judge_fewest) := ⟨rfl, rfl, rfl, by decide +kernel, rfl, by decide +kernel, by decide +kernel⟩
theorem ok_judge_fewest {f : Addr} {fd : FuncData} (F : L2.Fun K "judge_fewest" "judge_fewest" s_judge_fewest f fd) (m_any : mg "any" = none) (m_enumerate : mg "enumerate" = none) (m_len : mg "len" = none) (c_keeps : Cal P w K mg base 1 "keeps" 2 F_keeps) (c_serves : Cal P w K mg base 1 "serves" 2 F_serves) : FnOk P w K mg base CX0 (1 + 1) f fd ["windows", "times", "apart"] (spF K 3 (fnS 3 8 f_judge_fewest)) :=
  fn_ok F sc_judge_fewest f_judge_fewest fun cdv A outer s H E hr => by
    have bd := bd_of (P := P) (w := w) (K := K) (mg := mg) (base := base) (outer := outer) (H := H) (E := E) hr sc_judge_fewest.nd
    have hkkeeps : 1 ≤ 1 := by decide
    have hkserves : 1 ≤ 1 := by decide
    exact dss_cons (ds_if (dw_t (dw_or (dt_not (dt_b (db_tm (de_call c_keeps hr hkkeeps rfl (da_cons (db_tm (de_int)) (da_cons (db_tm (de_var (pv 1))) (da_nil))) (ar_cons (ar_cons ar_nil)))) (fun _ => rfl))) (dw_or (dt_not (dt_b (db_tm (de_call c_serves hr hkserves rfl (da_cons (db_tm (de_var (pv 0))) (da_cons (db_tm (de_var (pv 1))) (da_nil))) (ar_cons (ar_cons ar_nil)))) (fun _ => rfl))) (dw_or1 (dt_cmp (op_neB bd) does_ne (db_tm (de_callB call_lenA does_lenA rfl m_len rfl (da_cons (db_var (pv 2)) (da_nil)))) (db_tm (de_callB call_lenA does_lenA rfl m_len rfl (da_cons (db_var (pv 1)) (da_nil)))) rfl))))) (dss_one (ds_ret (de_bl))) (dss_nil))
         (dss_cons (ds_for bd PassesOwn.never [3, 4, 5] (di_enum rfl m_enumerate (da_cons (db_tm (de_var (pv 2))) (da_nil))) (dg_tup bd (dgs_cons (dg_name (tn bd 3)) (dgs_cons (dg_tup bd (dgs_cons (dg_name (tn bd 4)) (dgs_cons (dg_name (tn bd 5)) (dgs_nil)))) (dgs_nil)))) (dss_one (ds_if (dw_t (dw_or (dt_cmp (op_notInA bd) does_notIn (db_tm (de_tuple (da_cons (db_tm (de_var (pv 4))) (da_cons (db_tm (de_var (pv 5))) (da_nil))))) (db_var (pv 0)) rfl) (dw_or1 (dt_b (db_tm (de_callB (cr_any bd.calm) does_any rfl m_any rfl (da_cons (db_tm (de_lc (own := [("low", 6), ("high", 7)]) bd (di_seq (de_slice (db_var (pv 2)) (do_none) (do_some (db_var (pv 3))))) (blkOk_by (by dsimp only [cxOf, Cx.nox, Cx.wish, Cx.blk, envOfC, compEnvC]; (try simp only [relabel_eq]); decide +kernel)) (fun _ _ _ _ _ => cg_tup (Bd.blk bd) (cgs_cons (cg_name (tn (Bd.blk bd) 6) (by decide)) (cgs_cons (cg_name (tn (Bd.blk bd) 7) (by decide)) (cgs_nil)))) (fun _ _ _ _ _ => dts_nil) (fun _ _ _ _ _ => de_v (dv_and (dv_cmp op_leIS does_le (db_var (pv 4)) (db_var (pv 7)) rfl) (dv_one (dv_cmp op_leIS does_le (db_var (pv 6)) (db_var (pv 5)) rfl)))))) (da_nil)))) (fun _ => rfl))))) (dss_one (ds_ret (de_bl))) (dss_nil))))
         (dss_one (ds_ret (de_bl))))
theorem b_judge_fewest {f : Addr} {fd : FuncData} (F : L2.Fun K "judge_fewest" "judge_fewest" s_judge_fewest f fd) : Binds K fd ["windows", "times", "apart"] [] := F.binds (ps := ["windows", "times", "apart"]) fun _ _ _ _ _ _ us hl => match us, hl with | [_, _, _], _ => rfl
theorem k_judge_fewest {f : Addr} {fd : FuncData} (F : L2.Fun K "judge_fewest" "judge_fewest" s_judge_fewest f fd) (hm : mg "judge_fewest" = some (.ref f)) (m_any : mg "any" = none) (m_enumerate : mg "enumerate" = none) (m_len : mg "len" = none) (c_keeps : Cal P w K mg base 1 "keeps" 2 F_keeps) (c_serves : Cal P w K mg base 1 "serves" 2 F_serves) : Cal P w K mg base 2 "judge_fewest" 3 F_judge_fewest := cal_mk (ok_judge_fewest F m_any m_enumerate m_len c_keeps c_serves) hm F (b_judge_fewest F)
abbrev s__law_mixed : Stmt := top 8
theorem sc__law_mixed : FnScope ["number", "place", "first", "second", "third"] ["number", "place"] (L2.defScope s__law_mixed) := ⟨rfl, rfl, rfl, by decide +kernel, rfl, by decide +kernel, by decide +kernel⟩
theorem ok__law_mixed {f : Addr} {fd : FuncData} (F : L2.Fun K "_law_mixed" "_law_mixed" s__law_mixed f fd) (m_int : mg "int" = none) : FnOk P w K mg base CX0 (0 + 1) f fd ["number", "place"] (spF K 2 (fnS 2 5 f__law_mixed)) :=
  fn_ok F sc__law_mixed f__law_mixed fun cdv A outer s H E hr => by
    have bd := bd_of (P := P) (w := w) (K := K) (mg := mg) (base := base) (outer := outer) (H := H) (E := E) hr sc__law_mixed.nd
    exact dss_cons (ds_asg (de_mod (db_tm (de_callTy call_int1 does_int rfl m_int rfl (da_cons (db_tm (de_add (db_tm (de_add (db_tm (de_mul (db_var (pv 0)) (db_tm (de_int)))) (db_tm (de_mul (db_var (pv 1)) (db_tm (de_int)))))) (db_tm (de_int)))) (da_nil)))) (db_tm (de_int))) (dg_name (tn bd 2)))
         (dss_cons (ds_asg (de_mod (db_tm (de_callTy call_int1 does_int rfl m_int rfl (da_cons (db_tm (de_add (db_tm (de_add (db_tm (de_mul (db_var (pv 2)) (db_var (pv 2)))) (db_tm (de_mul (db_tm (de_int)) (db_var (pv 2)))))) (db_var (pv 1)))) (da_nil)))) (db_tm (de_int))) (dg_name (tn bd 3)))
         (dss_cons (ds_asg (de_mod (db_tm (de_callTy call_int1 does_int rfl m_int rfl (da_cons (db_tm (de_add (db_tm (de_mul (db_var (pv 3)) (db_var (pv 3)))) (db_var (pv 2)))) (da_nil)))) (db_tm (de_int))) (dg_name (tn bd 4)))
         (dss_one (ds_ret (de_add (db_tm (de_mul (db_var (pv 3)) (db_tm (de_int)))) (db_var (pv 4)))))))
theorem b__law_mixed {f : Addr} {fd : FuncData} (F : L2.Fun K "_law_mixed" "_law_mixed" s__law_mixed f fd) : Binds K fd ["number", "place"] [] := F.binds (ps := ["number", "place"]) fun _ _ _ _ _ _ us hl => match us, hl with | [_, _], _ => rfl
theorem k__law_mixed {f : Addr} {fd : FuncData} (F : L2.Fun K "_law_mixed" "_law_mixed" s__law_mixed f fd) (hm : mg "_law_mixed" = some (.ref f)) (m_int : mg "int" = none) : Cal P w K mg base 1 "_law_mixed" 2 F__law_mixed := cal_mk (ok__law_mixed F m_int) hm F (b__law_mixed F)
abbrev s__law_rest : Stmt := top 9
theorem sc__law_rest : FnScope ["script", "place", "fills", "number"] ["script", "place", "fills"] (L2.defScope s__law_rest) := ⟨rfl, rfl, rfl, by decide +kernel, rfl, by decide +kernel, by decide +kernel⟩
theorem ok__law_rest {f : Addr} {fd : FuncData} (F : L2.Fun K "_law_rest" "_law_rest" s__law_rest f fd) (m_int : mg "int" = none) (m_len : mg "len" = none) (c__law_mixed : Cal P w K mg base 1 "_law_mixed" 2 F__law_mixed) : FnOk P w K mg base CX0 (1 + 1) f fd ["script", "place", "fills"] (spF K 3 (fnS 3 4 f__law_rest)) :=
  fn_ok F sc__law_rest f__law_rest fun cdv A outer s H E hr => by
    have bd := bd_of (P := P) (w := w) (K := K) (mg := mg) (base := base) (outer := outer) (H := H) (E := E) hr sc__law_rest.nd
    have hk_law_mixed : 1 ≤ 1 := by decide
    exact dss_cons (ds_asg (de_int) (dg_name (tn bd 3)))
         (dss_cons (ds_if (dt_cmp op_gt does_gt (db_tm (de_callB call_lenA does_lenA rfl m_len rfl (da_cons (db_var (pv 0)) (da_nil)))) (db_tm (de_int)) rfl) (dss_one (ds_asg (de_callTy call_int1 does_int rfl m_int rfl (da_cons (db_tm (de_ix bd (db_var (pv 0)) (db_tm (de_mod (db_tm (de_callTy call_int1 does_int rfl m_int rfl (da_cons (db_var (pv 1)) (da_nil)))) (db_tm (de_callB call_lenA does_lenA rfl m_len rfl (da_cons (db_var (pv 0)) (da_nil)))))) (fun _ _ => rfl))) (da_nil))) (dg_name (tn bd 3)))) (dss_nil))
         (dss_cons (ds_if (dt_cmp op_ltIS does_lt (db_var (pv 3)) (db_tm (de_int)) rfl) (dss_one (ds_asg (de_sub (db_tm (de_int)) (db_tm (de_mul (db_tm (de_int)) (db_var (pv 3))))) (dg_name (tn bd 3)))) (dss_nil))
         (dss_cons (ds_if (dw_t (dw_and (dt_cmp (op_eqB bd) does_eq (db_var (pv 2)) (db_tm (de_int)) rfl) (dw_and (dt_cmp op_ltIS does_lt (db_var (pv 1)) (db_tm (de_callB call_lenA does_lenA rfl m_len rfl (da_cons (db_var (pv 0)) (da_nil)))) rfl) (dw_and1 (dt_cmp op_ge does_ge (db_var (pv 3)) (db_tm (de_pow (db_tm (de_int)) (db_tm (de_int)))) rfl))))) (dss_one (ds_ret (de_sub (db_var (pv 3)) (db_tm (de_pow (db_tm (de_int)) (db_tm (de_int))))))) (dss_nil))
         (dss_one (ds_ret (de_call c__law_mixed hr hk_law_mixed rfl (da_cons (db_tm (de_add (db_var (pv 3)) (db_tm (de_mul (db_var (pv 2)) (db_tm (de_int)))))) (da_cons (db_tm (de_var (pv 1))) (da_nil))) (ar_cons (ar_cons ar_nil))))))))
theorem b__law_rest {f : Addr} {fd : FuncData} (F : L2.Fun K "_law_rest" "_law_rest" s__law_rest f fd) : Binds K fd ["script", "place", "fills"] [] := F.binds (ps := ["script", "place", "fills"]) fun _ _ _ _ _ _ us hl => match us, hl with | [_, _, _], _ => rfl
theorem k__law_rest {f : Addr} {fd : FuncData} (F : L2.Fun K "_law_rest" "_law_rest" s__law_rest f fd) (hm : mg "_law_rest" = some (.ref f)) (m_int : mg "int" = none) (m_len : mg "len" = none) (c__law_mixed : Cal P w K mg base 1 "_law_mixed" 2 F__law_mixed) : Cal P w K mg base 2 "_law_rest" 3 F__law_rest := cal_mk (ok__law_rest F m_int m_len c__law_mixed) hm F (b__law_rest F)
abbrev s__law_pool : Stmt := top 10
theorem sc__law_pool : FnScope ["script"] ["script"] (L2.defScope s__law_pool) := ⟨rfl, rfl, rfl, by decide +kernel, rfl, by decide +kernel, by decide +kernel⟩
theorem ok__law_pool {f : Addr} {fd : FuncData} (F : L2.Fun K "_law_pool" "_law_pool" s__law_pool f fd) (c__law_rest : Cal P w K mg base 2 "_law_rest" 3 F__law_rest) : FnOk P w K mg base CX0 (2 + 1) f fd ["script"] (spF K 1 (fnS 1 1 f__law_pool)) :=
  fn_ok F sc__law_pool f__law_pool fun cdv A outer s H E hr => by
    have bd := bd_of (P := P) (w := w) (K := K) (mg := mg) (base := base) (outer := outer) (H := H) (E := E) hr sc__law_pool.nd
    have hk_law_rest : 2 ≤ 2 := by decide
    exact dss_one (ds_ret (de_list (da_cons (db_tm (de_var (pv 0))) (da_cons (db_tm (de_int)) (da_cons (db_tm (de_call c__law_rest hr hk_law_rest rfl (da_cons (db_tm (de_var (pv 0))) (da_cons (db_tm (de_int)) (da_cons (db_tm (de_int)) (da_nil)))) (ar_cons (ar_cons (ar_cons ar_nil))))) (da_cons (db_tm (de_int)) (da_nil)))))))
theorem b__law_pool {f : Addr} {fd : FuncData} (F : L2.Fun K "_law_pool" "_law_pool" s__law_pool f fd) : Binds K fd ["script"] [] := F.binds (ps := ["script"]) fun _ _ _ _ _ _ us hl => match us, hl with | [_], _ => rfl
theorem k__law_pool {f : Addr} {fd : FuncData} (F : L2.Fun K "_law_pool" "_law_pool" s__law_pool f fd) (hm : mg "_law_pool" = some (.ref f)) (c__law_rest : Cal P w K mg base 2 "_law_rest" 3 F__law_rest) : Cal P w K mg base 3 "_law_pool" 1 F__law_pool := cal_mk (ok__law_pool F c__law_rest) hm F (b__law_pool F)
abbrev s__law_draw : Stmt := top 11
theorem sc__law_draw : FnScope ["pool", "limit", "value"] ["pool", "limit"] (L2.defScope s__law_draw) := ⟨rfl, rfl, rfl, by decide +kernel, rfl, by decide +kernel, by decide +kernel⟩
theorem ok__law_draw {f : Addr} {fd : FuncData} (F : L2.Fun K "_law_draw" "_law_draw" s__law_draw f fd) (m_int : mg "int" = none) (c__law_rest : Cal P w K mg base 2 "_law_rest" 3 F__law_rest) : FnOk P w K mg base CX0 (2 + 1) f fd ["pool", "limit"] (spF K 2 (fnS 2 3 f__law_draw)) :=
  fn_ok F sc__law_draw f__law_draw fun cdv A outer s H E hr => by
    have bd := bd_of (P := P) (w := w) (K := K) (mg := mg) (base := base) (outer := outer) (H := H) (E := E) hr sc__law_draw.nd
    have hk_law_rest : 2 ≤ 2 := by decide
    exact dss_cons (ds_if (dt_cmp op_leIS does_le (db_tm (de_ix bd (db_var (pv 0)) (db_tm (de_int)) (fun _ _ => rfl))) (db_tm (de_int)) rfl) (dss_cons (ds_asg (de_add (db_tm (de_ix bd (db_var (pv 0)) (db_tm (de_int)) (fun _ _ => rfl))) (db_tm (de_int))) (dg_sub bd (pv 0) (db_tm (de_int))))
          (dss_one (ds_asg (de_call c__law_rest hr hk_law_rest rfl (da_cons (db_tm (de_ix bd (db_var (pv 0)) (db_tm (de_int)) (fun _ _ => rfl))) (da_cons (db_tm (de_ix bd (db_var (pv 0)) (db_tm (de_int)) (fun _ _ => rfl))) (da_cons (db_tm (de_ix bd (db_var (pv 0)) (db_tm (de_int)) (fun _ _ => rfl))) (da_nil)))) (ar_cons (ar_cons (ar_cons ar_nil)))) (dg_sub bd (pv 0) (db_tm (de_int)))))) (dss_nil))
         (dss_cons (ds_asg (de_mod (db_tm (de_callTy call_int1 does_int rfl m_int rfl (da_cons (db_tm (de_ix bd (db_var (pv 0)) (db_tm (de_int)) (fun _ _ => rfl))) (da_nil)))) (db_var (pv 1))) (dg_name (tn bd 2)))
         (dss_cons (ds_asg (de_div (db_tm (de_callTy call_int1 does_int rfl m_int rfl (da_cons (db_tm (de_ix bd (db_var (pv 0)) (db_tm (de_int)) (fun _ _ => rfl))) (da_nil)))) (db_var (pv 1))) (dg_sub bd (pv 0) (db_tm (de_int))))
         (dss_one (ds_ret (de_mv (pv 2))))))
theorem b__law_draw {f : Addr} {fd : FuncData} (F : L2.Fun K "_law_draw" "_law_draw" s__law_draw f fd) : Binds K fd ["pool", "limit"] [] := F.binds (ps := ["pool", "limit"]) fun _ _ _ _ _ _ us hl => match us, hl with | [_, _], _ => rfl
theorem k__law_draw {f : Addr} {fd : FuncData} (F : L2.Fun K "_law_draw" "_law_draw" s__law_draw f fd) (hm : mg "_law_draw" = some (.ref f)) (m_int : mg "int" = none) (c__law_rest : Cal P w K mg base 2 "_law_rest" 3 F__law_rest) : Cal P w K mg base 3 "_law_draw" 2 F__law_draw := cal_mk (ok__law_draw F m_int c__law_rest) hm F (b__law_draw F)
abbrev s__law_pick : Stmt := top 12
theorem sc__law_pick : FnScope ["pool", "options"] ["pool", "options"] (L2.defScope s__law_pick) := ⟨rfl, rfl, rfl, by decide +kernel, rfl, by decide +kernel, by decide +kernel⟩
theorem ok__law_pick {f : Addr} {fd : FuncData} (F : L2.Fun K "_law_pick" "_law_pick" s__law_pick f fd) (m_len : mg "len" = none) (c__law_draw : Cal P w K mg base 3 "_law_draw" 2 F__law_draw) : FnOk P w K mg base CX0 (3 + 1) f fd ["pool", "options"] (spF K 2 (fnS 2 2 f__law_pick)) :=
  fn_ok F sc__law_pick f__law_pick fun cdv A outer s H E hr => by
    have bd := bd_of (P := P) (w := w) (K := K) (mg := mg) (base := base) (outer := outer) (H := H) (E := E) hr sc__law_pick.nd
    have hk_law_draw : 3 ≤ 3 := by decide
    exact dss_one (ds_ret (de_ix bd (db_var (pv 1)) (db_tm (de_call c__law_draw hr hk_law_draw rfl (da_cons (db_var (pv 0)) (da_cons (db_tm (de_callB call_lenA does_lenA rfl m_len rfl (da_cons (db_var (pv 1)) (da_nil)))) (da_nil))) (ar_cons (ar_cons ar_nil)))) (fun _ _ => rfl)))
theorem b__law_pick {f : Addr} {fd : FuncData} (F : L2.Fun K "_law_pick" "_law_pick" s__law_pick f fd) : Binds K fd ["pool", "options"] [] := F.binds (ps := ["pool", "options"]) fun _ _ _ _ _ _ us hl => match us, hl with | [_, _], _ => rfl
theorem k__law_pick {f : Addr} {fd : FuncData} (F : L2.Fun K "_law_pick" "_law_pick" s__law_pick f fd) (hm : mg "_law_pick" = some (.ref f)) (m_len : mg "len" = none) (c__law_draw : Cal P w K mg base 3 "_law_draw" 2 F__law_draw) : Cal P w K mg base 4 "_law_pick" 2 F__law_pick := cal_mk (ok__law_pick F m_len c__law_draw) hm F (b__law_pick F)
abbrev s__law_same : Stmt := top 13
theorem sc__law_same : FnScope ["answer", "due", "key", "k"] ["answer", "due"] (L2.defScope s__law_same) := ⟨rfl, rfl, rfl, by decide +kernel, rfl, by decide +kernel, by decide +kernel⟩
theorem ok__law_same {f : Addr} {fd : FuncData} (F : L2.Fun K "_law_same" "_law_same" s__law_same f fd) (m_all : mg "all" = none) (m_bool : mg "bool" = none) (m_dict : mg "dict" = none) (m_int : mg "int" = none) (m_isinstance : mg "isinstance" = none) (m_len : mg "len" = none) (m_list : mg "list" = none) (m_range : mg "range" = none) (m_str : mg "str" = none) (m_tuple : mg "tuple" = none) {k : Nat} {R : Fn} (cR : Cal P w K mg base k "_law_same" 2 R) : FnOk P w K mg base CX0 (k + 1) f fd ["answer", "due"] (spF K 2 (fnS 2 4 (f__law_same R))) :=
  fn_ok F sc__law_same (f__law_same R) fun cdv A outer s H E hr => by
    have bd := bd_of (P := P) (w := w) (K := K) (mg := mg) (base := base) (outer := outer) (H := H) (E := E) hr sc__law_same.nd
    exact dss_cons (ds_if (dt_v (dv_isi rfl m_isinstance (db_var (pv 1)) rfl m_dict rfl) (fun _ => rfl)) (dss_cons (ds_if (dw_t (dw_or (dt_not (dt_v (dv_isi rfl m_isinstance (db_var (pv 0)) rfl m_dict rfl) (fun _ => rfl))) (dw_or1 (dt_cmp (op_neB bd) does_ne (db_tm (de_callB call_lenA does_lenA rfl m_len rfl (da_cons (db_var (pv 0)) (da_nil)))) (db_tm (de_callB call_lenA does_lenA rfl m_len rfl (da_cons (db_var (pv 1)) (da_nil)))) rfl)))) (dss_one (ds_ret (de_bl))) (dss_nil))
          (dss_one (ds_ret (de_callB (cr_all bd.calm) does_all rfl m_all rfl (da_cons (db_tm (de_lcN (own := [("key", 2)]) bd (pv 1) (blkOk_by (by dsimp only [cxOf, Cx.nox, Cx.wish, Cx.blk, envOfC, compEnvC]; (try simp only [relabel_eq]); decide +kernel)) (fun _ _ _ _ _ => cg_name (tn (Bd.blk bd) 2) (by decide)) (fun _ _ _ _ _ => dts_nil) (fun _ _ _ _ _ => de_v (dv_and (dv_cmp (op_inA (Bd.blk bd)) does_in (db_var (pv 2)) (db_var (pv 0)) rfl) (dv_one (dv_e (de_call cR hr (Nat.le_refl _) rfl (da_cons (db_tm (de_ix (Bd.blk bd) (db_var (pv 0)) (db_var (pv 2)) (fun _ _ => rfl))) (da_cons (db_tm (de_ix (Bd.blk bd) (db_var (pv 1)) (db_var (pv 2)) (fun _ _ => rfl))) (da_nil))) (ar_cons (ar_cons ar_nil))))))))) (da_nil)))))) (dss_nil))
         (dss_cons (ds_if (dw_t (dw_or (dt_v (dv_isi rfl m_isinstance (db_var (pv 1)) rfl m_list rfl) (fun _ => rfl)) (dw_or1 (dt_v (dv_isi rfl m_isinstance (db_var (pv 1)) rfl m_tuple rfl) (fun _ => rfl))))) (dss_cons (ds_if (dw_t (dw_or (dt_cmp (op_neB bd) does_ne (db_tm (de_v (dv_isi rfl m_isinstance (db_var (pv 1)) rfl m_list rfl))) (db_tm (de_v (dv_isi rfl m_isinstance (db_var (pv 0)) rfl m_list rfl))) rfl) (dw_or1 (dt_cmp (op_neB bd) does_ne (db_tm (de_v (dv_isi rfl m_isinstance (db_var (pv 1)) rfl m_tuple rfl))) (db_tm (de_v (dv_isi rfl m_isinstance (db_var (pv 0)) rfl m_tuple rfl))) rfl)))) (dss_one (ds_ret (de_bl))) (dss_nil))
          (dss_one (ds_ret (de_v (dv_and (dv_cmp (op_eqB bd) does_eq (db_tm (de_callB call_lenA does_lenA rfl m_len rfl (da_cons (db_var (pv 0)) (da_nil)))) (db_tm (de_callB call_lenA does_lenA rfl m_len rfl (da_cons (db_var (pv 1)) (da_nil)))) rfl) (dv_one (dv_e (de_callB (cr_all bd.calm) does_all rfl m_all rfl (da_cons (db_tm (de_lc (own := [("k", 3)]) bd (di_rng1 rfl m_range (da_cons (db_tm (de_callB call_lenA does_lenA rfl m_len rfl (da_cons (db_var (pv 1)) (da_nil)))) (da_nil))) (blkOk_by (by dsimp only [cxOf, Cx.nox, Cx.wish, Cx.blk, envOfC, compEnvC]; (try simp only [relabel_eq]); decide +kernel)) (fun _ _ _ _ _ => cg_name (tn (Bd.blk bd) 3) (by decide)) (fun _ _ _ _ _ => dts_nil) (fun _ _ _ _ _ => de_call cR hr (Nat.le_refl _) rfl (da_cons (db_tm (de_ix (Bd.blk bd) (db_var (pv 0)) (db_var (pv 3)) (fun _ _ => rfl))) (da_cons (db_tm (de_ix (Bd.blk bd) (db_var (pv 1)) (db_var (pv 3)) (fun _ _ => rfl))) (da_nil))) (ar_cons (ar_cons ar_nil))))) (da_nil)))))))))) (dss_nil))
         (dss_cons (ds_if (dt_v (dv_isi rfl m_isinstance (db_var (pv 1)) rfl m_str rfl) (fun _ => rfl)) (dss_one (ds_ret (de_v (dv_and (dv_isi rfl m_isinstance (db_var (pv 0)) rfl m_str rfl) (dv_one (dv_cmp (op_eqB bd) does_eq (db_var (pv 0)) (db_var (pv 1)) rfl)))))) (dss_nil))
         (dss_cons (ds_if (dw_t (dw_or (dt_cmp op_isC does_is (db_var (pv 1)) (db_tm (de_non)) rfl) (dw_or (dt_cmp op_isC does_is (db_var (pv 1)) (db_tm (de_bl)) rfl) (dw_or1 (dt_cmp op_isC does_is (db_var (pv 1)) (db_tm (de_bl)) rfl))))) (dss_one (ds_ret (de_v (dv_or (dv_and (dv_cmp op_isC does_is (db_var (pv 1)) (db_tm (de_non)) rfl) (dv_one (dv_cmp op_isC does_is (db_var (pv 0)) (db_tm (de_non)) rfl))) (dv_or (dv_and (dv_cmp op_isC does_is (db_var (pv 1)) (db_tm (de_bl)) rfl) (dv_one (dv_cmp op_isC does_is (db_var (pv 0)) (db_tm (de_bl)) rfl))) (dv_one (dv_and (dv_cmp op_isC does_is (db_var (pv 1)) (db_tm (de_bl)) rfl) (dv_one (dv_cmp op_isC does_is (db_var (pv 0)) (db_tm (de_bl)) rfl))))))))) (dss_nil))
         (dss_one (ds_ret (de_v (dv_and (dv_isi rfl m_isinstance (db_var (pv 0)) rfl m_int rfl) (dv_and (dv_not (dv_isi rfl m_isinstance (db_var (pv 0)) rfl m_bool rfl)) (dv_one (dv_cmp (op_eqB bd) does_eq (db_var (pv 0)) (db_var (pv 1)) rfl))))))))))
theorem b__law_same {f : Addr} {fd : FuncData} (F : L2.Fun K "_law_same" "_law_same" s__law_same f fd) : Binds K fd ["answer", "due"] [] := F.binds (ps := ["answer", "due"]) fun _ _ _ _ _ _ us hl => match us, hl with | [_, _], _ => rfl
theorem n__law_same {f : Addr} {fd : FuncData} (F : L2.Fun K "_law_same" "_law_same" s__law_same f fd) (hm : mg "_law_same" = some (.ref f)) (m_all : mg "all" = none) (m_bool : mg "bool" = none) (m_dict : mg "dict" = none) (m_int : mg "int" = none) (m_isinstance : mg "isinstance" = none) (m_len : mg "len" = none) (m_list : mg "list" = none) (m_range : mg "range" = none) (m_str : mg "str" = none) (m_tuple : mg "tuple" = none) : ∀ k : Nat, FnOk P w K mg base CX0 (1 + k) f fd ["answer", "due"] (spF K 2 (N__law_same k))
  | 0 => fn_stk
  | k + 1 => ok__law_same F m_all m_bool m_dict m_int m_isinstance m_len m_list m_range m_str m_tuple (cal_mk (n__law_same F hm m_all m_bool m_dict m_int m_isinstance m_len m_list m_range m_str m_tuple k) hm F (b__law_same F))
theorem k__law_same {f : Addr} {fd : FuncData} (F : L2.Fun K "_law_same" "_law_same" s__law_same f fd) (hm : mg "_law_same" = some (.ref f)) (m_all : mg "all" = none) (m_bool : mg "bool" = none) (m_dict : mg "dict" = none) (m_int : mg "int" = none) (m_isinstance : mg "isinstance" = none) (m_len : mg "len" = none) (m_list : mg "list" = none) (m_range : mg "range" = none) (m_str : mg "str" = none) (m_tuple : mg "tuple" = none) : Cal P w K mg base 7 "_law_same" 2 F__law_same := cal_mk (n__law_same F hm m_all m_bool m_dict m_int m_isinstance m_len m_list m_range m_str m_tuple 6) hm F (b__law_same F)
abbrev s__law_serves : Stmt := top 14
theorem sc__law_serves : FnScope ["windows", "times", "time", "first", "last"] ["windows", "times"] (L2.defScope s__law_serves) := ⟨rfl, rfl, rfl, by decide +kernel, rfl, by decide +kernel, by decide +kernel⟩
theorem ok__law_serves {f : Addr} {fd : FuncData} (F : L2.Fun K "_law_serves" "_law_serves" s__law_serves f fd) (m_all : mg "all" = none) (m_any : mg "any" = none) : FnOk P w K mg base CX0 (0 + 1) f fd ["windows", "times"] (spF K 2 (fnS 2 5 f__law_serves)) :=
  fn_ok F sc__law_serves f__law_serves fun cdv A outer s H E hr => by
    have bd := bd_of (P := P) (w := w) (K := K) (mg := mg) (base := base) (outer := outer) (H := H) (E := E) hr sc__law_serves.nd
    exact dss_one (ds_ret (de_callB (cr_all bd.calm) does_all rfl m_all rfl (da_cons (db_tm (de_lcN (own := [("first", 3), ("last", 4)]) bd (pv 0) (blkOk_by (by dsimp only [cxOf, Cx.nox, Cx.wish, Cx.blk, envOfC, compEnvC]; (try simp only [relabel_eq]); decide +kernel)) (fun _ _ _ _ _ => cg_tup (Bd.blk bd) (cgs_cons (cg_name (tn (Bd.blk bd) 3) (by decide)) (cgs_cons (cg_name (tn (Bd.blk bd) 4) (by decide)) (cgs_nil)))) (fun _ _ _ _ _ => dts_nil) (fun _ _ _ _ _ => de_callB (cr_any (Bd.blk bd).calm) does_any rfl m_any rfl (da_cons (db_tm (de_lcN (own := [("time", 2)]) (Bd.blk bd) (pv 1) (blkOk_by (by dsimp only [cxOf, Cx.nox, Cx.wish, Cx.blk, envOfC, compEnvC]; (try simp only [relabel_eq]); decide +kernel)) (fun _ _ _ _ _ => cg_name (tn (Bd.blk (Bd.blk bd)) 2) (by decide)) (fun _ _ _ _ _ => dts_nil) (fun _ _ _ _ _ => de_v (dv_chn op_leIS op_leIS does_le does_le (db_var (pv 3)) (db_var (pv 2)) (db_var (pv 4)) rfl)))) (da_nil))))) (da_nil))))
theorem b__law_serves {f : Addr} {fd : FuncData} (F : L2.Fun K "_law_serves" "_law_serves" s__law_serves f fd) : Binds K fd ["windows", "times"] [] := F.binds (ps := ["windows", "times"]) fun _ _ _ _ _ _ us hl => match us, hl with | [_, _], _ => rfl
theorem k__law_serves {f : Addr} {fd : FuncData} (F : L2.Fun K "_law_serves" "_law_serves" s__law_serves f fd) (hm : mg "_law_serves" = some (.ref f)) (m_all : mg "all" = none) (m_any : mg "any" = none) : Cal P w K mg base 1 "_law_serves" 2 F__law_serves := cal_mk (ok__law_serves F m_all m_any) hm F (b__law_serves F)
abbrev s__law_keeps : Stmt := top 15
theorem sc__law_keeps : FnScope ["gap", "times", "k"] ["gap", "times"] (L2.defScope s__law_keeps) := ⟨rfl, rfl, rfl, by decide +kernel, rfl, by decide +kernel, by decide +kernel⟩
theorem ok__law_keeps {f : Addr} {fd : FuncData} (F : L2.Fun K "_law_keeps" "_law_keeps" s__law_keeps f fd) (m_len : mg "len" = none) (m_range : mg "range" = none) : FnOk P w K mg base CX0 (0 + 1) f fd ["gap", "times"] (spF K 2 (fnS 2 3 f__law_keeps)) :=
  fn_ok F sc__law_keeps f__law_keeps fun cdv A outer s H E hr => by
    have bd := bd_of (P := P) (w := w) (K := K) (mg := mg) (base := base) (outer := outer) (H := H) (E := E) hr sc__law_keeps.nd
    exact dss_cons (ds_for bd PassesOwn.never [2] (di_rng1 rfl m_range (da_cons (db_tm (de_callB call_lenA does_lenA rfl m_len rfl (da_cons (db_var (pv 1)) (da_nil)))) (da_nil))) (dg_name (tn bd 2)) (dss_one (ds_if (dw_t (dw_or (dt_not (dt_chn op_leIS op_leIS does_le does_le (db_tm (de_int)) (db_tm (de_ix bd (db_var (pv 1)) (db_var (pv 2)) (fun _ _ => rfl))) (db_tm (de_int)) rfl)) (dw_or1 (dw_t (dw_and (dt_cmp op_gt does_gt (db_var (pv 2)) (db_tm (de_int)) rfl) (dw_and1 (dt_cmp op_ltIS does_lt (db_tm (de_sub (db_tm (de_ix bd (db_var (pv 1)) (db_var (pv 2)) (fun _ _ => rfl))) (db_tm (de_ix bd (db_var (pv 1)) (db_tm (de_sub (db_var (pv 2)) (db_tm (de_int)))) (fun _ _ => rfl))))) (db_var (pv 0)) rfl))))))) (dss_one (ds_ret (de_bl))) (dss_nil))))
         (dss_one (ds_ret (de_bl)))
theorem b__law_keeps {f : Addr} {fd : FuncData} (F : L2.Fun K "_law_keeps" "_law_keeps" s__law_keeps f fd) : Binds K fd ["gap", "times"] [] := F.binds (ps := ["gap", "times"]) fun _ _ _ _ _ _ us hl => match us, hl with | [_, _], _ => rfl
theorem k__law_keeps {f : Addr} {fd : FuncData} (F : L2.Fun K "_law_keeps" "_law_keeps" s__law_keeps f fd) (hm : mg "_law_keeps" = some (.ref f)) (m_len : mg "len" = none) (m_range : mg "range" = none) : Cal P w K mg base 1 "_law_keeps" 2 F__law_keeps := cal_mk (ok__law_keeps F m_len m_range) hm F (b__law_keeps F)
abbrev s__law_right : Stmt := top 16
theorem sc__law_right : FnScope ["windows", "times", "apart", "k", "at"] ["windows", "times", "apart"] (L2.defScope s__law_right) := ⟨rfl, rfl, rfl, by decide +kernel, rfl, by decide +kernel, by decide +kernel⟩
theorem ok__law_right {f : Addr} {fd : FuncData} (F : L2.Fun K "_law_right" "_law_right" s__law_right f fd) (m_any : mg "any" = none) (m_len : mg "len" = none) (m_range : mg "range" = none) (c__law_keeps : Cal P w K mg base 1 "_law_keeps" 2 F__law_keeps) (c__law_serves : Cal P w K mg base 1 "_law_serves" 2 F__law_serves) : FnOk P w K mg base CX0 (1 + 1) f fd ["windows", "times", "apart"] (spF K 3 (fnS 3 5 f__law_right)) :=
  fn_ok F sc__law_right f__law_right fun cdv A outer s H E hr => by
    have bd := bd_of (P := P) (w := w) (K := K) (mg := mg) (base := base) (outer := outer) (H := H) (E := E) hr sc__law_right.nd
    have hk_law_keeps : 1 ≤ 1 := by decide
    have hk_law_serves : 1 ≤ 1 := by decide
    exact dss_cons (ds_if (dw_t (dw_or (dt_not (dt_b (db_tm (de_call c__law_keeps hr hk_law_keeps rfl (da_cons (db_tm (de_int)) (da_cons (db_tm (de_var (pv 1))) (da_nil))) (ar_cons (ar_cons ar_nil)))) (fun _ => rfl))) (dw_or (dt_not (dt_b (db_tm (de_call c__law_serves hr hk_law_serves rfl (da_cons (db_tm (de_var (pv 0))) (da_cons (db_tm (de_var (pv 1))) (da_nil))) (ar_cons (ar_cons ar_nil)))) (fun _ => rfl))) (dw_or1 (dt_cmp (op_neB bd) does_ne (db_tm (de_callB call_lenA does_lenA rfl m_len rfl (da_cons (db_var (pv 2)) (da_nil)))) (db_tm (de_callB call_lenA does_lenA rfl m_len rfl (da_cons (db_var (pv 1)) (da_nil)))) rfl))))) (dss_one (ds_ret (de_bl))) (dss_nil))
         (dss_cons (ds_for bd PassesOwn.never [3] (di_rng1 rfl m_range (da_cons (db_tm (de_callB call_lenA does_lenA rfl m_len rfl (da_cons (db_var (pv 2)) (da_nil)))) (da_nil))) (dg_name (tn bd 3)) (dss_cons (ds_if (dt_cmp (op_notInA bd) does_notIn (db_tm (de_ix bd (db_var (pv 2)) (db_var (pv 3)) (fun _ _ => rfl))) (db_var (pv 0)) rfl) (dss_one (ds_ret (de_bl))) (dss_nil))
          (dss_one (ds_if (dt_b (db_tm (de_callB (cr_any bd.calm) does_any rfl m_any rfl (da_cons (db_tm (de_lc (own := [("at", 4)]) bd (di_rng1 rfl m_range (da_cons (db_var (pv 3)) (da_nil))) (blkOk_by (by dsimp only [cxOf, Cx.nox, Cx.wish, Cx.blk, envOfC, compEnvC]; (try simp only [relabel_eq]); decide +kernel)) (fun _ _ _ _ _ => cg_name (tn (Bd.blk bd) 4) (by decide)) (fun _ _ _ _ _ => dts_nil) (fun _ _ _ _ _ => de_v (dv_and (dv_cmp op_leIS does_le (db_tm (de_ix (Bd.blk bd) (db_tm (de_ix (Bd.blk bd) (db_var (pv 2)) (db_var (pv 3)) (fun _ _ => rfl))) (db_tm (de_int)) (fun _ _ => rfl))) (db_tm (de_ix (Bd.blk bd) (db_tm (de_ix (Bd.blk bd) (db_var (pv 2)) (db_var (pv 4)) (fun _ _ => rfl))) (db_tm (de_int)) (fun _ _ => rfl))) rfl) (dv_one (dv_cmp op_leIS does_le (db_tm (de_ix (Bd.blk bd) (db_tm (de_ix (Bd.blk bd) (db_var (pv 2)) (db_var (pv 4)) (fun _ _ => rfl))) (db_tm (de_int)) (fun _ _ => rfl))) (db_tm (de_ix (Bd.blk bd) (db_tm (de_ix (Bd.blk bd) (db_var (pv 2)) (db_var (pv 3)) (fun _ _ => rfl))) (db_tm (de_int)) (fun _ _ => rfl))) rfl)))))) (da_nil)))) (fun _ => rfl)) (dss_one (ds_ret (de_bl))) (dss_nil)))))
         (dss_one (ds_ret (de_bl))))
theorem b__law_right {f : Addr} {fd : FuncData} (F : L2.Fun K "_law_right" "_law_right" s__law_right f fd) : Binds K fd ["windows", "times", "apart"] [] := F.binds (ps := ["windows", "times", "apart"]) fun _ _ _ _ _ _ us hl => match us, hl with | [_, _, _], _ => rfl
theorem k__law_right {f : Addr} {fd : FuncData} (F : L2.Fun K "_law_right" "_law_right" s__law_right f fd) (hm : mg "_law_right" = some (.ref f)) (m_any : mg "any" = none) (m_len : mg "len" = none) (m_range : mg "range" = none) (c__law_keeps : Cal P w K mg base 1 "_law_keeps" 2 F__law_keeps) (c__law_serves : Cal P w K mg base 1 "_law_serves" 2 F__law_serves) : Cal P w K mg base 2 "_law_right" 3 F__law_right := cal_mk (ok__law_right F m_any m_len m_range c__law_keeps c__law_serves) hm F (b__law_right F)
abbrev s__law_windows_drawn : Stmt := top 17
theorem sc__law_windows_drawn : FnScope ["pool", "many", "most", "found", "k", "first"] ["pool", "many", "most"] (L2.defScope s__law_windows_drawn) := ⟨rfl, rfl, rfl, by decide +kernel, rfl, by decide +kernel, by decide +kernel⟩
theorem ok__law_windows_drawn {f : Addr} {fd : FuncData} (F : L2.Fun K "_law_windows_drawn" "_law_windows_drawn" s__law_windows_drawn f fd) (m_min : mg "min" = none) (m_range : mg "range" = none) (c__law_draw : Cal P w K mg base 3 "_law_draw" 2 F__law_draw) (c__law_pick : Cal P w K mg base 4 "_law_pick" 2 F__law_pick) : FnOk P w K mg base CX0 (4 + 1) f fd ["pool", "many", "most"] (spF K 3 (fnS 3 6 f__law_windows_drawn)) :=
  fn_ok F sc__law_windows_drawn f__law_windows_drawn fun cdv A outer s H E hr => by
    have bd := bd_of (P := P) (w := w) (K := K) (mg := mg) (base := base) (outer := outer) (H := H) (E := E) hr sc__law_windows_drawn.nd
    have hk_law_draw : 3 ≤ 4 := by decide
    have hk_law_pick : 4 ≤ 4 := by decide
    exact dss_cons (ds_asg (de_list (da_nil)) (dg_name (tn bd 3)))
         (dss_cons (ds_for bd PassesOwn.never [4, 5] (di_rng1 rfl m_range (da_cons (db_tm (de_call c__law_draw hr hk_law_draw rfl (da_cons (db_var (pv 0)) (da_cons (db_tm (de_add (db_var (pv 1)) (db_tm (de_int)))) (da_nil))) (ar_cons (ar_cons ar_nil)))) (da_nil))) (dg_name (tn bd 4)) (dss_cons (ds_asg (de_call c__law_draw hr hk_law_draw rfl (da_cons (db_var (pv 0)) (da_cons (db_tm (de_var (pv 2))) (da_nil))) (ar_cons (ar_cons ar_nil))) (dg_name (tn bd 5)))
          (dss_one (ds_expr (dx_append (pv 3) (de_tuple (da_cons (db_tm (de_var (pv 5))) (da_cons (db_tm (de_callB (cr_minG bd) does_minI rfl m_min rfl (da_cons (db_tm (de_add (db_var (pv 5)) (db_tm (de_call c__law_draw hr hk_law_draw rfl (da_cons (db_var (pv 0)) (da_cons (db_tm (de_call c__law_pick hr hk_law_pick rfl (da_cons (db_var (pv 0)) (da_cons (db_tm (de_list (da_cons (db_tm (de_int)) (da_cons (db_tm (de_int)) (da_cons (db_tm (de_var (pv 2))) (da_nil)))))) (da_nil))) (ar_cons (ar_cons ar_nil)))) (da_nil))) (ar_cons (ar_cons ar_nil)))))) (da_cons (db_tm (de_int)) (da_nil))))) (da_nil)))))))))
         (dss_one (ds_ret (de_mv (pv 3)))))
theorem b__law_windows_drawn {f : Addr} {fd : FuncData} (F : L2.Fun K "_law_windows_drawn" "_law_windows_drawn" s__law_windows_drawn f fd) : Binds K fd ["pool", "many", "most"] [] := F.binds (ps := ["pool", "many", "most"]) fun _ _ _ _ _ _ us hl => match us, hl with | [_, _, _], _ => rfl
theorem k__law_windows_drawn {f : Addr} {fd : FuncData} (F : L2.Fun K "_law_windows_drawn" "_law_windows_drawn" s__law_windows_drawn f fd) (hm : mg "_law_windows_drawn" = some (.ref f)) (m_min : mg "min" = none) (m_range : mg "range" = none) (c__law_draw : Cal P w K mg base 3 "_law_draw" 2 F__law_draw) (c__law_pick : Cal P w K mg base 4 "_law_pick" 2 F__law_pick) : Cal P w K mg base 5 "_law_windows_drawn" 3 F__law_windows_drawn := cal_mk (ok__law_windows_drawn F m_min m_range c__law_draw c__law_pick) hm F (b__law_windows_drawn F)
abbrev s__law_bent : Stmt := top 18
theorem sc__law_bent : FnScope ["pool", "times", "apart", "way", "at"] ["pool", "times", "apart"] (L2.defScope s__law_bent) := ⟨rfl, rfl, rfl, by decide +kernel, rfl, by decide +kernel, by decide +kernel⟩
theorem ok__law_bent {f : Addr} {fd : FuncData} (F : L2.Fun K "_law_bent" "_law_bent" s__law_bent f fd) (m_len : mg "len" = none) (m_list : mg "list" = none) (c__law_draw : Cal P w K mg base 3 "_law_draw" 2 F__law_draw) (c__law_pick : Cal P w K mg base 4 "_law_pick" 2 F__law_pick) : FnOk P w K mg base CX0 (4 + 1) f fd ["pool", "times", "apart"] (spF K 3 (fnS 3 5 f__law_bent)) :=
  fn_ok F sc__law_bent f__law_bent fun cdv A outer s H E hr => by
    have bd := bd_of (P := P) (w := w) (K := K) (mg := mg) (base := base) (outer := outer) (H := H) (E := E) hr sc__law_bent.nd
    have hk_law_draw : 3 ≤ 4 := by decide
    have hk_law_pick : 4 ≤ 4 := by decide
    exact dss_cons (ds_asg (de_callTy call_list_of does_list rfl m_list rfl (da_cons (db_var (pv 1)) (da_nil))) (dg_name (tn bd 1)))
         (dss_cons (ds_asg (de_callTy call_list_of does_list rfl m_list rfl (da_cons (db_var (pv 2)) (da_nil))) (dg_name (tn bd 2)))
         (dss_cons (ds_asg (de_call c__law_draw hr hk_law_draw rfl (da_cons (db_var (pv 0)) (da_cons (db_tm (de_int)) (da_nil))) (ar_cons (ar_cons ar_nil))) (dg_name (tn bd 3)))
         (dss_cons (ds_if (dt_cmp (op_eqB bd) does_eq (db_var (pv 3)) (db_tm (de_int)) rfl) (dss_one (ds_asg (de_slice (db_var (pv 1)) (do_some (db_tm (de_int))) (do_none)) (dg_name (tn bd 1)))) (dss_one (ds_if (dt_cmp (op_eqB bd) does_eq (db_var (pv 3)) (db_tm (de_int)) rfl) (dss_one (ds_asg (de_slice (db_var (pv 2)) (do_some (db_tm (de_int))) (do_none)) (dg_name (tn bd 2)))) (dss_one (ds_if (dw_t (dw_and (dt_cmp (op_eqB bd) does_eq (db_var (pv 3)) (db_tm (de_int)) rfl) (dw_and1 (dt_cmp (op_neB bd) does_ne (db_var (pv 1)) (db_tm (de_list (da_nil))) rfl)))) (dss_cons (ds_asg (de_call c__law_draw hr hk_law_draw rfl (da_cons (db_var (pv 0)) (da_cons (db_tm (de_callB call_lenA does_lenA rfl m_len rfl (da_cons (db_var (pv 1)) (da_nil)))) (da_nil))) (ar_cons (ar_cons ar_nil))) (dg_name (tn bd 4)))
            (dss_one (ds_asg (de_add (db_tm (de_ix bd (db_var (pv 1)) (db_var (pv 4)) (fun _ _ => rfl))) (db_tm (de_call c__law_pick hr hk_law_pick rfl (da_cons (db_var (pv 0)) (da_cons (db_tm (de_list (da_cons (db_tm (de_int)) (da_cons (db_tm (de_neg (db_tm (de_int)))) (da_nil))))) (da_nil))) (ar_cons (ar_cons ar_nil))))) (dg_sub bd (pv 1) (db_var (pv 4)))))) (dss_one (ds_if (dw_t (dw_and (dt_cmp (op_eqB bd) does_eq (db_var (pv 3)) (db_tm (de_int)) rfl) (dw_and1 (dt_cmp (op_neB bd) does_ne (db_var (pv 2)) (db_tm (de_list (da_nil))) rfl)))) (dss_one (ds_asg (de_ix bd (db_var (pv 2)) (db_tm (de_neg (db_tm (de_int)))) (fun _ _ => rfl)) (dg_sub bd (pv 2) (db_tm (de_int))))) (dss_one (ds_if (dt_cmp (op_eqB bd) does_eq (db_var (pv 3)) (db_tm (de_int)) rfl) (dss_cons (ds_asg (de_slice (db_var (pv 1)) (do_some (db_tm (de_int))) (do_none)) (dg_name (tn bd 1)))
              (dss_one (ds_asg (de_slice (db_var (pv 2)) (do_some (db_tm (de_int))) (do_none)) (dg_name (tn bd 2))))) (dss_cons (ds_asg (de_add (db_var (pv 1)) (db_tm (de_list (da_cons (db_tm (de_int)) (da_nil))))) (dg_name (tn bd 1)))
              (dss_one (ds_asg (de_add (db_var (pv 2)) (db_tm (de_list (da_cons (db_tm (de_tuple (da_cons (db_tm (de_int)) (da_cons (db_tm (de_int)) (da_nil))))) (da_nil))))) (dg_name (tn bd 2))))))))))))))
         (dss_one (ds_ret (de_list (da_cons (db_tm (de_var (pv 1))) (da_cons (db_tm (de_var (pv 2))) (da_nil)))))))))
theorem b__law_bent {f : Addr} {fd : FuncData} (F : L2.Fun K "_law_bent" "_law_bent" s__law_bent f fd) : Binds K fd ["pool", "times", "apart"] [] := F.binds (ps := ["pool", "times", "apart"]) fun _ _ _ _ _ _ us hl => match us, hl with | [_, _, _], _ => rfl
theorem k__law_bent {f : Addr} {fd : FuncData} (F : L2.Fun K "_law_bent" "_law_bent" s__law_bent f fd) (hm : mg "_law_bent" = some (.ref f)) (m_len : mg "len" = none) (m_list : mg "list" = none) (c__law_draw : Cal P w K mg base 3 "_law_draw" 2 F__law_draw) (c__law_pick : Cal P w K mg base 4 "_law_pick" 2 F__law_pick) : Cal P w K mg base 5 "_law_bent" 3 F__law_bent := cal_mk (ok__law_bent F m_len m_list c__law_draw c__law_pick) hm F (b__law_bent F)
abbrev s_law : Stmt := top 19
theorem sc_law : FnScope ["script", "pool", "windows", "handed", "times", "apart", "k", "later", "first", "last", "ends", "end", "one", "other", "some", "told", "gap"] ["script"] (L2.defScope s_law) := ⟨rfl, rfl, rfl, by decide +kernel, rfl, by decide +kernel, by decide +kernel⟩
theorem ok_law {f : Addr} {fd : FuncData} (F : L2.Fun K "law" "law" s_law f fd) (m_any : mg "any" = none) (m_len : mg "len" = none) (m_list : mg "list" = none) (m_range : mg "range" = none) (c__law_pool : Cal P w K mg base 3 "_law_pool" 1 F__law_pool) (c__law_pick : Cal P w K mg base 4 "_law_pick" 2 F__law_pick) (c__law_windows_drawn : Cal P w K mg base 5 "_law_windows_drawn" 3 F__law_windows_drawn) (c_fewest : Cal P w K mg base 1 "fewest" 1 F_fewest) (c__law_right : Cal P w K mg base 2 "_law_right" 3 F__law_right) (c__law_serves : Cal P w K mg base 1 "_law_serves" 2 F__law_serves) (c__law_bent : Cal P w K mg base 5 "_law_bent" 3 F__law_bent) (c_judge_fewest : Cal P w K mg base 2 "judge_fewest" 3 F_judge_fewest) (c__law_same : Cal P w K mg base 7 "_law_same" 2 F__law_same) (c__law_draw : Cal P w K mg base 3 "_law_draw" 2 F__law_draw) (c__law_keeps : Cal P w K mg base 1 "_law_keeps" 2 F__law_keeps) (c_keeps : Cal P w K mg base 1 "keeps" 2 F_keeps) (c_serves : Cal P w K mg base 1 "serves" 2 F_serves) : FnOk P w K mg base CX0 (7 + 1) f fd ["script"] (spF K 1 (fnS 1 17 f_law)) :=
  fn_ok F sc_law f_law fun cdv A outer s H E hr => by
    have bd := bd_of (P := P) (w := w) (K := K) (mg := mg) (base := base) (outer := outer) (H := H) (E := E) hr sc_law.nd
    have hk_law_pool : 3 ≤ 7 := by decide
    have hk_law_pick : 4 ≤ 7 := by decide
    have hk_law_windows_drawn : 5 ≤ 7 := by decide
    have hkfewest : 1 ≤ 7 := by decide
    have hk_law_right : 2 ≤ 7 := by decide
    have hk_law_serves : 1 ≤ 7 := by decide
    have hk_law_bent : 5 ≤ 7 := by decide
    have hkjudge_fewest : 2 ≤ 7 := by decide
    have hk_law_same : 7 ≤ 7 := by decide
    have hk_law_draw : 3 ≤ 7 := by decide
    have hk_law_keeps : 1 ≤ 7 := by decide
    have hkkeeps : 1 ≤ 7 := by decide
    have hkserves : 1 ≤ 7 := by decide
    exact dss_cons (ds_asg (de_call c__law_pool hr hk_law_pool rfl (da_cons (db_tm (de_var (pv 0))) (da_nil)) (ar_cons ar_nil)) (dg_name (tn bd 1)))
         (dss_cons (ds_asg (de_call c__law_windows_drawn hr hk_law_windows_drawn rfl (da_cons (db_var (pv 1)) (da_cons (db_tm (de_int)) (da_cons (db_tm (de_call c__law_pick hr hk_law_pick rfl (da_cons (db_var (pv 1)) (da_cons (db_tm (de_list (da_cons (db_tm (de_int)) (da_cons (db_tm (de_int)) (da_cons (db_tm (de_int)) (da_nil)))))) (da_nil))) (ar_cons (ar_cons ar_nil)))) (da_nil)))) (ar_cons (ar_cons (ar_cons ar_nil)))) (dg_name (tn bd 2)))
         (dss_cons (ds_asg (de_callTy call_list_of does_list rfl m_list rfl (da_cons (db_var (pv 2)) (da_nil))) (dg_name (tn bd 3)))
         (dss_cons (ds_asg (de_call c_fewest hr hkfewest rfl (da_cons (db_tm (de_var (pv 3))) (da_nil)) (ar_cons ar_nil)) (dg_tup bd (dgs_cons (dg_name (tn bd 4)) (dgs_cons (dg_name (tn bd 5)) (dgs_nil)))))
         (dss_cons (ds_if (dw_t (dw_or (dt_not (dt_b (db_tm (de_call c__law_right hr hk_law_right rfl (da_cons (db_tm (de_var (pv 2))) (da_cons (db_tm (de_var (pv 4))) (da_cons (db_tm (de_var (pv 5))) (da_nil)))) (ar_cons (ar_cons (ar_cons ar_nil))))) (fun _ => rfl))) (dw_or1 (dt_cmp (op_neB bd) does_ne (db_var (pv 3)) (db_var (pv 2)) rfl)))) (dss_one (ds_ret (de_bl))) (dss_nil))
         (dss_cons (ds_for bd PassesOwn.never [6, 7] (di_rng1 rfl m_range (da_cons (db_tm (de_callB call_lenA does_lenA rfl m_len rfl (da_cons (db_var (pv 4)) (da_nil)))) (da_nil))) (dg_name (tn bd 6)) (dss_cons (ds_asg (de_add (db_tm (de_add (db_tm (de_slice (db_var (pv 4)) (do_none) (do_some (db_var (pv 6))))) (db_tm (de_list (da_cons (db_tm (de_add (db_tm (de_ix bd (db_var (pv 4)) (db_var (pv 6)) (fun _ _ => rfl))) (db_tm (de_int)))) (da_nil)))))) (db_tm (de_slice (db_var (pv 4)) (do_some (db_tm (de_add (db_var (pv 6)) (db_tm (de_int))))) (do_none)))) (dg_name (tn bd 7)))
          (dss_one (ds_if (dw_t (dw_or (dt_cmp (op_notInA bd) does_notIn (db_tm (de_ix bd (db_var (pv 4)) (db_var (pv 6)) (fun _ _ => rfl))) (db_tm (de_lcN (own := [("first", 8), ("last", 9)]) bd (pv 2) (blkOk_by (by dsimp only [cxOf, Cx.nox, Cx.wish, Cx.blk, envOfC, compEnvC]; (try simp only [relabel_eq]); decide +kernel)) (fun _ _ _ _ _ => cg_tup (Bd.blk bd) (cgs_cons (cg_name (tn (Bd.blk bd) 8) (by decide)) (cgs_cons (cg_name (tn (Bd.blk bd) 9) (by decide)) (cgs_nil)))) (fun _ _ _ _ _ => dts_nil) (fun _ _ _ _ _ => de_var (pv 9)))) rfl) (dw_or1 (dw_t (dw_and (dt_b (db_tm (de_call c__law_serves hr hk_law_serves rfl (da_cons (db_tm (de_var (pv 2))) (da_cons (db_tm (de_var (pv 7))) (da_nil))) (ar_cons (ar_cons ar_nil)))) (fun _ => rfl)) (dw_and1 (dt_cmp (op_notInA bd) does_notIn (db_tm (de_ix bd (db_var (pv 7)) (db_var (pv 6)) (fun _ _ => rfl))) (db_var (pv 4)) rfl))))))) (dss_one (ds_ret (de_bl))) (dss_nil)))))
         (dss_cons (by first | exact ds_setLcN (own := [("first", 8), ("last", 9)]) bd rfl rfl rfl (pv 2) (blkOk_by (by dsimp only [cxOf, Cx.nox, Cx.wish, Cx.blk, envOfC, compEnvC]; (try simp only [relabel_eq]); decide +kernel)) (fun _ _ _ _ _ => cg_tup (Bd.blk bd) (cgs_cons (cg_name (tn (Bd.blk bd) 8) (by decide)) (cgs_cons (cg_name (tn (Bd.blk bd) 9) (by decide)) (cgs_nil)))) (fun _ _ _ _ _ => dts_nil) (fun _ _ _ _ _ => de_var (pv 9)) | exact ds_asg (de_lcN (own := [("first", 8), ("last", 9)]) bd (pv 2) (blkOk_by (by dsimp only [cxOf, Cx.nox, Cx.wish, Cx.blk, envOfC, compEnvC]; (try simp only [relabel_eq]); decide +kernel)) (fun _ _ _ _ _ => cg_tup (Bd.blk bd) (cgs_cons (cg_name (tn (Bd.blk bd) 8) (by decide)) (cgs_cons (cg_name (tn (Bd.blk bd) 9) (by decide)) (cgs_nil)))) (fun _ _ _ _ _ => dts_nil) (fun _ _ _ _ _ => de_var (pv 9))) (dg_name (tn bd 10)))
         (dss_cons (ds_if (dw_t (dw_and (dt_cmp op_gt does_gt (db_tm (de_callB call_lenA does_lenA rfl m_len rfl (da_cons (db_var (pv 4)) (da_nil)))) (db_tm (de_int)) rfl) (dw_and1 (dt_b (db_tm (de_callB (cr_any bd.calm) does_any rfl m_any rfl (da_cons (db_tm (de_lcN (own := [("end", 11)]) bd (pv 10) (blkOk_by (by dsimp only [cxOf, Cx.nox, Cx.wish, Cx.blk, envOfC, compEnvC]; (try simp only [relabel_eq]); decide +kernel)) (fun _ _ _ _ _ => cg_name (tn (Bd.blk bd) 11) (by decide)) (fun _ _ _ _ _ => dts_nil) (fun _ _ _ _ _ => de_call c__law_serves hr hk_law_serves rfl (da_cons (db_tm (de_var (pv 2))) (da_cons (db_tm (de_list (da_cons (db_tm (de_var (pv 11))) (da_nil)))) (da_nil))) (ar_cons (ar_cons ar_nil))))) (da_nil)))) (fun _ => rfl))))) (dss_one (ds_ret (de_bl))) (dss_nil))
         (dss_cons (ds_if (dw_t (dw_and (dt_cmp op_gt does_gt (db_tm (de_callB call_lenA does_lenA rfl m_len rfl (da_cons (db_var (pv 4)) (da_nil)))) (db_tm (de_int)) rfl) (dw_and1 (dt_b (db_tm (de_callB (cr_any bd.calm) does_any rfl m_any rfl (da_cons (db_tm (de_lcN (own := [("other", 13)]) bd (pv 10) (blkOk_by (by dsimp only [cxOf, Cx.nox, Cx.wish, Cx.blk, envOfC, compEnvC]; (try simp only [relabel_eq]); decide +kernel)) (fun _ _ _ _ _ => cg_name (tn (Bd.blk bd) 13) (by decide)) (fun _ _ _ _ _ => dts_nil) (fun _ _ _ _ _ => de_callB (cr_any (Bd.blk bd).calm) does_any rfl m_any rfl (da_cons (db_tm (de_lcN (own := [("one", 12)]) (Bd.blk bd) (pv 10) (blkOk_by (by dsimp only [cxOf, Cx.nox, Cx.wish, Cx.blk, envOfC, compEnvC]; (try simp only [relabel_eq]); decide +kernel)) (fun _ _ _ _ _ => cg_name (tn (Bd.blk (Bd.blk bd)) 12) (by decide)) (fun _ _ _ _ _ => dts_nil) (fun _ _ _ _ _ => de_call c__law_serves hr hk_law_serves rfl (da_cons (db_tm (de_var (pv 2))) (da_cons (db_tm (de_list (da_cons (db_tm (de_var (pv 12))) (da_cons (db_tm (de_var (pv 13))) (da_nil))))) (da_nil))) (ar_cons (ar_cons ar_nil))))) (da_nil))))) (da_nil)))) (fun _ => rfl))))) (dss_one (ds_ret (de_bl))) (dss_nil))
         (dss_cons (ds_for bd PassesOwn.never [6, 14, 15, 16] (di_rng1 rfl m_range (da_cons (db_tm (de_int)) (da_nil))) (dg_name (tn bd 6)) (dss_cons (ds_asg (de_if (dt_cmp (op_eqB bd) does_eq (db_var (pv 6)) (db_tm (de_int)) rfl) (de_list (da_cons (db_tm (de_var (pv 4))) (da_cons (db_tm (de_var (pv 5))) (da_nil)))) (de_call c__law_bent hr hk_law_bent rfl (da_cons (db_var (pv 1)) (da_cons (db_tm (de_var (pv 4))) (da_cons (db_tm (de_var (pv 5))) (da_nil)))) (ar_cons (ar_cons (ar_cons ar_nil))))) (dg_tup bd (dgs_cons (dg_name (tn bd 14)) (dgs_cons (dg_name (tn bd 15)) (dgs_nil)))))
          (dss_cons (ds_if (dt_not (dt_b (db_tm (de_call c__law_same hr hk_law_same rfl (da_cons (db_tm (de_call c_judge_fewest hr hkjudge_fewest rfl (da_cons (db_tm (de_var (pv 2))) (da_cons (db_tm (de_callTy call_list_of does_list rfl m_list rfl (da_cons (db_var (pv 14)) (da_nil)))) (da_cons (db_tm (de_callTy call_list_of does_list rfl m_list rfl (da_cons (db_var (pv 15)) (da_nil)))) (da_nil)))) (ar_cons (ar_cons (ar_cons ar_nil))))) (da_cons (db_tm (de_call c__law_right hr hk_law_right rfl (da_cons (db_tm (de_var (pv 2))) (da_cons (db_tm (de_var (pv 14))) (da_cons (db_tm (de_var (pv 15))) (da_nil)))) (ar_cons (ar_cons (ar_cons ar_nil))))) (da_nil))) (ar_cons (ar_cons ar_nil)))) (fun _ => rfl))) (dss_one (ds_ret (de_bl))) (dss_nil))
          (dss_cons (ds_asg (de_add (db_tm (de_int)) (db_tm (de_call c__law_draw hr hk_law_draw rfl (da_cons (db_var (pv 1)) (da_cons (db_tm (de_int)) (da_nil))) (ar_cons (ar_cons ar_nil))))) (dg_name (tn bd 16)))
          (dss_one (ds_if (dt_not (dt_b (db_tm (de_call c__law_same hr hk_law_same rfl (da_cons (db_tm (de_list (da_cons (db_tm (de_call c_serves hr hkserves rfl (da_cons (db_tm (de_var (pv 2))) (da_cons (db_tm (de_var (pv 14))) (da_nil))) (ar_cons (ar_cons ar_nil)))) (da_cons (db_tm (de_call c_keeps hr hkkeeps rfl (da_cons (db_tm (de_var (pv 16))) (da_cons (db_tm (de_var (pv 14))) (da_nil))) (ar_cons (ar_cons ar_nil)))) (da_nil))))) (da_cons (db_tm (de_list (da_cons (db_tm (de_call c__law_serves hr hk_law_serves rfl (da_cons (db_tm (de_var (pv 2))) (da_cons (db_tm (de_var (pv 14))) (da_nil))) (ar_cons (ar_cons ar_nil)))) (da_cons (db_tm (de_call c__law_keeps hr hk_law_keeps rfl (da_cons (db_tm (de_var (pv 16))) (da_cons (db_tm (de_var (pv 14))) (da_nil))) (ar_cons (ar_cons ar_nil)))) (da_nil))))) (da_nil))) (ar_cons (ar_cons ar_nil)))) (fun _ => rfl))) (dss_one (ds_ret (de_bl))) (dss_nil)))))))
         (dss_one (ds_ret (de_v (dv_cmp op_leIS does_le (db_tm (de_callB call_lenA does_lenA rfl m_len rfl (da_cons (db_tm (de_ix bd (db_tm (de_call c_fewest hr hkfewest rfl (da_cons (db_tm (de_slice (db_var (pv 2)) (do_some (db_tm (de_int))) (do_none))) (da_nil)) (ar_cons ar_nil))) (db_tm (de_int)) (fun _ _ => rfl))) (da_nil)))) (db_tm (de_callB call_lenA does_lenA rfl m_len rfl (da_cons (db_var (pv 4)) (da_nil)))) rfl)))))))))))))
theorem b_law {f : Addr} {fd : FuncData} (F : L2.Fun K "law" "law" s_law f fd) : Binds K fd ["script"] [] := F.binds (ps := ["script"]) fun _ _ _ _ _ _ us hl => match us, hl with | [_], _ => rfl
theorem k_law {f : Addr} {fd : FuncData} (F : L2.Fun K "law" "law" s_law f fd) (hm : mg "law" = some (.ref f)) (m_any : mg "any" = none) (m_len : mg "len" = none) (m_list : mg "list" = none) (m_range : mg "range" = none) (c__law_pool : Cal P w K mg base 3 "_law_pool" 1 F__law_pool) (c__law_pick : Cal P w K mg base 4 "_law_pick" 2 F__law_pick) (c__law_windows_drawn : Cal P w K mg base 5 "_law_windows_drawn" 3 F__law_windows_drawn) (c_fewest : Cal P w K mg base 1 "fewest" 1 F_fewest) (c__law_right : Cal P w K mg base 2 "_law_right" 3 F__law_right) (c__law_serves : Cal P w K mg base 1 "_law_serves" 2 F__law_serves) (c__law_bent : Cal P w K mg base 5 "_law_bent" 3 F__law_bent) (c_judge_fewest : Cal P w K mg base 2 "judge_fewest" 3 F_judge_fewest) (c__law_same : Cal P w K mg base 7 "_law_same" 2 F__law_same) (c__law_draw : Cal P w K mg base 3 "_law_draw" 2 F__law_draw) (c__law_keeps : Cal P w K mg base 1 "_law_keeps" 2 F__law_keeps) (c_keeps : Cal P w K mg base 1 "keeps" 2 F_keeps) (c_serves : Cal P w K mg base 1 "serves" 2 F_serves) : Cal P w K mg base 8 "law" 1 F_law := cal_mk (ok_law F m_any m_len m_list m_range c__law_pool c__law_pick c__law_windows_drawn c_fewest c__law_right c__law_serves c__law_bent c_judge_fewest c__law_same c__law_draw c__law_keeps c_keeps c_serves) hm F (b_law F)
end
end Y
namespace Y
open PySem PySem.Spec PyProof.Rows L2
theorem all_mk {l : PySem.W.OpenLaw} {w : World} {K : PySem.W.Frag} {h : Heap} {mg : Str → Option Value} {fa f1 f2 f3 f4 f5 f6 f7 f8 f9 f10 f11 f12 f13 f14 f15 f16 : Addr} (X : K.In h) (G : h.Ns mainGlobals mg) (hfa : mg "law" = some (.ref fa))
    {od1 an1 od2 an2 od3 an3 od4 an4 od5 an5 od6 an6 od7 an7 od8 an8 od9 an9 od10 an10 od11 an11 od12 an12 od13 an13 od14 an14 od15 an15 od16 an16 : Option Addr} {sl1 sl2 sl3 sl4 sl5 sl6 sl7 sl8 sl9 sl10 sl11 sl12 sl13 sl14 sl15 sl16 : Array (Option Value)} {oc1 kV1 dc1 pm1 cd1 ct1 oc2 kV2 dc2 pm2 cd2 ct2 oc3 kV3 dc3 pm3 cd3 ct3 oc4 kV4 dc4 pm4 cd4 ct4 oc5 kV5 dc5 pm5 cd5 ct5 oc6 kV6 dc6 pm6 cd6 ct6 oc7 kV7 dc7 pm7 cd7 ct7 oc8 kV8 dc8 pm8 cd8 ct8 oc9 kV9 dc9 pm9 cd9 ct9 oc10 kV10 dc10 pm10 cd10 ct10 oc11 kV11 dc11 pm11 cd11 ct11 oc12 kV12 dc12 pm12 cd12 ct12 oc13 kV13 dc13 pm13 cd13 ct13 oc14 kV14 dc14 pm14 cd14 ct14 oc15 kV15 dc15 pm15 cd15 ct15 oc16 kV16 dc16 pm16 cd16 ct16 : Value}
    (a1 : PySem.W.nsIn K mainGlobals "_law_mixed" = some (some (.ref f1))) (l1 : K.lookup f1 = some ⟨oc1, od1, .func (PySem.W.fnOf "_law_mixed" "_law_mixed" (L2.defArgs s__law_mixed) (L2.defBody s__law_mixed) (L2.defScope s__law_mixed) .none kV1 dc1 pm1 an1 cd1 ct1), sl1⟩) (c1 : PySem.W.codeIn K cd1 "_law_mixed" = true) (k1 : PySem.W.keepIn K (.ref f1) = true)
    (a2 : PySem.W.nsIn K mainGlobals "_law_rest" = some (some (.ref f2))) (l2 : K.lookup f2 = some ⟨oc2, od2, .func (PySem.W.fnOf "_law_rest" "_law_rest" (L2.defArgs s__law_rest) (L2.defBody s__law_rest) (L2.defScope s__law_rest) .none kV2 dc2 pm2 an2 cd2 ct2), sl2⟩) (c2 : PySem.W.codeIn K cd2 "_law_rest" = true) (k2 : PySem.W.keepIn K (.ref f2) = true)
    (a3 : PySem.W.nsIn K mainGlobals "_law_pool" = some (some (.ref f3))) (l3 : K.lookup f3 = some ⟨oc3, od3, .func (PySem.W.fnOf "_law_pool" "_law_pool" (L2.defArgs s__law_pool) (L2.defBody s__law_pool) (L2.defScope s__law_pool) .none kV3 dc3 pm3 an3 cd3 ct3), sl3⟩) (c3 : PySem.W.codeIn K cd3 "_law_pool" = true) (k3 : PySem.W.keepIn K (.ref f3) = true)
    (a4 : PySem.W.nsIn K mainGlobals "_law_draw" = some (some (.ref f4))) (l4 : K.lookup f4 = some ⟨oc4, od4, .func (PySem.W.fnOf "_law_draw" "_law_draw" (L2.defArgs s__law_draw) (L2.defBody s__law_draw) (L2.defScope s__law_draw) .none kV4 dc4 pm4 an4 cd4 ct4), sl4⟩) (c4 : PySem.W.codeIn K cd4 "_law_draw" = true) (k4 : PySem.W.keepIn K (.ref f4) = true)
    (a5 : PySem.W.nsIn K mainGlobals "_law_pick" = some (some (.ref f5))) (l5 : K.lookup f5 = some ⟨oc5, od5, .func (PySem.W.fnOf "_law_pick" "_law_pick" (L2.defArgs s__law_pick) (L2.defBody s__law_pick) (L2.defScope s__law_pick) .none kV5 dc5 pm5 an5 cd5 ct5), sl5⟩) (c5 : PySem.W.codeIn K cd5 "_law_pick" = true) (k5 : PySem.W.keepIn K (.ref f5) = true)
    (a6 : PySem.W.nsIn K mainGlobals "_law_windows_drawn" = some (some (.ref f6))) (l6 : K.lookup f6 = some ⟨oc6, od6, .func (PySem.W.fnOf "_law_windows_drawn" "_law_windows_drawn" (L2.defArgs s__law_windows_drawn) (L2.defBody s__law_windows_drawn) (L2.defScope s__law_windows_drawn) .none kV6 dc6 pm6 an6 cd6 ct6), sl6⟩) (c6 : PySem.W.codeIn K cd6 "_law_windows_drawn" = true) (k6 : PySem.W.keepIn K (.ref f6) = true)
    (a7 : PySem.W.nsIn K mainGlobals "fewest" = some (some (.ref f7))) (l7 : K.lookup f7 = some ⟨oc7, od7, .func (PySem.W.fnOf "fewest" "fewest" (L2.defArgs s_fewest) (L2.defBody s_fewest) (L2.defScope s_fewest) .none kV7 dc7 pm7 an7 cd7 ct7), sl7⟩) (c7 : PySem.W.codeIn K cd7 "fewest" = true) (k7 : PySem.W.keepIn K (.ref f7) = true)
    (a8 : PySem.W.nsIn K mainGlobals "_law_keeps" = some (some (.ref f8))) (l8 : K.lookup f8 = some ⟨oc8, od8, .func (PySem.W.fnOf "_law_keeps" "_law_keeps" (L2.defArgs s__law_keeps) (L2.defBody s__law_keeps) (L2.defScope s__law_keeps) .none kV8 dc8 pm8 an8 cd8 ct8), sl8⟩) (c8 : PySem.W.codeIn K cd8 "_law_keeps" = true) (k8 : PySem.W.keepIn K (.ref f8) = true)
    (a9 : PySem.W.nsIn K mainGlobals "_law_serves" = some (some (.ref f9))) (l9 : K.lookup f9 = some ⟨oc9, od9, .func (PySem.W.fnOf "_law_serves" "_law_serves" (L2.defArgs s__law_serves) (L2.defBody s__law_serves) (L2.defScope s__law_serves) .none kV9 dc9 pm9 an9 cd9 ct9), sl9⟩) (c9 : PySem.W.codeIn K cd9 "_law_serves" = true) (k9 : PySem.W.keepIn K (.ref f9) = true)
    (a10 : PySem.W.nsIn K mainGlobals "_law_right" = some (some (.ref f10))) (l10 : K.lookup f10 = some ⟨oc10, od10, .func (PySem.W.fnOf "_law_right" "_law_right" (L2.defArgs s__law_right) (L2.defBody s__law_right) (L2.defScope s__law_right) .none kV10 dc10 pm10 an10 cd10 ct10), sl10⟩) (c10 : PySem.W.codeIn K cd10 "_law_right" = true) (k10 : PySem.W.keepIn K (.ref f10) = true)
    (a11 : PySem.W.nsIn K mainGlobals "_law_bent" = some (some (.ref f11))) (l11 : K.lookup f11 = some ⟨oc11, od11, .func (PySem.W.fnOf "_law_bent" "_law_bent" (L2.defArgs s__law_bent) (L2.defBody s__law_bent) (L2.defScope s__law_bent) .none kV11 dc11 pm11 an11 cd11 ct11), sl11⟩) (c11 : PySem.W.codeIn K cd11 "_law_bent" = true) (k11 : PySem.W.keepIn K (.ref f11) = true)
    (a12 : PySem.W.nsIn K mainGlobals "keeps" = some (some (.ref f12))) (l12 : K.lookup f12 = some ⟨oc12, od12, .func (PySem.W.fnOf "keeps" "keeps" (L2.defArgs s_keeps) (L2.defBody s_keeps) (L2.defScope s_keeps) .none kV12 dc12 pm12 an12 cd12 ct12), sl12⟩) (c12 : PySem.W.codeIn K cd12 "keeps" = true) (k12 : PySem.W.keepIn K (.ref f12) = true)
    (a13 : PySem.W.nsIn K mainGlobals "serves" = some (some (.ref f13))) (l13 : K.lookup f13 = some ⟨oc13, od13, .func (PySem.W.fnOf "serves" "serves" (L2.defArgs s_serves) (L2.defBody s_serves) (L2.defScope s_serves) .none kV13 dc13 pm13 an13 cd13 ct13), sl13⟩) (c13 : PySem.W.codeIn K cd13 "serves" = true) (k13 : PySem.W.keepIn K (.ref f13) = true)
    (a14 : PySem.W.nsIn K mainGlobals "judge_fewest" = some (some (.ref f14))) (l14 : K.lookup f14 = some ⟨oc14, od14, .func (PySem.W.fnOf "judge_fewest" "judge_fewest" (L2.defArgs s_judge_fewest) (L2.defBody s_judge_fewest) (L2.defScope s_judge_fewest) .none kV14 dc14 pm14 an14 cd14 ct14), sl14⟩) (c14 : PySem.W.codeIn K cd14 "judge_fewest" = true) (k14 : PySem.W.keepIn K (.ref f14) = true)
    (a15 : PySem.W.nsIn K mainGlobals "_law_same" = some (some (.ref f15))) (l15 : K.lookup f15 = some ⟨oc15, od15, .func (PySem.W.fnOf "_law_same" "_law_same" (L2.defArgs s__law_same) (L2.defBody s__law_same) (L2.defScope s__law_same) .none kV15 dc15 pm15 an15 cd15 ct15), sl15⟩) (c15 : PySem.W.codeIn K cd15 "_law_same" = true) (k15 : PySem.W.keepIn K (.ref f15) = true)
    (a16 : PySem.W.nsIn K mainGlobals "law" = some (some (.ref f16))) (l16 : K.lookup f16 = some ⟨oc16, od16, .func (PySem.W.fnOf "law" "law" (L2.defArgs s_law) (L2.defBody s_law) (L2.defScope s_law) .none kV16 dc16 pm16 an16 cd16 ct16), sl16⟩) (c16 : PySem.W.codeIn K cd16 "law" = true) (k16 : PySem.W.keepIn K (.ref f16) = true)
    (z_all : PySem.W.nsIn K mainGlobals "all" = some none)
    (z_any : PySem.W.nsIn K mainGlobals "any" = some none)
    (z_bool : PySem.W.nsIn K mainGlobals "bool" = some none)
    (z_dict : PySem.W.nsIn K mainGlobals "dict" = some none)
    (z_enumerate : PySem.W.nsIn K mainGlobals "enumerate" = some none)
    (z_int : PySem.W.nsIn K mainGlobals "int" = some none)
    (z_isinstance : PySem.W.nsIn K mainGlobals "isinstance" = some none)
    (z_len : PySem.W.nsIn K mainGlobals "len" = some none)
    (z_list : PySem.W.nsIn K mainGlobals "list" = some none)
    (z_min : PySem.W.nsIn K mainGlobals "min" = some none)
    (z_range : PySem.W.nsIn K mainGlobals "range" = some none)
    (z_sorted : PySem.W.nsIn K mainGlobals "sorted" = some none)
    (z_str : PySem.W.nsIn K mainGlobals "str" = some none)
    (z_tuple : PySem.W.nsIn K mainGlobals "tuple" = some none)
    {u_LAST : Value} (y_LAST : PySem.W.nsIn K mainGlobals "LAST" = some (some u_LAST)) (r_LAST : RelV (.int 60) u_LAST) :
    ∃ fd : FuncData, (∀ (s : Shared) (v : Value), BindsTo s fd ⟨[v], []⟩ [("script", v)]) ∧ ∀ base : Heap, K.In base → base.Ns mainGlobals mg → FnOk l.prog w K mg base CX0 8 fa fd ["script"] (spLaw K) := by
  have e := hfa.symm.trans (PySem.W.mg_of X G a16)
  cases e
  have m_all := PySem.W.mg_none_of X G z_all
  have m_any := PySem.W.mg_none_of X G z_any
  have m_bool := PySem.W.mg_none_of X G z_bool
  have m_dict := PySem.W.mg_none_of X G z_dict
  have m_enumerate := PySem.W.mg_none_of X G z_enumerate
  have m_int := PySem.W.mg_none_of X G z_int
  have m_isinstance := PySem.W.mg_none_of X G z_isinstance
  have m_len := PySem.W.mg_none_of X G z_len
  have m_list := PySem.W.mg_none_of X G z_list
  have m_min := PySem.W.mg_none_of X G z_min
  have m_range := PySem.W.mg_none_of X G z_range
  have m_sorted := PySem.W.mg_none_of X G z_sorted
  have m_str := PySem.W.mg_none_of X G z_str
  have m_tuple := PySem.W.mg_none_of X G z_tuple
  have c_LAST : ∃ u, mg "LAST" = some u ∧ RelV (.int 60) u := ⟨_, PySem.W.mg_of X G y_LAST, r_LAST⟩
  have g1 := PySem.W.mg_of X G a1
  have D1 := L2.fun_mk (st := s__law_mixed) l1 c1 k1
  have g2 := PySem.W.mg_of X G a2
  have D2 := L2.fun_mk (st := s__law_rest) l2 c2 k2
  have g3 := PySem.W.mg_of X G a3
  have D3 := L2.fun_mk (st := s__law_pool) l3 c3 k3
  have g4 := PySem.W.mg_of X G a4
  have D4 := L2.fun_mk (st := s__law_draw) l4 c4 k4
  have g5 := PySem.W.mg_of X G a5
  have D5 := L2.fun_mk (st := s__law_pick) l5 c5 k5
  have g6 := PySem.W.mg_of X G a6
  have D6 := L2.fun_mk (st := s__law_windows_drawn) l6 c6 k6
  have g7 := PySem.W.mg_of X G a7
  have D7 := L2.fun_mk (st := s_fewest) l7 c7 k7
  have g8 := PySem.W.mg_of X G a8
  have D8 := L2.fun_mk (st := s__law_keeps) l8 c8 k8
  have g9 := PySem.W.mg_of X G a9
  have D9 := L2.fun_mk (st := s__law_serves) l9 c9 k9
  have g10 := PySem.W.mg_of X G a10
  have D10 := L2.fun_mk (st := s__law_right) l10 c10 k10
  have g11 := PySem.W.mg_of X G a11
  have D11 := L2.fun_mk (st := s__law_bent) l11 c11 k11
  have g12 := PySem.W.mg_of X G a12
  have D12 := L2.fun_mk (st := s_keeps) l12 c12 k12
  have g13 := PySem.W.mg_of X G a13
  have D13 := L2.fun_mk (st := s_serves) l13 c13 k13
  have g14 := PySem.W.mg_of X G a14
  have D14 := L2.fun_mk (st := s_judge_fewest) l14 c14 k14
  have g15 := PySem.W.mg_of X G a15
  have D15 := L2.fun_mk (st := s__law_same) l15 c15 k15
  have g16 := PySem.W.mg_of X G a16
  have D16 := L2.fun_mk (st := s_law) l16 c16 k16
  refine ⟨PySem.W.fnOf "law" "law" (L2.defArgs s_law) (L2.defBody s_law) (L2.defScope s_law) .none kV16 dc16 pm16 an16 cd16 ct16, fun s v => .of_eq rfl, fun base _ _ => ?_⟩
  · skip
    have c__law_mixed := k__law_mixed (P := l.prog) (w := w) (base := base) D1 g1 m_int
    have c__law_rest := k__law_rest (P := l.prog) (w := w) (base := base) D2 g2 m_int m_len c__law_mixed
    have c__law_pool := k__law_pool (P := l.prog) (w := w) (base := base) D3 g3 c__law_rest
    have c__law_draw := k__law_draw (P := l.prog) (w := w) (base := base) D4 g4 m_int c__law_rest
    have c__law_pick := k__law_pick (P := l.prog) (w := w) (base := base) D5 g5 m_len c__law_draw
    have c__law_windows_drawn := k__law_windows_drawn (P := l.prog) (w := w) (base := base) D6 g6 m_min m_range c__law_draw c__law_pick
    have c_fewest := k_fewest (P := l.prog) (w := w) (base := base) D7 g7 m_sorted
    have c__law_keeps := k__law_keeps (P := l.prog) (w := w) (base := base) D8 g8 m_len m_range
    have c__law_serves := k__law_serves (P := l.prog) (w := w) (base := base) D9 g9 m_all m_any
    have c__law_right := k__law_right (P := l.prog) (w := w) (base := base) D10 g10 m_any m_len m_range c__law_keeps c__law_serves
    have c__law_bent := k__law_bent (P := l.prog) (w := w) (base := base) D11 g11 m_len m_list c__law_draw c__law_pick
    have c_keeps := k_keeps (P := l.prog) (w := w) (base := base) D12 g12 m_enumerate c_LAST
    have c_serves := k_serves (P := l.prog) (w := w) (base := base) D13 g13 m_all m_any
    have c_judge_fewest := k_judge_fewest (P := l.prog) (w := w) (base := base) D14 g14 m_any m_enumerate m_len c_keeps c_serves
    have c__law_same := k__law_same (P := l.prog) (w := w) (base := base) D15 g15 m_all m_bool m_dict m_int m_isinstance m_len m_list m_range m_str m_tuple
    exact (ok_law D16 m_any m_len m_list m_range c__law_pool c__law_pick c__law_windows_drawn c_fewest c__law_right c__law_serves c__law_bent c_judge_fewest c__law_same c__law_draw c__law_keeps c_keeps c_serves).imp (law_sp law_true)
theorem walk {l : PySem.W.OpenLaw} {q : Program} {loose : List Str} {XP : (Str → Option Value) → Heap → Prop} {YP : World → Heap → Prop} {d : DefRec} {K : Params → PySem.W.Frag} (hn : l.most = some 63) (hdf : d.params.defaults = [])
    (hY : ∀ (w : World) (h : Heap), YP w h → (K w.params).In h)
    (F : ∀ (w : World) (mg : Str → Option Value) (fa : Addr) (h : Heap), (K w.params).In h → h.Ns mainGlobals mg → mg d.name = some (.ref fa) →
      ∃ fd : FuncData, (∀ (s : Shared) (u : Value), BindsTo s fd ⟨[u], []⟩ [("script", u)]) ∧ ∀ base : Heap, (K w.params).In base → base.Ns mainGlobals mg → FnOk l.prog w (K w.params) mg base CX0 8 fa fd ["script"] (spLaw (K w.params))) :
    PySem.W.WalkO q loose XP YP l.row.toRowW d [] (fun f vs => PySem.call f vs) :=
  L2.walk_of (n := 63) (k := 8) (x := "script") (CX := fun _ => CX0) (sp := fun w => spLaw (K w.params)) hn (by decide) hdf ⟨rfl, by decide, by decide⟩ hY F (fun _ _ a ns hl _ hS => ⟨a, ns, rfl, hS, hl, fun _ => rfl⟩) fun _ _ _ _ _ z => z
end Y
open PySem PySem.W PyProof.Rows
set_option maxRecDepth 100000 in
set_option maxHeartbeats 0 in
theorem PySem.Challenge.cw_screenwise_k80_whole_fewest_refreshes_holds : PySem.Challenge.rw_screenwise_k80_whole_fewest_refreshes.Holds := by
  w_on; o_law; k_head; (case hw => w_witness2)
  k_fill
  refine Y.walk (l := PySem.Challenge.rw_screenwise_k80_whole_fewest_refreshes) rfl rfl (fun w h Y => PySem.W.kIn_of Y) ?F
  case F =>
    intro w mg fa h KX G hmg
    refine' Y.all_mk KX G hmg ?a1 ?l1 ?c1 ?k1 ?a2 ?l2 ?c2 ?k2 ?a3 ?l3 ?c3 ?k3 ?a4 ?l4 ?c4 ?k4 ?a5 ?l5 ?c5 ?k5 ?a6 ?l6 ?c6 ?k6 ?a7 ?l7 ?c7 ?k7 ?a8 ?l8 ?c8 ?k8 ?a9 ?l9 ?c9 ?k9 ?a10 ?l10 ?c10 ?k10 ?a11 ?l11 ?c11 ?k11 ?a12 ?l12 ?c12 ?k12 ?a13 ?l13 ?c13 ?k13 ?a14 ?l14 ?c14 ?k14 ?a15 ?l15 ?c15 ?k15 ?a16 ?l16 ?c16 ?k16 ?z_all ?z_any ?z_bool ?z_dict ?z_enumerate ?z_int ?z_isinstance ?z_len ?z_list ?z_min ?z_range ?z_sorted ?z_str ?z_tuple ?y_LAST ?r_LAST
    (case a1 => k_is); (case l1 => k_is); (case c1 => k_is); (case k1 => k_is)
    (case a2 => k_is); (case l2 => k_is); (case c2 => k_is); (case k2 => k_is)
    (case a3 => k_is); (case l3 => k_is); (case c3 => k_is); (case k3 => k_is)
    (case a4 => k_is); (case l4 => k_is); (case c4 => k_is); (case k4 => k_is)
    (case a5 => k_is); (case l5 => k_is); (case c5 => k_is); (case k5 => k_is)
    (case a6 => k_is); (case l6 => k_is); (case c6 => k_is); (case k6 => k_is)
    (case a7 => k_is); (case l7 => k_is); (case c7 => k_is); (case k7 => k_is)
    (case a8 => k_is); (case l8 => k_is); (case c8 => k_is); (case k8 => k_is)
    (case a9 => k_is); (case l9 => k_is); (case c9 => k_is); (case k9 => k_is)
    (case a10 => k_is); (case l10 => k_is); (case c10 => k_is); (case k10 => k_is)
    (case a11 => k_is); (case l11 => k_is); (case c11 => k_is); (case k11 => k_is)
    (case a12 => k_is); (case l12 => k_is); (case c12 => k_is); (case k12 => k_is)
    (case a13 => k_is); (case l13 => k_is); (case c13 => k_is); (case k13 => k_is)
    (case a14 => k_is); (case l14 => k_is); (case c14 => k_is); (case k14 => k_is)
    (case a15 => k_is); (case l15 => k_is); (case c15 => k_is); (case k15 => k_is)
    (case a16 => k_is); (case l16 => k_is); (case c16 => k_is); (case k16 => k_is)
    (case z_all => k_is)
    (case z_any => k_is)
    (case z_bool => k_is)
    (case z_dict => k_is)
    (case z_enumerate => k_is)
    (case z_int => k_is)
    (case z_isinstance => k_is)
    (case z_len => k_is)
    (case z_list => k_is)
    (case z_min => k_is)
    (case z_range => k_is)
    (case z_sorted => k_is)
    (case z_str => k_is)
    (case z_tuple => k_is)
    (case y_LAST => k_is); (case r_LAST => exact ⟨_, rfl⟩)
#print axioms PySem.Challenge.cw_screenwise_k80_whole_fewest_refreshes_holds

