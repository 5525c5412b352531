import PyProof.Rows.All
import Wide.All
import OpenK.AllK
import Wide.FinOn
import HandS.ForMost
import HandS.Wide
import HandS.IsInst
import HandS.Flow
import HandS.Style
import HandS.Deep
import KE.SortData
import HandS.NoneIn
import HandS.Codes
import HandS.TupLen
import HandS.DictComp
import HandS.More
import HandS.Conv
import HandS.Small
import KE.DataMinMax
import HandS.SetFor
import HandS.Strs
import KE.KDictCopyH
import HandS.DictTup
import HandS.Text
import PyProof.Transfer
import PyProof.ZipIter
import KE.GoesEnumKw
import HandS.Iter
import HandS.SortKw
import OpenK.KMore
import PySem.Challenge.RW_screenwise_k84_whole_paragraphs_with_lea
set_option Elab.async false
set_option linter.all false
set_option maxRecDepth 100000
set_option maxHeartbeats 4000000
set_option autoImplicit false
/-! Y: a value semantics over the hand layer: data, resources, states -/
namespace Y
open PySem PySem.Spec PyProof.Rows L2

abbrev D := PyData
abbrev Sg := L2.St
def keyD : Key → D
  | .inl i => .int i
  | .inr x => .str x
/-- what an expression gives: shared data that never changes again, or a new list, a new dict of such -/
inductive O where
  | leaf (d : D)
  | lst (ds : List D)
  | dic (kvs : List (D × D))
def O.d : O → D
  | .leaf d => d
  | .lst ds => .list ds
  | .dic k => .dict k
/-- what a slot holds; io: an argument that is changed for the caller -/
structure E where
  io : Bool
  o : O
abbrev lf (d : D) : E := ⟨false, .leaf d⟩
abbrev ow (o : O) : E := ⟨false, o⟩
abbrev Ev := List (Option E)
structure Err where
  cls : Str
  args : List D
inductive Rs (α : Type) where
  | ok (a : α) (ρ : Ev)
  | er (x : Err) (ρ : Ev)
  | stk
def bnd {α β : Type} (m : Ev → Rs α) (k : α → Ev → Rs β) : Ev → Rs β := fun ρ => match m ρ with
  | .ok a ρ' => k a ρ'
  | .er x ρ' => .er x ρ'
  | .stk => .stk
theorem bnd_ok {α β : Type} {m : Ev → Rs α} {k : α → Ev → Rs β} {ρ ρ' : Ev} {a : α} (h : m ρ = .ok a ρ') : bnd m k ρ = k a ρ' := by
  unfold bnd; rw [h]

/-- a text of signs that there are -/
def okS (x : Str) : Bool := x.cps.all (· < 0x110000)
def okK : Key → Bool
  | .inl _ => true
  | .inr x => okS x
mutual
/-- v reads, over S, as the data d -/
inductive Rp (K : PySem.W.Frag) (S : Hp) : V → D → Prop
  | non : Rp K S .non .none
  | bl (b : Bool) : Rp K S (.bl b) (.bool b)
  | int (i : Int) : Rp K S (.int i) (.int i)
  | str (x : Str) : okS x = true → Rp K S (.str x) (.str x)
  | lst {a : Addr} {xs : List V} {ds : List D} : SqL K S a xs → RpA K S xs ds → Rp K S (.ref a) (.list ds)
  | tup {a : Addr} {xs : List V} {ds : List D} : S a = some (.tup xs) → RpA K S xs ds → Rp K S (.ref a) (.tuple ds)
  | dK {a : Addr} {kvs : List (Key × V)} {es : List (D × D)} : Rd S a (.dK kvs) → (kvs = [] → S a = some (.dK kvs)) → RpK K S kvs es → Rp K S (.ref a) (.dict es)
  | dT {a : Addr} {kvs : List (List Key × V)} {es : List (D × D)} : Rd S a (.dT kvs) → kvs ≠ [] → RpT K S kvs es → Rp K S (.ref a) (.dict es)
inductive RpA (K : PySem.W.Frag) (S : Hp) : List V → List D → Prop
  | nil : RpA K S [] []
  | cons {v : V} {vs : List V} {d : D} {ds : List D} : Rp K S v d → RpA K S vs ds → RpA K S (v :: vs) (d :: ds)
inductive RpK (K : PySem.W.Frag) (S : Hp) : List (Key × V) → List (D × D) → Prop
  | nil : RpK K S [] []
  | cons {k : Key} {v : V} {d : D} {kvs : List (Key × V)} {es : List (D × D)} : okK k = true → Rp K S v d → RpK K S kvs es → RpK K S ((k, v) :: kvs) ((keyD k, d) :: es)
inductive RpT (K : PySem.W.Frag) (S : Hp) : List (List Key × V) → List (D × D) → Prop
  | nil : RpT K S [] []
  | cons {k : List Key} {v : V} {d : D} {kvs : List (List Key × V)} {es : List (D × D)} : (∀ x ∈ k, okK x = true) → Rp K S v d → RpT K S kvs es → RpT K S ((k, v) :: kvs) ((.tuple (k.map keyD), d) :: es)
end
theorem Same.rd {S S' : Hp} (h : Same S S') {a : Addr} {u : HO} (r : Rd S a u) : Rd S' a u := by
  rcases r with r | ⟨o, r⟩
  · exact .inl (h _ _ r)
  · exact .inr ⟨o, h _ _ r⟩
theorem Same.sqT {K : PySem.W.Frag} {S S' : Hp} {a : Addr} {xs : List V} (e : Same S S') (h : SqT K S a xs) : SqT K S' a xs := by
  rcases h with h | h
  · exact .inl (Same.rd e h)
  · exact .inr h
mutual
theorem Rp.mono {K : PySem.W.Frag} {S S' : Hp} (h : Same S S') : ∀ {v : V} {d : D}, Rp K S v d → Rp K S' v d
  | _, _, .non => .non
  | _, _, .bl b => .bl b
  | _, _, .int i => .int i
  | _, _, .str x h => .str x h
  | _, _, .lst a b => .lst (h.seq a) (RpA.mono h b)
  | _, _, .tup a b => .tup (h _ _ a) (RpA.mono h b)
  | _, _, .dK a c b => .dK (Same.rd h a) (fun z => h _ _ (c z)) (RpK.mono h b)
  | _, _, .dT a c b => .dT (Same.rd h a) c (RpT.mono h b)
theorem RpA.mono {K : PySem.W.Frag} {S S' : Hp} (h : Same S S') : ∀ {v : List V} {d : List D}, RpA K S v d → RpA K S' v d
  | _, _, .nil => .nil
  | _, _, .cons a b => .cons (Rp.mono h a) (RpA.mono h b)
theorem RpK.mono {K : PySem.W.Frag} {S S' : Hp} (h : Same S S') : ∀ {v : List (Key × V)} {d : List (D × D)}, RpK K S v d → RpK K S' v d
  | _, _, .nil => .nil
  | _, _, .cons o a b => .cons o (Rp.mono h a) (RpK.mono h b)
theorem RpT.mono {K : PySem.W.Frag} {S S' : Hp} (h : Same S S') : ∀ {v : List (List Key × V)} {d : List (D × D)}, RpT K S v d → RpT K S' v d
  | _, _, .nil => .nil
  | _, _, .cons o a b => .cons o (Rp.mono h a) (RpT.mono h b)
end
theorem RpA.length {K : PySem.W.Frag} {S : Hp} : ∀ {v : List V} {d : List D}, RpA K S v d → v.length = d.length
  | _, _, .nil => rfl
  | _, _, .cons _ b => congrArg (· + 1) (RpA.length b)
theorem RpA.get {K : PySem.W.Frag} {S : Hp} : ∀ {vs : List V} {ds : List D}, RpA K S vs ds → ∀ {i : Nat} {d : D}, ds[i]? = some d → ∃ v, vs[i]? = some v ∧ Rp K S v d
  | _, _, .nil, _, _, h => by simp at h
  | _, _, .cons a b, 0, _, h => by simp at h; subst h; exact ⟨_, rfl, a⟩
  | _, _, .cons a b, i + 1, _, h => by
    obtain ⟨v, e, r⟩ := RpA.get b (i := i) (by simpa using h)
    exact ⟨v, by simpa using e, r⟩
theorem RpA.app {K : PySem.W.Frag} {S : Hp} : ∀ {vs ws : List V} {ds es : List D}, RpA K S vs ds → RpA K S ws es → RpA K S (vs ++ ws) (ds ++ es)
  | _, _, _, _, .nil, h => h
  | _, _, _, _, .cons a b, h => .cons a (RpA.app b h)
theorem RpA.take {K : PySem.W.Frag} {S : Hp} : ∀ {vs : List V} {ds : List D} (n : Nat), RpA K S vs ds → RpA K S (vs.take n) (ds.take n)
  | _, _, 0, _ => by simp; exact .nil
  | _, _, n + 1, .nil => .nil
  | _, _, n + 1, .cons a b => .cons a (RpA.take n b)
theorem RpA.drop {K : PySem.W.Frag} {S : Hp} : ∀ {vs : List V} {ds : List D} (n : Nat), RpA K S vs ds → RpA K S (vs.drop n) (ds.drop n)
  | _, _, 0, h => h
  | _, _, n + 1, .nil => .nil
  | _, _, n + 1, .cons a b => RpA.drop n b
theorem RpA.set {K : PySem.W.Frag} {S : Hp} {v : V} {d : D} (r : Rp K S v d) : ∀ {vs : List V} {ds : List D} (n : Nat), RpA K S vs ds → RpA K S (vs.set n v) (ds.set n d)
  | _, _, _, .nil => .nil
  | _, _, 0, .cons a b => .cons r b
  | _, _, n + 1, .cons a b => .cons a (RpA.set r n b)

/-- a resource: what it is made of -/
inductive Own (K : PySem.W.Frag) (S H : Hp) : V → O → List Addr → Prop
  | leaf {v : V} {d : D} : Rp K S v d → Own K S H v (.leaf d) []
  | lst {a : Addr} {xs : List V} {ds : List D} : H a = some (.lst xs) → S a = none → RpA K S xs ds → Own K S H (.ref a) (.lst ds) [a]
  | dK {a : Addr} {kvs : List (Key × V)} {es : List (D × D)} : H a = some (.dK kvs) → S a = none → RpK K S kvs es → Own K S H (.ref a) (.dic es) [a]
  | dT {a : Addr} {kvs : List (List Key × V)} {es : List (D × D)} : H a = some (.dT kvs) → S a = none → kvs ≠ [] → RpT K S kvs es → Own K S H (.ref a) (.dic es) [a]
theorem Own.mono {K : PySem.W.Frag} {S S' H H' : Hp} {v : V} {o : O} {F : List Addr} (h : Own K S H v o F) (hs : Same S S') (hh : ∀ a ∈ F, H' a = H a ∧ S' a = none) : Own K S' H' v o F := by
  cases h with
  | leaf r => exact .leaf (r.mono hs)
  | lst e n r => exact .lst ((hh _ (by simp)).1.trans e) (hh _ (by simp)).2 (r.mono hs)
  | dK e n r => exact .dK ((hh _ (by simp)).1.trans e) (hh _ (by simp)).2 (r.mono hs)
  | dT e n ne r => exact .dT ((hh _ (by simp)).1.trans e) (hh _ (by simp)).2 ne (r.mono hs)
theorem Own.foot {K : PySem.W.Frag} {S H : Hp} {v : V} {o : O} {F F' : List Addr} (h : Own K S H v o F) (h' : Own K S H v o F') : F = F' := by
  cases h <;> cases h' <;> rfl
theorem Own.there {K : PySem.W.Frag} {S H : Hp} {v : V} {o : O} {F : List Addr} (h : Own K S H v o F) : ∀ a ∈ F, H a ≠ none ∧ S a = none := by
  cases h with
  | leaf r => intro a m; cases m
  | lst e n r => intro a m; simp at m; subst m; rw [e]; exact ⟨by simp, n⟩
  | dK e n r => intro a m; simp at m; subst m; rw [e]; exact ⟨by simp, n⟩
  | dT e n _ r => intro a m; simp at m; subst m; rw [e]; exact ⟨by simp, n⟩

/-- a def's frame: what was shared, what was there at its entry, what of it may be changed, the parameters' values -/
structure Fra where
  S0 : Hp
  H0 : Hp
  M : Addr → Prop
  P : Sg
def Flag (G : Fra) (io : Bool) (a : Addr) : Prop := if io = true then G.M a ∨ G.H0 a = none else G.H0 a = none
/-- resources, each apart from the others -/
inductive Sep (K : PySem.W.Frag) (G : Fra) (S H : Hp) : List (V × E) → List Addr → Prop
  | nil : Sep K G S H [] []
  | cons {v : V} {e : E} {L : List (V × E)} {F1 F2 : List Addr} : Own K S H v e.o F1 → (∀ a ∈ F1, Flag G e.io a) → Sep K G S H L F2 → (∀ a ∈ F1, a ∉ F2) → Sep K G S H ((v, e) :: L) (F1 ++ F2)
section
variable {K : PySem.W.Frag} {G : Fra} {S S' H H' : Hp}
theorem Sep.mono {L : List (V × E)} {F : List Addr} (h : Sep K G S H L F) (hs : Same S S') (hh : ∀ a ∈ F, H' a = H a ∧ S' a = none) : Sep K G S' H' L F := by
  induction h with
  | nil => exact .nil
  | cons o f _ dj ih => exact .cons (o.mono hs fun a m => hh a (List.mem_append_left _ m)) f (ih fun a m => hh a (List.mem_append_right _ m)) dj
theorem Sep.there {L : List (V × E)} {F : List Addr} (h : Sep K G S H L F) : ∀ a ∈ F, H a ≠ none ∧ S a = none := by
  induction h with
  | nil => intro a m; cases m
  | cons o f _ dj ih =>
    intro a m
    rcases List.mem_append.mp m with m | m
    · exact o.there a m
    · exact ih a m
theorem Sep.perm {L L' : List (V × E)} {F : List Addr} (p : L.Perm L') (h : Sep K G S H L F) : ∃ F', Sep K G S H L' F' ∧ ∀ a, a ∈ F' ↔ a ∈ F := by
  induction p generalizing F with
  | nil => exact ⟨F, h, fun _ => Iff.rfl⟩
  | cons x p ih =>
    cases h with
    | cons o f h2 dj =>
      obtain ⟨F', h', e⟩ := ih h2
      refine ⟨_, .cons o f h' fun a m m' => dj a m ((e a).mp m'), fun a => ?_⟩
      simp only [List.mem_append, e]
  | swap x y l =>
    cases h with
    | cons o f h2 dj =>
      cases h2 with
      | cons o2 f2 h3 dj2 =>
        refine ⟨_, .cons o2 f2 (.cons o f h3 fun a m m' => dj a m (List.mem_append_right _ m')) fun a m m' => ?_, fun a => ?_⟩
        · rcases List.mem_append.mp m' with q | q
          · exact dj a q (List.mem_append_left _ m)
          · exact dj2 a m q
        · simp only [List.mem_append]
          constructor
          · rintro (q | q | q)
            · exact .inr (.inl q)
            · exact .inl q
            · exact .inr (.inr q)
          · rintro (q | q | q)
            · exact .inr (.inl q)
            · exact .inl q
            · exact .inr (.inr q)
  | trans p q ih1 ih2 =>
    obtain ⟨F1, h1, e1⟩ := ih1 h
    obtain ⟨F2, h2, e2⟩ := ih2 h1
    exact ⟨F2, h2, fun a => (e2 a).trans (e1 a)⟩
theorem Sep.sub {L L' : List (V × E)} {F : List Addr} (p : L'.Sublist L) (h : Sep K G S H L F) : ∃ F', Sep K G S H L' F' ∧ ∀ a, a ∈ F' → a ∈ F := by
  induction p generalizing F with
  | slnil => exact ⟨F, h, fun _ m => m⟩
  | cons x p ih =>
    cases h with
    | cons o f h2 dj =>
      obtain ⟨F', h', e⟩ := ih h2
      exact ⟨F', h', fun a m => List.mem_append_right _ (e a m)⟩
  | cons_cons x p ih =>
    cases h with
    | cons o f h2 dj =>
      obtain ⟨F', h', e⟩ := ih h2
      refine ⟨_, .cons o f h' fun a m m' => dj a m (e a m'), fun a m => ?_⟩
      rcases List.mem_append.mp m with m | m
      · exact List.mem_append_left _ m
      · exact List.mem_append_right _ (e a m)
end

/-- the resources that the slots hold -/
inductive Sl : Sg → Ev → List (V × E) → Prop
  | nil : Sl [] [] []
  | out {x : Option V} {σ : Sg} {ρ : Ev} {L : List (V × E)} : Sl σ ρ L → Sl (x :: σ) (none :: ρ) L
  | inn {v : V} {e : E} {σ : Sg} {ρ : Ev} {L : List (V × E)} : Sl σ ρ L → Sl (some v :: σ) (some e :: ρ) ((v, e) :: L)
theorem Sl.length {σ : Sg} {ρ : Ev} {L : List (V × E)} (h : Sl σ ρ L) : σ.length = ρ.length := by
  induction h with
  | nil => rfl
  | out _ ih => simp [ih]
  | inn _ ih => simp [ih]
/-- the entry at a place, the others, and another entry there -/
theorem Sl.at {σ : Sg} {ρ : Ev} {L : List (V × E)} (h : Sl σ ρ L) : ∀ {i : Nat} {e : E}, ρ[i]? = some (some e) → ∃ v L', σ[i]? = some (some v) ∧ L.Perm ((v, e) :: L') ∧ Sl σ (ρ.set i none) L' ∧
    (∀ e', ∃ L'', Sl σ (ρ.set i (some e')) L'' ∧ L''.Perm ((v, e') :: L')) := by
  induction h with
  | nil => intro i e h; simp at h
  | @out x σ ρ L h ih =>
    intro i e he
    cases i with
    | zero => simp at he
    | succ i =>
      obtain ⟨v, L', a, b, c, d⟩ := ih (i := i) (by simpa using he)
      exact ⟨v, L', by simpa using a, b, .out c, fun e' => let ⟨L'', p, q⟩ := d e'; ⟨L'', .out p, q⟩⟩
  | @inn v e0 σ ρ L h ih =>
    intro i e he
    cases i with
    | zero =>
      simp at he
      subst he
      exact ⟨v, L, rfl, .refl _, .out h, fun e' => ⟨_, .inn h, .refl _⟩⟩
    | succ i =>
      obtain ⟨w, L', a, b, c, d⟩ := ih (i := i) (by simpa using he)
      refine ⟨w, (v, e0) :: L', by simpa using a, (List.Perm.cons _ b).trans (.swap _ _ _), .inn c, fun e' => ?_⟩
      obtain ⟨L'', p, q⟩ := d e'
      exact ⟨_, .inn p, (List.Perm.cons _ q).trans (.swap _ _ _)⟩
/-- a place is set -/
theorem Sl.put {σ : Sg} {ρ : Ev} {L : List (V × E)} (h : Sl σ ρ L) : ∀ {i : Nat} (v : V) (e : E), i < σ.length → ∃ L' L'', L'.Sublist L ∧ Sl (σ.set i (some v)) (ρ.set i (some e)) L'' ∧ L''.Perm ((v, e) :: L') := by
  induction h with
  | nil => intro i v e hi; simp at hi
  | @out x σ ρ L h ih =>
    intro i v e hi
    cases i with
    | zero => exact ⟨L, _, .refl _, .inn h, .refl _⟩
    | succ i =>
      obtain ⟨L', L'', a, b, c⟩ := ih (i := i) v e (by simpa using hi)
      exact ⟨L', L'', a, .out b, c⟩
  | @inn w e0 σ ρ L h ih =>
    intro i v e hi
    cases i with
    | zero => exact ⟨L, _, .cons _ (.refl _), .inn h, .refl _⟩
    | succ i =>
      obtain ⟨L', L'', a, b, c⟩ := ih (i := i) v e (by simpa using hi)
      exact ⟨(w, e0) :: L', _, .cons_cons _ a, .inn b, (List.Perm.cons _ c).trans (.swap _ _ _)⟩
/-- a place is forgotten, in both -/
theorem Sl.clr {σ : Sg} {ρ : Ev} {L : List (V × E)} (h : Sl σ ρ L) : ∀ (i : Nat), ∃ L', L'.Sublist L ∧ Sl σ (ρ.set i none) L' ∧ ∀ x, Sl (σ.set i x) (ρ.set i none) L' := by
  induction h with
  | nil => intro i; exact ⟨[], .refl _, .nil, fun _ => .nil⟩
  | @out x σ ρ L h ih =>
    intro i
    cases i with
    | zero => exact ⟨L, .refl _, .out h, fun _ => .out h⟩
    | succ i =>
      obtain ⟨L', a, b, c⟩ := ih i
      exact ⟨L', a, .out b, fun y => .out (c y)⟩
  | @inn w e0 σ ρ L h ih =>
    intro i
    cases i with
    | zero => exact ⟨L, .cons _ (.refl _), .out h, fun _ => .out h⟩
    | succ i =>
      obtain ⟨L', a, b, c⟩ := ih i
      exact ⟨(w, e0) :: L', .cons_cons _ a, .inn b, fun y => .inn (c y)⟩

/-- THE STATE: temporaries T, slots' entries ρ, over the shared part S of what is tracked, H -/
structure Stt (K : PySem.W.Frag) (G : Fra) (T : List (V × E)) (ρ : Ev) (σ : Sg) (S H : Hp) : Prop where
  sub : Same S H
  s0 : Same G.S0 S
  keep : ∀ a o, ¬ G.M a → G.H0 a = some o → H a = some o
  dom : ∀ a, G.H0 a ≠ none → H a ≠ none
  new : ∀ a, G.H0 a ≠ none → G.S0 a = none → S a = none ∨ ∃ xs, S a = some (.tup xs)
  ios : ∀ (i : Nat) (e : E), ρ[i]? = some (some e) → e.io = true → σ[i]? = G.P[i]?
  res : ∃ L F, Sl σ ρ L ∧ Sep K G S H (T ++ L) F
section
variable {K : PySem.W.Frag} {G : Fra} {T T' : List (V × E)} {ρ : Ev} {σ : Sg} {S S' H H' : Hp}
theorem Stt.len (s : Stt K G T ρ σ S H) : σ.length = ρ.length := by
  obtain ⟨L, F, sl, _⟩ := s.res
  exact sl.length
theorem Stt.permT (s : Stt K G T ρ σ S H) (p : T.Perm T') : Stt K G T' ρ σ S H := by
  obtain ⟨L, F, sl, sep⟩ := s.res
  obtain ⟨F', sep', _⟩ := sep.perm (p.append_right L)
  exact ⟨s.sub, s.s0, s.keep, s.dom, s.new, s.ios, L, F', sl, sep'⟩
theorem Stt.subT (s : Stt K G T ρ σ S H) (p : T'.Sublist T) : Stt K G T' ρ σ S H := by
  obtain ⟨L, F, sl, sep⟩ := s.res
  obtain ⟨F', sep', _⟩ := sep.sub (p.append (.refl L))
  exact ⟨s.sub, s.s0, s.keep, s.dom, s.new, s.ios, L, F', sl, sep'⟩
theorem Stt.drop1 {x : V × E} (s : Stt K G (x :: T) ρ σ S H) : Stt K G T ρ σ S H := s.subT (.cons _ (.refl _))
/-- the head temporary -/
theorem Stt.head {v : V} {e : E} (s : Stt K G ((v, e) :: T) ρ σ S H) : ∃ F, Own K S H v e.o F ∧ (∀ a ∈ F, Flag G e.io a) := by
  obtain ⟨L, F, sl, sep⟩ := s.res
  cases sep with
  | cons o f _ _ => exact ⟨_, o, f⟩
/-- one more value of shared data -/
theorem Stt.push {v : V} {d : D} (s : Stt K G T ρ σ S H) (r : Rp K S v d) : Stt K G ((v, lf d) :: T) ρ σ S H := by
  obtain ⟨L, F, sl, sep⟩ := s.res
  exact ⟨s.sub, s.s0, s.keep, s.dom, s.new, s.ios, L, _, sl, .cons (.leaf r) (by simp) sep (by simp)⟩
/-- a new shared object -/
theorem Stt.share {p : Addr} {u : HO} (s : Stt K G T ρ σ S H) (n : H p = none) : Stt K G T ρ σ (upd S p u) (upd H p u) := by
  have hsp : S p = none := s.sub.free n
  have ss : Same S (upd S p u) := fun b o e => by rw [upd_ne (ne_of_none e hsp)]; exact e
  obtain ⟨L, F, sl, sep⟩ := s.res
  refine ⟨fun b o e => ?_, fun b o e => ss _ _ (s.s0 _ _ e), fun a o m e => ?_, fun a m => ?_, fun a m z => ?_, s.ios, L, F, sl, sep.mono ss fun a m => ?_⟩
  · by_cases hb : b = p
    · subst hb; rw [upd_same] at e ⊢; exact e
    · rw [upd_ne hb] at e ⊢; exact s.sub _ _ e
  · rw [upd_ne (ne_of_none (s.keep a o m e) n)]; exact s.keep a o m e
  · by_cases hb : a = p
    · subst hb; rw [upd_same]; simp
    · rw [upd_ne hb]; exact s.dom a m
  · have hb : a ≠ p := fun z' => s.dom a m (z' ▸ n)
    rw [upd_ne hb]; exact s.new a m z
  · have hb : a ≠ p := fun z' => (sep.there a m).1 (z' ▸ n)
    rw [upd_ne hb, upd_ne hb]; exact ⟨rfl, (sep.there a m).2⟩
/-- a new object of ours -/
theorem Stt.make {p : Addr} {u : HO} {o : O} (s : Stt K G T ρ σ S H) (n : H p = none) (w : Own K S (upd H p u) (.ref p) o [p]) : Stt K G ((.ref p, ow o) :: T) ρ σ S (upd H p u) := by
  have hsp : S p = none := s.sub.free n
  obtain ⟨L, F, sl, sep⟩ := s.res
  have hF : ∀ a ∈ F, a ≠ p := fun a m z' => (sep.there a m).1 (z' ▸ n)
  refine ⟨fun b o e => ?_, s.s0, fun a o m e => ?_, fun a m => ?_, s.new, s.ios, L, _, sl, .cons w (fun a m => ?_) (sep.mono (Same.refl _) fun a m => ?_) fun a m m' => ?_⟩
  · rw [upd_ne (ne_of_none (s.sub _ _ e) n)]; exact s.sub _ _ e
  · rw [upd_ne (ne_of_none (s.keep a o m e) n)]; exact s.keep a o m e
  · by_cases hb : a = p
    · subst hb; rw [upd_same]; simp
    · rw [upd_ne hb]; exact s.dom a m
  · simp at m; subst m
    show G.H0 a = none
    cases q : G.H0 a with
    | none => rfl
    | some o => exact absurd n (s.dom a (by rw [q]; simp))
  · rw [upd_ne (hF a m)]; exact ⟨rfl, (sep.there a m).2⟩
  · simp at m; subst m; exact hF _ m' rfl
/-- the head temporary's object is written -/
theorem Stt.write {a : Addr} {e : E} {u : HO} {o' : O} (s : Stt K G ((.ref a, e) :: T) ρ σ S H) (he : Own K S H (.ref a) e.o [a]) (w : Own K S (upd H a u) (.ref a) o' [a]) : Stt K G ((.ref a, ⟨e.io, o'⟩) :: T) ρ σ S (upd H a u) := by
  obtain ⟨L, F, sl, sep⟩ := s.res
  have hsa : S a = none := (he.there a (by simp)).2
  have hha : H a ≠ none := (he.there a (by simp)).1
  cases sep with
  | @cons _ _ _ F1 F2 ow' f sep dj =>
    have hF1 : F1 = [a] := ow'.foot he
    subst hF1
    have hF : ∀ b ∈ F2, b ≠ a := fun b m z => dj a (by simp) (z ▸ m)
    have fl := f a (by simp)
    refine ⟨fun b o q => ?_, s.s0, fun b o m q => ?_, fun b m => ?_, s.new, s.ios, L, _, sl, .cons w f (sep.mono (Same.refl _) fun b m => ?_) dj⟩
    · rw [upd_ne (ne_of_none q hsa)]; exact s.sub _ _ q
    · by_cases hb : b = a
      · subst hb
        exfalso
        unfold Flag at fl
        split at fl
        · rcases fl with z | z
          · exact m z
          · rw [z] at q; cases q
        · rw [fl] at q; cases q
      · rw [upd_ne hb]; exact s.keep b o m q
    · by_cases hb : b = a
      · subst hb; rw [upd_same]; simp
      · rw [upd_ne hb]; exact s.dom b m
    · rw [upd_ne (hF b m)]; exact ⟨rfl, (sep.there b m).2⟩
theorem nolist_nil {α : Type} {p : List α} (h : p = []) : ∀ a, a ∉ p := by subst h; simp
/-- the head temporary becomes shared -/
theorem Stt.freeze {v : V} {o : O} (s : Stt K G ((v, ow o) :: T) ρ σ S H) : ∃ S', Stt K G ((v, lf o.d) :: T) ρ σ S' H ∧ Same S S' ∧ Rp K S' v o.d := by
  obtain ⟨L, F, sl, sep⟩ := s.res
  cases sep with
  | @cons _ _ _ F1 F2 own f sep dj =>
    have key : ∀ {a : Addr} {u : HO}, F1 = [a] → H a = some u → S a = none → (∀ S', Same S S' → S' a = some u → Rp K S' v o.d) → ∃ S', Stt K G ((v, lf o.d) :: T) ρ σ S' H ∧ Same S S' ∧ Rp K S' v o.d := by
      intro a u e1 e2 e3 r
      subst e1
      have ss : Same S (upd S a u) := fun b o e => by rw [upd_ne (ne_of_none e e3)]; exact e
      have rr := r _ ss upd_same
      have fl : G.H0 a = none := f a (by simp)
      refine ⟨upd S a u, ⟨fun b o e => ?_, fun b o e => ss _ _ (s.s0 _ _ e), s.keep, s.dom, fun b m z => ?_, s.ios, L, _, sl, .cons (.leaf rr) (by simp) (sep.mono ss fun b m => ⟨rfl, ?_⟩) (by simp)⟩, ss, rr⟩
      · by_cases hb : b = a
        · subst hb; rw [upd_same] at e; rw [← e]; exact e2
        · rw [upd_ne hb] at e; exact s.sub _ _ e
      · have hb : b ≠ a := fun z' => m (z' ▸ fl)
        rw [upd_ne hb]; exact s.new b m z
      · have hb : b ≠ a := fun z' => dj a (by simp) (z' ▸ m)
        rw [upd_ne hb]; exact (sep.there b m).2
    cases own with
    | leaf r => exact ⟨S, s, Same.refl _, r⟩
    | lst e n r => exact key rfl e n fun S' ss es => .lst (SqL.of es) (r.mono ss)
    | dK e n r => exact key rfl e n fun S' ss es => .dK (.inl es) (fun _ => es) (r.mono ss)
    | dT e n ne r => exact key rfl e n fun S' ss es => .dT (.inl es) ne (r.mono ss)
/-- a slot's entry is taken out as a temporary -/
theorem Stt.take {i : Nat} {e : E} (s : Stt K G T ρ σ S H) (h : ρ[i]? = some (some e)) : ∃ v, σ[i]? = some (some v) ∧ Stt K G ((v, e) :: T) (ρ.set i none) σ S H := by
  obtain ⟨L, F, sl, sep⟩ := s.res
  obtain ⟨v, L', a, b, c, d⟩ := sl.at h
  obtain ⟨F', sep', _⟩ := sep.perm (((List.Perm.append_left T b)).trans List.perm_middle)
  refine ⟨v, a, s.sub, s.s0, s.keep, s.dom, s.new, fun j e' q => ?_, L', F', c, sep'⟩
  by_cases hj : i = j
  · subst hj
    by_cases hl : i < ρ.length
    · rw [List.getElem?_set_self hl] at q; cases q
    · rw [List.getElem?_eq_none (by simpa using hl)] at q; cases q
  · rw [List.getElem?_set_ne hj] at q; exact s.ios j e' q
/-- .. and put back, perhaps changed -/
theorem Stt.back {i : Nat} {e e' : E} {v : V} (s : Stt K G ((v, e') :: T) (ρ.set i none) σ S H) (h : ρ[i]? = some (some e)) (hv : σ[i]? = some (some v)) (hio : e'.io = true → σ[i]? = G.P[i]?) : Stt K G T (ρ.set i (some e')) σ S H := by
  obtain ⟨L, F, sl, sep⟩ := s.res
  have hi : i < ρ.length := (List.getElem?_eq_some_iff.mp h).1
  have hl : i < σ.length := (List.getElem?_eq_some_iff.mp hv).1
  obtain ⟨L', L'', sb, sl', p⟩ := sl.put v e' hl
  have e1 : σ.set i (some v) = σ := by
    obtain ⟨h1, h2⟩ := List.getElem?_eq_some_iff.mp hv
    rw [← h2, List.set_getElem_self]
  rw [e1, List.set_set] at sl'
  obtain ⟨F1, sep1, _⟩ := sep.sub ((List.Sublist.cons_cons (v, e') ((List.Sublist.refl T).append sb)))
  obtain ⟨F2, sep2, _⟩ := sep1.perm ((List.perm_middle.symm).trans (List.Perm.append_left T p.symm))
  refine ⟨s.sub, s.s0, s.keep, s.dom, s.new, fun j e2 q io => ?_, L'', F2, sl', sep2⟩
  by_cases hj : i = j
  · subst hj
    rw [List.getElem?_set_self hi] at q
    cases q
    exact hio io
  · rw [List.getElem?_set_ne hj] at q
    exact s.ios j e2 (by rw [List.getElem?_set_ne hj]; exact q) io
/-- a temporary goes to a slot -/
theorem Stt.store {i : Nat} {v : V} {o : O} (s : Stt K G ((v, ow o) :: T) ρ σ S H) (hi : i < σ.length) : Stt K G T (ρ.set i (some (ow o))) (σ.set i (some v)) S H := by
  obtain ⟨L, F, sl, sep⟩ := s.res
  obtain ⟨L', L'', sb, sl', p⟩ := sl.put v (ow o) hi
  obtain ⟨F1, sep1, _⟩ := sep.sub ((List.Sublist.cons_cons (v, ow o) ((List.Sublist.refl T).append sb)))
  obtain ⟨F2, sep2, _⟩ := sep1.perm ((List.perm_middle.symm).trans (List.Perm.append_left T p.symm))
  refine ⟨s.sub, s.s0, s.keep, s.dom, s.new, fun j e2 q io => ?_, L'', F2, sl', sep2⟩
  by_cases hj : i = j
  · subst hj
    have hl : i < ρ.length := by rw [← s.len]; exact hi
    rw [List.getElem?_set_self hl] at q
    cases q; cases io
  · rw [List.getElem?_set_ne hj] at q ⊢
    exact s.ios j e2 q io
/-- a slot is forgotten -/
theorem Stt.clr (s : Stt K G T ρ σ S H) (i : Nat) : Stt K G T (ρ.set i none) σ S H := by
  obtain ⟨L, F, sl, sep⟩ := s.res
  obtain ⟨L', sb, sl', _⟩ := sl.clr i
  obtain ⟨F1, sep1, _⟩ := sep.sub ((List.Sublist.refl T).append sb)
  refine ⟨s.sub, s.s0, s.keep, s.dom, s.new, fun j e2 q io => ?_, L', F1, sl', sep1⟩
  by_cases hj : i = j
  · subst hj
    by_cases hl : i < ρ.length
    · rw [List.getElem?_set_self hl] at q; cases q
    · rw [List.getElem?_eq_none (by simpa using hl)] at q; cases q
  · rw [List.getElem?_set_ne hj] at q; exact s.ios j e2 q io
end
end Y
/-! Y: expressions -/
namespace Y
open PySem PySem.Spec PyProof.Rows L2

/-! ### what a value reads as, its own object at hand -/
inductive Rt (K : PySem.W.Frag) (S H : Hp) : V → D → Prop
  | non : Rt K S H .non .none
  | bl (b : Bool) : Rt K S H (.bl b) (.bool b)
  | int (i : Int) : Rt K S H (.int i) (.int i)
  | str (x : Str) : okS x = true → Rt K S H (.str x) (.str x)
  | lst {a : Addr} {xs : List V} {ds : List D} : SqL K H a xs → RpA K S xs ds → Rt K S H (.ref a) (.list ds)
  | tup {a : Addr} {xs : List V} {ds : List D} : S a = some (.tup xs) → H a = some (.tup xs) → RpA K S xs ds → Rt K S H (.ref a) (.tuple ds)
  | dK {a : Addr} {kvs : List (Key × V)} {es : List (D × D)} : Rd H a (.dK kvs) → (kvs = [] → H a = some (.dK kvs)) → RpK K S kvs es → Rt K S H (.ref a) (.dict es)
  | dT {a : Addr} {kvs : List (List Key × V)} {es : List (D × D)} : Rd H a (.dT kvs) → kvs ≠ [] → RpT K S kvs es → Rt K S H (.ref a) (.dict es)
section
variable {K : PySem.W.Frag} {S H : Hp} {v : V} {d : D} {ds : List D}
theorem Rp.rt (h : Rp K S v d) (ss : Same S H) : Rt K S H v d := by
  cases h with
  | non => exact .non
  | bl b => exact .bl b
  | int i => exact .int i
  | str x q => exact .str x q
  | lst a b => exact .lst (ss.seq a) b
  | tup a b => exact .tup a (ss _ _ a) b
  | dK a c b => exact .dK (Same.rd ss a) (fun z => ss _ _ (c z)) b
  | dT a c b => exact .dT (Same.rd ss a) c b
theorem Own.rt {o : O} {F : List Addr} (h : Own K S H v o F) (ss : Same S H) : Rt K S H v o.d := by
  cases h with
  | leaf r => exact r.rt ss
  | lst e n r => exact .lst (SqL.of e) r
  | dK e n r => exact .dK (.inl e) (fun _ => e) r
  | dT e n ne r => exact .dT (.inl e) ne r
theorem Rt.int_of {i : Int} (h : Rt K S H v (.int i)) : v = .int i := by cases h; rfl
theorem Rt.bl_of {i : Bool} (h : Rt K S H v (.bool i)) : v = .bl i := by cases h; rfl
theorem Rt.str_of {i : Str} (h : Rt K S H v (.str i)) : v = .str i := by cases h; rfl
theorem Rt.str_ok {i : Str} (h : Rt K S H v (.str i)) : okS i = true := by cases h; assumption
theorem Rt.non_of (h : Rt K S H v .none) : v = .non := by cases h; rfl
theorem Rt.lst_of (h : Rt K S H v (.list ds)) : ∃ a xs, v = .ref a ∧ SqL K H a xs ∧ RpA K S xs ds := by cases h with | lst a b => exact ⟨_, _, rfl, a, b⟩
theorem Rt.tup_of (h : Rt K S H v (.tuple ds)) : ∃ a xs, v = .ref a ∧ SqT K H a xs ∧ RpA K S xs ds := by cases h with | tup c a b => exact ⟨_, _, rfl, SqT.of a, b⟩
theorem Rt.tup_S (h : Rt K S H v (.tuple ds)) : ∃ a xs, v = .ref a ∧ S a = some (.tup xs) ∧ H a = some (.tup xs) ∧ RpA K S xs ds := by cases h with | tup c a b => exact ⟨_, _, rfl, c, a, b⟩
end
section
variable {K : PySem.W.Frag} {G : Fra} {T T' : List (V × E)} {ρ : Ev} {σ : Sg} {S S' H H' : Hp}
theorem Sep.mem {L : List (V × E)} {F : List Addr} (h : Sep K G S H L F) {v : V} {e : E} (m : (v, e) ∈ L) : ∃ F', Own K S H v e.o F' := by
  induction h with
  | nil => cases m
  | cons o f _ dj ih =>
    rcases List.mem_cons.mp m with q | q
    · cases q; exact ⟨_, o⟩
    · exact ih q
theorem Stt.rtT (s : Stt K G T ρ σ S H) {v : V} {e : E} (m : (v, e) ∈ T) : Rt K S H v e.o.d := by
  obtain ⟨L, F, sl, sep⟩ := s.res
  obtain ⟨F', o⟩ := sep.mem (List.mem_append_left _ m)
  exact o.rt s.sub
theorem Stt.rtS (s : Stt K G T ρ σ S H) {i : Nat} {e : E} (h : ρ[i]? = some (some e)) {v : V} (hv : σ[i]? = some (some v)) : Rt K S H v e.o.d := by
  obtain ⟨w, hw, s'⟩ := s.take h
  rw [hv] at hw; cases hw
  exact s'.rtT (by simp)
end

/-! ### operands -/
inductive B where
  | tmp (o : O)
  | slot (i : Nat)
def B.val (ρ : Ev) : B → Option D
  | .tmp o => some o.d
  | .slot i => match ρ[i]? with
    | some (some e) => some e.o.d
    | _ => none
def B.tm (v : V) : B → List (V × E)
  | .tmp o => [(v, ow o)]
  | .slot _ => []
def B.at (σ : Sg) (v : V) : B → Prop
  | .tmp _ => True
  | .slot i => σ[i]? = some (some v)
def tms : List V → List B → List (V × E)
  | v :: vs, b :: bs => b.tm v ++ tms vs bs
  | _, _ => []
inductive AllAt (σ : Sg) : List V → List B → Prop
  | nil : AllAt σ [] []
  | cons {v : V} {b : B} {vs : List V} {bs : List B} : b.at σ v → AllAt σ vs bs → AllAt σ (v :: vs) (b :: bs)
inductive RtA (K : PySem.W.Frag) (S H : Hp) : List V → List D → Prop
  | nil : RtA K S H [] []
  | cons {v : V} {vs : List V} {d : D} {ds : List D} : Rt K S H v d → RtA K S H vs ds → RtA K S H (v :: vs) (d :: ds)
def vals (ρ : Ev) : List B → Option (List D)
  | [] => some []
  | b :: bs => match b.val ρ with
    | some d => (match vals ρ bs with | some ds => some (d :: ds) | none => none)
    | none => none
section
variable {K : PySem.W.Frag} {G : Fra} {T T' : List (V × E)} {ρ : Ev} {σ : Sg} {S S' H H' : Hp}
theorem B.rt {b : B} {v : V} {d : D} (s : Stt K G T ρ σ S H) (hm : ∀ x ∈ b.tm v, x ∈ T) (ha : b.at σ v) (hv : b.val ρ = some d) : Rt K S H v d := by
  cases b with
  | tmp o =>
    have e : o.d = d := Option.some.inj hv
    subst e
    exact s.rtT (e := ow o) (hm _ (by simp [B.tm]))
  | slot i =>
    have hv : (match ρ[i]? with | some (some e) => some e.o.d | _ => none) = some d := hv
    split at hv
    · rename_i e he
      have e1 : e.o.d = d := Option.some.inj hv
      subst e1
      exact s.rtS he ha
    · cases hv
theorem AllAt.rt {vs : List V} {bs : List B} (h : AllAt σ vs bs) (s : Stt K G T ρ σ S H) : ∀ {ds : List D}, (∀ x ∈ tms vs bs, x ∈ T) → vals ρ bs = some ds → RtA K S H vs ds := by
  induction h with
  | nil => intro ds _ e; cases e; exact .nil
  | @cons v b vs bs a h ih =>
    intro ds hm e
    unfold vals at e
    cases e1 : b.val ρ with
    | none => rw [e1] at e; cases e
    | some d =>
      rw [e1] at e
      cases e2 : vals ρ bs with
      | none => simp only [e2] at e; cases e
      | some es =>
        simp only [e2] at e
        cases e
        refine .cons (B.rt s (fun x m => hm x ?_) a e1) (ih (fun x m => hm x ?_) e2)
        · exact List.mem_append_left _ m
        · exact List.mem_append_right _ m
end

/-! ### judgements -/
abbrev XW := Err → Sg → Hp → Prop
def GoR {α : Type} (K : PySem.W.Frag) (W : XW) (G : Fra) (T : List (V × E)) (σ : Sg) (P : α → Ev → Prop) : Rs α → Prop
  | .ok a ρ' => P a ρ'
  | .er x ρ' => ∀ S' H', Stt K G T ρ' σ S' H' → W x σ H'
  | .stk => False
abbrev GoE (K : PySem.W.Frag) (W : XW) (G : Fra) (T : List (V × E)) (σ : Sg) (Q : VK) : Rs O → Prop := GoR K W G T σ fun o ρ' => ∀ v S' H', Stt K G ((v, ow o) :: T) ρ' σ S' H' → Q v H'
abbrev GoB (K : PySem.W.Frag) (W : XW) (G : Fra) (T : List (V × E)) (σ : Sg) (Q : VK) : Rs B → Prop := GoR K W G T σ fun b ρ' => ∀ v S' H', Stt K G (b.tm v ++ T) ρ' σ S' H' → b.at σ v → Q v H'
abbrev GoA (K : PySem.W.Frag) (W : XW) (G : Fra) (T : List (V × E)) (σ : Sg) (Q : List V → Hp → Prop) : Rs (List B) → Prop := GoR K W G T σ fun bs ρ' => ∀ vs S' H', Stt K G (tms vs bs ++ T) ρ' σ S' H' → AllAt σ vs bs → Q vs H'
abbrev GoT (K : PySem.W.Frag) (W : XW) (G : Fra) (T : List (V × E)) (σ : Sg) (Q : Bool → Hp → Prop) : Rs Bool → Prop := GoR K W G T σ fun b ρ' => ∀ S' H', Stt K G T ρ' σ S' H' → Q b H'
def tE (K : PySem.W.Frag) (W : XW) (f : Ev → Rs O) : TE := fun σ H Q => ∃ G T S ρ, Stt K G T ρ σ S H ∧ GoE K W G T σ Q (f ρ)
def tB' (K : PySem.W.Frag) (W : XW) (f : Ev → Rs B) : TE := fun σ H Q => ∃ G T S ρ, Stt K G T ρ σ S H ∧ GoB K W G T σ Q (f ρ)
def tA (K : PySem.W.Frag) (W : XW) (f : Ev → Rs (List B)) : TA := fun σ H Q => ∃ G T S ρ, Stt K G T ρ σ S H ∧ GoA K W G T σ Q (f ρ)
def tT (K : PySem.W.Frag) (W : XW) (f : Ev → Rs Bool) : TT := fun σ H Q => ∃ G T S ρ, Stt K G T ρ σ S H ∧ GoT K W G T σ Q (f ρ)
/-- an expression, its value to be kept; an operand, only to be looked at; arguments; a test -/
abbrev DE (X : Cx) (W : XW) (e : Expr) (f : Ev → Rs O) : Prop := PE X e (tE X.K W f)
abbrev DB (X : Cx) (W : XW) (e : Expr) (f : Ev → Rs B) : Prop := PE X e (tB' X.K W f)
abbrev DA (X : Cx) (W : XW) (es : List Expr) (f : Ev → Rs (List B)) : Prop := PA X es (tA X.K W f)
abbrev DT (X : Cx) (W : XW) (e : Expr) (f : Ev → Rs Bool) : Prop := PT X e (tT X.K W f)
abbrev DW (X : Cx) (W : XW) (e : Expr) (f : Ev → Rs Bool) : Prop := PW X e (tT X.K W f)
theorem PE.imp {X : Cx} {e : Expr} {t u : TE} (h : PE X e t) (k : ∀ σ H Q, u σ H Q → t σ H Q) : PE X e u := ⟨fun pins s σ H Q I q => h.run pins s σ H Q I (k σ H Q q)⟩
theorem PT.imp {X : Cx} {e : Expr} {t u : TT} (h : PT X e t) (k : ∀ σ H Q, u σ H Q → t σ H Q) : PT X e u := ⟨fun pins s σ H Q I q => h.run pins s σ H Q I (k σ H Q q)⟩
theorem PW.imp {X : Cx} {e : Expr} {t u : TT} (h : PW X e t) (k : ∀ σ H Q, u σ H Q → t σ H Q) : PW X e u := ⟨fun w pins s σ H Q I q => h.run w pins s σ H Q I (k σ H Q q)⟩
theorem PA.imp {X : Cx} {e : List Expr} {t u : TA} (h : PA X e t) (k : ∀ σ H Q, u σ H Q → t σ H Q) : PA X e u := ⟨fun pos pins s σ H Q I q => h.run pos pins s σ H Q I (k σ H Q q)⟩

/-! ### running one part, then the next -/
section
variable {K : PySem.W.Frag} {W : XW} {G : Fra} {T T1 : List (V × E)} {σ : Sg} {S H : Hp} {ρ : Ev} {α β : Type}
theorem seq {f : Ev → Rs α} {k : α → Ev → Rs β} {P : α → Ev → Prop} {P' : β → Ev → Prop} (hT : ∀ ρ' S' H', Stt K G T1 ρ' σ S' H' → Stt K G T ρ' σ S' H')
    (hk : ∀ a ρ', GoR K W G T σ P' (k a ρ') → P a ρ') (h : GoR K W G T σ P' (bnd f k ρ)) : GoR K W G T1 σ P (f ρ) := by
  unfold bnd at h
  cases e : f ρ with
  | ok a ρ' => rw [e] at h; exact hk a ρ' h
  | er x ρ' => rw [e] at h; exact fun S' H' s => h S' H' (hT _ _ _ s)
  | stk => rw [e] at h; exact h
theorem Stt.dropL {L : List (V × E)} (s : Stt K G (L ++ T) ρ σ S H) : Stt K G T ρ σ S H := s.subT (List.sublist_append_right _ _)
theorem sid : ∀ ρ' S' H', Stt K G T ρ' σ S' H' → Stt K G T ρ' σ S' H' := fun _ _ _ s => s
theorem sdr {L : List (V × E)} : ∀ ρ' S' H', Stt K G (L ++ T) ρ' σ S' H' → Stt K G T ρ' σ S' H' := fun _ _ _ s => s.dropL
end

/-! ### constants, names -/
def kD (d : D) : Ev → Rs O := fun ρ => .ok (.leaf d) ρ
/-- a name's value, to be kept: a list or dict of its own is shared from then on -/
def rv (i : Nat) : Ev → Rs O := fun ρ => match ρ[i]? with
  | some (some ⟨false, o⟩) => .ok (.leaf o.d) (match o with | .leaf _ => ρ | o => ρ.set i (some (lf o.d)))
  | some (some ⟨true, .leaf d⟩) => .ok (.leaf d) ρ
  | _ => .stk
/-- a name as an operand -/
def bv (i : Nat) : Ev → Rs B := fun ρ => match ρ[i]? with
  | some (some _) => .ok (.slot i) ρ
  | _ => .stk
def tm (f : Ev → Rs O) : Ev → Rs B := bnd f fun o ρ => .ok (.tmp o) ρ
section
variable {X : Cx} {W : XW}
theorem de_const {d : D} {e : Expr} {v : V} (h : PE X e (tC v)) (r : ∀ S, Rp X.K S v d) : DE X W e (kD d) :=
  PE.imp h fun σ H Q ⟨G, T, S, ρ, s, g⟩ => g v S H (s.push (r S))
theorem de_int {i j pos} : DE X W (.Constant (.int i) j pos) (kD (.int i)) := de_const pe_int fun _ => .int i
theorem de_bl {b j pos} : DE X W (.Constant (.bool b) j pos) (kD (.bool b)) := de_const pe_bl fun _ => .bl b
theorem de_non {j pos} : DE X W (.Constant .none j pos) (kD .none) := de_const pe_non fun _ => .non
theorem de_str {x j pos} (h : okS x = true := by decide +kernel) : DE X W (.Constant (.str x) j pos) (kD (.str x)) := de_const pe_str fun _ => .str x h
theorem Stt.set_leaf {ρ : Ev} {i : Nat} {d : D} (h : ρ[i]? = some (some (lf d))) : ρ.set i (some (lf d)) = ρ := by
  obtain ⟨h1, h2⟩ := List.getElem?_eq_some_iff.mp h
  rw [← h2, List.set_getElem_self]
theorem de_var {i : Nat} {e : Expr} (h : PE X e (tVar i)) : DE X W e (rv i) := PE.imp h fun σ H Q ⟨G, T, S, ρ, s, g⟩ => by
  unfold rv at g
  split at g
  · rename_i o ho
    obtain ⟨v, hv, s1⟩ := s.take ho
    refine ⟨v, hv, ?_⟩
    obtain ⟨S2, s2, _, r⟩ := s1.freeze
    have s3 := (s2.back ho hv (by intro z; cases z)).push r
    cases o with
    | leaf d =>
      have e : ρ.set i (some (lf (O.leaf d).d)) = ρ := Stt.set_leaf ho
      rw [e] at s3
      exact g v S2 H s3
    | lst ds => exact g v S2 H s3
    | dic ds => exact g v S2 H s3
  · rename_i d ho
    obtain ⟨v, hv, s1⟩ := s.take ho
    refine ⟨v, hv, ?_⟩
    obtain ⟨F, o, _⟩ := s1.head
    cases o with
    | leaf r => exact g v S H (s.push r)
  · exact g.elim
theorem db_var {i : Nat} {e : Expr} (h : PE X e (tVar i)) : DB X W e (bv i) := PE.imp h fun σ H Q ⟨G, T, S, ρ, s, g⟩ => by
  unfold bv at g
  split at g
  · rename_i o ho
    obtain ⟨v, hv, s1⟩ := s.take ho
    exact ⟨v, hv, g v S H s hv⟩
  · exact g.elim
theorem db_tm {e : Expr} {f : Ev → Rs O} (h : DE X W e f) : DB X W e (tm f) := PE.imp h fun σ H Q ⟨G, T, S, ρ, s, g⟩ => by
  refine ⟨G, T, S, ρ, s, seq sid ?_ g⟩
  intro b ρ' z v S' H' s'
  exact z v S' H' s' trivial
end

/-! ### argument lists -/
def aNil : Ev → Rs (List B) := fun ρ => .ok [] ρ
def aCons (f : Ev → Rs B) (r : Ev → Rs (List B)) : Ev → Rs (List B) := bnd f fun b => bnd r fun bs ρ => .ok (b :: bs) ρ
section
variable {X : Cx} {W : XW}
theorem da_nil : DA X W [] aNil := PA.imp pa_nil fun σ H Q ⟨G, T, S, ρ, s, g⟩ => g [] S H s .nil
theorem da_cons {e : Expr} {es : List Expr} {f : Ev → Rs B} {r : Ev → Rs (List B)} (ha : DB X W e f) (hr : DA X W es r) (hs : starEach (e :: es) X.env = (false, eval e X.env) :: starEach es X.env := by rfl) : DA X W (e :: es) (aCons f r) :=
  PA.imp (pa_cons ha hr hs) fun σ H Q ⟨G, T, S, ρ, s, g⟩ => by
    refine ⟨G, T, S, ρ, s, seq sid ?_ g⟩
    intro b ρ' z v S' H' s' at'
    refine ⟨G, b.tm v ++ T, S', ρ', s', seq sdr ?_ z⟩
    intro bs ρ2 z2 vs S2 H2 s2 at2
    refine z2 (v :: vs) S2 H2 (s2.permT ?_) (.cons at' at2)
    show (tms vs bs ++ (b.tm v ++ T)).Perm ((b.tm v ++ tms vs bs) ++ T)
    rw [← List.append_assoc]
    exact List.Perm.append_right T List.perm_append_comm
end

/-! ### operators by data -/
/-- what an operation of two operands gives -/
def op2 (g : D → D → Option O) (fa fb : Ev → Rs B) : Ev → Rs O := bnd fa fun a => bnd fb fun b ρ => match a.val ρ with
  | some x => (match b.val ρ with
    | some y => (match g x y with | some o => .ok o ρ | none => .stk)
    | none => .stk)
  | none => .stk
def op1 (g : D → Option O) (fa : Ev → Rs B) : Ev → Rs O := bnd fa fun a ρ => match a.val ρ with
  | some x => (match g x with | some o => .ok o ρ | none => .stk)
  | none => .stk
/-- what a rule by values owes, given what the operands read as -/
def Does2 (X : Cx) (g : D → D → Option O) (r : R2) : Prop := ∀ (x y : V) (dx dy : D) (o : O) (G : Fra) (T : List (V × E)) (ρ : Ev) (σ : Sg) (S H : Hp) (Q : VK), Stt X.K G T ρ σ S H → Rt X.K S H x dx → Rt X.K S H y dy → g dx dy = some o →
  (∀ v S' H', Stt X.K G ((v, ow o) :: T) ρ σ S' H' → Q v H') → r x y H Q
def Does1 (X : Cx) (g : D → Option O) (r : V → Hp → VK → Prop) : Prop := ∀ (x : V) (dx : D) (o : O) (G : Fra) (T : List (V × E)) (ρ : Ev) (σ : Sg) (S H : Hp) (Q : VK), Stt X.K G T ρ σ S H → Rt X.K S H x dx → g dx = some o →
  (∀ v S' H', Stt X.K G ((v, ow o) :: T) ρ σ S' H' → Q v H') → r x H Q
def DoesL (X : Cx) (g : List D → Option O) (r : List V → Hp → VK → Prop) : Prop := ∀ (xs : List V) (ds : List D) (o : O) (G : Fra) (T : List (V × E)) (ρ : Ev) (σ : Sg) (S H : Hp) (Q : VK), Stt X.K G T ρ σ S H → RtA X.K S H xs ds → g ds = some o →
  (∀ v S' H', Stt X.K G ((v, ow o) :: T) ρ σ S' H' → Q v H') → r xs H Q
section
variable {X : Cx} {W : XW}
theorem run2 {g : D → D → Option O} {r : R2} (h : Does2 X g r) {fa fb : Ev → Rs B} {σ : Sg} {H : Hp} {Q : VK} (q : tE X.K W (op2 g fa fb) σ H Q) : tOp r (tB' X.K W fa) (tB' X.K W fb) σ H Q := by
  obtain ⟨G, T, S, ρ, s, g'⟩ := q
  refine ⟨G, T, S, ρ, s, seq sid (fun a ρ1 z x S1 H1 s1 at1 => ?_) g'⟩
  refine ⟨G, a.tm x ++ T, S1, ρ1, s1, seq sdr (fun b ρ2 z2 y S2 H2 s2 at2 => ?_) z⟩
  split at z2
  · rename_i dx hx
    split at z2
    · rename_i dy hy
      split at z2
      · rename_i o ho
        have rx : Rt X.K S2 H2 x dx := B.rt s2 (fun p m => List.mem_append_right _ (List.mem_append_left _ m)) at1 hx
        have ry : Rt X.K S2 H2 y dy := B.rt s2 (fun p m => List.mem_append_left _ m) at2 hy
        exact h x y dx dy o G _ ρ2 σ S2 H2 Q s2 rx ry ho fun v S' H' s' => z2 v S' H' (s'.subT (List.Sublist.cons_cons _ ((List.sublist_append_right _ _).trans (List.sublist_append_right _ _))))
      · exact z2.elim
    · exact z2.elim
  · exact z2.elim
theorem run1 {g : D → Option O} {r : V → Hp → VK → Prop} (h : Does1 X g r) {fa : Ev → Rs B} {σ : Sg} {H : Hp} {Q : VK} (q : tE X.K W (op1 g fa) σ H Q) : tUn r (tB' X.K W fa) σ H Q := by
  obtain ⟨G, T, S, ρ, s, g'⟩ := q
  refine ⟨G, T, S, ρ, s, seq sid (fun a ρ1 z x S1 H1 s1 at1 => ?_) g'⟩
  split at z
  · rename_i dx hx
    split at z
    · rename_i o ho
      exact h x dx o G _ ρ1 σ S1 H1 Q s1 (B.rt s1 (fun p m => List.mem_append_left _ m) at1 hx) ho fun v S' H' s' => z v S' H' (s'.subT (List.Sublist.cons_cons _ (List.sublist_append_right _ _)))
    · exact z.elim
  · exact z.elim
theorem de_op {a b : Expr} {op : Operator} {pos : Pos} {g : D → D → Option O} {r : R2} (ho : OpR X (binaryOp op) r) (h : Does2 X g r) {fa fb : Ev → Rs B} (ha : DB X W a fa) (hb : DB X W b fb) : DE X W (.BinOp a op b pos) (op2 g fa fb) :=
  PE.imp (pe_op ho ha hb) fun _ _ _ q => run2 h q
theorem de_un {a : Expr} {op : UnaryOp} {pos : Pos} {g : D → Option O} {r : V → Hp → VK → Prop} (ho : UnR X (unaryOp op) r) (h : Does1 X g r) {fa : Ev → Rs B} (ha : DB X W a fa) : DE X W (.UnaryOp op a pos) (op1 g fa) :=
  PE.imp (pe_un ho ha) fun _ _ _ q => run1 h q
theorem Does2.or {g : D → D → Option O} {r r' : R2} (h : ∀ (x y : V) (dx dy : D) (o : O) (G : Fra) (T : List (V × E)) (ρ : Ev) (σ : Sg) (S H : Hp) (Q : VK), Stt X.K G T ρ σ S H → Rt X.K S H x dx → Rt X.K S H y dy → g dx dy = some o →
  (∀ v S' H', Stt X.K G ((v, ow o) :: T) ρ σ S' H' → Q v H') → r x y H Q ∨ r' x y H Q) : Does2 X g (fun x y H Q => r x y H Q ∨ r' x y H Q) := h
end
end Y
/-! Y: the operators -/
namespace Y
open PySem PySem.Spec PyProof.Rows L2

theorem okS_iff {x : Str} : okS x = true ↔ ∀ c ∈ x.cps.toList, c < 0x110000 := by
  unfold okS
  rw [Array.all_eq_true_iff_forall_mem]
  simp
theorem okS_app {x y : Str} (h : okS x = true) (h' : okS y = true) : okS (x ++ y) = true := by
  rw [okS_iff] at h h' ⊢
  intro c hc
  have e : (x ++ y).cps.toList = x.cps.toList ++ y.cps.toList := by
    show (x.cps ++ y.cps).toList = _
    simp
  rw [e] at hc
  rcases List.mem_append.mp hc with m | m
  · exact h c m
  · exact h' c m
/-! ### putting results -/
section
variable {X : Cx} {G : Fra} {T : List (V × E)} {ρ : Ev} {σ : Sg} {S H : Hp} {Q : VK}
/-- a new list, ours -/
theorem Stt.newL (s : Stt X.K G T ρ σ S H) {xs : List V} {ds : List D} (r : RpA X.K S xs ds) (q : ∀ v S' H', Stt X.K G ((v, ow (.lst ds)) :: T) ρ σ S' H' → Q v H') : ∀ p, H p = none → Q (.ref p) (upd H p (.lst xs)) := fun p n =>
  q _ _ _ (s.make (o := .lst ds) n (.lst upd_same (s.sub.free n) r))
/-- a new tuple, shared -/
theorem Stt.newT (s : Stt X.K G T ρ σ S H) {xs : List V} {ds : List D} (r : RpA X.K S xs ds) (q : ∀ v S' H', Stt X.K G ((v, ow (.leaf (.tuple ds))) :: T) ρ σ S' H' → Q v H') : ∀ p, H p = none → Q (.ref p) (upd H p (.tup xs)) := fun p n => by
  have hsp : S p = none := s.sub.free n
  have s1 := s.share (u := .tup xs) n
  have ss : Same S (upd S p (.tup xs)) := fun b o e => by rw [upd_ne (ne_of_none e hsp)]; exact e
  exact q _ _ _ (s1.push (.tup upd_same (r.mono ss)))
theorem Stt.val (s : Stt X.K G T ρ σ S H) {v : V} {d : D} (r : Rp X.K S v d) (q : ∀ v S' H', Stt X.K G ((v, ow (.leaf d)) :: T) ρ σ S' H' → Q v H') : Q v H := q _ _ _ (s.push r)
end

/-! ### arithmetic -/
def gAdd : D → D → Option O
  | .int a, .int b => some (.leaf (.int (a + b)))
  | .str a, .str b => if a.length + b.length ≤ sizeLine then some (.leaf (.str (a ++ b))) else none
  | .list a, .list b => if a.length + b.length ≤ sizeLine then some (.lst (a ++ b)) else none
  | .tuple a, .tuple b => if a ≠ [] ∧ a.length + b.length ≤ sizeLine then some (.leaf (.tuple (a ++ b))) else none
  | _, _ => none
def gSub : D → D → Option O
  | .int a, .int b => some (.leaf (.int (a - b)))
  | _, _ => none
def okMul (a b : Int) : Bool := (decide (-(2 ^ 64) < a) && decide (a < 2 ^ 64)) || (decide (-(2 ^ 64) < b) && decide (b < 2 ^ 64)) || decide (a.natAbs.log2 + b.natAbs.log2 < 1000000)
def gMul : D → D → Option O
  | .int a, .int b => if okMul a b = true then some (.leaf (.int (a * b))) else none
  | .list a, .int k => if -(2 ^ 63) ≤ k ∧ k < 2 ^ 63 ∧ a.length * k.toNat ≤ sizeLine then some (.lst (List.replicate k.toNat a).flatten) else none
  | _, _ => none
def gDiv : D → D → Option O
  | .int a, .int b => if 0 < b ∧ b.natAbs.log2 < 9000 then some (.leaf (.int (a / b))) else none
  | _, _ => none
def gMod : D → D → Option O
  | .int a, .int b => if 0 < b then some (.leaf (.int (a % b))) else none
  | _, _ => none
def gPow : D → D → Option O
  | .int a, .int b => if 0 ≤ b ∧ b ≤ 1000000 ∧ a.natAbs < 2 ^ 64 then some (.leaf (.int (a ^ b.toNat))) else none
  | _, _ => none
def gNeg : D → Option O
  | .int a => some (.leaf (.int (-a)))
  | _ => none
section
variable {X : Cx} {W : XW}
/-- list + list, wherever they stand -/
def rCatL (K : PySem.W.Frag) : R2 := fun x y H Q => ∃ l b xs zs, x = .ref l ∧ y = .ref b ∧ SqL K H l xs ∧ SqL K H b zs ∧ xs.length + zs.length ≤ sizeLine ∧ ∀ p, H p = none → Q (.ref p) (upd H p (.lst (xs ++ zs)))
theorem op_catL : OpR X (binaryOp .Add) (rCatL X.K) := by
  intro pins s σ H x y v u Q I rx ry h
  obtain ⟨l, b, xs, zs, rfl, rfl, hH, hB, hz, q⟩ := h
  cases rx
  cases ry
  obtain ⟨its, r, ⟨⟨c1, d1, dt1, sl1⟩, n, e, hc, hd, hdt⟩, hl⟩ := I.list hH
  obtain ⟨its2, r2, ⟨⟨c2, d2, dt2, sl2⟩, n2, e2, hc2, hd2, hdt2⟩, hl2⟩ := I.list hB
  simp only at hc hd hdt hc2 hd2 hdt2
  subst hc hd hdt hc2 hd2 hdt2
  have h1 := r.length
  have h2 := r2.length
  have ea : its.toArray ++ its2.toArray = (its ++ its2).toArray := by simp
  refine concat_meets ⟨_, e, rfl⟩ ⟨_, e2, rfl⟩ noFill_list_add seq_list_add PySem.F.slot_list_add PySem.F.entry_list_add (PySem.F.args_list_add_2 _ _) (list_addW l b its.toArray its2.toArray n n2 none none sl1 sl2 (by rw [List.size_toArray, List.size_toArray]; omega)) ⟨e, e2, ?_⟩
  rw [ea]
  exact ⟨.ref _, _, I.lnew (t' := s.toks) (r.append r2) (by rw [List.length_append]; omega), rfl, q _ I.fresh⟩
def rAddG (K : PySem.W.Frag) : R2 := fun x y H Q => rI0 (fun i j => .int (i + j)) x y H Q ∨ (∃ i j, x = .str i ∧ y = .str j ∧ i.length + j.length ≤ sizeLine ∧ Q (.str (i ++ j)) H) ∨ rCatL K x y H Q ∨ rCatT K x y H Q
theorem op_addG : OpR X (binaryOp .Add) (rAddG X.K) := op_add.or (op_add_str.or (op_catL.or op_catT))
theorem does_add : Does2 X gAdd (rAddG X.K) := by
  intro x y dx dy o G T ρ σ S H Q s rx ry e q
  unfold gAdd at e
  split at e
  · cases e
    exact .inl ⟨_, _, rx.int_of, ry.int_of, s.val (.int _) q⟩
  · split at e
    · cases e
      rename_i hz
      exact .inr (.inl ⟨_, _, rx.str_of, ry.str_of, hz, s.val (.str _ (okS_app rx.str_ok ry.str_ok)) q⟩)
    · cases e
  · split at e
    · cases e
      rename_i hz
      obtain ⟨a, xs, rfl, h1, r1⟩ := rx.lst_of
      obtain ⟨b, ys, rfl, h2, r2⟩ := ry.lst_of
      exact .inr (.inr (.inl ⟨a, b, xs, ys, rfl, rfl, h1, h2, by rw [r1.length, r2.length]; exact hz, s.newL (r1.app r2) q⟩))
    · cases e
  · split at e
    · cases e
      rename_i hz
      obtain ⟨a, xs, rfl, hS, h1, r1⟩ := rx.tup_S
      obtain ⟨b, ys, rfl, h2, r2⟩ := ry.tup_of
      have n1 := r1.length
      have n2 := r2.length
      have hxs : xs ≠ [] := fun z => by subst z; exact hz.1 (List.length_eq_zero_iff.mp n1.symm)
      refine .inr (.inr (.inr ⟨a, b, xs, ys, rfl, rfl, SqT.of h1, h2, hxs, by omega, fun z => ?_, fun _ => s.newT (r1.app r2) q⟩))
      subst z
      cases r2
      rw [List.append_nil] at q
      exact s.val (.tup hS r1) q
    · cases e
  · cases e
theorem does_sub : Does2 X gSub (rI0 fun i j => .int (i - j)) := by
  intro x y dx dy o G T ρ σ S H Q s rx ry e q
  unfold gSub at e
  split at e
  · cases e
    exact ⟨_, _, rx.int_of, ry.int_of, s.val (.int _) q⟩
  · cases e
def rRepL (K : PySem.W.Frag) : R2 := fun x y H Q => ∃ l k xs, x = .ref l ∧ y = .int k ∧ SqL K H l xs ∧ -(2 ^ 63) ≤ k ∧ k < 2 ^ 63 ∧ xs.length * k.toNat ≤ sizeLine ∧
  ∀ p, H p = none → Q (.ref p) (upd H p (.lst (List.replicate k.toNat xs).flatten))
def rMulG : R2 := fun x y H Q => rI CMul (fun i j => .int (i * j)) x y H Q ∨ rI CMulW (fun i j => .int (i * j)) x y H Q ∨ rRep x y H Q
theorem op_mulG : OpR X (binaryOp .Mult) rMulG := op_mul.or (op_mulW.or op_rep)
def gMulI : D → D → Option O
  | .int a, .int b => if okMul a b = true then some (.leaf (.int (a * b))) else none
  | _, _ => none
theorem does_mul : Does2 X gMulI rMulG := by
  intro x y dx dy o G T ρ σ S H Q s rx ry e q
  unfold gMulI at e
  split at e
  · split at e
    · rename_i a b h
      cases e
      unfold okMul at h
      rcases Bool.or_eq_true _ _ ▸ h with h | h
      · refine .inl ⟨_, _, rx.int_of, ry.int_of, ?_, s.val (.int _) q⟩
        rcases Bool.or_eq_true _ _ ▸ h with h | h
        · rw [Bool.and_eq_true] at h
          exact .inl ⟨of_decide_eq_true h.1, of_decide_eq_true h.2⟩
        · rw [Bool.and_eq_true] at h
          exact .inr ⟨of_decide_eq_true h.1, of_decide_eq_true h.2⟩
      · exact .inr (.inl ⟨_, _, rx.int_of, ry.int_of, (show a.natAbs.log2 + b.natAbs.log2 < 1000000 from of_decide_eq_true h), s.val (.int _) q⟩)
    · cases e
  · cases e
theorem does_div : Does2 X gDiv (rI CDivW fun i j => .int (i / j)) := by
  intro x y dx dy o G T ρ σ S H Q s rx ry e q
  unfold gDiv at e
  split at e
  · split at e
    · rename_i h
      cases e
      exact ⟨_, _, rx.int_of, ry.int_of, h, s.val (.int _) q⟩
    · cases e
  · cases e
theorem does_mod : Does2 X gMod (rI (fun _ j => 0 < j) fun i j => .int (i % j)) := by
  intro x y dx dy o G T ρ σ S H Q s rx ry e q
  unfold gMod at e
  split at e
  · split at e
    · rename_i h
      cases e
      exact ⟨_, _, rx.int_of, ry.int_of, h, s.val (.int _) q⟩
    · cases e
  · cases e
theorem does_pow : Does2 X gPow (rI CPow fun i j => .int (i ^ j.toNat)) := by
  intro x y dx dy o G T ρ σ S H Q s rx ry e q
  unfold gPow at e
  split at e
  · split at e
    · rename_i h
      cases e
      exact ⟨_, _, rx.int_of, ry.int_of, h, s.val (.int _) q⟩
    · cases e
  · cases e
theorem does_neg : Does1 X gNeg (rU fun i => .int (-i)) := by
  intro x dx o G T ρ σ S H Q s rx e q
  unfold gNeg at e
  split at e
  · cases e
    exact ⟨_, rx.int_of, s.val (.int _) q⟩
  · cases e
variable {a b : Expr} {pos : Pos} {fa fb : Ev → Rs B}
theorem de_add (ha : DB X W a fa) (hb : DB X W b fb) : DE X W (.BinOp a .Add b pos) (op2 gAdd fa fb) := de_op op_addG does_add ha hb
theorem de_sub (ha : DB X W a fa) (hb : DB X W b fb) : DE X W (.BinOp a .Sub b pos) (op2 gSub fa fb) := de_op op_sub does_sub ha hb
theorem de_mul (ha : DB X W a fa) (hb : DB X W b fb) : DE X W (.BinOp a .Mult b pos) (op2 gMulI fa fb) := de_op op_mulG does_mul ha hb
theorem de_div (ha : DB X W a fa) (hb : DB X W b fb) : DE X W (.BinOp a .FloorDiv b pos) (op2 gDiv fa fb) := de_op op_fdivW does_div ha hb
theorem de_mod (ha : DB X W a fa) (hb : DB X W b fb) : DE X W (.BinOp a .Mod b pos) (op2 gMod fa fb) := de_op op_mod does_mod ha hb
theorem de_pow (ha : DB X W a fa) (hb : DB X W b fb) : DE X W (.BinOp a .Pow b pos) (op2 gPow fa fb) := de_op op_pow does_pow ha hb
theorem de_neg (ha : DB X W a fa) : DE X W (.UnaryOp .USub a pos) (op1 gNeg fa) := de_un un_neg does_neg ha
end
end Y
/-! Y: comparisons, tests, what is subscripted -/
namespace Y
open PySem PySem.Spec PyProof.Rows L2

/-- what the rules ask of where one stands -/
structure Bd (X : Cx) : Prop where
  calm : X.calm = true
  un : X.A.units + 200 < cLine
  nd : X.N.Nodup

/-! ### data without dicts, not too deep -/
def fits : Nat → D → Bool
  | _, .none => true
  | _, .bool _ => true
  | _, .int _ => true
  | _, .str _ => true
  | n + 1, .list xs => xs.all (fits n)
  | n + 1, .tuple xs => xs.all (fits n)
  | _, _ => false
mutual
theorem Rp.dp {K : PySem.W.Frag} {S : Hp} : ∀ (n : Nat) {v : V} {d : D}, Rp K S v d → fits n d = true → Dp K S v d ∧ d.canLay0 = true ∧ d.depth ≤ n
  | n, _, _, .non, _ => ⟨.non, by simp [PyData.canLay0], by simp [PyData.depth]⟩
  | n, _, _, .bl b, _ => ⟨.bl b, by simp [PyData.canLay0], by simp [PyData.depth]⟩
  | n, _, _, .int b, _ => ⟨.int b, by simp [PyData.canLay0], by simp [PyData.depth]⟩
  | n, _, _, .str b h, _ => ⟨.str b, by unfold PyData.canLay0; exact h, by simp [PyData.depth]⟩
  | 0, _, _, .lst a b, h => by simp [fits] at h
  | n + 1, _, _, .lst a b, h => by
    obtain ⟨h1, h2, h3⟩ := RpA.dp n b (by simpa [fits] using h)
    exact ⟨.lst a h1, by unfold PyData.canLay0; exact h2, by unfold PyData.depth; omega⟩
  | 0, _, _, .tup a b, h => by simp [fits] at h
  | n + 1, _, _, .tup a b, h => by
    obtain ⟨h1, h2, h3⟩ := RpA.dp n b (by simpa [fits] using h)
    exact ⟨.tup (SqT.of a) h1, by unfold PyData.canLay0; exact h2, by unfold PyData.depth; omega⟩
  | n, _, _, .dK a c b, h => by cases n <;> simp [fits] at h
  | n, _, _, .dT a c b, h => by cases n <;> simp [fits] at h
theorem RpA.dp {K : PySem.W.Frag} {S : Hp} : ∀ (n : Nat) {v : List V} {d : List D}, RpA K S v d → (∀ x ∈ d, fits n x = true) → DpAll K S v d ∧ PyData.canLayAll0 d = true ∧ PyData.depthAll d ≤ n
  | n, _, _, .nil, _ => ⟨.nil, by simp [PyData.canLayAll0], by simp [PyData.depthAll]⟩
  | n, _, _, .cons a b, h => by
    obtain ⟨h1, h2, h3⟩ := Rp.dp n a (h _ (by simp))
    obtain ⟨g1, g2, g3⟩ := RpA.dp n b (fun x m => h x (by simp [m]))
    exact ⟨.cons h1 g1, by unfold PyData.canLayAll0; rw [h2, g2]; rfl, by unfold PyData.depthAll; omega⟩
end
theorem Same.dpA {K : PySem.W.Frag} {S H : Hp} (ss : Same S H) : ∀ {vs : List V} {ds : List D} (n : Nat), RpA K S vs ds → (∀ x ∈ ds, fits n x = true) → DpAll K H vs ds := fun n r h => (RpA.dp n (r.mono ss) h).1
theorem Rt.dp {K : PySem.W.Frag} {S H : Hp} (ss : Same S H) {n : Nat} {v : V} {d : D} (h : Rt K S H v d) (f : fits n d = true) : Dp K H v d ∧ d.canLay0 = true ∧ d.depth ≤ n := by
  cases h with
  | non => exact Rp.dp n (S := H) .non f
  | bl b => exact Rp.dp n (S := H) (.bl b) f
  | int b => exact Rp.dp n (S := H) (.int b) f
  | str b h => exact Rp.dp n (S := H) (.str b h) f
  | lst a b => exact Rp.dp n (.lst a (b.mono ss)) f
  | tup a c b => exact Rp.dp n (.tup c (b.mono ss)) f
  | dK a c b => cases n <;> simp [fits] at f
  | dT a c b => cases n <;> simp [fits] at f
theorem Rt.fits1 {n : Nat} {xs : List D} (h : fits (n + 1) (.list xs) = true) : ∀ x ∈ xs, fits n x = true := by simpa [fits] using h

/-! ### keys -/
def asKey : D → Option Key
  | .int i => some (.inl i)
  | .str x => some (.inr x)
  | _ => none
def asKeys : List D → Option (List Key)
  | [] => some []
  | d :: ds => match asKey d with
    | some k => (match asKeys ds with | some ks => some (k :: ks) | none => none)
    | none => none
def isKey : D → Bool
  | .tuple ds => (asKeys ds).isSome
  | d => (asKey d).isSome
def lookD (kvs : List (D × D)) (k : D) : Option D := match kvs with
  | [] => none
  | (a, d) :: r => if PyData.eqv a k = true then some d else lookD r k
theorem asKey_eq : ∀ {d : D} {k : Key}, asKey d = some k → d = keyD k
  | .int i, _, h => by cases h; rfl
  | .str i, _, h => by cases h; rfl
  | .none, _, h => by cases h
  | .bool _, _, h => by cases h
  | .list _, _, h => by cases h
  | .tuple _, _, h => by cases h
  | .dict _, _, h => by cases h
theorem asKeys_eq : ∀ {ds : List D} {ks : List Key}, asKeys ds = some ks → ds = ks.map keyD
  | [], _, h => by cases h; rfl
  | d :: ds, ks, h => by
    unfold asKeys at h
    split at h
    · rename_i k hk
      split at h
      · rename_i ks' hks
        cases h
        rw [asKey_eq hk, asKeys_eq hks]
        rfl
      · cases h
    · cases h
theorem keyD_eqv (a b : Key) : PyData.eqv (keyD a) (keyD b) = decide (a = b) := by
  cases a <;> cases b
  · rename_i i j
    show (i == j) = _
    rw [key_ll]
  · show PyData.eqv (.int _) (.str _) = _
    rw [key_lr]; simp [PyData.eqv]
  · show PyData.eqv (.str _) (.int _) = _
    rw [key_rl]; simp [PyData.eqv]
  · rename_i i j
    show PyData.eqv (.str i) (.str j) = _
    rw [key_rr]
    simp only [PyData.eqv]
    by_cases e : i = j
    · subst e; simp
    · rw [decide_eq_false e]; simpa using e
theorem keyDs_eqv : ∀ (a b : List Key), PyData.eqvAll (a.map keyD) (b.map keyD) = decide (a = b)
  | [], [] => by simp [PyData.eqvAll]
  | [], b :: bs => by simp [PyData.eqvAll]
  | a :: as, [] => by simp [PyData.eqvAll]
  | a :: as, b :: bs => by
    simp only [List.map_cons, PyData.eqvAll, keyD_eqv, keyDs_eqv as bs]
    by_cases h1 : a = b
    · by_cases h2 : as = bs
      · subst h1 h2; simp
      · simp [h1, h2]
    · simp [h1]
theorem RpA.keys {K : PySem.W.Frag} {S : Hp} : ∀ {vs : List V} {ks : List Key}, RpA K S vs (ks.map keyD) → vs = ks.map kV
  | _, [], h => by cases h; rfl
  | _, k :: ks, h => by
    have h : RpA K S _ (keyD k :: ks.map keyD) := h
    cases h with
    | cons a b =>
      rw [RpA.keys b]
      cases k with
      | inl i => cases a; rfl
      | inr i => cases a; rfl
theorem RpA.keysOk {K : PySem.W.Frag} {S : Hp} : ∀ {vs : List V} {ks : List Key}, RpA K S vs (ks.map keyD) → ∀ x ∈ ks, okK x = true
  | _, [], h => by simp
  | _, k :: ks, h => by
    have h : RpA K S _ (keyD k :: ks.map keyD) := h
    cases h with
    | cons a b =>
      intro x hx
      rcases List.mem_cons.mp hx with e | hx
      · subst e
        cases x with
        | inl i => rfl
        | inr i => cases a; assumption
      · exact RpA.keysOk b x hx
theorem RpK.look {K : PySem.W.Frag} {S : Hp} (k : Key) : ∀ {kvs : List (Key × V)} {es : List (D × D)}, RpK K S kvs es → (lookD es (keyD k) = none ∧ valV kvs k = none) ∨ ∃ v d, valV kvs k = some v ∧ lookD es (keyD k) = some d ∧ Rp K S v d
  | _, _, .nil => .inl ⟨rfl, rfl⟩
  | _, _, .cons (k := k') (kvs := kvs) (es := es) _ a b => by
    by_cases e : k' = k
    · subst e
      refine .inr ⟨_, _, valV_pos rfl, ?_, a⟩
      unfold lookD
      rw [keyD_eqv, decide_eq_true rfl, if_pos rfl]
    · have e1 : ∀ d, lookD ((keyD k', d) :: es) (keyD k) = lookD es (keyD k) := fun d => by
        rw [lookD, keyD_eqv, decide_eq_false e, if_neg Bool.false_ne_true]
      rw [e1, valV_neg e]
      exact RpK.look k b
theorem RpT.look {K : PySem.W.Frag} {S : Hp} (k : List Key) : ∀ {kvs : List (List Key × V)} {es : List (D × D)}, RpT K S kvs es → (lookD es (.tuple (k.map keyD)) = none ∧ valV kvs k = none) ∨ ∃ v d, valV kvs k = some v ∧ lookD es (.tuple (k.map keyD)) = some d ∧ Rp K S v d
  | _, _, .nil => .inl ⟨rfl, rfl⟩
  | _, _, .cons (k := k') (kvs := kvs) (es := es) _ a b => by
    have e0 : PyData.eqv (.tuple (k'.map keyD)) (.tuple (k.map keyD)) = decide (k' = k) := by
      simp only [PyData.eqv, keyDs_eqv]
    by_cases e : k' = k
    · subst e
      refine .inr ⟨_, _, valV_pos rfl, ?_, a⟩
      unfold lookD
      rw [e0, decide_eq_true rfl, if_pos rfl]
    · have e1 : ∀ d, lookD ((.tuple (k'.map keyD), d) :: es) (.tuple (k.map keyD)) = lookD es (.tuple (k.map keyD)) := fun d => by
        rw [lookD, e0, decide_eq_false e, if_neg Bool.false_ne_true]
      rw [e1, valV_neg e]
      exact RpT.look k b
/-- a key that is not of the dict's kind is not in it -/
theorem RpK.noT {K : PySem.W.Frag} {S : Hp} (ds : List D) : ∀ {kvs : List (Key × V)} {es : List (D × D)}, RpK K S kvs es → lookD es (.tuple ds) = none
  | _, _, .nil => rfl
  | _, _, .cons (k := k') _ a b => by
    rw [lookD, RpK.noT ds b]
    cases k' <;> simp [keyD, PyData.eqv]
theorem RpT.noK {K : PySem.W.Frag} {S : Hp} (k : Key) : ∀ {kvs : List (List Key × V)} {es : List (D × D)}, RpT K S kvs es → lookD es (keyD k) = none
  | _, _, .nil => rfl
  | _, _, .cons _ a b => by
    rw [lookD, RpT.noK k b]
    cases k <;> simp [keyD, PyData.eqv]
/-- which kind: a dict of text and int keys, or one of tuples; an empty one is both -/
def kindOk (kvs : List (D × D)) (k : D) : Bool := match k, kvs with
  | .tuple ds, [] => (asKeys ds).isSome
  | .tuple ds, (.tuple _, _) :: _ => (asKeys ds).isSome
  | .tuple _, _ => false
  | k, (.tuple _, _) :: _ => false
  | k, _ => (asKey k).isSome
theorem kind_nil {k : D} (h : kindOk [] k = true) : (∃ k', asKey k = some k') ∨ ∃ ds ks, k = .tuple ds ∧ asKeys ds = some ks := by
  cases k with
  | int i => exact .inl ⟨_, rfl⟩
  | str i => exact .inl ⟨_, rfl⟩
  | tuple ds => exact .inr (let ⟨ks, e⟩ := Option.isSome_iff_exists.mp (show (asKeys ds).isSome = true from h); ⟨ds, ks, rfl, e⟩)
  | none => cases h
  | bool _ => cases h
  | list _ => cases h
  | dict _ => cases h
theorem kind_K {k0 : Key} {d0 : D} {es : List (D × D)} {k : D} (h : kindOk ((keyD k0, d0) :: es) k = true) : ∃ k', asKey k = some k' := by
  cases k with
  | int i => exact ⟨_, rfl⟩
  | str i => exact ⟨_, rfl⟩
  | tuple ds => cases k0 <;> cases h
  | none => cases k0 <;> cases h
  | bool _ => cases k0 <;> cases h
  | list _ => cases k0 <;> cases h
  | dict _ => cases k0 <;> cases h
theorem kind_T {t : List D} {d0 : D} {es : List (D × D)} {k : D} (h : kindOk ((.tuple t, d0) :: es) k = true) : ∃ ds ks, k = .tuple ds ∧ asKeys ds = some ks := by
  cases k with
  | tuple ds => exact let ⟨ks, e⟩ := Option.isSome_iff_exists.mp (show (asKeys ds).isSome = true from h); ⟨ds, ks, rfl, e⟩
  | int i => cases h
  | str i => cases h
  | none => cases h
  | bool _ => cases h
  | list _ => cases h
  | dict _ => cases h
/-- an empty dict is one of either kind -/
theorem empty_kt {P : Program} {w : World} {H H' : Hp} {h : Heap} {a : Addr} (x : ObjOk P w H h a (.dK [])) : ObjOk P w H' h a (.dT []) := by
  obtain ⟨z, y, vs, r, o, es, ep, e, ex, hd, _, c, _⟩ := x
  cases r
  have hl : es.toList = [] := by
    have := c.length
    exact List.length_eq_zero_iff.mp this
  exact ⟨z, y, [], .nil, o, es, ep, e, ex, hd, by rw [hl]; rfl, List.nodup_nil⟩
theorem empty_tk {P : Program} {w : World} {H H' : Hp} {h : Heap} {a : Addr} (x : ObjOk P w H h a (.dT [])) : ObjOk P w H' h a (.dK []) := by
  obtain ⟨z, y, xs, r, o, es, ep, e, ex, hd, hl, _⟩ := x
  cases r
  have hl' : es = #[] := by
    have : es.toList = [] := hl
    exact Array.toList_eq_nil_iff.mp this
  subst hl'
  exact ⟨z, y, [], .nil, o, #[], ep, e, ex, hd, fun _ he => by simp at he, .nil, List.nodup_nil⟩
section
variable {X : Cx} {pins : List (Addr × Obj)} {σ : Sg} {H : Hp} {s : Shared} {a : Addr}
theorem Inv.kt (I : Inv X pins σ H s) (e : H a = some (.dK [])) : Inv X pins σ (upd H a (.dT [])) s :=
  I.write (x := a) (e := a) (o := .dT []) (t' := s.toks) (h' := s.heap) (by rw [e]; trivial) (.inl rfl) (fun _ _ _ q => q) (by have := I.hok a _ e; obtain ⟨_, _, _, _, o, _, _, q, _⟩ := this; exact ⟨o, q⟩) (empty_kt (I.hok a _ e))
theorem Inv.tk (I : Inv X pins σ H s) (e : H a = some (.dT [])) : Inv X pins σ (upd H a (.dK [])) s :=
  I.write (x := a) (e := a) (o := .dK []) (t' := s.toks) (h' := s.heap) (by rw [e]; trivial) (.inl rfl) (fun _ _ _ q => q) (by have := I.hok a _ e; obtain ⟨_, _, _, _, o, _, _, q, _⟩ := this; exact ⟨o, q⟩) (empty_tk (I.hok a _ e))
theorem upd_back {H : Hp} {a : Addr} {u u' : HO} (e : H a = some u) : upd (upd H a u') a u = H := by
  rw [upd_upd]
  funext b
  unfold upd
  split
  · rename_i h; subst h; exact e.symm
  · rfl
/-- what the dict at a holds at y, an empty one being of either kind -/
def DG (H : Hp) (a : Addr) (y : V) (o : Option V) : Prop := DGet H a y o ∨ (o = none ∧ H a = some (.dK []) ∧ ∃ (b : Addr) (ks : List Key), y = .ref b ∧ H b = some (.tup (ks.map kV))) ∨ (o = none ∧ H a = some (.dT []) ∧ ∃ k : Key, y = kV k)
/-- over it, as over a dict of its kind -/
theorem DG.run {o : Option V} {y : V} (g : DG H a y o) (I : Inv X pins σ H s) {P : Prop} (h : ∀ H', Inv X pins σ H' s → DGet H' a y o → (∀ s', Inv X pins σ H' s' → Inv X pins σ H s') → P) : P := by
  rcases g with g | ⟨rfl, e, b, ks, rfl, eb⟩ | ⟨rfl, e, k, rfl⟩
  · exact h H I g fun _ z => z
  · have ne : b ≠ a := fun z => by subst z; rw [e] at eb; cases eb
    refine h _ (Inv.kt I e) (.inr ⟨[], ks, b, .inl upd_same, rfl, by rw [upd_ne ne]; exact eb, rfl⟩) fun s' J => ?_
    have := Inv.tk J upd_same
    rwa [upd_back e] at this
  · refine h _ (Inv.tk I e) (.inl ⟨[], k, .inl upd_same, rfl, rfl⟩) fun s' J => ?_
    have := Inv.kt J upd_same
    rwa [upd_back e] at this
end
section
variable {X : Cx}
def rDIn : R2 := fun x y H Q => ∃ a o, y = .ref a ∧ DG H a x o ∧ Q (.bl o.isSome) H
def rDNotIn : R2 := fun x y H Q => ∃ a o, y = .ref a ∧ DG H a x o ∧ Q (.bl (!o.isSome)) H
theorem op_dIn (b : Bd X) : OpR X (compareOp .In) rDIn := by
  intro pins s σ H x y v u Q I rx ry h
  obtain ⟨a, o, rfl, g, q⟩ := h
  cases ry
  exact g.run I fun H' I' g' back => d_in (Nat.lt_of_le_of_lt (by omega) b.un) I' g' rx fun s' J => ⟨.bl o.isSome, H, back s' J, rfl, q⟩
theorem op_dNotIn (b : Bd X) : OpR X (compareOp .NotIn) rDNotIn := by
  intro pins s σ H x y v u Q I rx ry h
  obtain ⟨a, o, rfl, g, q⟩ := h
  cases ry
  exact g.run I fun H' I' g' back => d_notIn (Nat.lt_of_le_of_lt (by omega) b.un) I' g' rx fun s' J => ⟨.bl (!o.isSome), H, back s' J, rfl, q⟩
def rDGet : R2 := fun x y H Q => ∃ a v, x = .ref a ∧ DGet H a y (some v) ∧ Q v H
theorem ix_dict (b : Bd X) : IxR X rDGet := by
  intro value slice pins s σ H x y v u Q I rx ry h hs
  obtain ⟨a, w, rfl, g, q⟩ := h
  cases rx
  exact tail_any (dict_typeIs I g) PySem.F.slot_dict_getitem.lookup (d_getItem (Nat.lt_of_le_of_lt (by omega) b.un) I g ry fun w' s' J rw' => ⟨w, H, J, rw', q⟩) hs
end
/-- what is known of a look into a dict -/
theorem Rt.dget {K : PySem.W.Frag} {S H : Hp} {v y : V} {kvs : List (D × D)} {k : D} (h : Rt K S H v (.dict kvs)) (hy : Rt K S H y k) (hk : kindOk kvs k = true) :
    ∃ a, v = .ref a ∧ ∃ o, DG H a y o ∧ ((lookD kvs k = none ∧ o = none) ∨ ∃ w d, o = some w ∧ DGet H a y o ∧ lookD kvs k = some d ∧ Rp K S w d) := by
  have ekey : ∀ k' : Key, asKey k = some k' → y = kV k' := fun k' hk' => by
    have ek := asKey_eq hk'
    subst ek
    cases k' with
    | inl i => exact hy.int_of
    | inr i => exact hy.str_of
  have etup : ∀ ds ks, k = .tuple ds → asKeys ds = some ks → ∃ b, y = .ref b ∧ H b = some (.tup (ks.map kV)) := fun ds ks e1 hks => by
    subst e1
    have e1 := asKeys_eq hks
    subst e1
    obtain ⟨b, xs, rfl, _, hb, rr⟩ := hy.tup_S
    have e2 := rr.keys
    subst e2
    exact ⟨b, rfl, hb⟩
  have sk : ∀ {a : Addr} {kvs' : List (Key × V)}, Rd H a (.dK kvs') → RpK K S kvs' kvs → ∀ k' : Key, asKey k = some k' → ∃ o, DG H a y o ∧ ((lookD kvs k = none ∧ o = none) ∨ ∃ w d, o = some w ∧ DGet H a y o ∧ lookD kvs k = some d ∧ Rp K S w d) := by
    intro a kvs' e r k' hk'
    have ey := ekey k' hk'
    have ek := asKey_eq hk'
    subst ek ey
    have g : DGet H a (kV k') (valV kvs' k') := .inl ⟨kvs', k', e, rfl, rfl⟩
    refine ⟨valV kvs' k', .inl g, ?_⟩
    rcases r.look k' with ⟨h1, h2⟩ | ⟨w, d, h1, h2, h3⟩
    · exact .inl ⟨h1, h2⟩
    · exact .inr ⟨w, d, h1, g, h2, h3⟩
  have st : ∀ {a : Addr} {kvs' : List (List Key × V)}, Rd H a (.dT kvs') → RpT K S kvs' kvs → ∀ ds ks, k = .tuple ds → asKeys ds = some ks → ∃ o, DG H a y o ∧ ((lookD kvs k = none ∧ o = none) ∨ ∃ w d, o = some w ∧ DGet H a y o ∧ lookD kvs k = some d ∧ Rp K S w d) := by
    intro a kvs' e r ds ks e1 hks
    obtain ⟨b, ey, hb⟩ := etup ds ks e1 hks
    have e2 := asKeys_eq hks
    subst e1 e2 ey
    have g : DGet H a (.ref b) (valV kvs' ks) := .inr ⟨_, ks, b, e, rfl, hb, rfl⟩
    refine ⟨valV kvs' ks, .inl g, ?_⟩
    rcases r.look ks with ⟨h1, h2⟩ | ⟨w, d, h1, h2, h3⟩
    · exact .inl ⟨h1, h2⟩
    · exact .inr ⟨w, d, h1, g, h2, h3⟩
  cases h with
  | @dK a kvs' _ e ne r =>
    refine ⟨_, rfl, ?_⟩
    cases r with
    | nil =>
      rcases kind_nil hk with ⟨k', hk'⟩ | ⟨ds, ks, e1, hks⟩
      · exact sk e .nil k' hk'
      · obtain ⟨b, ey, hb⟩ := etup ds ks e1 hks
        exact ⟨none, .inr (.inl ⟨rfl, ne rfl, b, ks, ey, hb⟩), .inl ⟨rfl, rfl⟩⟩
    | @cons k0 v0 d0 kv es o1 a1 b1 =>
      obtain ⟨k', hk'⟩ := kind_K hk
      exact sk e (.cons o1 a1 b1) k' hk'
  | @dT a kvs' _ e ne r =>
    refine ⟨_, rfl, ?_⟩
    cases r with
    | nil => exact absurd rfl ne
    | @cons k0 v0 d0 kv es o1 a1 b1 =>
      obtain ⟨ds, ks, e1, hks⟩ := kind_T hk
      exact st e (.cons o1 a1 b1) ds ks e1 hks
end Y
/-! Y: tests, subscripts, slices, displays -/
namespace Y
open PySem PySem.Spec PyProof.Rows L2

/-! ### comparisons -/
def gEq (x y : D) : Option Bool := if fits 60 x = true ∧ fits 60 y = true then some (PyData.eqv x y) else none
def gNe (x y : D) : Option Bool := if fits 60 x = true ∧ fits 60 y = true then some (!PyData.eqv x y) else none
def gLt : D → D → Option Bool
  | .int a, .int b => some (decide (a < b))
  | .str a, .str b => some (decide (a.cps.toList < b.cps.toList))
  | _, _ => none
def gLe : D → D → Option Bool
  | .int a, .int b => some (decide (a ≤ b))
  | .str a, .str b => some (!decide (b.cps.toList < a.cps.toList))
  | _, _ => none
def gGt : D → D → Option Bool
  | .int a, .int b => some (decide (b < a))
  | _, _ => none
def gGe : D → D → Option Bool
  | .int a, .int b => some (decide (b ≤ a))
  | _, _ => none
/-- x is y, y one of None, True, False -/
def gIs : D → D → Option Bool
  | x, .none => some (match x with | .none => true | _ => false)
  | x, .bool b => some (match x with | .bool c => c == b | _ => false)
  | _, _ => none
def gIsNot (x y : D) : Option Bool := (gIs x y).map (!·)
def gIn (x y : D) : Option Bool := match y with
  | .list ds => if fits 59 x = true ∧ ds.all (fits 59) = true then some (ds.any fun z => PyData.eqv z x) else none
  | .tuple ds => if fits 59 x = true ∧ ds.all (fits 59) = true then some (ds.any fun z => PyData.eqv z x) else none
  | .str t => (match x with | .str z => some (!(Builtin.Str.occurrences t z 0 t.length 1).isEmpty) | _ => none)
  | .dict kvs => if kindOk kvs x = true then some (lookD kvs x).isSome else none
  | _ => none
def gNotIn (x y : D) : Option Bool := (gIn x y).map (!·)
def DoesC (X : Cx) (g : D → D → Option Bool) (r : R2) : Prop := ∀ (x y : V) (dx dy : D) (b : Bool) (S H : Hp) (Q : VK), Same S H → Rt X.K S H x dx → Rt X.K S H y dy → g dx dy = some b → Q (.bl b) H → r x y H Q
section
variable {X : Cx}
theorem does_eq : DoesC X gEq (rEqD X.K) := by
  intro x y dx dy b S H Q ss rx ry e q
  unfold gEq at e
  split at e
  · rename_i h
    cases e
    obtain ⟨a1, a2, a3⟩ := rx.dp ss h.1
    obtain ⟨b1, b2, b3⟩ := ry.dp ss h.2
    exact ⟨dx, dy, a1, b1, by unfold SeqAt.shaped; rw [a2, decide_eq_true (by omega)]; rfl, by unfold SeqAt.shaped; rw [b2, decide_eq_true (by omega)]; rfl, q⟩
  · cases e
theorem does_ne : DoesC X gNe (rNeD X.K) := by
  intro x y dx dy b S H Q ss rx ry e q
  unfold gNe at e
  split at e
  · rename_i h
    cases e
    obtain ⟨a1, a2, a3⟩ := rx.dp ss h.1
    obtain ⟨b1, b2, b3⟩ := ry.dp ss h.2
    exact ⟨dx, dy, a1, b1, by unfold SeqAt.shaped; rw [a2, decide_eq_true (by omega)]; rfl, by unfold SeqAt.shaped; rw [b2, decide_eq_true (by omega)]; rfl, q⟩
  · cases e
def rCmpIS (p : Int → Int → Bool) (q : List Nat → List Nat → Bool) : R2 := fun x y H Q => rI0 (fun i j => .bl (p i j)) x y H Q ∨ ∃ i j, x = .str i ∧ y = .str j ∧ Q (.bl (q i.cps.toList j.cps.toList)) H
theorem op_ltIS : OpR X (compareOp .Lt) (rCmpIS (fun i j => decide (i < j)) (fun i j => decide (i < j))) := op_lt.or op_lt_str
theorem op_leIS : OpR X (compareOp .LtE) (rCmpIS (fun i j => decide (i ≤ j)) (fun i j => !decide (j < i))) := op_le.or op_le_str
theorem does_lt : DoesC X gLt (rCmpIS (fun i j => decide (i < j)) (fun i j => decide (i < j))) := by
  intro x y dx dy b S H Q ss rx ry e q
  unfold gLt at e
  split at e
  · cases e; exact .inl ⟨_, _, rx.int_of, ry.int_of, q⟩
  · cases e; exact .inr ⟨_, _, rx.str_of, ry.str_of, q⟩
  · cases e
theorem does_le : DoesC X gLe (rCmpIS (fun i j => decide (i ≤ j)) (fun i j => !decide (j < i))) := by
  intro x y dx dy b S H Q ss rx ry e q
  unfold gLe at e
  split at e
  · cases e; exact .inl ⟨_, _, rx.int_of, ry.int_of, q⟩
  · cases e; exact .inr ⟨_, _, rx.str_of, ry.str_of, q⟩
  · cases e
theorem does_gt : DoesC X gGt (rI0 fun i j => .bl (decide (j < i))) := by
  intro x y dx dy b S H Q ss rx ry e q
  unfold gGt at e
  split at e
  · cases e; exact ⟨_, _, rx.int_of, ry.int_of, q⟩
  · cases e
theorem does_ge : DoesC X gGe (rI0 fun i j => .bl (decide (j ≤ i))) := by
  intro x y dx dy b S H Q ss rx ry e q
  unfold gGe at e
  split at e
  · cases e; exact ⟨_, _, rx.int_of, ry.int_of, q⟩
  · cases e
/-! is -/
def plainV : V → Bool
  | .non => true
  | .bl _ => true
  | _ => false
def rIsC : R2 := fun x y H Q => plainV y = true ∧ Q (.bl (decide (x = y))) H
def rIsNotC : R2 := fun x y H Q => plainV y = true ∧ Q (.bl (!decide (x = y))) H
theorem plainIs_of {x y : V} {v u : Value} (rx : RelV x v) (ry : RelV y u) (h : plainV y = true) : plainIs v u = true := by
  cases y with
  | non =>
    cases (show u = Value.none from ry)
    cases x with
    | non => cases (show v = Value.none from rx); rfl
    | bl _ => cases (show v = Value.bool _ from rx); rfl
    | int _ => obtain ⟨t, rfl⟩ := rx; rfl
    | str _ => obtain ⟨t, rfl⟩ := rx; rfl
    | byt _ => obtain ⟨t, rfl⟩ := rx; rfl
    | flt _ => obtain ⟨t, rfl⟩ := rx; rfl
    | ref _ => cases (show v = Value.ref _ from rx); rfl
    | ty _ => cases (show v = Value.type _ from rx); rfl
  | bl b =>
    cases (show u = Value.bool b from ry)
    cases x with
    | non => cases (show v = Value.none from rx); rfl
    | bl _ => cases (show v = Value.bool _ from rx); rfl
    | int _ => obtain ⟨t, rfl⟩ := rx; rfl
    | str _ => obtain ⟨t, rfl⟩ := rx; rfl
    | byt _ => obtain ⟨t, rfl⟩ := rx; rfl
    | flt _ => obtain ⟨t, rfl⟩ := rx; rfl
    | ref _ => cases (show v = Value.ref _ from rx); rfl
    | ty _ => cases (show v = Value.type _ from rx); rfl
  | _ => cases h
theorem relV_iff {x y : V} {v u : Value} (rx : RelV x v) (ry : RelV y u) (h : plainV y = true) : (v == u) = decide (x = y) := by
  by_cases e : x = y
  · subst e
    rw [decide_eq_true rfl]
    cases x with
    | non => cases (show v = Value.none from rx); cases (show u = Value.none from ry); rfl
    | bl _ => cases (show v = Value.bool _ from rx); cases (show u = Value.bool _ from ry); exact beq_self_eq_true _
    | _ => cases h
  · rw [decide_eq_false e]
    refine beq_eq_false_iff_ne.mpr fun z => ?_
    subst z
    exact e (rx.inj ry)
theorem op_isC : OpR X (compareOp .Is) rIsC := by
  intro pins s σ H x y v u Q I rx ry h
  exact wpAny_is_plain (plainIs_of rx ry h.1) ⟨.bl _, H, I, by rw [relV_iff rx ry h.1]; rfl, h.2⟩
theorem op_isNotC : OpR X (compareOp .IsNot) rIsNotC := by
  intro pins s σ H x y v u Q I rx ry h
  exact wpAny_isNot_plain (plainIs_of rx ry h.1) ⟨.bl _, H, I, by rw [relV_iff rx ry h.1]; rfl, h.2⟩
theorem gIs_of {S H : Hp} {x y : V} {dx dy : D} {b : Bool} (rx : Rt X.K S H x dx) (ry : Rt X.K S H y dy) (e : gIs dx dy = some b) : plainV y = true ∧ decide (x = y) = b := by
  cases ry with
  | non =>
    refine ⟨rfl, ?_⟩
    cases rx <;> simp_all [gIs]
  | bl c =>
    refine ⟨rfl, ?_⟩
    cases rx <;> simp_all [gIs]
    rename_i d
    cases d <;> cases c <;> cases b <;> simp_all
  | int _ => simp [gIs] at e
  | str _ => simp [gIs] at e
  | lst _ _ => simp [gIs] at e
  | tup _ _ _ => simp [gIs] at e
  | dK _ _ _ => simp [gIs] at e
  | dT _ _ _ => simp [gIs] at e
theorem does_is : DoesC X gIs rIsC := by
  intro x y dx dy b S H Q ss rx ry e q
  obtain ⟨h1, h2⟩ := gIs_of rx ry e
  exact ⟨h1, by rw [h2]; exact q⟩
theorem does_isNot : DoesC X gIsNot rIsNotC := by
  intro x y dx dy b S H Q ss rx ry e q
  unfold gIsNot at e
  obtain ⟨c, hc, rfl⟩ := Option.map_eq_some_iff.mp e
  obtain ⟨h1, h2⟩ := gIs_of rx ry hc
  exact ⟨h1, by rw [h2]; exact q⟩
/-! in -/
def rInG (K : PySem.W.Frag) (neg : Bool) : R2 := fun x y H Q => ∃ d ds, Dp K H x d ∧ (Dp K H y (.list ds) ∨ Dp K H y (.tuple ds)) ∧ d.canLay0 = true ∧ PyData.canLayAll0 ds = true ∧ d.depth ≤ 60 ∧ Q (.bl (neg ^^ ds.any fun z => PyData.eqv z d)) H
theorem op_inG (b : Bd X) : OpR X (compareOp .In) (rInG X.K false) := by
  intro pins s σ H x y v u Q I rx ry h
  obtain ⟨d, ds, hd, hy, h1, h2, h3, q⟩ := h
  have hb := b.un
  obtain ⟨as, r1⟩ := Dp.reads I d x v hd rx
  rw [Bool.false_xor] at q
  rcases hy with hy | hy
  · obtain ⟨bs, r2⟩ := Dp.reads I (.list ds) y u hy ry
    exact SeqAt.in_list_reads r2 r1 h2 h1 (by omega) ⟨.bl _, H, I, rfl, q⟩
  · obtain ⟨bs, r2⟩ := Dp.reads I (.tuple ds) y u hy ry
    exact SeqAt.in_tuple_reads r2 r1 h2 h1 (by omega) ⟨.bl _, H, I, rfl, q⟩
theorem op_notInG (b : Bd X) : OpR X (compareOp .NotIn) (rInG X.K true) := by
  intro pins s σ H x y v u Q I rx ry h
  obtain ⟨d, ds, hd, hy, h1, h2, h3, q⟩ := h
  have hb := b.un
  obtain ⟨as, r1⟩ := Dp.reads I d x v hd rx
  rw [Bool.true_xor] at q
  rcases hy with hy | hy
  · obtain ⟨bs, r2⟩ := Dp.reads I (.list ds) y u hy ry
    exact SeqAt.notIn_list_reads r2 r1 h2 h1 (by omega) ⟨.bl _, H, I, rfl, q⟩
  · obtain ⟨bs, r2⟩ := Dp.reads I (.tuple ds) y u hy ry
    exact SeqAt.notIn_tuple_reads r2 r1 h2 h1 (by omega) ⟨.bl _, H, I, rfl, q⟩
def rInA (K : PySem.W.Frag) (neg : Bool) : R2 := fun x y H Q => rInG K neg x y H Q ∨ (∃ i j, x = .str i ∧ y = .str j ∧ Q (.bl (neg ^^ !(Builtin.Str.occurrences j i 0 j.length 1).isEmpty)) H) ∨ ∃ a o, y = .ref a ∧ DG H a x o ∧ Q (.bl (neg ^^ o.isSome)) H
theorem OpR.weak {f : Value → Value → Sem Value} {r r' : R2} (h : OpR X f r) (k : ∀ x y H Q, r' x y H Q → r x y H Q) : OpR X f r' := fun pins s σ H x y v u Q I rx ry q => h pins s σ H x y v u Q I rx ry (k _ _ _ _ q)
theorem op_inA (b : Bd X) : OpR X (compareOp .In) (rInA X.K false) :=
  OpR.weak ((op_inG b).or (op_in_str.or (op_dIn b))) fun x y H Q h => by
    rcases h with h | ⟨i, j, e1, e2, q⟩ | ⟨a, o, e1, g, q⟩
    · exact .inl h
    · rw [Bool.false_xor] at q; exact .inr (.inl ⟨i, j, e1, e2, q⟩)
    · rw [Bool.false_xor] at q; exact .inr (.inr ⟨a, o, e1, g, q⟩)
theorem op_notInA (b : Bd X) : OpR X (compareOp .NotIn) (rInA X.K true) :=
  OpR.weak ((op_notInG b).or (op_notIn_str.or (op_dNotIn b))) fun x y H Q h => by
    rcases h with h | ⟨i, j, e1, e2, q⟩ | ⟨a, o, e1, g, q⟩
    · exact .inl h
    · rw [Bool.true_xor] at q; exact .inr (.inl ⟨i, j, e1, e2, q⟩)
    · rw [Bool.true_xor] at q; exact .inr (.inr ⟨a, o, e1, g, q⟩)
theorem gIn_of {S H : Hp} (ss : Same S H) {x y : V} {dx dy : D} {b : Bool} (neg : Bool) (rx : Rt X.K S H x dx) (ry : Rt X.K S H y dy) (e : gIn dx dy = some b) {Q : VK} (q : Q (.bl (neg ^^ b)) H) : rInA X.K neg x y H Q := by
  unfold gIn at e
  split at e
  · rename_i ds
    split at e
    · rename_i h
      cases e
      obtain ⟨a1, a2, a3⟩ := rx.dp ss h.1
      obtain ⟨b1, b2, b3⟩ := ry.dp (n := 60) ss (by simpa [fits] using h.2)
      have b2 : PyData.canLayAll0 ds = true := by unfold PyData.canLay0 at b2; exact b2
      exact .inl ⟨dx, ds, a1, .inl b1, a2, b2, by omega, q⟩
    · cases e
  · rename_i ds
    split at e
    · rename_i h
      cases e
      obtain ⟨a1, a2, a3⟩ := rx.dp ss h.1
      obtain ⟨b1, b2, b3⟩ := ry.dp (n := 60) ss (by simpa [fits] using h.2)
      have b2 : PyData.canLayAll0 ds = true := by unfold PyData.canLay0 at b2; exact b2
      exact .inl ⟨dx, ds, a1, .inr b1, a2, b2, by omega, q⟩
    · cases e
  · split at e
    · cases e
      exact .inr (.inl ⟨_, _, rx.str_of, ry.str_of, q⟩)
    · cases e
  · split at e
    · rename_i h
      cases e
      obtain ⟨a, rfl, o, g, hl⟩ := Rt.dget ry rx h
      refine .inr (.inr ⟨a, o, rfl, g, ?_⟩)
      rcases hl with ⟨h1, h2⟩ | ⟨w, d, h1, _, h2, _⟩
      · rw [h1] at q; rw [h2]; exact q
      · rw [h2] at q; rw [h1]; exact q
    · cases e
  · cases e
theorem does_in : DoesC X gIn (rInA X.K false) := by
  intro x y dx dy b S H Q ss rx ry e q
  exact gIn_of ss false rx ry e (by rw [Bool.false_xor]; exact q)
theorem does_notIn : DoesC X gNotIn (rInA X.K true) := by
  intro x y dx dy b S H Q ss rx ry e q
  unfold gNotIn at e
  obtain ⟨c, hc, rfl⟩ := Option.map_eq_some_iff.mp e
  exact gIn_of ss true rx ry hc (by rw [Bool.true_xor]; exact q)
end
end Y
/-! Y: tests and values -/
namespace Y
open PySem PySem.Spec PyProof.Rows L2

/-- an expression that gives True or False -/
abbrev GoV (K : PySem.W.Frag) (W : XW) (G : Fra) (T : List (V × E)) (σ : Sg) (Q : VK) : Rs Bool → Prop := GoR K W G T σ fun b ρ' => ∀ S' H', Stt K G T ρ' σ S' H' → Q (.bl b) H'
def tV (K : PySem.W.Frag) (W : XW) (f : Ev → Rs Bool) : TE := fun σ H Q => ∃ G T S ρ, Stt K G T ρ σ S H ∧ GoV K W G T σ Q (f ρ)
abbrev DV (X : Cx) (W : XW) (e : Expr) (f : Ev → Rs Bool) : Prop := PE X e (tV X.K W f)
def bl (f : Ev → Rs Bool) : Ev → Rs O := bnd f fun b ρ => .ok (.leaf (.bool b)) ρ
def asB (f : Ev → Rs O) : Ev → Rs Bool := bnd f fun o ρ => match o with
  | .leaf (.bool b) => .ok b ρ
  | _ => .stk
def cmp2 (g : D → D → Option Bool) (fa fb : Ev → Rs B) : Ev → Rs Bool := bnd fa fun a => bnd fb fun b ρ => match a.val ρ with
  | some x => (match b.val ρ with
    | some y => (match g x y with | some c => .ok c ρ | none => .stk)
    | none => .stk)
  | none => .stk
/-- a op b op' c -/
def chn (g g' : D → D → Option Bool) (fa fb fc : Ev → Rs B) : Ev → Rs Bool := bnd fa fun a => bnd fb fun b ρ => match a.val ρ with
  | some x => (match b.val ρ with
    | some y => (match g x y with
      | some true => bnd fc (fun c ρ' => match b.val ρ', c.val ρ' with
        | some y', some z => (match g' y' z with | some d => .ok d ρ' | none => .stk)
        | _, _ => .stk) ρ
      | some false => .ok false ρ
      | none => .stk)
    | none => .stk)
  | none => .stk
def gTru : D → Option Bool
  | .none => some false
  | .bool b => some b
  | .int i => some (i != 0)
  | .str y => if y.length ≤ sizeLine then some ((y.length : Int) != 0) else none
  | .list ds => some (!ds.isEmpty)
  | .tuple ds => some (!ds.isEmpty)
  | .dict _ => none
def truB (f : Ev → Rs B) : Ev → Rs Bool := bnd f fun b ρ => match b.val ρ with
  | some d => (match gTru d with | some c => .ok c ρ | none => .stk)
  | none => .stk
def andT (f g : Ev → Rs Bool) : Ev → Rs Bool := bnd f fun b ρ => if b = true then g ρ else .ok false ρ
def orT (f g : Ev → Rs Bool) : Ev → Rs Bool := bnd f fun b ρ => if b = true then .ok true ρ else g ρ
def notT (f : Ev → Rs Bool) : Ev → Rs Bool := bnd f fun b ρ => .ok (!b) ρ
def ifE {α : Type} (t : Ev → Rs Bool) (f g : Ev → Rs α) : Ev → Rs α := bnd t fun b ρ => if b = true then f ρ else g ρ
section
variable {X : Cx} {W : XW} {a b c : Expr} {pos : Pos} {fa fb fc : Ev → Rs B} {ft fu : Ev → Rs Bool}
theorem RpA.emp {K : PySem.W.Frag} {S : Hp} {vs : List V} {ds : List D} (r : RpA K S vs ds) : vs.isEmpty = ds.isEmpty := by cases r <;> rfl
theorem tru_of {S H : Hp} {v : V} {d : D} {k : Bool} (r : Rt X.K S H v d) (e : gTru d = some k) : TruV X.K v H k := by
  cases r with
  | non => cases e; rfl
  | bl b => cases e; rfl
  | int b => cases e; rfl
  | str y h =>
    unfold gTru at e
    split at e <;> try (cases e; done)
    all_goals simp_all
    exact ⟨e.1, e.2.symm⟩
  | lst h r =>
    cases e
    exact .inl ⟨_, h, by rw [r.emp]⟩
  | tup h h2 r =>
    cases e
    exact .inr (.inl ⟨_, SqT.of h2, by rw [r.emp]⟩)
  | dK _ _ _ => cases e
  | dT _ _ _ => cases e
theorem runC {g : D → D → Option Bool} {r : R2} (h : DoesC X g r) {σ : Sg} {H : Hp} {Q : VK} (q : tV X.K W (cmp2 g fa fb) σ H Q) : tOp r (tB' X.K W fa) (tB' X.K W fb) σ H Q := by
  obtain ⟨G, T, S, ρ, s, g'⟩ := q
  refine ⟨G, T, S, ρ, s, seq sid ?_ g'⟩
  intro a ρ1 z x S1 H1 s1 at1
  refine ⟨G, a.tm x ++ T, S1, ρ1, s1, seq sdr ?_ z⟩
  intro b ρ2 z2 y S2 H2 s2 at2
  split at z2
  · rename_i dx hx
    split at z2
    · rename_i dy hy
      split at z2
      · rename_i o ho
        have rx : Rt X.K S2 H2 x dx := B.rt s2 (fun p m => List.mem_append_right _ (List.mem_append_left _ m)) at1 hx
        have ry : Rt X.K S2 H2 y dy := B.rt s2 (fun p m => List.mem_append_left _ m) at2 hy
        exact h x y dx dy o S2 H2 Q s2.sub rx ry ho (z2 S2 H2 s2.dropL.dropL)
      · exact z2.elim
    · exact z2.elim
  · exact z2.elim
theorem tV_T {f : Ev → Rs Bool} {σ : Sg} {H : Hp} {Q : Bool → Hp → Prop} (q : tT X.K W f σ H Q) : tV X.K W f σ H (fun x H' => ∃ k, x = .bl k ∧ Q k H') := by
  obtain ⟨G, T, S, ρ, s, g⟩ := q
  refine ⟨G, T, S, ρ, s, ?_⟩
  cases e : f ρ with
  | ok b ρ' => rw [e] at g; exact fun S' H' s' => ⟨b, rfl, g S' H' s'⟩
  | er x ρ' => rw [e] at g; exact g
  | stk => rw [e] at g; exact g
theorem dv_cmp {op : CmpOp} {g : D → D → Option Bool} {r : R2} (ho : OpR X (compareOp op) r) (h : DoesC X g r) (ha : DB X W a fa) (hb : DB X W b fb) (hm : behindInMarks op b = false) : DV X W (.Compare a [op] [b] pos) (cmp2 g fa fb) :=
  PE.imp (pe_cmpR ho ha hb hm) fun _ _ _ q => runC h q
theorem dt_cmp {op : CmpOp} {g : D → D → Option Bool} {r : R2} (ho : OpR X (compareOp op) r) (h : DoesC X g r) (ha : DB X W a fa) (hb : DB X W b fb) (hm : behindInMarks op b = false) : DT X W (.Compare a [op] [b] pos) (cmp2 g fa fb) :=
  PT.imp (pt_cmpR ho ha hb hm) fun _ _ _ q => runC h (tV_T q)
theorem runCh {g g' : D → D → Option Bool} {r r' : R2} (h : DoesC X g r) (h' : DoesC X g' r') {σ : Sg} {H : Hp} {Q : VK} (q : tV X.K W (chn g g' fa fb fc) σ H Q) : tChain r r' (tB' X.K W fa) (tB' X.K W fb) (tB' X.K W fc) σ H Q := by
  obtain ⟨G, T, S, ρ, s, gg⟩ := q
  refine ⟨G, T, S, ρ, s, seq sid ?_ gg⟩
  intro a ρ1 z x S1 H1 s1 at1
  refine ⟨G, a.tm x ++ T, S1, ρ1, s1, seq sdr ?_ z⟩
  intro b ρ2 z2 y S2 H2 s2 at2
  split at z2
  · rename_i dx hx
    split at z2
    · rename_i dy hy
      have rx : Rt X.K S2 H2 x dx := B.rt s2 (fun p m => List.mem_append_right _ (List.mem_append_left _ m)) at1 hx
      have ry : Rt X.K S2 H2 y dy := B.rt s2 (fun p m => List.mem_append_left _ m) at2 hy
      split at z2
      · rename_i ho
        refine h x y dx dy true S2 H2 _ s2.sub rx ry ho ⟨true, rfl, ?_⟩
        rw [if_pos rfl]
        refine ⟨G, b.tm y ++ (a.tm x ++ T), S2, ρ2, s2, seq (fun ρ' S' H' s' => s'.dropL.dropL) ?_ z2⟩
        intro c ρ3 z3 w S3 H3 s3 at3
        split at z3
        · rename_i dy' dz hy' hz
          split at z3
          · rename_i d hd
            have ry' : Rt X.K S3 H3 y dy' := B.rt s3 (fun p m => List.mem_append_right _ (List.mem_append_left _ m)) at2 hy'
            have rz : Rt X.K S3 H3 w dz := B.rt s3 (fun p m => List.mem_append_left _ m) at3 hz
            exact h' y w dy' dz d S3 H3 Q s3.sub ry' rz hd (z3 S3 H3 s3.dropL.dropL.dropL)
          · exact z3.elim
        · exact z3.elim
      · rename_i ho
        refine h x y dx dy false S2 H2 _ s2.sub rx ry ho ⟨false, rfl, ?_⟩
        rw [if_neg Bool.false_ne_true]
        exact z2 S2 H2 s2.dropL.dropL
      · exact z2.elim
    · exact z2.elim
  · exact z2.elim
theorem dv_chn {op op' : CmpOp} {g g' : D → D → Option Bool} {r r' : R2} (ho : OpR X (compareOp op) r) (ho' : OpR X (compareOp op') r') (h : DoesC X g r) (h' : DoesC X g' r') (ha : DB X W a fa) (hb : DB X W b fb) (hc : DB X W c fc)
    (hm : lastMarks [op, op'] [b, c] = false) : DV X W (.Compare a [op, op'] [b, c] pos) (chn g g' fa fb fc) := PE.imp (pe_chain ho ho' ha hb hc hm) fun _ _ _ q => runCh h h' q
theorem dt_chn {op op' : CmpOp} {g g' : D → D → Option Bool} {r r' : R2} (ho : OpR X (compareOp op) r) (ho' : OpR X (compareOp op') r') (h : DoesC X g r) (h' : DoesC X g' r') (ha : DB X W a fa) (hb : DB X W b fb) (hc : DB X W c fc)
    (hm : lastMarks [op, op'] [b, c] = false) : DT X W (.Compare a [op, op'] [b, c] pos) (chn g g' fa fb fc) := PT.imp (pt_chain ho ho' ha hb hc hm) fun _ _ _ q => runCh h h' (tV_T q)
theorem de_v {f : Ev → Rs Bool} (h : DV X W a f) : DE X W a (bl f) := PE.imp h fun σ H Q ⟨G, T, S, ρ, s, g⟩ => by
  refine ⟨G, T, S, ρ, s, seq sid ?_ g⟩
  intro b ρ' z S' H' s'
  exact z _ S' H' (s'.push (.bl b))
theorem dv_e {f : Ev → Rs O} (h : DE X W a f) : DV X W a (asB f) := PE.imp h fun σ H Q ⟨G, T, S, ρ, s, g⟩ => by
  refine ⟨G, T, S, ρ, s, seq sid ?_ g⟩
  intro o ρ' z v S' H' s'
  split at z
  · rename_i b
    have e := (s'.rtT (v := v) (e := ow (.leaf (.bool b))) (by simp)).bl_of
    subst e
    exact z S' H' s'.drop1
  · exact z.elim
theorem dt_v {f : Ev → Rs Bool} (h : DV X W a f) (he : ∀ whole, isTrue a X.env whole = (do let v ← whole; standAt a.pos; holding [v] (truthy v))) : DT X W a f := PT.imp (pt_val h he) fun σ H Q q => tV_T q
theorem dt_b {f : Ev → Rs B} (h : DB X W a f) (he : ∀ whole, isTrue a X.env whole = (do let v ← whole; standAt a.pos; holding [v] (truthy v))) : DT X W a (truB f) := PT.imp (pt_truth h he) fun σ H Q ⟨G, T, S, ρ, s, g⟩ => by
  refine ⟨G, T, S, ρ, s, seq sid ?_ g⟩
  intro b ρ1 z x S1 H1 s1 at1
  split at z
  · rename_i d hd
    split at z
    · rename_i k hk
      exact ⟨k, tru_of (B.rt s1 (fun p m => List.mem_append_left _ m) at1 hd) hk, z S1 H1 s1.dropL⟩
    · exact z.elim
  · exact z.elim
/-! and, or, not -/
variable {rest : List Expr}
theorem dw_t (h : DW X W a ft) : DT X W a ft := h.pt
theorem dw_and1 (h : DT X W a ft) : DW X W (.BoolOp .And [a] pos) ft := pw_and1 h
theorem dw_or1 (h : DT X W a ft) : DW X W (.BoolOp .Or [a] pos) ft := pw_or1 h
theorem dw_and (ha : DT X W a ft) (hb : DW X W (.BoolOp .And (b :: rest) pos) fu) : DW X W (.BoolOp .And (a :: b :: rest) pos) (andT ft fu) := PW.imp (pw_and ha hb) fun σ H Q ⟨G, T, S, ρ, s, g⟩ => by
  refine ⟨G, T, S, ρ, s, seq sid ?_ g⟩
  intro b ρ' z S' H' s'
  cases b with
  | true => exact ⟨G, T, S', ρ', s', z⟩
  | false => exact z S' H' s'
theorem dw_or (ha : DT X W a ft) (hb : DW X W (.BoolOp .Or (b :: rest) pos) fu) : DW X W (.BoolOp .Or (a :: b :: rest) pos) (orT ft fu) := PW.imp (pw_or ha hb) fun σ H Q ⟨G, T, S, ρ, s, g⟩ => by
  refine ⟨G, T, S, ρ, s, seq sid ?_ g⟩
  intro b ρ' z S' H' s'
  cases b with
  | true => exact z S' H' s'
  | false => exact ⟨G, T, S', ρ', s', z⟩
theorem dt_not (h : DT X W a ft) : DT X W (.UnaryOp .Not a pos) (notT ft) := PT.imp (pt_not h) fun σ H Q ⟨G, T, S, ρ, s, g⟩ => by
  refine ⟨G, T, S, ρ, s, seq sid ?_ g⟩
  intro b ρ' z S' H' s'
  exact z S' H' s'
theorem dv_one {op} (h : DV X W a ft) : DV X W (.BoolOp op [a] pos) ft := pe_one h
theorem dv_and (ha : DV X W a ft) (hb : DV X W (.BoolOp .And (b :: rest) pos) fu) : DV X W (.BoolOp .And (a :: b :: rest) pos) (andT ft fu) := PE.imp (pe_and ha hb) fun σ H Q ⟨G, T, S, ρ, s, g⟩ => by
  refine ⟨G, T, S, ρ, s, seq sid ?_ g⟩
  intro b ρ' z S' H' s'
  refine ⟨b, rfl, ?_⟩
  cases b with
  | true => rw [if_pos rfl]; exact ⟨G, T, S', ρ', s', z⟩
  | false => rw [if_neg Bool.false_ne_true]; exact z S' H' s'
theorem dv_or (ha : DV X W a ft) (hb : DV X W (.BoolOp .Or (b :: rest) pos) fu) : DV X W (.BoolOp .Or (a :: b :: rest) pos) (orT ft fu) := PE.imp (pe_or ha hb) fun σ H Q ⟨G, T, S, ρ, s, g⟩ => by
  refine ⟨G, T, S, ρ, s, seq sid ?_ g⟩
  intro b ρ' z S' H' s'
  refine ⟨b, rfl, ?_⟩
  cases b with
  | true => rw [if_pos rfl]; exact z S' H' s'
  | false => rw [if_neg Bool.false_ne_true]; exact ⟨G, T, S', ρ', s', z⟩
theorem dv_not (h : DV X W a ft) : DV X W (.UnaryOp .Not a pos) (notT ft) := PE.imp (pe_not h) fun σ H Q ⟨G, T, S, ρ, s, g⟩ => by
  refine ⟨G, T, S, ρ, s, seq sid ?_ g⟩
  intro b ρ' z S' H' s'
  exact ⟨b, rfl, z S' H' s'⟩
theorem de_if {f g : Ev → Rs O} (ht : DT X W c ft) (ha : DE X W a f) (hb : DE X W b g) : DE X W (.IfExp c a b pos) (ifE ft f g) := PE.imp (pe_ifExp ht ha hb) fun σ H Q ⟨G, T, S, ρ, s, g⟩ => by
  refine ⟨G, T, S, ρ, s, seq sid ?_ g⟩
  intro b ρ' z S' H' s'
  cases b with
  | true => exact ⟨G, T, S', ρ', s', z⟩
  | false => exact ⟨G, T, S', ρ', s', z⟩
/-! ### subscripts, slices -/
def gIx : D → D → Option O
  | .list ds, .int i => (atI ds i).map .leaf
  | .tuple ds, .int i => (atI ds i).map .leaf
  | .str z, .int i => if z.length ≤ sizeLine then (atI z.cps.toList i).map fun c => .leaf (.str ⟨#[c]⟩) else none
  | .dict kvs, k => if kindOk kvs k = true then (lookD kvs k).map .leaf else none
  | _, _ => none
def rIxA (K : PySem.W.Frag) : R2 := fun x y H Q => rIx K x y H Q ∨ rDGet x y H Q
theorem ix_any (b : Bd X) : IxR X (rIxA X.K) := ix_seq.or (ix_dict b)
theorem RpA.atI {K : PySem.W.Frag} {S : Hp} {vs : List V} {ds : List D} (r : RpA K S vs ds) {i : Int} {d : D} (h : atI ds i = some d) : ∃ v, atI vs i = some v ∧ Rp K S v d := by
  unfold L2.atI at h ⊢
  rw [r.length]
  cases e : ixN ds.length i with
  | none => rw [e] at h; cases h
  | some j =>
    rw [e] at h
    exact r.get h
theorem okS_at {z : Str} (h : okS z = true) {i : Int} {c : Nat} (e : L2.atI z.cps.toList i = some c) : okS ⟨#[c]⟩ = true := by
  rw [okS_iff] at h ⊢
  intro d hd
  have : d = c := by simpa using hd
  subst this
  refine h d ?_
  unfold L2.atI at e
  cases q : ixN z.cps.toList.length i with
  | none => rw [q] at e; cases e
  | some j => rw [q] at e; exact List.mem_of_getElem? e
theorem does_ix : Does2 X gIx (rIxA X.K) := by
  intro x y dx dy o G T ρ σ S H Q s rx ry e q
  unfold gIx at e
  split at e
  · obtain ⟨d, hd, rfl⟩ := Option.map_eq_some_iff.mp e
    obtain ⟨a, xs, rfl, h1, r1⟩ := rx.lst_of
    obtain ⟨v, hv, rv⟩ := r1.atI hd
    exact .inl (.inl ⟨a, xs, _, v, rfl, ry.int_of, h1, hv, s.val rv q⟩)
  · obtain ⟨d, hd, rfl⟩ := Option.map_eq_some_iff.mp e
    obtain ⟨a, xs, rfl, h1, r1⟩ := rx.tup_of
    obtain ⟨v, hv, rv⟩ := r1.atI hd
    exact .inl (.inr (.inl ⟨a, xs, _, v, rfl, ry.int_of, h1, hv, s.val rv q⟩))
  · split at e
    · rename_i hz
      obtain ⟨c, hc, rfl⟩ := Option.map_eq_some_iff.mp e
      exact .inl (.inr (.inr ⟨_, _, c, rx.str_of, ry.int_of, hz, hc, s.val (.str _ (okS_at rx.str_ok hc)) q⟩))
    · cases e
  · split at e
    · rename_i hk
      obtain ⟨d, hd, rfl⟩ := Option.map_eq_some_iff.mp e
      obtain ⟨a, rfl, o, g, hl⟩ := Rt.dget rx ry hk
      rcases hl with ⟨h1, h2⟩ | ⟨w, d', h1, g', h2, r⟩
      · rw [hd] at h1; cases h1
      · rw [hd] at h2
        cases h2
        subst h1
        exact .inr ⟨a, w, rfl, g', s.val r q⟩
    · cases e
  · cases e
theorem de_ix (bd : Bd X) (ha : DB X W a fa) (hb : DB X W b fb) (hs : PlainIx b) : DE X W (.Subscript a b pos) (op2 gIx fa fb) := PE.imp (pe_ix (ix_any bd) ha hb hs) fun _ _ _ q => run2 does_ix q
/-! a slice's parts -/
def tOq (K : PySem.W.Frag) (W : XW) (f : Ev → Rs (Option Int)) : TO := fun σ H Q => ∃ G T S ρ, Stt K G T ρ σ S H ∧ GoR K W G T σ (fun i ρ' => ∀ S' H', Stt K G T ρ' σ S' H' → Q i H') (f ρ)
abbrev DO (X : Cx) (W : XW) (e : Option Expr) (f : Ev → Rs (Option Int)) : Prop := PO X e (tOq X.K W f)
theorem PO.imp {e : Option Expr} {t u : TO} (h : PO X e t) (k : ∀ σ H Q, u σ H Q → t σ H Q) : PO X e u := ⟨fun pins s σ H Q I q => h.run pins s σ H Q I (k σ H Q q)⟩
def noP : Ev → Rs (Option Int) := fun ρ => .ok none ρ
def aP (f : Ev → Rs B) : Ev → Rs (Option Int) := bnd f fun b ρ => match b.val ρ with
  | some (.int i) => .ok (some i) ρ
  | _ => .stk
theorem do_none : DO X W none noP := PO.imp po_none fun σ H Q ⟨G, T, S, ρ, s, g⟩ => g S H s
theorem do_some (h : DB X W a fa) : DO X W (some a) (aP fa) := PO.imp (po_some h) fun σ H Q ⟨G, T, S, ρ, s, g⟩ => by
  refine ⟨G, T, S, ρ, s, seq sid ?_ g⟩
  intro b ρ1 z x S1 H1 s1 at1
  split at z
  · rename_i i hi
    exact ⟨i, (B.rt s1 (fun p m => List.mem_append_left _ m) at1 hi).int_of, z S1 H1 s1.dropL⟩
  · exact z.elim
def cutD {α : Type} (xs : List α) (lo hi : Option Int) : List α := (xs.drop (HT.sIx xs.length 0 lo)).take (HT.sIx xs.length xs.length hi - HT.sIx xs.length 0 lo)
def gSl : D → Option Int → Option Int → Option O
  | .list ds, lo, hi => some (.lst (cutD ds lo hi))
  | .tuple ds, lo, hi => if HT.sIx ds.length 0 lo = 0 ∧ HT.sIx ds.length ds.length hi = ds.length then none else some (.leaf (.tuple (cutD ds lo hi)))
  | .str z, lo, hi => if z.length ≤ sizeLine then some (.leaf (.str (cutS z lo hi))) else none
  | _, _, _ => none
def slE (fa : Ev → Rs B) (fl fh : Ev → Rs (Option Int)) : Ev → Rs O := bnd fa fun a => bnd fl fun l => bnd fh fun h ρ => match a.val ρ with
  | some d => (match gSl d l h with | some o => .ok o ρ | none => .stk)
  | none => .stk
theorem RpA.cut {K : PySem.W.Frag} {S : Hp} {vs : List V} {ds : List D} (r : RpA K S vs ds) (lo hi : Option Int) : RpA K S (cutV vs lo hi) (cutD ds lo hi) := by
  unfold cutV cutD
  rw [r.length]
  exact (r.drop _).take _
theorem okS_cut {z : Str} (h : okS z = true) (lo hi : Option Int) : okS (cutS z lo hi) = true := by
  rw [okS_iff] at h ⊢
  intro c hc
  refine h c ?_
  have hc : c ∈ ((z.cps.toList.drop (HT.sIx z.length 0 lo)).take (HT.sIx z.length z.length hi - HT.sIx z.length 0 lo)) := by simpa [cutS] using hc
  exact List.mem_of_mem_drop (List.mem_of_mem_take hc)
def rSlA (K : PySem.W.Frag) : V → Option Int → Option Int → Hp → VK → Prop := fun x lo hi H Q => rSlL K x lo hi H Q ∨ rSlT K x lo hi H Q ∨ rSlS x lo hi H Q
theorem sl_any : SlR X (rSlA X.K) := sl_list.or (sl_tup.or sl_str)
theorem de_slice {lo hi : Option Expr} {p2 : Pos} {fl fh : Ev → Rs (Option Int)} (ha : DB X W a fa) (hl : DO X W lo fl) (hh : DO X W hi fh) : DE X W (.Subscript a (.Slice lo hi none p2) pos) (slE fa fl fh) :=
  PE.imp (pe_slice sl_any ha hl hh) fun σ H Q ⟨G, T, S, ρ, s, g⟩ => by
    refine ⟨G, T, S, ρ, s, seq sid ?_ g⟩
    intro b ρ1 z x S1 H1 s1 at1
    refine ⟨G, b.tm x ++ T, S1, ρ1, s1, seq sdr ?_ z⟩
    intro l ρ2 z2 S2 H2 s2
    refine ⟨G, b.tm x ++ T, S2, ρ2, s2, seq sdr ?_ z2⟩
    intro h ρ3 z3 S3 H3 s3
    have z3' : GoE X.K W G T σ Q (match b.val ρ3 with | some d => (match gSl d l h with | some o => .ok o ρ3 | none => .stk) | none => .stk) := z3
    split at z3'
    · rename_i d hd
      have r : Rt X.K S3 H3 x d := B.rt s3 (fun p m => List.mem_append_left _ m) at1 hd
      split at z3'
      · rename_i o ho
        have q : ∀ v S' H', Stt X.K G ((v, ow o) :: T) ρ3 σ S' H' → Q v H' := z3'
        unfold gSl at ho
        split at ho
        · cases ho
          obtain ⟨p, xs, rfl, h1, r1⟩ := r.lst_of
          exact .inl ⟨p, xs, rfl, h1, s3.dropL.newL (r1.cut l h) q⟩
        · split at ho
          · cases ho
          · rename_i hw
            cases ho
            obtain ⟨p, xs, rfl, h1, r1⟩ := r.tup_of
            exact .inr (.inl ⟨p, xs, rfl, h1, by rw [r1.length]; exact hw, s3.dropL.newT (r1.cut l h) q⟩)
        · split at ho
          · rename_i hz
            cases ho
            exact .inr (.inr ⟨_, r.str_of, hz, s3.dropL.val (.str _ (okS_cut r.str_ok l h)) q⟩)
          · cases ho
        · cases ho
      · exact z3'.elim
    · exact z3'.elim
end
end Y
/-! Y: displays, built-in functions -/
namespace Y
open PySem PySem.Spec PyProof.Rows L2

def tmpD : List B → Option (List D)
  | [] => some []
  | .tmp o :: bs => (match tmpD bs with | some ds => some (o.d :: ds) | none => none)
  | .slot _ :: _ => none
section
variable {K : PySem.W.Frag} {G : Fra} {T : List (V × E)} {ρ : Ev} {σ : Sg} {S H : Hp}
theorem Stt.freezeAll {vs : List V} {bs : List B} (h : AllAt σ vs bs) : ∀ {ds : List D} {S : Hp}, tmpD bs = some ds → Stt K G (tms vs bs ++ T) ρ σ S H → ∃ S', Stt K G T ρ σ S' H ∧ Same S S' ∧ RpA K S' vs ds := by
  induction h with
  | nil => intro ds S e s; cases e; exact ⟨S, s, Same.refl _, .nil⟩
  | @cons v b vs bs a h ih =>
    intro ds S e s
    cases b with
    | slot i => cases e
    | tmp o =>
      unfold tmpD at e
      cases e1 : tmpD bs with
      | none => rw [e1] at e; cases e
      | some es =>
        rw [e1] at e
        cases e
        have s' : Stt K G ((v, ow o) :: (tms vs bs ++ T)) ρ σ S H := s
        obtain ⟨S1, s1, ss1, r1⟩ := s'.freeze
        obtain ⟨S2, s2, ss2, r2⟩ := ih e1 s1.drop1
        exact ⟨S2, s2, ss1.trans ss2, .cons (r1.mono ss2) r2⟩
theorem AllAt.len {vs : List V} {bs : List B} (h : AllAt σ vs bs) : vs.length = bs.length := by
  induction h with
  | nil => rfl
  | cons _ _ ih => simp [ih]
end
def dispL (f : Ev → Rs (List B)) : Ev → Rs O := bnd f fun bs ρ => match tmpD bs with
  | some ds => if bs.length ≤ 1000 then .ok (.lst ds) ρ else .stk
  | none => .stk
def dispT (f : Ev → Rs (List B)) : Ev → Rs O := bnd f fun bs ρ => match tmpD bs with
  | some ds => if bs.length ≤ 1000 then .ok (.leaf (.tuple ds)) ρ else .stk
  | none => .stk
section
variable {X : Cx} {W : XW} {es : List Expr} {e a b : Expr} {pos : Pos} {f : Ev → Rs (List B)}
theorem le1000 {n : Nat} (h : n ≤ 1000) : n ≤ sizeLine := Nat.le_of_lt (small1000 h)
theorem de_list (h : DA X W es f) : DE X W (.List es pos) (dispL f) := PE.imp (pe_lst h) fun σ H Q ⟨G, T, S, ρ, s, g⟩ => by
  refine ⟨G, T, S, ρ, s, seq sid ?_ g⟩
  intro bs ρ1 z vs S1 H1 s1 at1
  split at z
  · rename_i ds hd
    split at z
    · rename_i hl
      obtain ⟨S2, s2, _, r2⟩ := Stt.freezeAll at1 hd s1
      exact ⟨by rw [at1.len]; exact le1000 hl, s2.newL r2 z⟩
    · exact z.elim
  · exact z.elim
theorem de_tuple {k : Nat} (h : DA X W es f) : DE X W (.Tuple es k pos) (dispT f) := PE.imp (pe_tup h) fun σ H Q ⟨G, T, S, ρ, s, g⟩ => by
  refine ⟨G, T, S, ρ, s, seq sid ?_ g⟩
  intro bs ρ1 z vs S1 H1 s1 at1
  split at z
  · rename_i ds hd
    split at z
    · rename_i hl
      obtain ⟨S2, s2, _, r2⟩ := Stt.freezeAll at1 hd s1
      exact ⟨by rw [at1.len]; exact le1000 hl, s2.newT r2 z⟩
    · exact z.elim
  · exact z.elim
def newD : Ev → Rs O := fun ρ => .ok (.dic []) ρ
theorem de_dict0 : DE X W (.Dict [] [] pos) newD := PE.imp pe_dnewK fun σ H Q ⟨G, T, S, ρ, s, g⟩ p n => g _ _ _ (s.make (o := .dic []) n (.dK upd_same (s.sub.free n) .nil))

/-! ### built-in functions, by data -/
def callL (g : List D → Option O) (f : Ev → Rs (List B)) : Ev → Rs O := bnd f fun bs ρ => match vals ρ bs with
  | some ds => (match g ds with | some o => .ok o ρ | none => .stk)
  | none => .stk
theorem runL {g : List D → Option O} {r : List V → Hp → VK → Prop} (h : DoesL X g r) {σ : Sg} {H : Hp} {Q : VK} (q : tE X.K W (callL g f) σ H Q) : tCB r (tA X.K W f) σ H Q := by
  obtain ⟨G, T, S, ρ, s, g'⟩ := q
  refine ⟨G, T, S, ρ, s, seq sid ?_ g'⟩
  intro bs ρ1 z vs S1 H1 s1 at1
  split at z
  · rename_i ds hd
    split at z
    · rename_i o ho
      exact h vs ds o G _ ρ1 σ S1 H1 Q s1 (at1.rt s1 (fun x m => List.mem_append_left _ m) hd) ho fun v S' H' s' => z v S' H' (s'.subT (List.Sublist.cons_cons _ (List.sublist_append_right _ _)))
    · exact z.elim
  · exact z.elim
theorem de_callB {x : Str} {p : Pos} {id : String} {g : List D → Option O} {r : List V → Hp → VK → Prop} (hc : CallR X (.builtin id) r) (h : DoesL X g r) (hg : Gl X x) (hm : X.mg x = none) (hv : bootBuiltins x = some (.builtin id)) (ha : DA X W (e :: es) f)
    (hn : x ≠ "__name__" := by decide) (hdb : (x == ("__debug__" : Str)) = false := by decide) (he : starEach (e :: es) X.env = (false, eval e X.env) :: starEach es X.env := by rfl) (hpl : (backTo pos (starEach es X.env)).any (·.1) = false := by rfl) :
    DE X W (.Call (.Name x p) (e :: es) [] pos) (callL g f) := PE.imp (pe_callB hc hg hm hv ha hn hdb he hpl) fun _ _ _ q => runL h q
theorem de_callTy {x : Str} {p : Pos} {id : String} {g : List D → Option O} {r : List V → Hp → VK → Prop} (hc : CallR X (.type id) r) (h : DoesL X g r) (hg : Gl X x) (hm : X.mg x = none) (hv : bootBuiltins x = some (.type id)) (ha : DA X W (e :: es) f)
    (hn : x ≠ "__name__" := by decide) (hdb : (x == ("__debug__" : Str)) = false := by decide) (he : starEach (e :: es) X.env = (false, eval e X.env) :: starEach es X.env := by rfl) (hpl : (backTo pos (starEach es X.env)).any (·.1) = false := by rfl) :
    DE X W (.Call (.Name x p) (e :: es) [] pos) (callL g f) := PE.imp (pe_callTy hc hg hm hv ha hn hdb he hpl) fun _ _ _ q => runL h q
theorem RtA.one {K : PySem.W.Frag} {S H : Hp} {xs : List V} {d : D} (h : RtA K S H xs [d]) : ∃ x, xs = [x] ∧ Rt K S H x d := by
  cases h with
  | cons a b => cases b; exact ⟨_, rfl, a⟩
theorem RtA.two {K : PySem.W.Frag} {S H : Hp} {xs : List V} {d d' : D} (h : RtA K S H xs [d, d']) : ∃ x y, xs = [x, y] ∧ Rt K S H x d ∧ Rt K S H y d' := by
  cases h with
  | cons a b => cases b with | cons c e => cases e; exact ⟨_, _, rfl, a, c⟩
/-! len -/
def gLen : List D → Option O
  | [.str y] => if y.length ≤ sizeLine then some (.leaf (.int y.length)) else none
  | [.list ds] => some (.leaf (.int ds.length))
  | [.tuple ds] => some (.leaf (.int ds.length))
  | _ => none
theorem does_len : DoesL X gLen (fun xs H Q => ∃ x n, xs = [x] ∧ LenV X.K x H n ∧ Q (.int n) H) := by
  intro xs ds o G T ρ σ S H Q s r e q
  unfold gLen at e
  split at e
  · obtain ⟨x, rfl, rx⟩ := r.one
    split at e
    · rename_i h
      cases e
      have := rx.str_of
      subst this
      exact ⟨_, _, rfl, ⟨h, rfl⟩, s.val (.int _) q⟩
    · cases e
  · obtain ⟨x, rfl, rx⟩ := r.one
    cases e
    obtain ⟨a, xs, rfl, h1, r1⟩ := rx.lst_of
    exact ⟨_, xs.length, rfl, .inl ⟨xs, h1, rfl⟩, by rw [r1.length]; exact s.val (.int _) q⟩
  · obtain ⟨x, rfl, rx⟩ := r.one
    cases e
    obtain ⟨a, xs, rfl, h1, r1⟩ := rx.tup_of
    exact ⟨_, xs.length, rfl, .inr ⟨xs, h1, rfl⟩, by rw [r1.length]; exact s.val (.int _) q⟩
  · cases e
/-! int, abs, str -/
def gInt : List D → Option O
  | [.int i] => some (.leaf (.int i))
  | [.bool b] => some (.leaf (.int (if b then 1 else 0)))
  | _ => none
theorem does_int : DoesL X gInt (fun xs H Q => (∃ i, xs = [.int i] ∧ Q (.int i) H) ∨ ∃ k, xs = [.bl k] ∧ Q (.int (if k then 1 else 0)) H) := by
  intro xs ds o G T ρ σ S H Q s r e q
  unfold gInt at e
  split at e
  · obtain ⟨x, rfl, rx⟩ := r.one
    cases e
    have := rx.int_of
    subst this
    exact .inl ⟨_, rfl, s.val (.int _) q⟩
  · obtain ⟨x, rfl, rx⟩ := r.one
    cases e
    have := rx.bl_of
    subst this
    exact .inr ⟨_, rfl, s.val (.int _) q⟩
  · cases e
def gAbs : List D → Option O
  | [.int i] => some (.leaf (.int (if i < 0 then -i else i)))
  | _ => none
theorem does_abs : DoesL X gAbs (fun xs H Q => ∃ i, xs = [.int i] ∧ Q (.int (if i < 0 then -i else i)) H) := by
  intro xs ds o G T ρ σ S H Q s r e q
  unfold gAbs at e
  split at e
  · obtain ⟨x, rfl, rx⟩ := r.one
    cases e
    have := rx.int_of
    subst this
    exact ⟨_, rfl, s.val (.int _) q⟩
  · cases e
def gStr : List D → Option O
  | [.int i] => if i.natAbs.log2 < 1920 ∧ okS (Str.ofString (toString i)) = true then some (.leaf (.str (Str.ofString (toString i)))) else none
  | _ => none
theorem does_str : DoesL X gStr (fun xs H Q => ∃ i, xs = [.int i] ∧ i.natAbs.log2 < 1920 ∧ Q (.str (toString i)) H) := by
  intro xs ds o G T ρ σ S H Q s r e q
  unfold gStr at e
  split at e
  · obtain ⟨x, rfl, rx⟩ := r.one
    split at e
    · rename_i h
      cases e
      have := rx.int_of
      subst this
      exact ⟨_, rfl, h.1, s.val (.str _ h.2) q⟩
    · cases e
  · cases e
/-! sum, max, min, all, any -/
def intsD : List D → Option (List Int)
  | [] => some []
  | .int i :: ds => (match intsD ds with | some ns => some (i :: ns) | none => none)
  | _ :: _ => none
def boolsD : List D → Option (List Bool)
  | [] => some []
  | .bool i :: ds => (match boolsD ds with | some ns => some (i :: ns) | none => none)
  | _ :: _ => none
theorem intsD_map : ∀ ns : List Int, intsD (ns.map .int) = some ns
  | [] => rfl
  | n :: ns => by show (match intsD (ns.map .int) with | some ns => some (n :: ns) | none => none) = _; rw [intsD_map ns]
theorem boolsD_map : ∀ ns : List Bool, boolsD (ns.map .bool) = some ns
  | [] => rfl
  | n :: ns => by show (match boolsD (ns.map .bool) with | some ns => some (n :: ns) | none => none) = _; rw [boolsD_map ns]
theorem RpA.ints {K : PySem.W.Frag} {S : Hp} : ∀ {vs : List V} {ds : List D}, RpA K S vs ds → ∀ {ns : List Int}, intsD ds = some ns → vs = ns.map V.int
  | _, _, .nil, _, e => by cases e; rfl
  | _, d :: ds, .cons a b, ns, e => by
    cases d with
    | int i =>
      unfold intsD at e
      cases e1 : intsD ds with
      | none => simp only [e1] at e; cases e
      | some ms =>
        simp only [e1] at e
        cases e
        cases a
        rw [RpA.ints b e1]
        rfl
    | _ => cases e
theorem RpA.bools {K : PySem.W.Frag} {S : Hp} : ∀ {vs : List V} {ds : List D}, RpA K S vs ds → ∀ {ns : List Bool}, boolsD ds = some ns → vs = ns.map V.bl
  | _, _, .nil, _, e => by cases e; rfl
  | _, d :: ds, .cons a b, ns, e => by
    cases d with
    | bool i =>
      unfold boolsD at e
      cases e1 : boolsD ds with
      | none => simp only [e1] at e; cases e
      | some ms =>
        simp only [e1] at e
        cases e
        cases a
        rw [RpA.bools b e1]
        rfl
    | _ => cases e
def gSum : List D → Option O
  | [.list ds] => (intsD ds).map fun ns => .leaf (.int ns.sum)
  | _ => none
theorem does_sum : DoesL X gSum (rSum X.K) := by
  intro xs ds o G T ρ σ S H Q s r e q
  unfold gSum at e
  split at e
  · obtain ⟨x, rfl, rx⟩ := r.one
    obtain ⟨ns, hn, rfl⟩ := Option.map_eq_some_iff.mp e
    obtain ⟨a, xs, rfl, h1, r1⟩ := rx.lst_of
    have := r1.ints hn
    subst this
    exact ⟨a, ns, rfl, h1, s.val (.int _) q⟩
  · cases e
/-- the greatest, the least of some ints -/
def maxI : List Int → Int
  | [] => 0
  | [a] => a
  | a :: r => max a (maxI r)
def minI : List Int → Int
  | [] => 0
  | [a] => a
  | a :: r => min a (minI r)
theorem maxI_spec : ∀ (ns : List Int), ns ≠ [] → maxI ns ∈ ns ∧ ∀ y ∈ ns, y ≤ maxI ns
  | [], h => absurd rfl h
  | [a], _ => by simp [maxI]
  | a :: b :: r, _ => by
    obtain ⟨h1, h2⟩ := maxI_spec (b :: r) (by simp)
    show max a (maxI (b :: r)) ∈ _ ∧ _
    constructor
    · rcases Int.le_total a (maxI (b :: r)) with h | h
      · rw [Int.max_eq_right h]; exact List.mem_cons_of_mem _ h1
      · rw [Int.max_eq_left h]; exact List.mem_cons_self
    · intro y hy
      show y ≤ max a (maxI (b :: r))
      rcases List.mem_cons.mp hy with rfl | hy
      · exact Int.le_max_left _ _
      · exact Int.le_trans (h2 y hy) (Int.le_max_right _ _)
theorem minI_spec : ∀ (ns : List Int), ns ≠ [] → minI ns ∈ ns ∧ ∀ y ∈ ns, minI ns ≤ y
  | [], h => absurd rfl h
  | [a], _ => by simp [minI]
  | a :: b :: r, _ => by
    obtain ⟨h1, h2⟩ := minI_spec (b :: r) (by simp)
    show min a (minI (b :: r)) ∈ _ ∧ _
    constructor
    · rcases Int.le_total a (minI (b :: r)) with h | h
      · rw [Int.min_eq_left h]; exact List.mem_cons_self
      · rw [Int.min_eq_right h]; exact List.mem_cons_of_mem _ h1
    · intro y hy
      show min a (minI (b :: r)) ≤ y
      rcases List.mem_cons.mp hy with rfl | hy
      · exact Int.min_le_left _ _
      · exact Int.le_trans (Int.min_le_right _ _) (h2 y hy)
def gMax : List D → Option O
  | [.list ds] => (match intsD ds with | some (n :: ns) => some (.leaf (.int (maxI (n :: ns)))) | _ => none)
  | [.int a, .int b] => some (.leaf (.int (max a b)))
  | _ => none
def gMinI : List D → Option O
  | [.list ds] => (match intsD ds with | some (n :: ns) => some (.leaf (.int (minI (n :: ns)))) | _ => none)
  | [.int a, .int b] => some (.leaf (.int (min a b)))
  | _ => none
def rMaxG (K : PySem.W.Frag) : List V → Hp → VK → Prop := fun xs H Q => rMax K xs H Q ∨ ∃ i j, xs = [.int i, .int j] ∧ Q (.int (if j > i then j else i)) H
def rMinG (K : PySem.W.Frag) : List V → Hp → VK → Prop := fun xs H Q => rMin K xs H Q ∨ ∃ i j, xs = [.int i, .int j] ∧ Q (.int (if j < i then j else i)) H
theorem cr_maxG (b : Bd X) : CallR X (.builtin "max") (rMaxG X.K) := (cr_max b.calm).or (call_max2 b.calm)
theorem cr_minG (b : Bd X) : CallR X (.builtin "min") (rMinG X.K) := (cr_min b.calm).or (call_min2 b.calm)
theorem does_max : DoesL X gMax (rMaxG X.K) := by
  intro xs ds o G T ρ σ S H Q s r e q
  unfold gMax at e
  split at e
  · obtain ⟨x, rfl, rx⟩ := r.one
    split at e
    · rename_i n ns hn
      cases e
      obtain ⟨a, xs, rfl, h1, r1⟩ := rx.lst_of
      have := r1.ints hn
      subst this
      refine .inl ⟨a, n :: ns, rfl, h1, by simp, fun m hm hle => ?_⟩
      obtain ⟨k1, k2⟩ := maxI_spec (n :: ns) (by simp)
      have : m = maxI (n :: ns) := Int.le_antisymm (k2 m hm) (hle _ k1)
      subst this
      exact s.val (.int _) q
    · cases e
  · obtain ⟨x, y, rfl, rx, ry⟩ := r.two
    cases e
    have h1 := rx.int_of
    have h2 := ry.int_of
    subst h1 h2
    rename_i a b
    refine .inr ⟨a, b, rfl, ?_⟩
    have : (if b > a then b else a) = max a b := by
      split <;> omega
    rw [this]
    exact s.val (.int _) q
  · cases e
theorem does_minI : DoesL X gMinI (rMinG X.K) := by
  intro xs ds o G T ρ σ S H Q s r e q
  unfold gMinI at e
  split at e
  · obtain ⟨x, rfl, rx⟩ := r.one
    split at e
    · rename_i n ns hn
      cases e
      obtain ⟨a, xs, rfl, h1, r1⟩ := rx.lst_of
      have := r1.ints hn
      subst this
      refine .inl ⟨a, n :: ns, rfl, h1, by simp, fun m hm hle => ?_⟩
      obtain ⟨k1, k2⟩ := minI_spec (n :: ns) (by simp)
      have : m = minI (n :: ns) := Int.le_antisymm (hle _ k1) (k2 m hm)
      subst this
      exact s.val (.int _) q
    · cases e
  · obtain ⟨x, y, rfl, rx, ry⟩ := r.two
    cases e
    have h1 := rx.int_of
    have h2 := ry.int_of
    subst h1 h2
    rename_i a b
    refine .inr ⟨a, b, rfl, ?_⟩
    have : (if b < a then b else a) = min a b := by
      split <;> omega
    rw [this]
    exact s.val (.int _) q
  · cases e
def gAll : List D → Option O
  | [.list ds] => (boolsD ds).map fun ns => .leaf (.bool (ns.all id))
  | _ => none
def gAny : List D → Option O
  | [.list ds] => (boolsD ds).map fun ns => .leaf (.bool (ns.any id))
  | _ => none
theorem does_all : DoesL X gAll (rAll X.K) := by
  intro xs ds o G T ρ σ S H Q s r e q
  unfold gAll at e
  split at e
  · obtain ⟨x, rfl, rx⟩ := r.one
    obtain ⟨ns, hn, rfl⟩ := Option.map_eq_some_iff.mp e
    obtain ⟨a, xs, rfl, h1, r1⟩ := rx.lst_of
    have := r1.bools hn
    subst this
    exact ⟨a, ns, rfl, h1, s.val (.bl _) q⟩
  · cases e
theorem does_any : DoesL X gAny (rAny X.K) := by
  intro xs ds o G T ρ σ S H Q s r e q
  unfold gAny at e
  split at e
  · obtain ⟨x, rfl, rx⟩ := r.one
    obtain ⟨ns, hn, rfl⟩ := Option.map_eq_some_iff.mp e
    obtain ⟨a, xs, rfl, h1, r1⟩ := rx.lst_of
    have := r1.bools hn
    subst this
    exact ⟨a, ns, rfl, h1, s.val (.bl _) q⟩
  · cases e
/-! list, tuple -/
def gList : List D → Option O
  | [.list ds] => some (.lst ds)
  | [.tuple ds] => some (.lst ds)
  | _ => none
theorem does_list : DoesL X gList (fun xs H Q => ∃ p ys, xs = [.ref p] ∧ (SqL X.K H p ys ∨ SqT X.K H p ys) ∧ ∀ l, H l = none → Q (.ref l) (upd H l (.lst ys))) := by
  intro xs ds o G T ρ σ S H Q s r e q
  unfold gList at e
  split at e
  · obtain ⟨x, rfl, rx⟩ := r.one
    cases e
    obtain ⟨a, xs, rfl, h1, r1⟩ := rx.lst_of
    exact ⟨a, xs, rfl, .inl h1, s.newL r1 q⟩
  · obtain ⟨x, rfl, rx⟩ := r.one
    cases e
    obtain ⟨a, xs, rfl, h1, r1⟩ := rx.tup_of
    exact ⟨a, xs, rfl, .inr h1, s.newL r1 q⟩
  · cases e
def gTuple : List D → Option O
  | [.list ds] => some (.leaf (.tuple ds))
  | [.tuple ds] => some (.leaf (.tuple ds))
  | _ => none
theorem does_tuple : DoesL X gTuple (fun xs H Q => ∃ p ys, xs = [.ref p] ∧ ((SqL X.K H p ys ∧ ∀ l, H l = none → Q (.ref l) (upd H l (.tup ys))) ∨ (SqT X.K H p ys ∧ Q (.ref p) H))) := by
  intro xs ds o G T ρ σ S H Q s r e q
  unfold gTuple at e
  split at e
  · obtain ⟨x, rfl, rx⟩ := r.one
    cases e
    obtain ⟨a, xs, rfl, h1, r1⟩ := rx.lst_of
    exact ⟨a, xs, rfl, .inl ⟨h1, s.newT r1 q⟩⟩
  · obtain ⟨x, rfl, rx⟩ := r.one
    cases e
    obtain ⟨a, xs, rfl, hS, h1, r1⟩ := rx.tup_S
    exact ⟨a, xs, rfl, .inr ⟨SqT.of h1, s.val (.tup hS r1) q⟩⟩
  · cases e
/-! sorted -/
def sortOk (ds : List D) : Bool := (ds.all fun d => ds.all fun e => PySem.W.alike d e) && ds.all (fits 60) && ((ds.all fun d => match d with | .tuple (_ :: _) => true | _ => false) || ds.all fun d => match d with | .tuple _ => false | .none => false | _ => true)
def sortD (ds : List D) : List D := ds.mergeSort (PySem.W.dataLe false id)
def gSorted : List D → Option O
  | [.list ds] => if sortOk ds = true then some (.lst (sortD ds)) else none
  | _ => none
def rSortD (K : PySem.W.Frag) : List V → Hp → VK → Prop := fun vs H Q => ∃ (a : Addr) (xs : List V) (ds : List D) (R : V → D → Prop), vs = [V.ref a] ∧ SqL K H a xs ∧ DpAll K H xs ds ∧ sortOk ds = true ∧ (∀ d ∈ ds, d.depth ≤ 60) ∧ Paired R xs ds ∧
  ∀ (ys : List V) (p : Addr), Paired R ys (sortD ds) → H p = none → Q (.ref p) (upd H p (.lst ys))
theorem each_reads {pins : List (Addr × Obj)} {σ : Sg} {H : Hp} {s : Shared} (I : Inv X pins σ H s) : ∀ {ds : List D} {xs : List V} {its : List Value}, DpAll X.K H xs ds → Vals xs its → PySem.W.EachIs (fun v b => ∃ as, Reads s.heap v (id b) as) its ds
  | [], _, _, h, r => by cases h; cases r; exact .nil
  | d :: ds, _, _, h, r => by
    cases h with
    | cons a b =>
      cases r with
      | cons r1 r2 => exact .cons (Dp.reads I d _ _ a r1) (each_reads I b r2)
theorem each_pair {R : V → D → Prop} : ∀ {ds : List D} {xs : List V} {its : List Value}, Paired R xs ds → Vals xs its → PySem.W.EachIs (fun v d => ∃ x, RelV x v ∧ R x d) its ds
  | [], _, _, h, r => by cases h; cases r; exact .nil
  | d :: ds, _, _, h, r => by
    cases h with
    | cons a b =>
      cases r with
      | cons r1 r2 => exact .cons ⟨_, r1, a⟩ (each_pair b r2)
theorem pair_each {R : V → D → Prop} : ∀ {ds : List D} {its : List Value}, PySem.W.EachIs (fun v d => ∃ x, RelV x v ∧ R x d) its ds → ∃ ys, Vals ys its ∧ Paired R ys ds
  | [], _, h => by cases h; exact ⟨[], .nil, .nil⟩
  | d :: ds, _, h => by
    cases h with
    | cons a b =>
      obtain ⟨x, r, q⟩ := a
      obtain ⟨ys, r2, q2⟩ := pair_each b
      exact ⟨x :: ys, .cons r r2, .cons q q2⟩
theorem RpA.paired {K : PySem.W.Frag} {S : Hp} : ∀ {vs : List V} {ds : List D}, RpA K S vs ds → Paired (Rp K S) vs ds
  | _, _, .nil => .nil
  | _, _, .cons a b => .cons a (RpA.paired b)
theorem RpA.ofPaired {K : PySem.W.Frag} {S : Hp} : ∀ {vs : List V} {ds : List D}, Paired (Rp K S) vs ds → RpA K S vs ds
  | _, _, .nil => .nil
  | _, _, .cons a b => .cons a (RpA.ofPaired b)
theorem cr_sortD (b : Bd X) : CallR X (.builtin "sorted") (rSortD X.K) := by
  intro pins s σ H vs us Q I r h
  obtain ⟨a, xs, ds, R, rfl, hs, hd, hok, hdep, hp, q⟩ := h
  obtain ⟨its, rv, hl, hz⟩ := I.list hs
  rw [Vals.ref1 r]
  have hb := b.un
  unfold sortOk at hok
  simp only [Bool.and_eq_true, Bool.or_eq_true, List.all_eq_true] at hok
  obtain ⟨⟨h1, h2⟩, h3⟩ := hok
  have hlen : xs.length = ds.length := Paired.length hp
  refine PySem.W.sorted_data (enc := id) hl.isList (each_pair hp rv) (each_reads I hd rv) ?_ ?_ (by omega) (fun d m => ?_) fun out ho eo => ?_
  · rw [List.map_id]
    exact fun d m e m' => h1 d m e m'
  · rw [List.map_id]
    rcases h3 with h3 | h3
    · refine .inl fun d m => ?_
      have := h3 d m
      split at this
      · exact ⟨_, _, rfl⟩
      · cases this
    · refine .inr fun d m => ?_
      have := h3 d m
      split at this
      · cases this
      · cases this
      · rename_i k1 k2
        exact ⟨fun z => k2 z, fun ys z => k1 ys z⟩
  · have := hdep d m
    show X.A.units + 2 + d.depth < cLine
    omega
  · obtain ⟨ys, ry, py⟩ := pair_each eo
    obtain ⟨ep, he'⟩ := PyProof.Rows.sortedAll_at s.heap its out.toArray
    have hl2 : ys.length = out.length := ry.length
    exact ⟨.ref _, upd H (s.heap.objs.size + 1) (.lst ys), I.laid (t' := s.toks) (fun _ _ => PyProof.Rows.sortedAll_old) (Nat.le_succ _) ⟨by omega, out, ep, ry, he'⟩, rfl, q ys _ py (I.hok.fresh (Nat.le_succ _))⟩
theorem does_sorted : DoesL X gSorted (rSortD X.K) := by
  intro xs ds o G T ρ σ S H Q s r e q
  unfold gSorted at e
  split at e
  · obtain ⟨x, rfl, rx⟩ := r.one
    split at e
    · rename_i ds h
      cases e
      obtain ⟨a, xs, rfl, h1, r1⟩ := rx.lst_of
      have hf : ∀ d ∈ ds, fits 60 d = true := by
        unfold sortOk at h
        simp only [Bool.and_eq_true, List.all_eq_true] at h
        exact h.1.2
      obtain ⟨d1, _, d3⟩ := RpA.dp 60 (r1.mono s.sub) hf
      have dep : ∀ (ds : List D), PyData.depthAll ds ≤ 60 → ∀ d ∈ ds, d.depth ≤ 60 := by
        intro ds
        induction ds with
        | nil => intro _ d m; cases m
        | cons x xs ih =>
          intro hle d m
          unfold PyData.depthAll at hle
          rcases List.mem_cons.mp m with rfl | m
          · omega
          · exact ih (by omega) d m
      refine ⟨a, xs, ds, Rp X.K S, rfl, h1, d1, h, dep ds d3, r1.paired, fun ys p hp n => ?_⟩
      exact s.newL (RpA.ofPaired hp) q p n
    · cases e
  · cases e
end
end Y
/-! Y: targets, statements, loops -/
namespace Y
open PySem PySem.Spec PyProof.Rows L2

/-! ### targets -/
/-- what fails behind a store fails at other slots -/
def GoG {α : Type} (K : PySem.W.Frag) (W : XW) (G : Fra) (T : List (V × E)) (P : α → Ev → Prop) : Rs α → Prop
  | .ok a ρ' => P a ρ'
  | .er x ρ' => ∀ σ' S' H', Stt K G T ρ' σ' S' H' → W x σ' H'
  | .stk => False
def tG (K : PySem.W.Frag) (W : XW) (g : O → Ev → Rs Unit) : TG := fun v σ H Q => ∃ G T S ρ o, Stt K G ((v, ow o) :: T) ρ σ S H ∧ GoG K W G T (fun _ ρ' => ∀ σ' S' H', Stt K G T ρ' σ' S' H' → Q σ' H') (g o ρ)
def lfs : List V → List D → List (V × E)
  | v :: vs, d :: ds => (v, lf d) :: lfs vs ds
  | _, _ => []
def tGs (K : PySem.W.Frag) (W : XW) (g : List D → Ev → Rs Unit) : TGs := fun vs σ H Q => ∃ G T S ρ ds, vs.length = ds.length ∧ Stt K G (lfs vs ds ++ T) ρ σ S H ∧ GoG K W G T (fun _ ρ' => ∀ σ' S' H', Stt K G T ρ' σ' S' H' → Q σ' H') (g ds ρ)
abbrev DG' (X : Cx) (W : XW) (e : Expr) (g : O → Ev → Rs Unit) : Prop := PG X e (tG X.K W g)
abbrev DGs (X : Cx) (W : XW) (es : List Expr) (g : List D → Ev → Rs Unit) : Prop := PGs X es (tGs X.K W g)
theorem PG.imp {X : Cx} {e : Expr} {t u : TG} (h : PG X e t) (k : ∀ v σ H Q, u v σ H Q → t v σ H Q) : PG X e u := ⟨fun pins s σ H v w Q I r q => h.run pins s σ H v w Q I r (k v σ H Q q)⟩
theorem PGs.imp {X : Cx} {e : List Expr} {t u : TGs} (h : PGs X e t) (k : ∀ v σ H Q, u v σ H Q → t v σ H Q) : PGs X e u := ⟨fun pins s σ H v w Q I r q => h.run pins s σ H v w Q I r (k v σ H Q q)⟩
theorem PG.or {X : Cx} {e : Expr} {t u : TG} (h : PG X e t) (h' : PG X e u) : PG X e (fun v σ H Q => t v σ H Q ∨ u v σ H Q) := ⟨fun pins s σ H v w Q I r q => by
  rcases q with q | q
  · exact h.run pins s σ H v w Q I r q
  · exact h'.run pins s σ H v w Q I r q⟩
def gN (i : Nat) : O → Ev → Rs Unit := fun o ρ => if i < ρ.length then .ok () (ρ.set i (some (ow o))) else .stk
def gNilS : List D → Ev → Rs Unit := fun ds ρ => match ds with
  | [] => .ok () ρ
  | _ => .stk
def gConsS (g : O → Ev → Rs Unit) (r : List D → Ev → Rs Unit) : List D → Ev → Rs Unit := fun ds ρ => match ds with
  | d :: ds => (match g (.leaf d) ρ with | .ok _ ρ' => r ds ρ' | .er x ρ' => .er x ρ' | .stk => .stk)
  | [] => .stk
def gTupS (n : Nat) (r : List D → Ev → Rs Unit) : O → Ev → Rs Unit := fun o ρ => match o with
  | .leaf (.tuple ds) => if ds.length = n then r ds ρ else .stk
  | .leaf (.list ds) => if ds.length = n then r ds ρ else .stk
  | .lst ds => if ds.length = n then r ds ρ else .stk
  | _ => .stk
section
variable {X : Cx} {W : XW} {e : Expr} {es : List Expr} {pos : Pos} {g : O → Ev → Rs Unit} {r : List D → Ev → Rs Unit}
theorem dg_name {i : Nat} (h : PG X e (gName i)) : DG' X W e (gN i) := PG.imp h fun v σ H Q ⟨G, T, S, ρ, o, s, k⟩ => by
  unfold gN at k
  split at k
  · rename_i hi
    exact k _ _ _ (s.store (by rw [s.len]; exact hi))
  · exact k.elim
theorem dgs_nil : DGs X W [] gNilS := PGs.imp pgs_nil fun vs σ H Q ⟨G, T, S, ρ, ds, hl, s, k⟩ => by
  unfold gNilS at k
  split at k
  · cases vs with
    | nil => exact ⟨rfl, k _ _ _ s⟩
    | cons _ _ => simp at hl
  · exact k.elim
theorem dgs_cons (h1 : DG' X W e g) (h2 : DGs X W es r) (hs : (assignEach (e :: es) X.env).map (·.2) = assign e X.env :: (assignEach es X.env).map (·.2) := by rfl) : DGs X W (e :: es) (gConsS g r) := PGs.imp (pgs_cons h1 h2 hs) fun vs σ H Q ⟨G, T, S, ρ, ds, hl, s, k⟩ => by
  cases ds with
  | nil => exact k.elim
  | cons d ds =>
    cases vs with
    | nil => simp at hl
    | cons v vs =>
      refine ⟨v, vs, rfl, G, lfs vs ds ++ T, S, ρ, .leaf d, s, ?_⟩
      have k : GoG X.K W G T (fun _ ρ' => ∀ σ' S' H', Stt X.K G T ρ' σ' S' H' → Q σ' H') (match g (.leaf d) ρ with | .ok _ ρ' => r ds ρ' | .er x ρ' => .er x ρ' | .stk => .stk) := k
      cases e1 : g (.leaf d) ρ with
      | ok a ρ' =>
        rw [e1] at k
        exact fun σ' S' H' s' => ⟨G, T, S', ρ', ds, by simpa using hl, s', k⟩
      | er x ρ' =>
        rw [e1] at k
        exact fun σ' S' H' s' => k σ' S' H' s'.dropL
      | stk => rw [e1] at k; exact k
theorem Stt.pushAll {K : PySem.W.Frag} {G : Fra} {T : List (V × E)} {ρ : Ev} {σ : Sg} {S H : Hp} : ∀ {vs : List V} {ds : List D}, RpA K S vs ds → Stt K G T ρ σ S H → Stt K G (lfs vs ds ++ T) ρ σ S H
  | _, _, .nil, s => s
  | _, _, .cons a b, s => (Stt.pushAll b s).push a
def anyTup (K : PySem.W.Frag) (n : Nat) (t : TGs) : TG := fun v σ H Q => gTup K n t v σ H Q ∨ gUnl K n t v σ H Q
theorem dg_tup {k n : Nat} (b : Bd X) (h : DGs X W es r) (hn : (assignEach es X.env).length = n := by rfl) (hst : (assignEach es X.env).findIdx? (·.1) = none := by rfl) : DG' X W (.Tuple es k pos) (gTupS n r) :=
  PG.imp (PG.or (pg_tup b.calm h hn hst) (pg_unl b.calm h hn hst)) fun v σ H Q ⟨G, T, S, ρ, o, s, q⟩ => by
    have hr := s.rtT (v := v) (e := ow o) (by simp)
    unfold gTupS at q
    split at q
    · rename_i ds
      split at q
      · rename_i hl
        obtain ⟨a, xs, rfl, h1, r1⟩ := hr.tup_of
        refine .inl ⟨a, xs, rfl, h1, by rw [r1.length]; exact hl, G, T, S, ρ, ds, r1.length, s.drop1.pushAll r1, q⟩
      · exact q.elim
    · rename_i ds
      split at q
      · rename_i hl
        obtain ⟨a, xs, rfl, h1, r1⟩ := hr.lst_of
        refine .inr ⟨a, xs, rfl, h1, by rw [r1.length]; exact hl, G, T, S, ρ, ds, r1.length, s.drop1.pushAll r1, q⟩
      · exact q.elim
    · rename_i ds
      split at q
      · rename_i hl
        obtain ⟨a, xs, rfl, h1, r1⟩ := hr.lst_of
        refine .inr ⟨a, xs, rfl, h1, by rw [r1.length]; exact hl, G, T, S, ρ, ds, r1.length, s.drop1.pushAll r1, q⟩
      · exact q.elim
    · exact q.elim
/-! ### stores by subscript -/
/-- a dict with a new value -/
def putD (kvs : List (D × D)) (k d : D) : List (D × D) := if (lookD kvs k).isSome = true then kvs.map (fun p => if PyData.eqv p.1 k = true then (p.1, d) else p) else kvs ++ [(k, d)]
def upC : O → D → D → Option O
  | .lst ds, .int i, d => (ixN ds.length i).map fun n => .lst (ds.set n d)
  | .dic kvs, k, d => if kindOk kvs k = true ∧ kvs.length < sizeLine then some (.dic (putD kvs k d)) else none
  | _, _, _ => none
def DP (H : Hp) (a : Addr) (y v : V) (H' : Hp) : Prop := DPut H a y v H' ∨ (H a = some (.dK []) ∧ ∃ (b : Addr) (ks : List Key), y = .ref b ∧ H b = some (.tup (ks.map kV)) ∧ H' = upd H a (.dT [(ks, v)])) ∨ (H a = some (.dT []) ∧ ∃ k : Key, y = kV k ∧ H' = upd H a (.dK [(k, v)]))
def rSetA : V → V → V → Hp → (Hp → Prop) → Prop := fun o i v H Q => rSetL o i v H Q ∨ ∃ a H', o = .ref a ∧ DP H a i v H' ∧ Q H'
theorem set_any (b : Bd X) : PSet X rSetA := by
  intro pins s σ H o i v ov iv u Q I ro ri rv h
  have hu : X.A.units + 1 < cLine := Nat.lt_of_le_of_lt (by omega) b.un
  rcases h with h | ⟨a, H', rfl, g, q⟩
  · exact set_list pins s σ H o i v ov iv u Q I ro ri rv h
  · cases ro
    rcases g with g | ⟨e, b', ks, rfl, eb, rfl⟩ | ⟨e, k, rfl, rfl⟩
    · exact d_setItem hu I g ri rv fun s' J => ⟨H', J, q⟩
    · have ne : b' ≠ a := fun z => by subst z; rw [e] at eb; cases eb
      have I' := Inv.kt I e
      refine d_setItem hu I' (H' := upd H a (.dT [(ks, v)])) (.inr ⟨[], ks, b', upd_same, rfl, by rw [upd_ne ne]; exact eb, by decide, ?_⟩) ri rv fun s' J => ⟨_, J, q⟩
      rw [upd_upd]
      rfl
    · have I' := Inv.tk I e
      refine d_setItem hu I' (H' := upd H a (.dK [(k, v)])) (.inl ⟨[], k, upd_same, rfl, by decide, ?_⟩) ri rv fun s' J => ⟨_, J, q⟩
      rw [upd_upd]
      rfl
theorem putK_ne {α : Type} [DecidableEq α] {kvs : List (α × V)} {k : α} {v : V} : putK kvs k v ≠ [] := by
  unfold putK
  split
  · rename_i h
    intro z
    have := List.map_eq_nil_iff.mp z
    subst this
    simp at h
  · simp
theorem RpK.put {K : PySem.W.Frag} {S : Hp} {v : V} {d : D} (r : Rp K S v d) (k : Key) (ok : okK k = true) {kvs : List (Key × V)} {es : List (D × D)} (h : RpK K S kvs es) : RpK K S (putK kvs k v) (putD es (keyD k) d) := by
  have e1 : (kvs.any fun kv => decide (kv.1 = k)) = (lookD es (keyD k)).isSome := by
    rw [valV_any]
    rcases h.look k with ⟨h1, h2⟩ | ⟨w, d', h1, h2, _⟩
    · rw [h1, h2]; rfl
    · rw [h1, h2]; rfl
  have app : ∀ {kvs : List (Key × V)} {es : List (D × D)}, RpK K S kvs es → RpK K S (kvs ++ [(k, v)]) (es ++ [(keyD k, d)]) := by
    intro kvs
    induction kvs with
    | nil => intro es h; cases h; exact .cons ok r .nil
    | cons p ps ih => intro es h; cases h with | cons o a b => exact .cons o a (ih b)
  have mp : ∀ {kvs : List (Key × V)} {es : List (D × D)}, RpK K S kvs es → RpK K S (kvs.map fun kv => if kv.1 = k then (kv.1, v) else kv) (es.map fun p => if PyData.eqv p.1 (keyD k) = true then (p.1, d) else p) := by
    intro kvs
    induction kvs with
    | nil => intro es h; cases h; exact .nil
    | cons p ps ih =>
      intro es h
      cases h with
      | @cons k' v' d' _ es' o a b =>
        simp only [List.map_cons, keyD_eqv]
        by_cases hk : k' = k
        · subst hk
          simp only [decide_eq_true, if_true]
          exact .cons o r (ih b)
        · simp only [hk, decide_false, if_false, Bool.false_eq_true]
          exact .cons o a (ih b)
  unfold putK putD
  rw [e1]
  split
  · exact mp h
  · exact app h
theorem RpT.put {K : PySem.W.Frag} {S : Hp} {v : V} {d : D} (r : Rp K S v d) (k : List Key) (ok : ∀ x ∈ k, okK x = true) {kvs : List (List Key × V)} {es : List (D × D)} (h : RpT K S kvs es) : RpT K S (putK kvs k v) (putD es (.tuple (k.map keyD)) d) := by
  have e0 : ∀ k' : List Key, PyData.eqv (.tuple (k'.map keyD)) (.tuple (k.map keyD)) = decide (k' = k) := fun k' => by
    simp only [PyData.eqv, keyDs_eqv]
  have e1 : (kvs.any fun kv => decide (kv.1 = k)) = (lookD es (.tuple (k.map keyD))).isSome := by
    rw [valV_any]
    rcases h.look k with ⟨h1, h2⟩ | ⟨w, d', h1, h2, _⟩
    · rw [h1, h2]; rfl
    · rw [h1, h2]; rfl
  have app : ∀ {kvs : List (List Key × V)} {es : List (D × D)}, RpT K S kvs es → RpT K S (kvs ++ [(k, v)]) (es ++ [(.tuple (k.map keyD), d)]) := by
    intro kvs
    induction kvs with
    | nil => intro es h; cases h; exact .cons ok r .nil
    | cons p ps ih => intro es h; cases h with | cons o a b => exact .cons o a (ih b)
  have mp : ∀ {kvs : List (List Key × V)} {es : List (D × D)}, RpT K S kvs es → RpT K S (kvs.map fun kv => if kv.1 = k then (kv.1, v) else kv) (es.map fun p => if PyData.eqv p.1 (.tuple (k.map keyD)) = true then (p.1, d) else p) := by
    intro kvs
    induction kvs with
    | nil => intro es h; cases h; exact .nil
    | cons p ps ih =>
      intro es h
      cases h with
      | @cons k' v' d' _ es' o a b =>
        simp only [List.map_cons, e0]
        by_cases hk : k' = k
        · subst hk
          simp only [decide_eq_true, if_true]
          exact .cons o r (ih b)
        · simp only [hk, decide_false, if_false, Bool.false_eq_true]
          exact .cons o a (ih b)
  unfold putK putD
  rw [e1]
  split
  · exact mp h
  · exact app h
theorem RpK.length {K : PySem.W.Frag} {S : Hp} : ∀ {v : List (Key × V)} {d : List (D × D)}, RpK K S v d → v.length = d.length
  | _, _, .nil => rfl
  | _, _, .cons _ _ b => congrArg (· + 1) (RpK.length b)
theorem RpT.length {K : PySem.W.Frag} {S : Hp} : ∀ {v : List (List Key × V)} {d : List (D × D)}, RpT K S v d → v.length = d.length
  | _, _, .nil => rfl
  | _, _, .cons _ _ b => congrArg (· + 1) (RpT.length b)
/-- a container of ours is written -/
theorem upC_run {K : PySem.W.Frag} {G : Fra} {T : List (V × E)} {ρ : Ev} {σ : Sg} {S H : Hp} {x i v : V} {ex : E} {k d : D} {o' : O} {Q : Hp → Prop} (s : Stt K G ((x, ex) :: T) ρ σ S H) (ri : Rt K S H i k) (rv : Rp K S v d) (e : upC ex.o k d = some o')
    (q : ∀ H', Stt K G ((x, ⟨ex.io, o'⟩) :: T) ρ σ S H' → Q H') : rSetA x i v H Q := by
  obtain ⟨io, o⟩ := ex
  obtain ⟨F, ow, fl⟩ := s.head
  have ekey : ∀ k' : Key, asKey k = some k' → i = kV k' := fun k' hk' => by
    have ek := asKey_eq hk'
    subst ek
    cases k' with
    | inl i => exact ri.int_of
    | inr i => exact ri.str_of
  have eok : ∀ k' : Key, asKey k = some k' → okK k' = true := fun k' hk' => by
    have ek := asKey_eq hk'
    subst ek
    cases k' with
    | inl i => rfl
    | inr i => exact ri.str_ok
  have etup : ∀ ds ks, k = .tuple ds → asKeys ds = some ks → ∃ b, i = .ref b ∧ H b = some (.tup (ks.map kV)) ∧ ∀ x ∈ ks, okK x = true := fun ds ks e1 hks => by
    subst e1
    have e1 := asKeys_eq hks
    subst e1
    obtain ⟨b, xs, rfl, _, hb, rr⟩ := ri.tup_S
    have e2 := rr.keys
    subst e2
    exact ⟨b, rfl, hb, rr.keysOk⟩
  cases ow with
  | leaf r => cases e
  | @lst a xs ds e1 n1 r1 =>
    cases k with
    | int j =>
      obtain ⟨n, hn, rfl⟩ := Option.map_eq_some_iff.mp (show (ixN ds.length j).map (fun n => O.lst (ds.set n d)) = some o' from e)
      refine .inl ⟨a, xs, j, n, rfl, ri.int_of, e1, by rw [r1.length]; exact hn, q _ ?_⟩
      exact s.write (o' := .lst (ds.set n d)) (.lst e1 n1 r1) (.lst upd_same n1 (r1.set rv n))
    | _ => cases e
  | @dK a kvs' kvs e1 n1 r1 =>
    have e : (if kindOk kvs k = true ∧ kvs.length < sizeLine then some (O.dic (putD kvs k d)) else none) = some o' := by
      cases k <;> exact e
    split at e <;> try (cases e; done)
    rename_i hk
    cases e
    obtain ⟨hk, hlen⟩ := hk
    have fin : ∀ k', asKey k = some k' → rSetA (.ref a) i v H Q := fun k' hk' => by
      have ek := asKey_eq hk'
      refine .inr ⟨a, upd H a (.dK (putK kvs' k' v)), rfl, .inl (.inl ⟨kvs', k', e1, ekey k' hk', by rw [r1.length]; exact hlen, rfl⟩), q _ ?_⟩
      subst ek
      exact s.write (o' := .dic (putD kvs (keyD k') d)) (.dK e1 n1 r1) (.dK upd_same n1 (r1.put rv k' (eok k' hk')))
    cases r1 with
    | nil =>
      rcases kind_nil hk with ⟨k', hk'⟩ | ⟨ds, ks, e2, hks⟩
      · exact fin k' hk'
      · obtain ⟨b, ei, hb, ok⟩ := etup ds ks e2 hks
        have e3 := asKeys_eq hks
        subst e2 e3 ei
        refine .inr ⟨a, upd H a (.dT [(ks, v)]), rfl, .inr (.inl ⟨e1, b, ks, rfl, hb, rfl⟩), q _ ?_⟩
        exact s.write (o' := .dic (putD [] (.tuple (ks.map keyD)) d)) (.dK e1 n1 .nil) (.dT upd_same n1 (by simp) (.cons ok rv .nil))
    | cons o1 a1 b1 =>
      obtain ⟨k', hk'⟩ := kind_K hk
      exact fin k' hk'
  | @dT a kvs' kvs e1 n1 ne1 r1 =>
    have e : (if kindOk kvs k = true ∧ kvs.length < sizeLine then some (O.dic (putD kvs k d)) else none) = some o' := by
      cases k <;> exact e
    split at e <;> try (cases e; done)
    rename_i hk
    cases e
    obtain ⟨hk, hlen⟩ := hk
    have fin : ∀ ds ks, k = .tuple ds → asKeys ds = some ks → rSetA (.ref a) i v H Q := fun ds ks e2 hks => by
      obtain ⟨b, ei, hb, ok⟩ := etup ds ks e2 hks
      have e3 := asKeys_eq hks
      subst e2 e3 ei
      refine .inr ⟨a, upd H a (.dT (putK kvs' ks v)), rfl, .inl (.inr ⟨kvs', ks, b, e1, rfl, hb, by rw [r1.length]; exact hlen, rfl⟩), q _ ?_⟩
      exact s.write (o' := .dic (putD kvs (.tuple (ks.map keyD)) d)) (.dT e1 n1 ne1 r1) (.dT upd_same n1 putK_ne (r1.put rv ks ok))
    cases r1 with
    | nil => exact absurd rfl ne1
    | cons o1 a1 b1 =>
      obtain ⟨ds, ks, e2, hks⟩ := kind_T hk
      exact fin ds ks e2 hks
/-- x[i] = v, x a name of ours -/
def gSubS (j : Nat) (fi : Ev → Rs B) : O → Ev → Rs Unit := fun o => bnd (bv j) fun _ => bnd fi fun ix ρ1 => match ix.val ρ1 with
  | some k => (match ρ1[j]? with
    | some (some ex) => (match upC ex.o k o.d with
      | some c => .ok () (ρ1.set j (some ⟨ex.io, c⟩))
      | none => .stk)
    | _ => .stk)
  | none => .stk
theorem dg_sub {j : Nat} {x i : Expr} {fi : Ev → Rs B} (b : Bd X) (hx : PE X x (tVar j)) (hi : DB X W i fi) (ha : ∀ v, assign (.Subscript x i pos) X.env v = (do
      let ov ← holding [v] (eval x X.env)
      let iv ← holding [v, ov] (eval i X.env)
      standAt pos
      holding [v, ov, iv] (setItem ov iv v)
      release [v, ov, iv] []) := by intro _; rfl) : DG' X W (.Subscript x i pos) (gSubS j fi) :=
  PG.imp (pg_sub hx hi (set_any b) ha) fun v σ H Q ⟨G, T, S, ρ, o, s, q⟩ => by
    unfold gSubS bnd at q
    unfold bv at q
    cases e0 : ρ[j]? with
    | none => rw [e0] at q; exact q.elim
    | some m =>
      cases m with
      | none => rw [e0] at q; exact q.elim
      | some ex =>
        rw [e0] at q
        simp only at q
        obtain ⟨w, hw, _⟩ := s.take e0
        refine ⟨w, hw, G, (v, ow o) :: T, S, ρ, s, ?_⟩
        cases e1 : fi ρ with
        | stk => rw [e1] at q; exact q.elim
        | er x ρ' => rw [e1] at q; exact fun S' H' s' => q σ S' H' s'.drop1
        | ok ix ρ1 =>
          rw [e1] at q
          intro i' S1 H1 s1 at1
          simp only at q
          cases e2 : ix.val ρ1 with
          | none => rw [e2] at q; exact q.elim
          | some k =>
            rw [e2] at q
            simp only at q
            cases e3 : ρ1[j]? with
            | none => rw [e3] at q; exact q.elim
            | some m =>
              cases m with
              | none => rw [e3] at q; exact q.elim
              | some ex1 =>
                rw [e3] at q
                simp only at q
                cases e4 : upC ex1.o k o.d with
                | none => rw [e4] at q; exact q.elim
                | some c =>
                  rw [e4] at q
                  simp only at q
                  obtain ⟨S2, s2, _, rv⟩ := (s1.permT (T' := (v, ow o) :: (ix.tm i' ++ T)) List.perm_middle).freeze
                  have ri : Rt X.K S2 H1 i' k := B.rt s2 (fun p m => List.mem_cons_of_mem _ (List.mem_append_left _ m)) at1 e2
                  obtain ⟨w', hw', s3⟩ := s2.take e3
                  rw [hw] at hw'
                  cases hw'
                  refine upC_run s3 ri rv e4 fun H' s4 => ?_
                  have s5 := s4.back e3 hw fun io => s2.ios j ex1 e3 io
                  exact q σ S2 H' s5.drop1.dropL
end
end Y
/-! Y: what is walked; comprehensions; statements and loops -/
namespace Y
open PySem PySem.Spec PyProof.Rows L2

/-! ### what is walked -/
def ItOk (K : PySem.W.Frag) (J : It) (ds : List D) (L : List (V × E)) : Prop := ∀ (G : Fra) (T : List (V × E)) (ρ : Ev) (σ : Sg) (S H : Hp), Stt K G (L ++ T) ρ σ S H →
  (∀ (i : Nat) (d : D), ds[i]? = some d → J.go i H ∧ ∀ x H', J.yld i H x H' → ∃ S', Stt K G ((x, lf d) :: (L ++ T)) ρ σ S' H') ∧ (∀ i : Nat, ds.length ≤ i → J.stop i H)
def tI (K : PySem.W.Frag) (W : XW) (f : Ev → Rs (List D)) : TI := fun σ H R => ∃ G T S ρ, Stt K G T ρ σ S H ∧ GoR K W G T σ (fun ds ρ' => ∀ J L S' H', Stt K G (L ++ T) ρ' σ S' H' → ItOk K J ds L → R J H') (f ρ)
abbrev DI (X : Cx) (W : XW) (tg e : Expr) (f : Ev → Rs (List D)) : Prop := PI X tg e (tI X.K W f)
theorem PI.imp {X : Cx} {tg e : Expr} {t u : TI} (h : PI X tg e t) (k : ∀ σ H R, u σ H R → t σ H R) : PI X tg e u := ⟨fun pins s σ H R I q => h.run pins s σ H R I (k σ H R q)⟩
theorem PI.or {X : Cx} {tg e : Expr} {t u : TI} (h : PI X tg e t) (h' : PI X tg e u) : PI X tg e (fun σ H R => t σ H R ∨ u σ H R) := ⟨fun pins s σ H R I q => by
  rcases q with q | q
  · exact h.run pins s σ H R I q
  · exact h'.run pins s σ H R I q⟩
def chars (z : Str) : List D := z.cps.toList.map fun c => .str ⟨#[c]⟩
def rangeD (lo hi : Int) : List D := (List.range (hi - lo).toNat).map fun i => .int (lo + (i : Nat))
def rangeDown (lo hi : Int) : List D := (List.range (lo - hi).toNat).map fun i => .int (lo - (i : Nat))
def enumD : Nat → List D → List D
  | _, [] => []
  | i, d :: ds => .tuple [.int i, d] :: enumD (i + 1) ds
def zipD : List D → List D → List D
  | a :: as, b :: bs => .tuple [a, b] :: zipD as bs
  | _, _ => []
theorem enumD_get : ∀ (ds : List D) (k i : Nat) (d : D), (enumD k ds)[i]? = some d → ∃ e, ds[i]? = some e ∧ d = .tuple [.int ((k + i : Nat) : Int), e]
  | [], _, _, _, h => by simp [enumD] at h
  | a :: ds, k, 0, d, h => by simp [enumD] at h; exact ⟨a, rfl, h.symm⟩
  | a :: ds, k, i + 1, d, h => by
    obtain ⟨e, h1, h2⟩ := enumD_get ds (k + 1) i d (by simpa [enumD] using h)
    exact ⟨e, by simpa using h1, by rw [h2, show k + 1 + i = k + (i + 1) by omega]⟩
theorem enumD_len : ∀ (ds : List D) (k : Nat), (enumD k ds).length = ds.length
  | [], _ => rfl
  | a :: ds, k => by simp [enumD, enumD_len ds]
theorem zipD_get : ∀ (as bs : List D) (i : Nat) (d : D), (zipD as bs)[i]? = some d → ∃ a b, as[i]? = some a ∧ bs[i]? = some b ∧ d = .tuple [a, b]
  | [], _, _, _, h => by simp [zipD] at h
  | _ :: _, [], _, _, h => by simp [zipD] at h
  | a :: as, b :: bs, 0, d, h => by simp [zipD] at h; exact ⟨a, b, rfl, rfl, h.symm⟩
  | a :: as, b :: bs, i + 1, d, h => by
    obtain ⟨x, y, h1, h2, h3⟩ := zipD_get as bs i d (by simpa [zipD] using h)
    exact ⟨x, y, by simpa using h1, by simpa using h2, h3⟩
theorem zipD_len : ∀ (as bs : List D), (zipD as bs).length = min as.length bs.length
  | [], _ => by simp [zipD]
  | _ :: _, [] => by simp [zipD]
  | a :: as, b :: bs => by simp [zipD, zipD_len as bs]
theorem Stt.newTup {K : PySem.W.Frag} {G : Fra} {T : List (V × E)} {ρ : Ev} {σ : Sg} {S H : Hp} {xs : List V} {ds : List D} {p : Addr} (s : Stt K G T ρ σ S H) (r : RpA K S xs ds) (n : H p = none) : ∃ S', Stt K G ((.ref p, lf (.tuple ds)) :: T) ρ σ S' (upd H p (.tup xs)) := by
  have hsp : S p = none := s.sub.free n
  have s1 := s.share (u := .tup xs) n
  have ss : Same S (upd S p (.tup xs)) := fun b o e => by rw [upd_ne (ne_of_none e hsp)]; exact e
  exact ⟨_, s1.push (.tup upd_same (r.mono ss))⟩
def seqI (f : Ev → Rs O) : Ev → Rs (List D) := bnd f fun o ρ => match o.d with
  | .list ds => .ok ds ρ
  | .tuple ds => .ok ds ρ
  | .str z => .ok (chars z) ρ
  | _ => .stk
/-- a test that nothing tries to reckon -/
noncomputable def cif {α : Type} (c : Prop) (a b : α) : α := @ite α c (Classical.propDecidable c) a b
theorem cif_pos {α : Type} {c : Prop} {a b : α} (h : c) : cif c a b = a := by unfold cif; rw [if_pos h]
theorem cif_neg {α : Type} {c : Prop} {a b : α} (h : ¬ c) : cif c a b = b := by unfold cif; rw [if_neg h]
noncomputable def rng1 (fs : Ev → Rs (List B)) : Ev → Rs (List D) := bnd fs fun bs ρ => match vals ρ bs with
  | some [.int j] => cif (-(2 ^ 62) ≤ j ∧ j < 2 ^ 62) (.ok (rangeD 0 j) ρ) .stk
  | _ => .stk
noncomputable def rng2 (fs : Ev → Rs (List B)) : Ev → Rs (List D) := bnd fs fun bs ρ => match vals ρ bs with
  | some [.int i, .int j] => cif (-(2 ^ 62) ≤ i ∧ i < 2 ^ 62 ∧ -(2 ^ 62) ≤ j ∧ j < 2 ^ 62) (.ok (rangeD i j) ρ) .stk
  | _ => .stk
noncomputable def rng3 (fs : Ev → Rs (List B)) : Ev → Rs (List D) := bnd fs fun bs ρ => match vals ρ bs with
  | some [.int i, .int j, .int c] => cif (c = -1 ∧ -(2 ^ 62) ≤ i ∧ i < 2 ^ 62 ∧ -(2 ^ 62) ≤ j ∧ j < 2 ^ 62) (.ok (rangeDown i j) ρ) .stk
  | _ => .stk
def enumI (fs : Ev → Rs (List B)) : Ev → Rs (List D) := bnd fs fun bs ρ => match tmpD bs with
  | some [.list ds] => .ok (enumD 0 ds) ρ
  | _ => .stk
def zipI (fs : Ev → Rs (List B)) : Ev → Rs (List D) := bnd fs fun bs ρ => match tmpD bs with
  | some [.list ds, .list es] => .ok (zipD ds es) ρ
  | _ => .stk
section
variable {X : Cx} {W : XW} {tg e : Expr} {es : List Expr} {f : Ev → Rs O} {fs : Ev → Rs (List B)} {pos p : Pos}
theorem itl_ok {K : PySem.W.Frag} {a : Addr} {ds : List D} : ItOk K (Itl K a) ds [(.ref a, lf (.list ds))] := by
  intro G T ρ σ S H s
  obtain ⟨a', xs, e, h1, r1⟩ := (s.rtT (v := .ref a) (e := lf (.list ds)) (by simp)).lst_of
  cases e
  refine ⟨fun i d hd => ?_, fun i hi => ⟨xs, h1, by rw [r1.length]; exact hi⟩⟩
  obtain ⟨v, hv, rv⟩ := r1.get hd
  refine ⟨⟨xs, v, h1, hv⟩, fun x H' y => ?_⟩
  obtain ⟨rfl, y⟩ := y
  have := y xs h1
  rw [hv] at this
  cases this
  exact ⟨S, s.push rv⟩
theorem itt_ok {K : PySem.W.Frag} {a : Addr} {ds : List D} : ItOk K (Itt K a) ds [(.ref a, lf (.tuple ds))] := by
  intro G T ρ σ S H s
  obtain ⟨a', xs, e, h1, r1⟩ := (s.rtT (v := .ref a) (e := lf (.tuple ds)) (by simp)).tup_of
  cases e
  refine ⟨fun i d hd => ?_, fun i hi => ⟨xs, h1, by rw [r1.length]; exact hi⟩⟩
  obtain ⟨v, hv, rv⟩ := r1.get hd
  refine ⟨⟨xs, v, h1, hv⟩, fun x H' y => ?_⟩
  obtain ⟨rfl, y⟩ := y
  have := y xs h1
  rw [hv] at this
  cases this
  exact ⟨S, s.push rv⟩
theorem its_ok {K : PySem.W.Frag} {z : Str} (hz : okS z = true) : ItOk K (Its z) (chars z) [] := by
  intro G T ρ σ S H s
  rw [okS_iff] at hz
  refine ⟨fun i d hd => ?_, fun i hi => by simpa [chars, Its] using hi⟩
  obtain ⟨c, hc, rfl⟩ : ∃ c, z.cps.toList[i]? = some c ∧ d = .str ⟨#[c]⟩ := by
    unfold chars at hd
    rw [List.getElem?_map] at hd
    obtain ⟨c, hc, e⟩ := Option.map_eq_some_iff.mp hd
    exact ⟨c, hc, e.symm⟩
  have hi : i < z.cps.size := by
    have := (List.getElem?_eq_some_iff.mp hc).1
    simpa using this
  refine ⟨hi, fun x H' y => ?_⟩
  obtain ⟨rfl, c', hc', rfl⟩ := y
  have : c' = c := by
    rw [Array.getElem?_toList] at hc
    rw [hc] at hc'
    exact (Option.some.inj hc').symm
  subst this
  refine ⟨S, s.push (.str _ ?_)⟩
  rw [okS_iff]
  intro d hd
  have : d = c' := by simpa using hd
  subst this
  exact hz d (List.mem_of_getElem? hc)
theorem di_seq (h : DE X W e f) : DI X W tg e (seqI f) := PI.imp (PI.or (pi_list h) (PI.or (pi_tup h) (pi_str h))) fun σ H R ⟨G, T, S, ρ, s, g⟩ => by
  unfold seqI at g
  cases e1 : f ρ with
  | stk => rw [bnd, e1] at g; exact g.elim
  | er x ρ' =>
    refine .inl ⟨G, T, S, ρ, s, ?_⟩
    rw [bnd, e1] at g
    rw [e1]
    exact g
  | ok o ρ' =>
    rw [bnd_ok e1] at g
    split at g
    · rename_i ds hd
      refine .inl ⟨G, T, S, ρ, s, ?_⟩
      rw [e1]
      intro v S1 H1 s1
      obtain ⟨S2, s2, _, r⟩ := s1.freeze
      rw [hd] at s2 r
      obtain ⟨a, xs, rfl, h1, r1⟩ := (r.rt s2.sub).lst_of
      exact ⟨a, rfl, ⟨xs, h1⟩, g _ _ S2 H1 s2 itl_ok⟩
    · rename_i ds hd
      refine .inr (.inl ⟨G, T, S, ρ, s, ?_⟩)
      rw [e1]
      intro v S1 H1 s1
      obtain ⟨S2, s2, _, r⟩ := s1.freeze
      rw [hd] at s2 r
      obtain ⟨a, xs, rfl, h1, r1⟩ := (r.rt s2.sub).tup_of
      exact ⟨a, rfl, ⟨xs, h1⟩, g _ _ S2 H1 s2 itt_ok⟩
    · rename_i z hd
      refine .inr (.inr ⟨G, T, S, ρ, s, ?_⟩)
      rw [e1]
      intro v S1 H1 s1
      obtain ⟨S2, s2, _, r⟩ := s1.freeze
      rw [hd] at s2 r
      have r' := r.rt s2.sub
      exact ⟨z, r'.str_of, g (Its z) [] S2 H1 s2.drop1 (its_ok r'.str_ok)⟩
    · exact g.elim
theorem itr_ok {K : PySem.W.Frag} {lo hi : Int} : ItOk K (Itr lo (hi - lo).toNat) (rangeD lo hi) [] := by
  intro G T ρ σ S H s
  refine ⟨fun i d hd => ?_, fun i hi => by simpa [rangeD, Itr] using hi⟩
  unfold rangeD at hd
  rw [List.getElem?_map] at hd
  obtain ⟨c, hc, rfl⟩ := Option.map_eq_some_iff.mp hd
  obtain ⟨h1, h2⟩ := List.getElem?_eq_some_iff.mp hc
  rw [List.length_range] at h1
  rw [List.getElem_range] at h2
  subst h2
  refine ⟨h1, fun x H' y => ?_⟩
  obtain ⟨rfl, rfl⟩ := y
  exact ⟨S, s.push (.int _)⟩
theorem itdown_ok {K : PySem.W.Frag} {lo hi : Int} : ItOk K (Itc lo (-1) (lo - hi).toNat) (rangeDown lo hi) [] := by
  intro G T ρ σ S H s
  refine ⟨fun i d hd => ?_, fun i hi => by simpa [rangeDown, Itc] using hi⟩
  unfold rangeDown at hd
  rw [List.getElem?_map] at hd
  obtain ⟨c, hc, rfl⟩ := Option.map_eq_some_iff.mp hd
  obtain ⟨h1, h2⟩ := List.getElem?_eq_some_iff.mp hc
  rw [List.length_range] at h1
  rw [List.getElem_range] at h2
  subst h2
  refine ⟨h1, fun x H' y => ?_⟩
  obtain ⟨rfl, rfl⟩ := y
  refine ⟨S, s.push ?_⟩
  rw [show lo + ((i : Nat) : Int) * (-1) = lo - (i : Nat) by omega]
  exact .int _
theorem di_rng1 {a : Expr} (hg : Gl X "range") (hm : X.mg "range" = none) (ha : DA X W [a] fs) (hs : starEach [a] X.env = [(false, eval a X.env)] := by rfl) : DI X W tg (.Call (.Name "range" p) [a] [] pos) (rng1 fs) := PI.imp (pi_range1 hg hm ha hs) fun σ H R ⟨G, T, S, ρ, s, g⟩ => by
  refine ⟨G, T, S, ρ, s, seq sid ?_ g⟩
  intro bs ρ1 z vs S1 H1 s1 at1
  split at z
  · rename_i j hj
    unfold cif at z
    split at z
    · rename_i hb
      obtain ⟨x, rfl, rx⟩ := (at1.rt s1 (fun x m => List.mem_append_left _ m) hj).one
      refine ⟨j, by rw [rx.int_of], hb.1, hb.2, ?_⟩
      have := z (Itr 0 (j - 0).toNat) [] S1 H1 s1.dropL itr_ok
      rw [Int.sub_zero] at this
      exact this
    · exact z.elim
  · exact z.elim
theorem di_rng2 {a b : Expr} (hg : Gl X "range") (hm : X.mg "range" = none) (ha : DA X W [a, b] fs) (hs : starEach [a, b] X.env = [(false, eval a X.env), (false, eval b X.env)] := by rfl) (hs2 : starEach [b] X.env = [(false, eval b X.env)] := by rfl) :
    DI X W tg (.Call (.Name "range" p) [a, b] [] pos) (rng2 fs) := PI.imp (pi_range2 hg hm ha hs hs2) fun σ H R ⟨G, T, S, ρ, s, g⟩ => by
  refine ⟨G, T, S, ρ, s, seq sid ?_ g⟩
  intro bs ρ1 z vs S1 H1 s1 at1
  split at z
  · rename_i i j hj
    unfold cif at z
    split at z
    · rename_i hb
      obtain ⟨x, y, rfl, rx, ry⟩ := (at1.rt s1 (fun x m => List.mem_append_left _ m) hj).two
      exact ⟨i, j, by rw [rx.int_of, ry.int_of], hb, z (Itr i (j - i).toNat) [] S1 H1 s1.dropL itr_ok⟩
    · exact z.elim
  · exact z.elim
theorem di_rng3 {a b c : Expr} (hg : Gl X "range") (hm : X.mg "range" = none) (ha : DA X W [a, b, c] fs) (hs : starEach [a, b, c] X.env = (false, eval a X.env) :: starEach [b, c] X.env := by rfl) (hpl : (backTo pos (starEach [b, c] X.env)).any (·.1) = false := by rfl) :
    DI X W tg (.Call (.Name "range" p) [a, b, c] [] pos) (rng3 fs) := PI.imp (pi_range3 hg hm ha hs hpl) fun σ H R ⟨G, T, S, ρ, s, g⟩ => by
  refine ⟨G, T, S, ρ, s, seq sid ?_ g⟩
  intro bs ρ1 z vs S1 H1 s1 at1
  split at z
  · rename_i i j c hj
    unfold cif at z
    split at z
    · rename_i hb
      obtain ⟨rfl, hb1, hb2, hb3, hb4⟩ := hb
      have hr := at1.rt s1 (fun x m => List.mem_append_left _ m) hj
      cases hr with
      | cons rx hr => cases hr with
        | cons ry hr => cases hr with
          | cons rz hr =>
            cases hr
            exact ⟨i, j, -1, (i - j).toNat, by rw [rx.int_of, ry.int_of, rz.int_of], RgC.neg hb1 hb2 hb3 hb4, z (Itc i (-1) (i - j).toNat) [] S1 H1 s1.dropL itdown_ok⟩
    · exact z.elim
  · exact z.elim
theorem ite_ok {K : PySem.W.Frag} {a : Addr} {ds : List D} : ItOk K (Ite K a) (enumD 0 ds) [(.ref a, lf (.list ds))] := by
  intro G T ρ σ S H s
  obtain ⟨a', xs, e, h1, r1⟩ := (s.rtT (v := .ref a) (e := lf (.list ds)) (by simp)).lst_of
  cases e
  refine ⟨fun i d hd => ?_, fun i hi => ⟨xs, h1, by rw [r1.length]; rw [enumD_len] at hi; exact hi⟩⟩
  obtain ⟨d', hd', rfl⟩ := enumD_get ds 0 i d hd
  obtain ⟨v, hv, rv⟩ := r1.get hd'
  refine ⟨⟨xs, v, h1, hv⟩, fun x H' y => ?_⟩
  obtain ⟨t, w, rfl, n, rfl, y⟩ := y
  have := y xs h1
  rw [hv] at this
  cases this
  rw [Nat.zero_add]
  exact s.newTup (.cons (.int _) (.cons rv .nil)) n
theorem di_enum {elts : List Expr} {kk : Nat} {tpos : Pos} (hg : Gl X "enumerate") (hm : X.mg "enumerate" = none) (ha : DA X W [e] fs) (hs : starEach [e] X.env = [(false, eval e X.env)] := by rfl) : DI X W (.Tuple elts kk tpos) (.Call (.Name "enumerate" p) [e] [] pos) (enumI fs) :=
  PI.imp (pi_enum hg hm ha hs) fun σ H R ⟨G, T, S, ρ, s, g⟩ => by
    refine ⟨G, T, S, ρ, s, seq sid ?_ g⟩
    intro bs ρ1 z vs S1 H1 s1 at1
    split at z
    · rename_i ds hd
      obtain ⟨S2, s2, _, r⟩ := Stt.freezeAll at1 hd s1
      cases r with
      | cons r rr =>
        cases rr
        obtain ⟨a, xs, rfl, h1, r1⟩ := (r.rt s2.sub).lst_of
        exact ⟨a, xs, rfl, h1, z (Ite X.K a) [(.ref a, lf (.list ds))] S2 H1 (s2.push r) ite_ok⟩
    · exact z.elim
theorem itz_ok {K : PySem.W.Frag} {a b : Addr} {ds es : List D} : ItOk K (Itz K a b) (zipD ds es) [(.ref a, lf (.list ds)), (.ref b, lf (.list es))] := by
  intro G T ρ σ S H s
  obtain ⟨a', xs, e, h1, r1⟩ := (s.rtT (v := .ref a) (e := lf (.list ds)) (by simp)).lst_of
  cases e
  obtain ⟨b', ys, e, h2, r2⟩ := (s.rtT (v := .ref b) (e := lf (.list es)) (by simp)).lst_of
  cases e
  refine ⟨fun i d hd => ?_, fun i hi => ⟨xs, ys, h1, h2, by rw [zipD_len] at hi; rw [r1.length, r2.length]; omega⟩⟩
  obtain ⟨d1, d2, g1, g2, rfl⟩ := zipD_get ds es i d hd
  obtain ⟨v, hv, rv⟩ := r1.get g1
  obtain ⟨w, hw, rw'⟩ := r2.get g2
  refine ⟨⟨xs, ys, v, w, h1, h2, hv, hw⟩, fun x H' y => ?_⟩
  obtain ⟨t, v', w', rfl, n, rfl, y1, y2⟩ := y
  have q1 := y1 xs h1
  have q2 := y2 ys h2
  rw [hv] at q1
  rw [hw] at q2
  cases q1
  cases q2
  exact s.newTup (.cons rv (.cons rw' .nil)) n
theorem di_zip {e2 : Expr} {elts : List Expr} {kk : Nat} {tpos : Pos} (hg : Gl X "zip") (hm : X.mg "zip" = none) (ha : DA X W [e, e2] fs) (hs : starEach [e, e2] X.env = (false, eval e X.env) :: starEach [e2] X.env := by rfl) (hpl : (backTo pos (starEach [e2] X.env)).any (·.1) = false := by rfl) :
    DI X W (.Tuple elts kk tpos) (.Call (.Name "zip" p) [e, e2] [] pos) (zipI fs) := PI.imp (pi_zip hg hm ha hs hpl) fun σ H R ⟨G, T, S, ρ, s, g⟩ => by
    refine ⟨G, T, S, ρ, s, seq sid ?_ g⟩
    intro bs ρ1 z vs S1 H1 s1 at1
    split at z
    · rename_i ds es hd
      obtain ⟨S2, s2, _, r⟩ := Stt.freezeAll at1 hd s1
      cases r with
      | cons r rr =>
        cases rr with
        | cons r' rr =>
          cases rr
          obtain ⟨a, xs, rfl, h1, r1⟩ := (r.rt s2.sub).lst_of
          obtain ⟨b, ys, rfl, h2, r2⟩ := (r'.rt s2.sub).lst_of
          exact ⟨a, b, xs, ys, rfl, h1, h2, z (Itz X.K a b) [(.ref a, lf (.list ds)), (.ref b, lf (.list es))] S2 H1 ((s2.push r').push r) itz_ok⟩
    · exact z.elim
end

/-! ### comprehensions -/
def wipeE (ρ : Ev) : List Nat → Ev
  | [] => ρ
  | v :: vs => (wipeE ρ vs).set v none
/-- an entry that a block's own name may hide: none, or shared data -/
def hidable (ρ : Ev) (vs : List Nat) : Bool := vs.all fun v => match ρ[v]? with
  | some (some ⟨false, .leaf _⟩) => true
  | some none => true
  | none => true
  | _ => false
/-- what a block leaves, with the hidden entries again -/
def unhide (ρ ρ' : Ev) : List Nat → Ev
  | [] => ρ'
  | v :: vs => (unhide ρ ρ' vs).set v ((ρ[v]?).getD none)
def lcGo (vs : List Nat) (tg : O → Ev → Rs Unit) (tt : Ev → Rs Bool) (el : Ev → Rs O) : List D → Ev → Rs (List D)
  | [], ρ => .ok [] ρ
  | d :: ds, ρ => match tg (.leaf d) ρ with
    | .ok _ ρ1 => (match tt ρ1 with
      | .ok true ρ2 => (match el ρ2 with
        | .ok o ρ3 => (match lcGo vs tg tt el ds (wipeE ρ3 vs) with
          | .ok ys ρ4 => .ok (o.d :: ys) ρ4
          | _ => .stk)
        | _ => .stk)
      | .ok false ρ2 => lcGo vs tg tt el ds (wipeE ρ2 vs)
      | _ => .stk)
    | _ => .stk
def lcE (it : Ev → Rs (List D)) (vs : List Nat) (tg : O → Ev → Rs Unit) (tt : Ev → Rs Bool) (el : Ev → Rs O) : Ev → Rs O := bnd it fun ds ρ =>
  if hidable ρ vs = true ∧ ds.length ≤ sizeLine then (match lcGo vs tg tt el ds (wipeE ρ vs) with
    | .ok ys ρ' => .ok (.lst ys) (unhide ρ ρ' vs)
    | _ => .stk) else .stk
end Y
/-! Y: comprehensions -/
namespace Y
open PySem PySem.Spec PyProof.Rows L2
theorem wipe_get {σ : Sg} {j : Nat} : ∀ {vs : List Nat}, (wipe σ vs)[j]? = if j ∈ vs then (if j < σ.length then some none else none) else σ[j]?
  | [] => by simp [wipe]
  | v :: vs => by
    unfold wipe
    by_cases hv : v = j
    · subst hv
      by_cases hl : v < σ.length
      · rw [List.getElem?_set_self (by rw [wipe_length]; exact hl)]
        simp [hl]
      · rw [List.getElem?_eq_none (by rw [List.length_set, wipe_length]; omega)]
        simp [hl]
    · rw [List.getElem?_set_ne hv, wipe_get (vs := vs)]
      have : (j ∈ v :: vs) = (j ∈ vs) := by
        simp only [List.mem_cons, eq_iff_iff, or_iff_right_iff_imp]
        exact fun z => absurd z.symm hv
      simp only [this]
theorem wipe_set {σ : Sg} {i : Nat} {x : Option V} {vs : List Nat} (h : i ∈ vs) : wipe (σ.set i x) vs = wipe σ vs := by
  refine List.ext_getElem? fun j => ?_
  rw [wipe_get, wipe_get, List.length_set]
  split
  · rfl
  · rename_i hj
    exact List.getElem?_set_ne (fun z : i = j => hj (by subst z; exact h))
theorem wipe_wipe {σ : Sg} {vs : List Nat} : wipe (wipe σ vs) vs = wipe σ vs := by
  refine List.ext_getElem? fun j => ?_
  rw [wipe_get, wipe_length, wipe_get]
  split <;> rfl
section
variable {K : PySem.W.Frag} {G : Fra} {T : List (V × E)} {ρ : Ev} {σ : Sg} {S H : Hp}
theorem Stt.clr2 (s : Stt K G T ρ σ S H) (i : Nat) : Stt K G T (ρ.set i none) (σ.set i none) S H := by
  obtain ⟨L, F, sl, sep⟩ := s.res
  obtain ⟨L', sb, _, sl'⟩ := sl.clr i
  obtain ⟨F1, sep1, _⟩ := sep.sub ((List.Sublist.refl T).append sb)
  refine ⟨s.sub, s.s0, s.keep, s.dom, s.new, fun j e2 q io => ?_, L', F1, sl' none, sep1⟩
  by_cases hj : i = j
  · subst hj
    by_cases hl : i < ρ.length
    · rw [List.getElem?_set_self hl] at q; cases q
    · rw [List.getElem?_eq_none (by simpa using hl)] at q; cases q
  · rw [List.getElem?_set_ne hj] at q ⊢; exact s.ios j e2 q io
theorem Stt.wiped (s : Stt K G T ρ σ S H) : ∀ vs : List Nat, Stt K G T (wipeE ρ vs) (wipe σ vs) S H
  | [] => s
  | v :: vs => (s.wiped vs).clr2 v
/-- the slots' values do not matter where nothing is known -/
theorem Stt.slots (s : Stt K G T ρ σ S H) {σ' : Sg} (hl : σ'.length = σ.length) (h : ∀ (i : Nat) (e : E), ρ[i]? = some (some e) → σ'[i]? = σ[i]?) : Stt K G T ρ σ' S H := by
  obtain ⟨L, F, sl, sep⟩ := s.res
  have key : ∀ {σ : Sg} {ρ : Ev} {L : List (V × E)}, Sl σ ρ L → ∀ {σ' : Sg}, σ'.length = σ.length → (∀ (i : Nat) (e : E), ρ[i]? = some (some e) → σ'[i]? = σ[i]?) → Sl σ' ρ L := by
    intro σ ρ L sl
    induction sl with
    | nil => intro σ' hl _; cases σ' with | nil => exact .nil | cons _ _ => simp at hl
    | out _ ih =>
      intro σ' hl h
      cases σ' with
      | nil => simp at hl
      | cons x σ' => exact .out (ih (by simpa using hl) fun i e q => by simpa using h (i + 1) e (by simpa using q))
    | inn _ ih =>
      intro σ' hl h
      cases σ' with
      | nil => simp at hl
      | cons x σ' =>
        have := h 0 _ rfl
        simp at this
        subst this
        exact .inn (ih (by simpa using hl) fun i e q => by simpa using h (i + 1) e (by simpa using q))
  exact ⟨s.sub, s.s0, s.keep, s.dom, s.new, fun j e q io => (h j e q).trans (s.ios j e q io), L, F, key sl hl h, sep⟩
theorem wipeE_get {ρ : Ev} {j : Nat} : ∀ {vs : List Nat}, (wipeE ρ vs)[j]? = if j ∈ vs then (if j < ρ.length then some none else none) else ρ[j]?
  | [] => by simp [wipeE]
  | v :: vs => by
    have hlen : ∀ vs : List Nat, (wipeE ρ vs).length = ρ.length := fun vs => by
      induction vs with
      | nil => rfl
      | cons v vs ih => unfold wipeE; rw [List.length_set, ih]
    unfold wipeE
    by_cases hv : v = j
    · subst hv
      by_cases hl : v < ρ.length
      · rw [List.getElem?_set_self (by rw [hlen]; exact hl)]
        simp [hl]
      · rw [List.getElem?_eq_none (by rw [List.length_set, hlen]; omega)]
        simp [hl]
    · rw [List.getElem?_set_ne hv, wipeE_get (vs := vs)]
      have : (j ∈ v :: vs) = (j ∈ vs) := by
        simp only [List.mem_cons, eq_iff_iff, or_iff_right_iff_imp]
        exact fun z => absurd z.symm hv
      simp only [this]
theorem wipeE_length {ρ : Ev} : ∀ vs : List Nat, (wipeE ρ vs).length = ρ.length
  | [] => rfl
  | v :: vs => by unfold wipeE; rw [List.length_set, wipeE_length vs]
/-- hidden entries, held -/
def hidT (σ : Sg) (ρ : Ev) : List Nat → List (V × E)
  | [] => []
  | v :: vs => (match ρ[v]?, σ[v]? with
    | some (some e), some (some w) => [(w, e)]
    | _, _ => []) ++ hidT σ ρ vs
theorem Stt.hide (s : Stt K G T ρ σ S H) : ∀ {vs : List Nat}, hidable ρ vs = true → Stt K G (hidT σ ρ vs ++ T) ρ σ S H
  | [], _ => s
  | v :: vs, h => by
    unfold hidable at h
    rw [List.all_cons, Bool.and_eq_true] at h
    have s1 := s.hide (vs := vs) h.2
    unfold hidT
    cases e1 : ρ[v]? with
    | none => exact s1
    | some m =>
      cases m with
      | none => exact s1
      | some e =>
        obtain ⟨w, hw, _⟩ := s.take e1
        rw [hw]
        obtain ⟨io, o⟩ := e
        have h1 := h.1
        rw [e1] at h1
        cases io with
        | true => cases o <;> cases h1
        | false =>
          cases o with
          | leaf d =>
            obtain ⟨w', hw', s2⟩ := s1.take e1
            rw [hw] at hw'
            cases hw'
            obtain ⟨F, o, _⟩ := s2.head
            cases o with
            | leaf r => exact s1.push r
          | lst _ => cases h1
          | dic _ => cases h1
theorem Stt.relf {v : Nat} {w : V} {d : D} (s : Stt K G T ρ σ S H) (m : (w, lf d) ∈ T) (hv : σ[v]? = some (some w)) : Stt K G T (ρ.set v (some (lf d))) σ S H := by
  have r : Rp K S w d := by
    obtain ⟨L, F, sl, sep⟩ := s.res
    obtain ⟨F', o⟩ := sep.mem (List.mem_append_left _ m)
    cases o with
    | leaf r => exact r
  have hl : v < σ.length := (List.getElem?_eq_some_iff.mp hv).1
  have s1 := (s.push r).store hl
  have e1 : σ.set v (some w) = σ := by
    obtain ⟨h1, h2⟩ := List.getElem?_eq_some_iff.mp hv
    rw [← h2, List.set_getElem_self]
  rw [e1] at s1
  exact s1
/-- after the block -/
theorem Stt.unhide {ρ0 : Ev} (h0 : ∀ (i : Nat) (e : E), ρ0[i]? = some (some e) → ∃ w, σ[i]? = some (some w)) (hlen : ρ0.length = ρ.length) : ∀ {vs : List Nat}, (∀ x ∈ hidT σ ρ0 vs, x ∈ T) → hidable ρ0 vs = true → Stt K G T ρ σ S H → Stt K G T (unhide ρ0 ρ vs) σ S H
  | [], _, _, s => s
  | v :: vs, m, h, s => by
    unfold hidable at h
    rw [List.all_cons, Bool.and_eq_true] at h
    have s1 := Stt.unhide h0 hlen (vs := vs) (fun x hx => m x (by unfold hidT; exact List.mem_append_right _ hx)) h.2 s
    unfold Y.unhide
    cases e1 : ρ0[v]? with
    | none => exact s1.clr v
    | some q =>
      cases q with
      | none => exact s1.clr v
      | some e =>
        obtain ⟨w, hw⟩ := h0 v e e1
        obtain ⟨io, o⟩ := e
        have h1 := h.1
        rw [e1] at h1
        cases io with
        | true => cases o <;> cases h1
        | false =>
          cases o with
          | leaf d =>
            refine s1.relf (w := w) (d := d) (m _ ?_) hw
            unfold hidT
            rw [e1, hw]
            simp
          | lst _ => cases h1
          | dic _ => cases h1
end

/-! ### a comprehension's targets: they change its own slots alone -/
def tC' (K : PySem.W.Frag) (W : XW) (vs : List Nat) (g : O → Ev → Rs Unit) : TG := fun v σ H Q => ∃ G T S ρ o, Stt K G ((v, ow o) :: T) ρ σ S H ∧ GoG K W G T (fun _ ρ' => ∀ σ' S' H', wipe σ' vs = wipe σ vs → Stt K G T ρ' σ' S' H' → Q σ' H') (g o ρ)
def tCs (K : PySem.W.Frag) (W : XW) (ws : List Nat) (g : List D → Ev → Rs Unit) : TGs := fun vs σ H Q => ∃ G T S ρ ds, vs.length = ds.length ∧ Stt K G (lfs vs ds ++ T) ρ σ S H ∧ GoG K W G T (fun _ ρ' => ∀ σ' S' H', wipe σ' ws = wipe σ ws → Stt K G T ρ' σ' S' H' → Q σ' H') (g ds ρ)
abbrev CG (X : Cx) (W : XW) (vs : List Nat) (e : Expr) (g : O → Ev → Rs Unit) : Prop := PG X e (tC' X.K W vs g)
abbrev CGs (X : Cx) (W : XW) (vs : List Nat) (es : List Expr) (g : List D → Ev → Rs Unit) : Prop := PGs X es (tCs X.K W vs g)
section
variable {X : Cx} {W : XW} {ws : List Nat} {e : Expr} {es : List Expr} {pos : Pos} {g : O → Ev → Rs Unit} {r : List D → Ev → Rs Unit}
theorem cg_name {i : Nat} (h : PG X e (gName i)) (hi : i ∈ ws) : CG X W ws e (gN i) := PG.imp h fun v σ H Q ⟨G, T, S, ρ, o, s, k⟩ => by
  unfold gN at k
  split at k
  · rename_i hl
    exact k _ _ _ (wipe_set hi) (s.store (by rw [s.len]; exact hl))
  · exact k.elim
theorem cgs_nil : CGs X W ws [] gNilS := PGs.imp pgs_nil fun vs σ H Q ⟨G, T, S, ρ, ds, hl, s, k⟩ => by
  unfold gNilS at k
  split at k
  · cases vs with
    | nil => exact ⟨rfl, k _ _ _ rfl s⟩
    | cons _ _ => simp at hl
  · exact k.elim
theorem cgs_cons (h1 : CG X W ws e g) (h2 : CGs X W ws es r) (hs : (assignEach (e :: es) X.env).map (·.2) = assign e X.env :: (assignEach es X.env).map (·.2) := by rfl) : CGs X W ws (e :: es) (gConsS g r) := PGs.imp (pgs_cons h1 h2 hs) fun vs σ H Q ⟨G, T, S, ρ, ds, hl, s, k⟩ => by
  cases ds with
  | nil => exact k.elim
  | cons d ds =>
    cases vs with
    | nil => simp at hl
    | cons v vs =>
      refine ⟨v, vs, rfl, G, lfs vs ds ++ T, S, ρ, .leaf d, s, ?_⟩
      have k : GoG X.K W G T (fun _ ρ' => ∀ σ' S' H', wipe σ' ws = wipe σ ws → Stt X.K G T ρ' σ' S' H' → Q σ' H') (match g (.leaf d) ρ with | .ok _ ρ' => r ds ρ' | .er x ρ' => .er x ρ' | .stk => .stk) := k
      cases e1 : g (.leaf d) ρ with
      | ok a ρ' =>
        rw [e1] at k
        intro σ' S' H' hw s'
        refine ⟨G, T, S', ρ', ds, by simpa using hl, s', ?_⟩
        show GoG X.K W G T _ (r ds ρ')
        have k2 : GoG X.K W G T (fun _ ρ' => ∀ σ' S' H', wipe σ' ws = wipe σ ws → Stt X.K G T ρ' σ' S' H' → Q σ' H') (r ds ρ') := k
        cases e2 : r ds ρ' with
        | ok a ρ2 => rw [e2] at k2; exact fun σ2 S2 H2 hw2 s2 => k2 σ2 S2 H2 (hw2.trans hw) s2
        | er x ρ2 => rw [e2] at k2; exact k2
        | stk => rw [e2] at k2; exact k2
      | er x ρ' =>
        rw [e1] at k
        exact fun σ' S' H' s' => k σ' S' H' s'.dropL
      | stk => rw [e1] at k; exact k
theorem cg_tup {k n : Nat} (b : Bd X) (h : CGs X W ws es r) (hn : (assignEach es X.env).length = n := by rfl) (hst : (assignEach es X.env).findIdx? (·.1) = none := by rfl) : CG X W ws (.Tuple es k pos) (gTupS n r) :=
  PG.imp (PG.or (pg_tup b.calm h hn hst) (pg_unl b.calm h hn hst)) fun v σ H Q ⟨G, T, S, ρ, o, s, q⟩ => by
    have hr := s.rtT (v := v) (e := ow o) (by simp)
    unfold gTupS at q
    split at q
    · rename_i ds
      split at q
      · rename_i hl
        obtain ⟨a, xs, rfl, h1, r1⟩ := hr.tup_of
        exact .inl ⟨a, xs, rfl, h1, by rw [r1.length]; exact hl, G, T, S, ρ, ds, r1.length, s.drop1.pushAll r1, q⟩
      · exact q.elim
    · rename_i ds
      split at q
      · rename_i hl
        obtain ⟨a, xs, rfl, h1, r1⟩ := hr.lst_of
        exact .inr ⟨a, xs, rfl, h1, by rw [r1.length]; exact hl, G, T, S, ρ, ds, r1.length, s.drop1.pushAll r1, q⟩
      · exact q.elim
    · rename_i ds
      split at q
      · rename_i hl
        obtain ⟨a, xs, rfl, h1, r1⟩ := hr.lst_of
        exact .inr ⟨a, xs, rfl, h1, by rw [r1.length]; exact hl, G, T, S, ρ, ds, r1.length, s.drop1.pushAll r1, q⟩
      · exact q.elim
    · exact q.elim
end

/-! ### the comprehension -/
/-- nothing leaves a block -/
abbrev W0 : XW := fun _ _ _ => False
abbrev tTs (K : PySem.W.Frag) (f : Ev → Rs Bool) : TT := tT K W0 f
theorem GoR.tt {α : Type} {K : PySem.W.Frag} {G : Fra} {T : List (V × E)} {σ : Sg} {P : α → Ev → Prop} {W : XW} : ∀ {r : Rs α}, (∀ a ρ', r = .ok a ρ' → P a ρ') → (∃ a ρ', r = .ok a ρ') → GoR K W G T σ P r
  | .ok a ρ', h, _ => h a ρ' rfl
  | .er _ _, _, ⟨_, _, e⟩ => nomatch e
  | .stk, _, ⟨_, _, e⟩ => nomatch e
section
variable {X : Cx} {W : XW} {elt tg iter : Expr} {ifs : List Expr} {scope : Scope} {own : List (Str × Nat)} {pos : Pos} {it : Ev → Rs (List D)} {g : O → Ev → Rs Unit} {tt : Ev → Rs Bool} {el : Ev → Rs O}
theorem lc_reads {K : PySem.W.Frag} {vs : List Nat} {σ : Sg} {H : Hp} {Q : VK} (q : tE K W (lcE it vs g tt el) σ H Q) : tLc (tI K W it) (tC' K W0 vs g) (tTs K tt) (tE K W0 el) vs σ H Q := by
  obtain ⟨G, T, S, ρ, s, q⟩ := q
  refine ⟨G, T, S, ρ, s, seq sid ?_ q⟩
  intro ds ρ1 z J L S1 H1 s1 iok D' hD
  split at z
  · rename_i hh
    obtain ⟨hhid, hsz⟩ := hh
    -- the new list, our hidden entries held
    have s2 := (s1.hide (vs := vs) hhid)
    have s3 := s2.make (o := .lst []) hD (u := .lst []) (.lst upd_same (s2.sub.free hD) .nil)
    have s4 := s3.wiped vs
    refine ⟨fun i m H' => m = ds.length - i ∧ i ≤ ds.length ∧ ∃ acc ρi S', acc.length ≤ i ∧ Stt K G ((.ref D', ow (.lst acc)) :: (hidT σ ρ1 vs ++ (L ++ T))) (wipeE ρi vs) (wipe σ vs) S' H' ∧ ρi.length = ρ1.length ∧
      ∃ ys ρe, lcGo vs g tt el (ds.drop i) (wipeE ρi vs) = .ok ys ρe ∧ ∀ v S'' H'', Stt K G ((v, ow (.lst (acc ++ ys))) :: T) (unhide ρ1 ρe vs) σ S'' H'' → Q v H'', ⟨ds.length, ?_⟩, ?_⟩
    · refine ⟨by omega, Nat.zero_le _, [], ρ1, S1, Nat.zero_le _, s4, rfl, ?_⟩
      split at z
      · rename_i ys ρe he
        exact ⟨ys, ρe, he, by rw [List.nil_append]; exact z⟩
      · exact z.elim
    · rintro i m H' ⟨rfl, hi, acc, ρi, S', hacc, si, hlen, ys, ρe, he, fin⟩
      have iok' := iok G ((.ref D', ow (.lst acc)) :: (hidT σ ρ1 vs ++ T)) (wipeE ρi vs) (wipe σ vs) S' H' (si.permT (by
        refine List.Perm.trans ?_ (List.perm_middle (l₁ := L)).symm
        refine List.Perm.cons _ ?_
        rw [← List.append_assoc, ← List.append_assoc]
        exact List.Perm.append_right T List.perm_append_comm))
      by_cases hlt : i < ds.length
      · have hd : ds[i]? = some ds[i] := List.getElem?_eq_getElem hlt
        obtain ⟨go, yld⟩ := iok'.1 i _ hd
        have hdrop : ds.drop i = ds[i] :: ds.drop (i + 1) := List.drop_eq_getElem_cons hlt
        rw [hdrop] at he
        -- what a turn is to reach
        refine .inr ⟨go, fun H2 => i + 1 ≤ ds.length ∧ ∃ acc ρi S', acc.length ≤ i + 1 ∧ Stt K G ((.ref D', ow (.lst acc)) :: (hidT σ ρ1 vs ++ (L ++ T))) (wipeE ρi vs) (wipe σ vs) S' H2 ∧ ρi.length = ρ1.length ∧
          ∃ ys ρe, lcGo vs g tt el (ds.drop (i + 1)) (wipeE ρi vs) = .ok ys ρe ∧ ∀ v S'' H'', Stt K G ((v, ow (.lst (acc ++ ys))) :: T) (unhide ρ1 ρe vs) σ S'' H'' → Q v H'', fun H2 h2 => ⟨ds.length - (i + 1), by omega, rfl, h2.1, h2.2⟩, ?_⟩
        intro x H2 y
        obtain ⟨S2, sx⟩ := yld x H2 y
        have sx' : Stt K G ((x, lf ds[i]) :: ((.ref D', ow (.lst acc)) :: (hidT σ ρ1 vs ++ (L ++ T)))) (wipeE ρi vs) (wipe σ vs) S2 H2 := sx.permT (by
          refine List.Perm.cons _ ?_
          refine List.Perm.trans (List.perm_middle (l₁ := L)) ?_
          refine List.Perm.cons _ ?_
          rw [← List.append_assoc, ← List.append_assoc]
          exact List.Perm.append_right T List.perm_append_comm)
        unfold lcGo at he
        cases e1 : g (.leaf ds[i]) (wipeE ρi vs) with
        | stk => rw [e1] at he; cases he
        | er x ρ' => rw [e1] at he; cases he
        | ok u ρa =>
          rw [e1] at he
          simp only at he
          refine ⟨G, _, S2, _, .leaf ds[i], sx', ?_⟩
          rw [e1]
          intro σ3 S3 H3 hw s5
          rw [wipe_wipe] at hw
          refine ⟨hw, G, _, S3, ρa, s5, ?_⟩
          have hla : ρa.length = ρ1.length := by
            have h1 := s5.len
            have h2 := s1.len
            have h3 := congrArg List.length hw
            rw [wipe_length, wipe_length] at h3
            omega
          -- the list that grows
          have next : ∀ {S4 H4 : Hp} {ρ4 : Ev} {acc' : List D}, Stt K G ((.ref D', ow (.lst acc')) :: (hidT σ ρ1 vs ++ (L ++ T))) ρ4 σ3 S4 H4 → Stt K G ((.ref D', ow (.lst acc')) :: (hidT σ ρ1 vs ++ (L ++ T))) (wipeE ρ4 vs) (wipe σ vs) S4 H4 := fun s6 => by
            have := s6.wiped vs
            rw [hw] at this
            exact this
          cases e2 : tt ρa with
          | stk => rw [e2] at he; cases he
          | er x ρ' => rw [e2] at he; cases he
          | ok b ρb =>
            rw [e2] at he
            intro S4 H4 s6
            have hlb : ρb.length = ρ1.length := by
              have h1 := s6.len
              have h3 := congrArg List.length hw
              have h2 := s1.len
              rw [wipe_length, wipe_length] at h3
              omega
            cases b with
            | false =>
              rw [if_neg Bool.false_ne_true]
              simp only at he
              exact ⟨hlt, acc, ρb, S4, Nat.le_succ_of_le hacc, next s6, hlb, ys, ρe, he, fin⟩
            | true =>
              rw [if_pos rfl]
              simp only at he
              refine ⟨G, _, S4, ρb, s6, ?_⟩
              cases e3 : el ρb with
              | stk => rw [e3] at he; cases he
              | er x ρ' => rw [e3] at he; cases he
              | ok o ρc =>
                rw [e3] at he
                simp only at he
                intro v S5 H5 s7
                have hlc : ρc.length = ρ1.length := by
                  have h1 := s7.len
                  have h3 := congrArg List.length hw
                  have h2 := s1.len
                  rw [wipe_length, wipe_length] at h3
                  omega
                obtain ⟨S6, s8, _, rv⟩ := s7.freeze
                have s9 := s8.drop1
                obtain ⟨F, ow', _⟩ := s9.head
                cases hgo : lcGo vs g tt el (ds.drop (i + 1)) (wipeE ρc vs) with
                | stk => rw [hgo] at he; cases he
                | er x ρ' => rw [hgo] at he; cases he
                | ok ys' ρ4 =>
                  rw [hgo] at he
                  simp only at he
                  cases he
                  cases ow' with
                  | @lst _ xs _ eH nS rA =>
                    refine ⟨xs, eH, by rw [rA.length]; omega, hlt, acc ++ [o.d], ρc, S6, by rw [List.length_append]; simp; omega, next ?_, hlc, ys', _, hgo, ?_⟩
                    · exact s9.write (o' := .lst (acc ++ [o.d])) (.lst eH nS rA) (.lst upd_same nS (rA.app (.cons rv .nil)))
                    · intro v' S'' H'' h
                      refine fin v' S'' H'' ?_
                      rw [List.append_assoc] at h
                      exact h
      · have e : i = ds.length := by omega
        subst e
        refine .inl ⟨iok'.2 _ (Nat.le_refl _), ?_⟩
        rw [List.drop_length] at he
        have : ys = [] ∧ ρe = wipeE ρi vs := by
          unfold lcGo at he
          injection he with h1 h2
          exact ⟨h1.symm, h2.symm⟩
        obtain ⟨rfl, rfl⟩ := this
        rw [List.append_nil] at fin
        refine fin _ S' H' ?_
        -- back to the slots as they were
        have ent : ∀ (j : Nat) (e : E), ρ1[j]? = some (some e) → ∃ w, σ[j]? = some (some w) := fun j e he => let ⟨w, hw, _⟩ := s1.take he; ⟨w, hw⟩
        have sσ : Stt K G ((.ref D', ow (.lst acc)) :: (hidT σ ρ1 vs ++ (L ++ T))) (wipeE ρi vs) σ S' H' := by
          refine si.slots (by rw [wipe_length]) fun j e he => ?_
          rw [wipeE_get] at he
          rw [wipe_get]
          split at he
          · split at he <;> cases he
          · rename_i hj
            rw [if_neg hj]
        have su := Stt.unhide (ρ0 := ρ1) ent (by rw [wipeE_length]; exact hlen.symm) (vs := vs) (fun x hx => List.mem_cons_of_mem _ (List.mem_append_left _ hx)) hhid sσ
        exact su.subT (List.Sublist.cons_cons _ ((List.sublist_append_right _ _).trans (List.sublist_append_right _ _)))
  · exact z.elim
theorem de_lc (b : Bd X) (hi : DI X W tg iter it) (ok : BlkOk X.N X.env.scope scope own)
    (hg : ∀ (s : Shared) (H : Hp) (C : Addr) (cl : List (Str × Addr)) (fp : List Addr), PG (X.blk s H scope (compEnvC scope cl C X.env) fp) tg (tC' X.K W0 (own.map (·.2)) g))
    (ht : ∀ (s : Shared) (H : Hp) (C : Addr) (cl : List (Str × Addr)) (fp : List Addr), PTs (X.blk s H scope (compEnvC scope cl C X.env) fp) ifs (tTs X.K tt))
    (he : ∀ (s : Shared) (H : Hp) (C : Addr) (cl : List (Str × Addr)) (fp : List Addr), PE (X.blk s H scope (compEnvC scope cl C X.env) fp) elt (tE X.K W0 el)) (hs : ∀ x, foldedSetIterable iter X.env x = pure x := by intro _; rfl) :
    DE X W (.ListComp elt [⟨tg, iter, ifs, 0⟩] scope pos) (lcE it (own.map (·.2)) g tt el) := PE.imp (pe_lc b.calm b.nd hi ok hg ht he hs) fun σ H Q q => lc_reads q
theorem Bd.blk (b : Bd X) {s : Shared} {H : Hp} {cenv : Env} {fp : List Addr} : Bd (X.blk s H scope cenv fp) := ⟨b.calm, b.un, b.nd⟩
def yesT : Ev → Rs Bool := fun ρ => .ok true ρ
theorem PTs.imp {X : Cx} {e : List Expr} {t u : TT} (h : PTs X e t) (k : ∀ σ H Q, u σ H Q → t σ H Q) : PTs X e u := ⟨fun pins s σ H Q I q => h.run pins s σ H Q I (k σ H Q q)⟩
theorem dts_nil {X : Cx} {K : PySem.W.Frag} : PTs X [] (tTs K yesT) := PTs.imp pts_nil fun σ H Q ⟨G, T, S, ρ, s, g⟩ => g S H s
theorem dts_one {X : Cx} {c : Expr} {f : Ev → Rs Bool} (h : DT X W0 c f) : PTs X [c] (tTs X.K f) := pts_one h
end
end Y
/-! Y: statements and loops -/
namespace Y
open PySem PySem.Spec PyProof.Rows L2

inductive Ctl where
  | nx
  | rt (o : O)
  | bk
  | ct
def GoS (K : PySem.W.Frag) (W : XW) (G : Fra) (T : List (V × E)) (Dn : Ends) : Rs Ctl → Prop
  | .ok .nx ρ' => ∀ σ' S' H', Stt K G T ρ' σ' S' H' → Dn.nx σ' H'
  | .ok (.rt o) ρ' => ∀ v σ' S' H', Stt K G ((v, ow o) :: T) ρ' σ' S' H' → Dn.rt v H'
  | .ok .bk ρ' => ∀ σ' S' H', Stt K G T ρ' σ' S' H' → Dn.bk σ' H'
  | .ok .ct ρ' => ∀ σ' S' H', Stt K G T ρ' σ' S' H' → Dn.ct σ' H'
  | .er x ρ' => ∀ σ' S' H', Stt K G T ρ' σ' S' H' → W x σ' H'
  | .stk => False
def tS (K : PySem.W.Frag) (W : XW) (f : Ev → Rs Ctl) : TS := fun Dn σ H => ∃ G T S ρ, Stt K G T ρ σ S H ∧ GoS K W G T Dn (f ρ)
abbrev DS (X : Cx) (W : XW) (st : Stmt) (f : Ev → Rs Ctl) : Prop := PS X st (tS X.K W f)
abbrev DSs (X : Cx) (W : XW) (sts : List Stmt) (f : Ev → Rs Ctl) : Prop := PSs X sts (tS X.K W f)
theorem PS.imp {X : Cx} {e : Stmt} {t u : TS} (h : PS X e t) (k : ∀ D σ H, u D σ H → t D σ H) : PS X e u := ⟨fun pins s σ H D I q => h.run pins s σ H D I (k D σ H q)⟩
theorem PSs.imp {X : Cx} {e : List Stmt} {t u : TS} (h : PSs X e t) (k : ∀ D σ H, u D σ H → t D σ H) : PSs X e u := ⟨fun pins s σ H D I q => h.run pins s σ H D I (k D σ H q)⟩
section
variable {K : PySem.W.Frag} {W : XW} {G : Fra} {T T1 : List (V × E)} {σ : Sg} {S H : Hp} {ρ : Ev} {α : Type} {Dn : Ends}
/-- an expression ahead of a statement's rest -/
theorem seqS {f : Ev → Rs α} {k : α → Ev → Rs Ctl} {P : α → Ev → Prop} (hT : ∀ ρ' S' H', Stt K G T1 ρ' σ S' H' → Stt K G T ρ' σ S' H')
    (hk : ∀ a ρ', GoS K W G T Dn (k a ρ') → P a ρ') (h : GoS K W G T Dn (bnd f k ρ)) : GoR K W G T1 σ P (f ρ) := by
  unfold bnd at h
  cases e : f ρ with
  | ok a ρ' => rw [e] at h; exact hk a ρ' h
  | er x ρ' => rw [e] at h; exact fun S' H' s => h σ S' H' (hT _ _ _ s)
  | stk => rw [e] at h; exact h
end
/-! ### small statements, blocks -/
def nxS : Ev → Rs Ctl := fun ρ => .ok .nx ρ
def bkS : Ev → Rs Ctl := fun ρ => .ok .bk ρ
def ctS : Ev → Rs Ctl := fun ρ => .ok .ct ρ
def cons (f g : Ev → Rs Ctl) : Ev → Rs Ctl := fun ρ => match f ρ with
  | .ok .nx ρ' => g ρ'
  | .ok c ρ' => .ok c ρ'
  | .er x ρ' => .er x ρ'
  | .stk => .stk
def ifS (t : Ev → Rs Bool) (f g : Ev → Rs Ctl) : Ev → Rs Ctl := bnd t fun b ρ => if b = true then f ρ else g ρ
def retS (f : Ev → Rs O) : Ev → Rs Ctl := bnd f fun o ρ => .ok (.rt o) ρ
def retN : Ev → Rs Ctl := fun ρ => .ok (.rt (.leaf .none)) ρ
def asgS (f : Ev → Rs O) (g : O → Ev → Rs Unit) : Ev → Rs Ctl := bnd f fun o => bnd (g o) fun _ ρ => .ok .nx ρ
section
variable {X : Cx} {W : XW} {st : Stmt} {sts a b : List Stmt} {e c tg : Expr} {pos : Pos} {f g : Ev → Rs Ctl} {fe : Ev → Rs O} {ft : Ev → Rs Bool} {gt : O → Ev → Rs Unit}
theorem dss_nil : DSs X W [] nxS := PSs.imp pss_nil fun Dn σ H ⟨G, T, S, ρ, s, q⟩ => q σ S H s
theorem dss_cons (h1 : DS X W st f) (h2 : DSs X W sts g) : DSs X W (st :: sts) (cons f g) := PSs.imp (pss_cons h1 h2) fun Dn σ H ⟨G, T, S, ρ, s, q⟩ => by
  refine ⟨G, T, S, ρ, s, ?_⟩
  unfold cons at q
  cases e1 : f ρ with
  | stk => rw [e1] at q; exact q
  | er x ρ' => rw [e1] at q; exact q
  | ok c ρ' =>
    rw [e1] at q
    cases c with
    | nx => exact fun σ' S' H' s' => ⟨G, T, S', ρ', s', q⟩
    | rt d => exact q
    | bk => exact q
    | ct => exact q
theorem dss_one (h1 : DS X W st f) : DSs X W [st] f := pss_one h1
theorem ds_pass : DS X W (.Pass pos) nxS := PS.imp ps_pass fun Dn σ H ⟨G, T, S, ρ, s, q⟩ => q σ S H s
theorem ds_break : DS X W (.Break pos) bkS := PS.imp ps_break fun Dn σ H ⟨G, T, S, ρ, s, q⟩ => q σ S H s
theorem ds_continue : DS X W (.Continue pos) ctS := PS.imp ps_continue fun Dn σ H ⟨G, T, S, ρ, s, q⟩ => q σ S H s
theorem ds_if (hc : DT X W c ft) (ha : DSs X W a f) (hb : DSs X W b g) : DS X W (.If c a b pos) (ifS ft f g) := PS.imp (ps_if hc ha hb) fun Dn σ H ⟨G, T, S, ρ, s, q⟩ => by
  refine ⟨G, T, S, ρ, s, seqS sid ?_ q⟩
  intro b ρ' z S' H' s'
  cases b with
  | true => exact ⟨G, T, S', ρ', s', z⟩
  | false => exact ⟨G, T, S', ρ', s', z⟩
theorem ds_ret (h : DE X W e fe) : DS X W (.Return (some e) pos) (retS fe) := PS.imp (ps_ret h) fun Dn σ H ⟨G, T, S, ρ, s, q⟩ => by
  refine ⟨G, T, S, ρ, s, seqS sid ?_ q⟩
  intro o ρ' z v S' H' s'
  exact z v σ S' H' s'
/-- a name's value, moved out: for the def's end -/
def mv (i : Nat) : Ev → Rs O := fun ρ => match ρ[i]? with
  | some (some ⟨false, .leaf d⟩) => .ok (.leaf d) ρ
  | some (some ⟨true, .leaf d⟩) => .ok (.leaf d) ρ
  | some (some ⟨false, o⟩) => .ok o (ρ.set i none)
  | _ => .stk
theorem de_mv {i : Nat} (h : PE X e (tVar i)) : DE X W e (mv i) := PE.imp h fun σ H Q ⟨G, T, S, ρ, s, g⟩ => by
  unfold mv at g
  have lf1 : ∀ {io : Bool} {d : D}, ρ[i]? = some (some ⟨io, .leaf d⟩) → (∀ v S' H', Stt X.K G ((v, ow (.leaf d)) :: T) ρ σ S' H' → Q v H') → tVar i σ H Q := fun ho g => by
    obtain ⟨v, hv, s1⟩ := s.take ho
    obtain ⟨F, o, _⟩ := s1.head
    cases o with
    | leaf r => exact ⟨v, hv, g v S H (s.push r)⟩
  split at g
  · rename_i d ho; exact lf1 ho g
  · rename_i d ho; exact lf1 ho g
  · rename_i o h1 ho
    obtain ⟨v, hv, s1⟩ := s.take ho
    exact ⟨v, hv, g v S H s1⟩
  · exact g.elim
theorem ds_retN : DS X W (.Return none pos) retN := PS.imp ps_retN fun Dn σ H ⟨G, T, S, ρ, s, q⟩ => q .non σ S H (s.push .non)
theorem ds_asg (he : DE X W e fe) (hg : DG' X W tg gt) (hs : swapsWithSole [tg] e pos.line X.env = pure false := by rfl) (hw : swappedStores [tg] e X.env = pure none := by rfl)
    (h1 : (assignEach [tg] X.env).map (·.2) = [assign tg X.env] := by rfl) : DS X W (.Assign [tg] e pos) (asgS fe gt) := PS.imp (ps_asg he hg hs hw h1) fun Dn σ H ⟨G, T, S, ρ, s, q⟩ => by
  refine ⟨G, T, S, ρ, s, seqS sid ?_ q⟩
  intro o ρ' z v S' H' s'
  refine ⟨G, T, S', ρ', o, s', ?_⟩
  unfold bnd at z
  cases e1 : gt o ρ' with
  | ok u ρ2 => rw [e1] at z; exact z
  | er x ρ2 => rw [e1] at z; exact z
  | stk => rw [e1] at z; exact z
/-- an expression for what it does -/
def tXq (K : PySem.W.Frag) (W : XW) (f : Ev → Rs Unit) : TE := fun σ H Q => ∃ G T S ρ, Stt K G T ρ σ S H ∧ GoR K W G T σ (fun _ ρ' => ∀ v S' H', Stt K G T ρ' σ S' H' → Q v H') (f ρ)
abbrev DX (X : Cx) (W : XW) (e : Expr) (f : Ev → Rs Unit) : Prop := PE X e (tXq X.K W f)
def expS (f : Ev → Rs Unit) : Ev → Rs Ctl := bnd f fun _ ρ => .ok .nx ρ
theorem ds_expr {f : Ev → Rs Unit} (h : DX X W e f) (hs : swapsWith e none pos.line X.env = pure false := by rfl) : DS X W (.Expr e pos) (expS f) := PS.imp (ps_expr h hs) fun Dn σ H ⟨G, T, S, ρ, s, q⟩ => by
  refine ⟨G, T, S, ρ, s, seqS sid ?_ q⟩
  intro o ρ' z v S' H' s'
  exact z σ S' H' s'
def dropE (f : Ev → Rs O) : Ev → Rs Unit := bnd f fun _ ρ => .ok () ρ
theorem dx_e (h : DE X W e fe) : DX X W e (dropE fe) := PE.imp h fun σ H Q ⟨G, T, S, ρ, s, g⟩ => by
  refine ⟨G, T, S, ρ, s, seq sid ?_ g⟩
  intro o ρ' z v S' H' s'
  exact z v S' H' s'.drop1
end

/-! ### for -/
def clrs (ρ : Ev) : List Nat → Ev
  | [] => ρ
  | i :: is => (clrs ρ is).set i none
theorem Stt.clrs {K : PySem.W.Frag} {G : Fra} {T : List (V × E)} {ρ : Ev} {σ : Sg} {S H : Hp} (s : Stt K G T ρ σ S H) : ∀ is : List Nat, Stt K G T (clrs ρ is) σ S H
  | [] => s
  | i :: is => (s.clrs is).clr i
def forGo (cl : List Nat) (tg : O → Ev → Rs Unit) (body : Ev → Rs Ctl) : List D → Ev → Rs Ctl
  | [], ρ => .ok .nx ρ
  | d :: ds, ρ => match tg (.leaf d) ρ with
    | .ok _ ρ1 => (match body ρ1 with
      | .ok .nx ρ2 => forGo cl tg body ds (clrs ρ2 cl)
      | .ok .ct ρ2 => forGo cl tg body ds (clrs ρ2 cl)
      | .ok .bk ρ2 => .ok .nx ρ2
      | .ok (.rt d) ρ2 => .ok (.rt d) ρ2
      | .er x ρ2 => .er x ρ2
      | .stk => .stk)
    | .er x ρ1 => .er x ρ1
    | .stk => .stk
def forS (it : Ev → Rs (List D)) (tg : O → Ev → Rs Unit) (body : Ev → Rs Ctl) (cl : List Nat) : Ev → Rs Ctl := bnd it fun ds ρ => forGo cl tg body ds (clrs ρ cl)
section
variable {X : Cx} {W : XW} {tg iter c : Expr} {body : List Stmt} {pos : Pos} {it : Ev → Rs (List D)} {gt : O → Ev → Rs Unit} {fb : Ev → Rs Ctl} {ft : Ev → Rs Bool}
theorem GoS.dropL {K : PySem.W.Frag} {G : Fra} {T L : List (V × E)} {Dn : Ends} : ∀ {r : Rs Ctl}, GoS K W G T Dn r → GoS K W G (L ++ T) Dn r
  | .ok .nx ρ', h => fun σ' S' H' s => h σ' S' H' s.dropL
  | .ok (.rt d) ρ', h => fun v σ' S' H' s => h v σ' S' H' (s.subT (List.Sublist.cons_cons _ (List.sublist_append_right _ _)))
  | .ok .bk ρ', h => fun σ' S' H' s => h σ' S' H' s.dropL
  | .ok .ct ρ', h => fun σ' S' H' s => h σ' S' H' s.dropL
  | .er x ρ', h => fun σ' S' H' s => h σ' S' H' s.dropL
  | .stk, h => h
theorem ds_for (b : Bd X) (hp : PassesOwn (model X.prog X.w) X.A X.env X.xe) (cl : List Nat) (hi : DI X W tg iter it) (hg : DG' X W tg gt) (hb : DSs X W body fb) (hs : ∀ x, foldedSetIterable iter X.env x = pure x := by intro _; rfl) :
    DS X W (.For tg iter body [] pos) (forS it gt fb cl) := PS.imp (ps_for hp b.calm hi hg hb hs) fun Dn σ H ⟨G, T, S, ρ, s, q⟩ => by
  refine ⟨G, T, S, ρ, s, seqS sid ?_ q⟩
  intro ds ρ1 z J L S1 H1 s1 iok
  refine ⟨fun i m σ' H' => m = ds.length - i ∧ i ≤ ds.length ∧ ∃ ρi S', Stt X.K G (L ++ T) ρi σ' S' H' ∧ GoS X.K W G T Dn (forGo cl gt fb (ds.drop i) ρi), ⟨ds.length, by omega, Nat.zero_le _, clrs ρ1 cl, S1, s1.clrs cl, z⟩, ?_⟩
  rintro i m σ' H' ⟨rfl, hi, ρi, S', si, qi⟩
  have iok' := iok G T ρi σ' S' H' si
  by_cases hlt : i < ds.length
  · have hd : ds[i]? = some ds[i] := List.getElem?_eq_getElem hlt
    obtain ⟨go, yld⟩ := iok'.1 i _ hd
    have hdrop : ds.drop i = ds[i] :: ds.drop (i + 1) := List.drop_eq_getElem_cons hlt
    rw [hdrop] at qi
    refine .inr ⟨go, fun σ2 H2 => i + 1 ≤ ds.length ∧ ∃ ρi S', Stt X.K G (L ++ T) ρi σ2 S' H2 ∧ GoS X.K W G T Dn (forGo cl gt fb (ds.drop (i + 1)) ρi), fun σ2 H2 h2 => ⟨ds.length - (i + 1), by omega, rfl, h2.1, h2.2⟩, ?_⟩
    intro x H2 y
    obtain ⟨S2, sx⟩ := yld x H2 y
    refine ⟨G, L ++ T, S2, ρi, .leaf ds[i], sx, ?_⟩
    unfold forGo at qi
    cases e1 : gt (.leaf ds[i]) ρi with
    | stk => rw [e1] at qi; exact qi
    | er x ρ' => rw [e1] at qi; exact fun σ' S' H' s' => qi σ' S' H' s'.dropL
    | ok u ρa =>
      rw [e1] at qi
      intro σ3 S3 H3 s3
      refine ⟨G, L ++ T, S3, ρa, s3, ?_⟩
      simp only at qi
      cases e2 : fb ρa with
      | stk => rw [e2] at qi; exact qi
      | er x ρ' => rw [e2] at qi; exact fun σ' S' H' s' => qi σ' S' H' s'.dropL
      | ok c ρb =>
        rw [e2] at qi
        cases c with
        | nx => exact fun σ4 S4 H4 s4 => ⟨hlt, clrs ρb cl, S4, s4.clrs cl, qi⟩
        | ct => exact fun σ4 S4 H4 s4 => ⟨hlt, clrs ρb cl, S4, s4.clrs cl, qi⟩
        | bk => exact fun σ4 S4 H4 s4 => qi σ4 S4 H4 s4.dropL
        | rt d => exact fun v σ4 S4 H4 s4 => qi v σ4 S4 H4 (s4.subT (List.Sublist.cons_cons _ (List.sublist_append_right _ _)))
  · have e : i = ds.length := by omega
    subst e
    rw [List.drop_length] at qi
    exact .inl ⟨iok'.2 _ (Nat.le_refl _), qi σ' S' H' si.dropL⟩

/-! ### while -/
def whN (cl : List Nat) (c : Ev → Rs Bool) (body : Ev → Rs Ctl) : Nat → Ev → Rs Ctl
  | 0, _ => .stk
  | n + 1, ρ => match c ρ with
    | .ok true ρ1 => (match body ρ1 with
      | .ok .nx ρ2 => whN cl c body n (clrs ρ2 cl)
      | .ok .ct ρ2 => whN cl c body n (clrs ρ2 cl)
      | .ok .bk ρ2 => .ok .nx ρ2
      | .ok (.rt d) ρ2 => .ok (.rt d) ρ2
      | .er x ρ2 => .er x ρ2
      | .stk => .stk)
    | .ok false ρ1 => .ok .nx ρ1
    | .er x ρ1 => .er x ρ1
    | .stk => .stk
open Classical in
/-- the while's outcome, where it has one -/
noncomputable def whS (cl : List Nat) (c : Ev → Rs Bool) (body : Ev → Rs Ctl) : Ev → Rs Ctl := fun ρ => if h : ∃ n, whN cl c body n (clrs ρ cl) ≠ .stk then whN cl c body (choose h) (clrs ρ cl) else .stk
theorem whN_mono {cl : List Nat} {c : Ev → Rs Bool} {body : Ev → Rs Ctl} : ∀ {n : Nat} {ρ : Ev}, whN cl c body n ρ ≠ .stk → ∀ m, n ≤ m → whN cl c body m ρ = whN cl c body n ρ
  | 0, ρ, h, _, _ => absurd rfl h
  | n + 1, ρ, h, m, hm => by
    obtain ⟨k, rfl⟩ : ∃ k, m = k + 1 := ⟨m - 1, by omega⟩
    unfold whN at h ⊢
    cases e1 : c ρ with
    | stk => rfl
    | er x ρ' => rfl
    | ok b ρ1 =>
      rw [e1] at h
      cases b with
      | false => rfl
      | true =>
        simp only at h ⊢
        cases e2 : body ρ1 with
        | stk => rfl
        | er x ρ' => rfl
        | ok c' ρ2 =>
          rw [e2] at h
          cases c' with
          | nx => exact whN_mono h k (by omega)
          | ct => exact whN_mono h k (by omega)
          | bk => rfl
          | rt d => rfl
theorem whS_eq {cl : List Nat} {c : Ev → Rs Bool} {body : Ev → Rs Ctl} {ρ : Ev} {n : Nat} {r : Rs Ctl} (h : whN cl c body n (clrs ρ cl) = r) (hr : r ≠ .stk) : whS cl c body ρ = r := by
  unfold whS
  have he : ∃ n, whN cl c body n (clrs ρ cl) ≠ .stk := ⟨n, by rw [h]; exact hr⟩
  rw [dif_pos he]
  have h1 := Classical.choose_spec he
  rcases Nat.le_total n (Classical.choose he) with hle | hle
  · rw [whN_mono (by rw [h]; exact hr) _ hle, h]
  · rw [← whN_mono h1 _ hle, h]
theorem ds_while (b : Bd X) (hp : PassesOwn (model X.prog X.w) X.A X.env X.xe) (cl : List Nat) (hc : DT X W c ft) (hb : DSs X W body fb) : DS X W (.While c body [] pos) (whS cl ft fb) := PS.imp (ps_while hp hc hb) fun Dn σ H ⟨G, T, S, ρ, s, q⟩ => by
  have hq : ∃ n, GoS X.K W G T Dn (whN cl ft fb n (clrs ρ cl)) := by
    unfold whS at q
    split at q
    · rename_i h
      exact ⟨_, q⟩
    · exact q.elim
  obtain ⟨n, q⟩ := hq
  refine ⟨fun m σ' H' => ∃ ρi S', Stt X.K G T ρi σ' S' H' ∧ GoS X.K W G T Dn (whN cl ft fb m ρi), ⟨n, clrs ρ cl, S, s.clrs cl, q⟩, ?_⟩
  rintro m σ' H' ⟨ρi, S', si, qi⟩
  cases m with
  | zero => exact qi.elim
  | succ m =>
    refine ⟨G, T, S', ρi, si, ?_⟩
    unfold whN at qi
    cases e1 : ft ρi with
    | stk => rw [e1] at qi; exact qi
    | er x ρ' => rw [e1] at qi; exact fun S' H' s' => qi σ' S' H' s'
    | ok b ρ1 =>
      rw [e1] at qi
      intro S2 H2 s2
      cases b with
      | false => exact qi σ' S2 H2 s2
      | true =>
        rw [if_pos rfl]
        refine ⟨fun σ3 H3 => ∃ ρi S', Stt X.K G T ρi σ3 S' H3 ∧ GoS X.K W G T Dn (whN cl ft fb m ρi), fun σ3 H3 h3 => ⟨m, Nat.lt_succ_self m, h3⟩, G, T, S2, ρ1, s2, ?_⟩
        simp only at qi
        cases e2 : fb ρ1 with
        | stk => rw [e2] at qi; exact qi
        | er x ρ' => rw [e2] at qi; exact qi
        | ok c ρ2 =>
          rw [e2] at qi
          cases c with
          | nx => exact fun σ4 S4 H4 s4 => ⟨clrs ρ2 cl, S4, s4.clrs cl, qi⟩
          | ct => exact fun σ4 S4 H4 s4 => ⟨clrs ρ2 cl, S4, s4.clrs cl, qi⟩
          | bk => exact qi
          | rt d => exact qi
end
/-! ### list.append on a name of ours -/
def appS (j : Nat) (fe : Ev → Rs O) : Ev → Rs Unit := bnd (bv j) fun _ ρ => match ρ[j]? with
  | some (some ⟨_, .lst _⟩) => bnd fe (fun o ρ1 => match ρ1[j]? with
    | some (some ⟨io, .lst ds⟩) => if ds.length < sizeLine then .ok () (ρ1.set j (some ⟨io, .lst (ds ++ [o.d])⟩)) else .stk
    | _ => .stk) ρ
  | _ => .stk
section
variable {X : Cx} {W : XW} {o e : Expr} {apos pos : Pos} {fe : Ev → Rs O}
theorem dx_append {j : Nat} (ho : PE X o (tVar j)) (he : DE X W e fe) (hat : attributeBase o "append" X.env (eval o X.env) = eval o X.env := by rfl)
    (hall : (((backTo pos (starEach [e] X.env)).all fun x => !x.fst) && ((backToKw pos (keywordEach [] X.env)).all fun x => x.fst.isSome) && decide ((([e] : List Expr).length + ([] : List Keyword).length + if ([] : List Keyword).isEmpty = true then 0 else 1) < 30)) = true := by rfl)
    (hline : (apos.endLine == pos.line) = true := by rfl) (hs : starEach [e] X.env = (false, eval e X.env) :: starEach [] X.env := by rfl) (hpl : ((backTo pos (starEach [] X.env)).any fun x => x.fst) = false := by rfl) :
    DX X W (.Call (.Attribute o "append" apos) [e] [] pos) (appS j fe) := PE.imp (pe_bm PySem.F.plainAttrs_list PySem.F.slot_list_append PySem.F.type_list_append mt_append ho (pa_cons he pa_nil hs) hat hall hline hs hpl) fun σ H Q ⟨G, T, S, ρ, s, g⟩ => by
  unfold appS bnd bv at g
  cases e0 : ρ[j]? with
  | none => rw [e0] at g; exact g.elim
  | some m =>
    cases m with
    | none => rw [e0] at g; exact g.elim
    | some ex =>
      obtain ⟨w, hw, s0⟩ := s.take e0
      rw [e0] at g
      simp only [e0] at g
      obtain ⟨io, o⟩ := ex
      cases o with
      | leaf d => exact g.elim
      | dic d => exact g.elim
      | lst ds0 =>
        simp only at g
        obtain ⟨F0, own0, _⟩ := s0.head
        have hrt := own0.rt s0.sub
        obtain ⟨a, xs0, rfl, h1, _⟩ := hrt.lst_of
        refine ⟨_, hw, .inl ⟨rfl, xs0, h1⟩, G, T, S, ρ, s, ?_⟩
        cases e1 : fe ρ with
        | stk => rw [e1] at g; exact g.elim
        | er x ρ' => rw [e1] at g; exact g
        | ok oe ρ1 =>
          rw [e1] at g
          intro v S1 H1 s1
          simp only at g
          cases e2 : ρ1[j]? with
          | none => rw [e2] at g; exact g.elim
          | some m =>
            cases m with
            | none => rw [e2] at g; exact g.elim
            | some ex1 =>
              rw [e2] at g
              obtain ⟨io1, o1⟩ := ex1
              cases o1 with
              | leaf d => exact g.elim
              | dic d => exact g.elim
              | lst ds =>
                simp only at g
                split at g
                · rename_i hlen
                  obtain ⟨S2, s2, _, rv⟩ := s1.freeze
                  obtain ⟨w', hw', s3⟩ := s2.take e2
                  rw [hw] at hw'
                  cases hw'
                  obtain ⟨F, own, _⟩ := s3.head
                  cases own with
                  | @lst _ xs _ eH nS rA =>
                    refine ⟨a, xs, v, rfl, rfl, eH, by rw [rA.length]; exact hlen, ?_⟩
                    have s4 := s3.write (o' := .lst (ds ++ [oe.d])) (.lst eH nS rA) (u := .lst (xs ++ [v])) (.lst upd_same nS (rA.app (.cons rv .nil)))
                    have s5 := s4.back e2 hw fun io => s2.ios j _ e2 io
                    exact g _ S2 _ s5.drop1
                · exact g.elim
end
end Y
/-! Y: defs of the text, their calls -/
namespace Y
open PySem PySem.Spec PyProof.Rows L2

abbrev Fn := List E → Rs O
/-- what a def computes: n parameters, N names -/
def fnS (n N : Nat) (body : Ev → Rs Ctl) : Fn := fun es => match body (es.map some ++ List.replicate (N - n) none) with
  | .ok .nx ρ => .ok (.leaf .none) ρ
  | .ok (.rt o) ρ => .ok o ρ
  | .ok _ _ => .stk
  | .er x ρ => .er x ρ
  | .stk => .stk
/-- a def's promise -/
def spF (K : PySem.W.Frag) (n : Nat) (F : Fn) : Sp := fun vs H Q _ => vs.length = n ∧ ∃ S M es, es.length = n ∧ Stt K ⟨S, H, M, vs.map some⟩ [] (es.map some) (vs.map some) S H ∧
  match F es with
  | .ok o ρ' => ∀ v σ' S' H', Stt K ⟨S, H, M, vs.map some⟩ [(v, ow o)] ρ' σ' S' H' → Q v H'
  | _ => False
theorem Sl.pad {σ : Sg} {ρ : Ev} {L : List (V × E)} (h : Sl σ ρ L) (m : Nat) : Sl (σ ++ List.replicate m none) (ρ ++ List.replicate m none) L := by
  induction h with
  | nil =>
    induction m with
    | zero => exact .nil
    | succ m ih => exact .out ih
  | out _ ih => exact .out ih
  | inn _ ih => exact .inn ih
theorem Stt.pad {K : PySem.W.Frag} {G : Fra} {T : List (V × E)} {ρ : Ev} {σ : Sg} {S H : Hp} (s : Stt K G T ρ σ S H) (m : Nat) : Stt K G T (ρ ++ List.replicate m none) (σ ++ List.replicate m none) S H := by
  have hl := s.len
  obtain ⟨L, F, sl, sep⟩ := s.res
  refine ⟨s.sub, s.s0, s.keep, s.dom, s.new, fun i e h io => ?_, L, F, sl.pad m, sep⟩
  by_cases hi : i < ρ.length
  · rw [List.getElem?_append_left hi] at h
    rw [List.getElem?_append_left (by omega)]
    exact s.ios i e h io
  · rw [List.getElem?_append_right (by omega), List.getElem?_replicate] at h
    split at h <;> cases h
section
variable {P : Program} {w : World} {K : PySem.W.Frag} {mg : Str → Option Value} {base : Heap}
theorem fn_ok {x qual : Str} {st : Stmt} {f : Addr} {fd : FuncData} {N ps : List Str} {k : Nat} (F : L2.Fun K x qual st f fd) (Sc : FnScope N ps (L2.defScope st)) (body : Ev → Rs Ctl)
    (hb : ∀ (cdv : Value) (A : Around) (outer : List Env) (s : Shared) (H : Hp) (E : XK), Room k (A.deeper (envOfC qual (L2.defScope st) s.heap.objs.size f cdv)) →
      DSs (cxOf CX0 P w K mg base N qual (L2.defScope st) f cdv A outer s H E).nox W0 (L2.defBody st) body) :
    FnOk P w K mg base CX0 (k + 1) f fd ps (spF K ps.length (fnS ps.length N.length body)) := by
  refine F.ok Sc (fun vs H Q E h => h.1) fun cdv A outer s H vs Q E hr h => ⟨_, hb cdv A outer s H E hr, ?_⟩
  obtain ⟨hl, S, M, es, hes, st', h⟩ := h
  unfold fnS at h
  refine ⟨⟨S, H, M, vs.map some⟩, [], S, es.map some ++ List.replicate (N.length - ps.length) none, ?_, ?_⟩
  · have := st'.pad (N.length - ps.length)
    unfold L2.start
    rw [hl]
    exact this
  · cases e : body (es.map some ++ List.replicate (N.length - ps.length) none) with
    | stk => rw [e] at h; exact h.elim
    | er x ρ' => rw [e] at h; exact h.elim
    | ok c ρ' =>
      rw [e] at h
      cases c with
      | nx => exact fun σ' S' H' s' => h .non σ' S' H' (s'.push .non)
      | rt d => exact fun v σ' S' H' s' => h v σ' S' H' s'
      | bk => exact h.elim
      | ct => exact h.elim
/-- nothing is promised -/
theorem fn_stk {f : Addr} {fd : FuncData} {ps : List Str} {k : Nat} : FnOk P w K mg base CX0 k f fd ps (spF K ps.length fun _ => .stk) :=
  ⟨fun vs H Q E h => h.1, fun A outer s H args us vs Q E hr e0 hb r h => by
    obtain ⟨_, S, M, es, _, _, h⟩ := h
    exact h.elim⟩
end

/-! ### calls -/
def ce (e : E) : E := match e.o with
  | .leaf d => lf d
  | o => ⟨true, o⟩
/-- what is handed in; a list or dict of ours is lent -/
def lend : List B → Ev → Option (List E × Ev)
  | [], ρ => some ([], ρ)
  | .tmp o :: bs, ρ => (match lend bs ρ with | some (es, ρ') => some (lf o.d :: es, ρ') | none => none)
  | .slot j :: bs, ρ => (match ρ[j]? with
    | some (some ⟨io, .leaf d⟩) => (match lend bs ρ with | some (es, ρ') => some (lf d :: es, ρ') | none => none)
    | some (some ⟨io, .lst d⟩) => (match lend bs (ρ.set j none) with | some (es, ρ') => some (⟨io, .lst d⟩ :: es, ρ') | none => none)
    | some (some ⟨io, .dic d⟩) => (match lend bs (ρ.set j none) with | some (es, ρ') => some (⟨io, .dic d⟩ :: es, ρ') | none => none)
    | _ => none)
/-- what was lent comes back -/
def unlend (ρ' : Ev) : Nat → List B → List E → Ev → Option Ev
  | _, [], _, ρ => some ρ
  | i, .tmp _ :: bs, _ :: es, ρ => unlend ρ' (i + 1) bs es ρ
  | i, .slot j :: bs, e :: es, ρ => (match e.o with
    | .leaf _ => unlend ρ' (i + 1) bs es ρ
    | _ => (match ρ'[i]? with
      | some (some ⟨true, o'⟩) => unlend ρ' (i + 1) bs es (ρ.set j (some ⟨e.io, o'⟩))
      | _ => none))
  | _, _, _, _ => none
def callS (F : Fn) (fs : Ev → Rs (List B)) : Ev → Rs O := bnd fs fun bs ρ => match lend bs ρ with
  | some (es, ρl) => (match F (es.map ce) with
    | .ok d ρ' => (match unlend ρ' 0 bs es ρl with | some ρ2 => .ok d ρ2 | none => .stk)
    | _ => .stk)
  | none => .stk
inductive Lent (G : Fra) (σ : Sg) : List V → List B → List E → Prop
  | nil : Lent G σ [] [] []
  | leaf {v : V} {vs : List V} {b : B} {bs : List B} {d : D} {es : List E} : Lent G σ vs bs es → Lent G σ (v :: vs) (b :: bs) (lf d :: es)
  | own {v : V} {vs : List V} {j : Nat} {bs : List B} {e : E} {es : List E} : σ[j]? = some (some v) → (e.io = true → σ[j]? = G.P[j]?) → (∀ d, e.o ≠ .leaf d) → Lent G σ vs bs es → Lent G σ (v :: vs) (.slot j :: bs) (e :: es)
theorem Lent.len {G : Fra} {σ : Sg} {vs : List V} {bs : List B} {es : List E} (h : Lent G σ vs bs es) : es.length = vs.length := by
  induction h with
  | nil => rfl
  | leaf _ ih => simp [ih]
  | own _ _ _ _ ih => simp [ih]
section
variable {K : PySem.W.Frag} {G : Fra} {T : List (V × E)} {ρ : Ev} {σ : Sg} {S H : Hp}
theorem lend_run {vs : List V} {bs : List B} (h : AllAt σ vs bs) : ∀ {T : List (V × E)} {ρ : Ev} {S : Hp} {es : List E} {ρl : Ev}, lend bs ρ = some (es, ρl) → Stt K G (tms vs bs ++ T) ρ σ S H → ∃ S', Stt K G (vs.zip es ++ T) ρl σ S' H ∧ Lent G σ vs bs es := by
  induction h with
  | nil => intro T ρ S es ρl e s; cases e; exact ⟨S, s, .nil⟩
  | @cons v b vs bs a h ih =>
    intro T ρ S es ρl e s
    cases b with
    | tmp o =>
      unfold lend at e
      split at e
      · rename_i es' ρ' he
        cases e
        have s' : Stt K G ((v, ow o) :: (tms vs bs ++ T)) ρ σ S H := s
        obtain ⟨S1, s1, _, _⟩ := s'.freeze
        obtain ⟨S2, s2, l2⟩ := ih he (s1.permT (T' := tms vs bs ++ ((v, lf o.d) :: T)) List.perm_middle.symm)
        exact ⟨S2, s2.permT List.perm_middle, .leaf l2⟩
      · cases e
    | slot j =>
      have s' : Stt K G (tms vs bs ++ T) ρ σ S H := s
      have a : σ[j]? = some (some v) := a
      unfold lend at e
      split at e
      · rename_i io d hj
        split at e
        · rename_i es' ρ' he
          cases e
          obtain ⟨v', hv', s1⟩ := s'.take hj
          rw [a] at hv'
          cases hv'
          obtain ⟨F, o, _⟩ := s1.head
          cases o with
          | leaf r =>
            have s2 := s'.push r
            obtain ⟨S2, s3, l2⟩ := ih he (s2.permT (T' := tms vs bs ++ ((v, lf d) :: T)) List.perm_middle.symm)
            exact ⟨S2, s3.permT List.perm_middle, .leaf l2⟩
        · cases e
      · rename_i io d hj
        split at e
        · rename_i es' ρ' he
          cases e
          obtain ⟨v', hv', s1⟩ := s'.take hj
          rw [a] at hv'
          cases hv'
          obtain ⟨S2, s3, l2⟩ := ih he (s1.permT (T' := tms vs bs ++ ((v, ⟨io, .lst d⟩) :: T)) List.perm_middle.symm)
          exact ⟨S2, s3.permT List.perm_middle, .own a (s.ios j _ hj) (by intro d z; cases z) l2⟩
        · cases e
      · rename_i io d hj
        split at e
        · rename_i es' ρ' he
          cases e
          obtain ⟨v', hv', s1⟩ := s'.take hj
          rw [a] at hv'
          cases hv'
          obtain ⟨S2, s3, l2⟩ := ih he (s1.permT (T' := tms vs bs ++ ((v, ⟨io, .dic d⟩) :: T)) List.perm_middle.symm)
          exact ⟨S2, s3.permT List.perm_middle, .own a (s.ios j _ hj) (by intro d z; cases z) l2⟩
        · cases e
      · cases e
theorem Own.notup {v : V} {o : O} {F : List Addr} (h : Own K S H v o F) : ∀ a ∈ F, ∀ xs, H a ≠ some (.tup xs) := by
  intro a m
  cases h with
  | leaf r => cases m
  | lst e n r => simp at m; subst m; rw [e]; intro xs z; cases z
  | dK e n r => simp at m; subst m; rw [e]; intro xs z; cases z
  | dT e n _ r => simp at m; subst m; rw [e]; intro xs z; cases z
theorem Sep.notup {L : List (V × E)} {F : List Addr} (h : Sep K G S H L F) : ∀ a ∈ F, ∀ xs, H a ≠ some (.tup xs) := by
  induction h with
  | nil => intro a m; cases m
  | cons o f _ dj ih =>
    intro a m
    rcases List.mem_append.mp m with m | m
    · exact o.notup a m
    · exact ih a m
theorem Sep.split {A L : List (V × E)} : ∀ {F : List Addr}, Sep K G S H (A ++ L) F → ∃ FA FB, Sep K G S H A FA ∧ Sep K G S H L FB ∧ (∀ a ∈ FA, a ∉ FB) ∧ F = FA ++ FB := by
  induction A with
  | nil => intro F h; exact ⟨[], F, .nil, h, by simp, rfl⟩
  | cons x A ih =>
    intro F h
    cases h with
    | @cons v e _ F1 F2 o f h2 dj =>
      obtain ⟨FA, FB, h3, h4, h5, rfl⟩ := ih h2
      refine ⟨F1 ++ FA, FB, .cons o f h3 fun a m m' => dj a m (List.mem_append_left _ m'), h4, fun a m m' => ?_, (List.append_assoc _ _ _).symm⟩
      rcases List.mem_append.mp m with m | m
      · exact dj a m (List.mem_append_right _ m')
      · exact h5 a m m'
theorem Sep.join {A L : List (V × E)} {FB : List Addr} (hB : Sep K G S H L FB) : ∀ {FA : List Addr}, Sep K G S H A FA → (∀ a ∈ FA, a ∉ FB) → Sep K G S H (A ++ L) (FA ++ FB) := by
  intro FA h
  induction h with
  | nil => intro _; exact hB
  | @cons v e _ F1 F2 o f h2 dj ih =>
    intro h5
    have := ih fun a m => h5 a (List.mem_append_right _ m)
    refine (List.append_assoc F1 F2 FB) ▸ Sep.cons o f this fun a m m' => ?_
    rcases List.mem_append.mp m' with m' | m'
    · exact dj a m m'
    · exact h5 a (List.mem_append_left _ m) m'
theorem Sl.all : ∀ {vs : List V} {es : List E}, es.length = vs.length → Sl (vs.map some) (es.map some) (vs.zip es)
  | [], [], _ => .nil
  | v :: vs, e :: es, h => .inn (Sl.all (by simpa using h))
/-- the callee's resources -/
theorem sep_ce {P : Sg} {M : Addr → Prop} : ∀ {vs : List V} {es : List E} {F : List Addr}, Sep K G S H (vs.zip es) F → (∀ a ∈ F, M a) → es.length = vs.length → Sep K ⟨S, H, M, P⟩ S H (vs.zip (es.map ce)) F
  | [], [], _, h, _, _ => by cases h; exact .nil
  | v :: vs, e :: es, F, h, hm, hl => by
    cases h with
    | @cons _ _ _ F1 F2 o f h2 dj =>
      have ih := sep_ce (P := P) h2 (fun a m => hm a (List.mem_append_right _ m)) (by simpa using hl)
      refine .cons (e := ce e) ?_ (fun a m => ?_) ih dj
      · obtain ⟨io, o'⟩ := e
        cases o' <;> exact o
      · have := hm a (List.mem_append_left _ m)
        obtain ⟨io, o'⟩ := e
        cases o' with
        | leaf d => cases o; cases m
        | lst d => exact .inl this
        | dic d => exact .inl this
def retT (ρ' : Ev) : Nat → List V → List E → List (V × E)
  | i, v :: vs, e :: es => (match e.o with
    | .leaf _ => []
    | _ => (match ρ'[i]? with
      | some (some ⟨true, o'⟩) => [(v, ⟨true, o'⟩)]
      | _ => [])) ++ retT ρ' (i + 1) vs es
  | _, _, _ => []
def retV (ρ' : Ev) : Nat → List V → List E → List (V × E)
  | i, v :: vs, e :: es => (match e.o with
    | .leaf _ => []
    | _ => (match ρ'[i]? with
      | some (some ⟨true, o'⟩) => [(v, ⟨e.io, o'⟩)]
      | _ => [])) ++ retV ρ' (i + 1) vs es
  | _, _, _ => []
theorem retT_set {ρ' : Ev} {j : Nat} : ∀ {vs : List V} {es : List E} {i : Nat}, j < i → retT (ρ'.set j none) i vs es = retT ρ' i vs es
  | [], _, _, _ => by cases ‹List E› <;> rfl
  | _ :: _, [], _, _ => rfl
  | v :: vs, e :: es, i, h => by
    unfold retT
    rw [List.getElem?_set_ne (by omega), retT_set (by omega)]
theorem ret_run : ∀ {vs : List V} {es : List E} {i : Nat} {T : List (V × E)} {ρ : Ev}, Stt K G T ρ σ S H → (∀ k v, vs[k]? = some v → G.P[i + k]? = some (some v)) → ∃ ρ2, Stt K G (retT ρ i vs es ++ T) ρ2 σ S H
  | [], es, i, T, ρ, s, _ => by cases es <;> exact ⟨ρ, s⟩
  | v :: vs, [], i, T, ρ, s, _ => ⟨ρ, s⟩
  | v :: vs, e :: es, i, T, ρ, s, hP => by
    have hP' : ∀ k v', vs[k]? = some v' → G.P[i + 1 + k]? = some (some v') := fun k v' h => by
      have := hP (k + 1) v' (by simpa using h)
      rw [show i + 1 + k = i + (k + 1) by omega]
      exact this
    unfold retT
    have skip : ∃ ρ2, Stt K G ([] ++ retT ρ (i + 1) vs es ++ T) ρ2 σ S H := ret_run s hP'
    have one : (match ρ[i]? with
      | some (some ⟨true, o'⟩) => [(v, (⟨true, o'⟩ : E))]
      | _ => []) = [] ∨ ∃ o', ρ[i]? = some (some ⟨true, o'⟩) ∧ (match ρ[i]? with
      | some (some ⟨true, o'⟩) => [(v, (⟨true, o'⟩ : E))]
      | _ => []) = [(v, ⟨true, o'⟩)] := by
      split
      · rename_i o' ho; exact .inr ⟨o', ho, rfl⟩
      · exact .inl rfl
    have main : ∃ ρ2, Stt K G ((match ρ[i]? with
      | some (some ⟨true, o'⟩) => [(v, (⟨true, o'⟩ : E))]
      | _ => []) ++ retT ρ (i + 1) vs es ++ T) ρ2 σ S H := by
      rcases one with h | ⟨o', ho, h⟩
      · rw [h]; exact skip
      · rw [h]
        obtain ⟨w, hw, s1⟩ := s.take ho
        have e1 := s.ios i _ ho rfl
        have e2 := hP 0 v rfl
        rw [Nat.add_zero] at e2
        rw [e2, hw] at e1
        cases e1
        obtain ⟨ρ2, s2⟩ := ret_run (es := es) s1 hP'
        rw [retT_set (Nat.lt_succ_self i)] at s2
        exact ⟨ρ2, s2.permT List.perm_middle⟩
    split
    · exact skip
    · exact main
theorem ret_conv {G' : Fra} {S1 H1 : Hp} {ρ' : Ev} : ∀ {vs : List V} {es : List E} {i : Nat} {FR FA : List Addr}, Sep K G' S H (retT ρ' i vs es) FR → Sep K G S1 H1 (vs.zip es) FA → Sep K G S H (retV ρ' i vs es) FR ∧ ∀ a ∈ FR, a ∈ FA
  | [], es, i, FR, FA, h, _ => by cases es <;> (cases h; exact ⟨.nil, by simp⟩)
  | v :: vs, [], i, FR, FA, h, _ => by cases h; exact ⟨.nil, by simp⟩
  | v :: vs, e :: es, i, FR, FA, h, h2 => by
    cases h2 with
    | @cons _ _ _ F1 F2 o f h3 dj =>
      have skip : ∀ {FR}, Sep K G' S H ([] ++ retT ρ' (i + 1) vs es) FR → Sep K G S H ([] ++ retV ρ' (i + 1) vs es) FR ∧ ∀ a ∈ FR, a ∈ F1 ++ F2 := fun h => by
        obtain ⟨g1, g2⟩ := ret_conv h h3
        exact ⟨g1, fun a m => List.mem_append_right _ (g2 a m)⟩
      have one : ∀ {FR}, (∀ d, e.o ≠ .leaf d) → Sep K G' S H ((match ρ'[i]? with
        | some (some ⟨true, o'⟩) => [(v, (⟨true, o'⟩ : E))]
        | _ => []) ++ retT ρ' (i + 1) vs es) FR → Sep K G S H ((match ρ'[i]? with
        | some (some ⟨true, o'⟩) => [(v, (⟨e.io, o'⟩ : E))]
        | _ => []) ++ retV ρ' (i + 1) vs es) FR ∧ ∀ a ∈ FR, a ∈ F1 ++ F2 := fun {FR} hne h => by
        split at h
        · rename_i o' ho
          cases h with
          | @cons _ _ _ F1' F2' o2 f2 h4 dj2 =>
            obtain ⟨g1, g2⟩ := ret_conv h4 h3
            have sub : ∀ a ∈ F1', a ∈ F1 := by
              obtain ⟨io, eo⟩ := e
              cases eo with
              | leaf d => exact absurd rfl (hne d)
              | lst d => cases o; cases o2 <;> simp
              | dic d => cases o <;> cases o2 <;> simp
            refine ⟨.cons (e := ⟨e.io, o'⟩) o2 (fun a m => f a (sub a m)) g1 dj2, fun a m => ?_⟩
            rcases List.mem_append.mp m with m | m
            · exact List.mem_append_left _ (sub a m)
            · exact List.mem_append_right _ (g2 a m)
        · exact skip h
      unfold retT at h
      unfold retV
      obtain ⟨io, eo⟩ := e
      cases eo with
      | leaf d => exact skip h
      | lst d => exact one (by intro d z; cases z) h
      | dic d => exact one (by intro d z; cases z) h
/-- a temporary is given to the slot whose value it is -/
theorem Stt.give {i : Nat} {v : V} {e : E} (s : Stt K G ((v, e) :: T) ρ σ S H) (hv : σ[i]? = some (some v)) (hio : e.io = true → σ[i]? = G.P[i]?) : Stt K G T (ρ.set i (some e)) σ S H := by
  have hl : i < σ.length := (List.getElem?_eq_some_iff.mp hv).1
  have hi : i < ρ.length := by rw [← s.len]; exact hl
  obtain ⟨L, F, sl, sep⟩ := s.res
  obtain ⟨L', L'', sb, sl', p⟩ := sl.put v e hl
  have e1 : σ.set i (some v) = σ := by
    obtain ⟨h1, h2⟩ := List.getElem?_eq_some_iff.mp hv
    rw [← h2, List.set_getElem_self]
  rw [e1] at sl'
  obtain ⟨F1, sep1, _⟩ := sep.sub ((List.Sublist.cons_cons (v, e) ((List.Sublist.refl T).append sb)))
  obtain ⟨F2, sep2, _⟩ := sep1.perm ((List.perm_middle.symm).trans (List.Perm.append_left T p.symm))
  refine ⟨s.sub, s.s0, s.keep, s.dom, s.new, fun j e2 q io => ?_, L'', F2, sl', sep2⟩
  by_cases hj : i = j
  · subst hj
    rw [List.getElem?_set_self hi] at q
    cases q
    exact hio io
  · rw [List.getElem?_set_ne hj] at q
    exact s.ios j e2 q io
theorem unlend_run {vs : List V} {bs : List B} {es : List E} (h : Lent G σ vs bs es) {ρ' : Ev} : ∀ {i : Nat} {ρ ρ2 : Ev} {T : List (V × E)}, unlend ρ' i bs es ρ = some ρ2 → Stt K G (retV ρ' i vs es ++ T) ρ σ S H → Stt K G T ρ2 σ S H := by
  induction h with
  | nil => intro i ρ ρ2 T e s; cases e; exact s
  | @leaf v vs b bs d es h ih =>
    intro i ρ ρ2 T e s
    have s : Stt K G (retV ρ' (i + 1) vs es ++ T) ρ σ S H := s
    have e : unlend ρ' (i + 1) bs es ρ = some ρ2 := by
      cases b <;> exact e
    exact ih e s
  | @own v vs j bs e es h1 h2 h3 h ih =>
    intro i ρ ρ2 T e' s
    obtain ⟨io, eo⟩ := e
    have go : (match ρ'[i]? with
      | some (some ⟨true, o'⟩) => unlend ρ' (i + 1) bs es (ρ.set j (some ⟨io, o'⟩))
      | _ => none) = some ρ2 → Stt K G ((match ρ'[i]? with
      | some (some ⟨true, o'⟩) => [(v, (⟨io, o'⟩ : E))]
      | _ => []) ++ retV ρ' (i + 1) vs es ++ T) ρ σ S H → Stt K G T ρ2 σ S H := fun e' s => by
      split at e'
      · rename_i o' ho
        rw [ho] at s
        exact ih e' (s.give h1 h2)
      · cases e'
    cases eo with
    | leaf d => exact absurd rfl (h3 d)
    | lst d => exact go e' s
    | dic d => exact go e' s
end
section
variable {X : Cx} {fs : Ev → Rs (List B)}
theorem call_run {n : Nat} {F : Fn} {σ : Sg} {H : Hp} {Q : VK} (q : tE X.K W0 (callS F fs) σ H Q) (hn : ∀ ρ bs ρ', fs ρ = .ok bs ρ' → bs.length = n) : tCall (spF X.K n F) [] E0 (tA X.K W0 fs) σ H Q := by
  obtain ⟨G, T, S, ρ, s, q⟩ := q
  refine ⟨G, T, S, ρ, s, ?_⟩
  unfold callS bnd at q
  cases e0 : fs ρ with
  | stk => rw [e0] at q; exact q
  | er x ρ' => rw [e0] at q; exact q
  | ok bs ρ1 =>
    rw [e0] at q
    intro vs S1 H1 s1 at1
    simp only at q
    cases e1 : lend bs ρ1 with
    | none => rw [e1] at q; exact q.elim
    | some p =>
      obtain ⟨es, ρl⟩ := p
      rw [e1] at q
      simp only at q
      obtain ⟨S2, s2, ln⟩ := lend_run at1 e1 s1
      have hle := ln.len
      have hvl : vs.length = n := by rw [at1.len]; exact hn ρ bs ρ1 e0
      rw [List.append_nil]
      obtain ⟨L, FF, sl, sep⟩ := s2.res
      rw [List.append_assoc] at sep
      obtain ⟨FA, FB, sA, sB, dj, _⟩ := sep.split
      refine ⟨hvl, S2, fun a => a ∈ FA, es.map ce, by rw [List.length_map]; omega, ?_, ?_⟩
      · exact ⟨s2.sub, Same.refl _, fun a o _ h => h, fun a h => h, fun a _ h => .inl h, fun i e h io => rfl, _, FA, Sl.all (by rw [List.length_map]; exact hle), by rw [List.nil_append]; exact sep_ce sA (fun a m => m) hle⟩
      · cases e2 : F (es.map ce) with
        | stk => rw [e2] at q; exact q.elim
        | er x ρ' => rw [e2] at q; exact q.elim
        | ok d ρ' =>
          rw [e2] at q
          intro v σ' S' H' s'
          simp only at q
          cases e3 : unlend ρ' 0 bs es ρl with
          | none => rw [e3] at q; exact q.elim
          | some ρ2 =>
            rw [e3] at q
            refine q v S' H' ?_
            -- what was lent
            have hP : ∀ k w, vs[k]? = some w → (vs.map some)[0 + k]? = some (some w) := fun k w h => by
              rw [Nat.zero_add, List.getElem?_map, h]; rfl
            obtain ⟨ρ3, s3⟩ := ret_run (vs := vs) (es := es) (i := 0) s' hP
            obtain ⟨L3, F3, sl3, sep3⟩ := s3.res
            rw [List.append_assoc] at sep3
            obtain ⟨FR, F4, sR, sRest, djR, _⟩ := sep3.split
            obtain ⟨sR2, hsub⟩ := ret_conv (G := G) sR sA
            cases sRest with
            | @cons _ _ _ F5 F6 oV fV _ djV =>
              have hFB : ∀ a ∈ FB, H' a = H1 a ∧ S' a = none := fun a m => by
                obtain ⟨h1, h2⟩ := sB.there a m
                have hk : H' a = H1 a := by
                  cases e : H1 a with
                  | none => exact absurd e h1
                  | some o => exact s'.keep a o (fun z => dj a z m) e
                refine ⟨hk, ?_⟩
                rcases s'.new a h1 h2 with h | ⟨xs, h⟩
                · exact h
                · have := s'.sub _ _ h
                  rw [hk] at this
                  exact absurd this (sB.notup a m xs)
              have sB' : Sep X.K G S' H' (T ++ L) FB := sB.mono s'.s0 hFB
              have hV : ∀ a ∈ F5, H1 a = none := fV
              have sV : Sep X.K G S' H' ((v, ow d) :: (T ++ L)) (F5 ++ FB) := .cons oV (fun a m => by
                show G.H0 a = none
                cases q : G.H0 a with
                | none => rfl
                | some o => exact absurd (hV a m) (s2.dom a (by rw [q]; simp))) sB' (fun a m m' => (sB.there a m').1 (hV a m))
              have sAll := Sep.join sV sR2 (fun a m m' => by
                rcases List.mem_append.mp m' with m' | m'
                · exact djR a m (List.mem_append_left _ m')
                · exact dj a (hsub a m) m')
              have flA : ∀ a ∈ FA, G.M a ∨ G.H0 a = none := by
                have key : ∀ {A : List (V × E)} {F : List Addr}, Sep X.K G S2 H1 A F → ∀ a ∈ F, G.M a ∨ G.H0 a = none := by
                  intro A F h
                  induction h with
                  | nil => intro a m; cases m
                  | @cons v e _ F1 F2 o f _ _ ih =>
                    intro a m
                    rcases List.mem_append.mp m with m | m
                    · have := f a m
                      unfold Flag at this
                      split at this
                      · exact this
                      · exact .inr this
                    · exact ih a m
                exact key sA
              have newT : ∀ a, G.H0 a ≠ none → G.S0 a = none → S' a = none ∨ ∃ xs, S' a = some (.tup xs) := fun a h h' => by
                rcases s2.new a h h' with h2 | ⟨xs, h2⟩
                · exact s'.new a (s2.dom a h) h2
                · exact .inr ⟨xs, s'.s0 _ _ h2⟩
              refine unlend_run ln e3 (ρ' := ρ') ?_
              refine ⟨s'.sub, s2.s0.trans s'.s0, fun a o hm h => ?_, fun a h => s'.dom a (s2.dom a h), fun a h h' => newT a h h', s2.ios, L, FR ++ (F5 ++ FB), sl, ?_⟩
              · refine s'.keep a o (fun z => ?_) (s2.keep a o hm h)
                rcases flA a z with z | z
                · exact hm z
                · rw [z] at h; cases h
              · rw [List.append_assoc]; exact sAll
end
/-- how many arguments -/
def Ar (n : Nat) (fs : Ev → Rs (List B)) : Prop := ∀ ρ bs ρ', fs ρ = .ok bs ρ' → bs.length = n
theorem ar_nil : Ar 0 aNil := fun _ _ _ h => by cases h; rfl
theorem ar_cons {n : Nat} {f : Ev → Rs B} {r : Ev → Rs (List B)} (h : Ar n r) : Ar (n + 1) (aCons f r) := fun ρ bs ρ' e => by
  unfold aCons bnd at e
  cases e1 : f ρ with
  | stk => rw [e1] at e; cases e
  | er x ρ' => rw [e1] at e; cases e
  | ok b ρ1 =>
    rw [e1] at e
    simp only at e
    cases e2 : r ρ1 with
    | stk => rw [e2] at e; cases e
    | er x ρ' => rw [e2] at e; cases e
    | ok bs' ρ2 =>
      rw [e2] at e
      simp only at e
      cases e
      rw [List.length_cons, h _ _ _ e2]
abbrev Cal (P : Program) (w : World) (K : PySem.W.Frag) (mg : Str → Option Value) (base : Heap) (k : Nat) (x : Str) (n : Nat) (F : Fn) : Prop := C8.Cal P w K mg base k x (spF K n F) []
section
variable {X : Cx} {k j n : Nat} {x : Str} {F : Fn} {e : Expr} {es : List Expr} {p pos : Pos} {fs : Ev → Rs (List B)}
theorem de_call (c : Cal X.prog X.w X.K X.mg X.base k x n F) (hr : Room j X.A) (hk : k ≤ j) (hg : Gl X x) (ha : DA X W0 (e :: es) fs) (hn : Ar n fs)
    (hdb : (x == ("__debug__" : Str)) = false := by decide) (he : starEach (e :: es) X.env = (false, eval e X.env) :: starEach es X.env := by rfl) (hpl : (backTo pos (starEach es X.env)).any (·.1) = false := by rfl) :
    DE X W0 (.Call (.Name x p) (e :: es) [] pos) (callS F fs) := PE.imp (C8.pe_c c hr hk hg ha hdb he hpl) fun σ H Q q => call_run q hn
end
end Y
/-! Y: isinstance, methods of texts, walking a dict -/
namespace Y
open PySem PySem.Spec PyProof.Rows L2

/-! ### isinstance(x, T) -/
def tyN : D → String
  | .none => "NoneType"
  | .bool _ => "bool"
  | .int _ => "int"
  | .str _ => "str"
  | .list _ => "list"
  | .tuple _ => "tuple"
  | .dict _ => "dict"
def isT (d : D) (t : String) : Option Bool := if t = "int" then some (match d with | .int _ => true | .bool _ => true | _ => false) else if t = "str" ∨ t = "list" ∨ t = "tuple" ∨ t = "dict" ∨ t = "bool" then some (tyN d == t) else none
theorem isT_kit {d : D} {t : String} {b : Bool} (h : isT d t = some b) : kitB (tyN d) t = some b := by
  unfold isT at h
  split at h
  · rename_i e
    subst e
    cases d <;> cases h <;> (dsimp only [tyN]; decide +kernel)
  · split at h
    · rename_i e
      cases h
      rcases e with e | e | e | e | e <;> subst e <;> cases d <;> (dsimp only [tyN]; decide +kernel)
    · cases h
def rIsY (K : PySem.W.Frag) : List V → Hp → VK → Prop := fun xs H Q => ∃ (x : V) (d : D) (t : String) (b : Bool) (S : Hp), xs = [x, .ty t] ∧ Rt K S H x d ∧ isT d t = some b ∧ Q (.bl b) H
theorem call_isY {X : Cx} : CallR X (.builtin "isinstance") (rIsY X.K) := by
  intro pins s σ H xs us Q I r h
  obtain ⟨x, d, t, b, S, rfl, rt, e, q⟩ := h
  have ek := isT_kit e
  have base : ∀ {tv : String}, TyX X.K H x (.type tv) → tyN d = tv → wpAny (model X.prog X.w) X.A (call (.builtin "isinstance") us) (EP X pins σ Q) X.xe s := fun {tv} ty et => by
    subst et
    exact call_isi pins s σ H _ us Q I r ⟨x, .ty t, .type (tyN d), .type t, b, rfl, .ty t, ty, kit_ty ek, q⟩
  cases rt with
  | non => exact base (.base .non) rfl
  | bl k => exact base (.base (.bl k)) rfl
  | int i => exact base (.base (.int i)) rfl
  | str y hy => exact base (.base (.str y)) rfl
  | lst h1 h2 =>
    rcases h1 with (h1 | ⟨o, h1⟩) | ⟨o, _, _, h1, h2, _⟩
    · exact base (.base (.lst h1)) rfl
    · exact base (.base (.frz h1)) rfl
    · exact base (.kList h1 h2) rfl
  | tup h0 h1 h2 => exact base (.base (.tup h1)) rfl
  | dK h1 h2 h3 =>
    rcases h1 with h1 | ⟨o, h1⟩
    · exact base (.base (.dK h1)) rfl
    · exact base (.fDict h1) rfl
  | dT h1 h2 h3 =>
    rcases h1 with h1 | ⟨o, h1⟩
    · exact base (.base (.dT h1)) rfl
    · obtain ⟨u1, u2, rfl, r1, r2⟩ := vals2 r
      cases (show u2 = Value.type t from r2)
      cases r1
      obtain ⟨hs, hgd, hx, _⟩ := I.frzT h1
      exact PySem.W.kia_one PySem.W.kitx_dict I.kIn ⟨o, hgd, hx.1⟩ (kit_ty ek) (fun z => nomatch z) fun tk => ⟨.bl b, H, I.tok tk, rfl, q⟩
def isiE (t : String) (fa : Ev → Rs B) : Ev → Rs Bool := bnd fa fun b ρ => match b.val ρ with
  | some d => (match isT d t with | some k => .ok k ρ | none => .stk)
  | none => .stk
section
variable {X : Cx} {W : XW} {a : Expr} {fa : Ev → Rs B} {pos p p2 : Pos} {x : Str} {t : String}
theorem dv_isi (hg : Gl X "isinstance") (hm : X.mg "isinstance" = none) (ha : DB X W a fa) (hg2 : Gl X x) (hm2 : X.mg x = none) (hv : bootBuiltins x = some (.type t)) (hn : x ≠ "__name__" := by decide) (hd : (x == ("__debug__" : Str)) = false := by decide)
    (he : starEach [a, .Name x p2] X.env = (false, eval a X.env) :: starEach [.Name x p2] X.env := by rfl) (he2 : starEach [.Name x p2] X.env = (false, eval (.Name x p2) X.env) :: starEach [] X.env := by rfl) (hpl : (backTo pos (starEach [.Name x p2] X.env)).any (·.1) = false := by rfl) :
    DV X W (.Call (.Name "isinstance" p) [a, .Name x p2] [] pos) (isiE t fa) :=
  PE.imp (pe_callB call_isY hg hm (by rfl) (pa_cons ha (pa_cons (pe_bltn (v := .ty t) hg2 hm2 hv rfl hn hd) pa_nil he2) he) (he := he) (hpl := hpl)) fun σ H Q ⟨G, T, S, ρ, s, g⟩ => by
    refine ⟨G, T, S, ρ, s, seq sid ?_ g⟩
    intro b ρ1 z v S1 H1 s1 at1
    split at z
    · rename_i d hd
      split at z
      · rename_i k hk
        exact ⟨v, d, t, k, S1, rfl, B.rt s1 (fun x m => List.mem_append_left _ m) at1 hd, hk, z S1 H1 s1.dropL⟩
      · exact z.elim
    · exact z.elim
end

/-! ### len, dicts of text and int keys too -/
def kkeys (kvs : List (D × D)) : Bool := kvs.all fun p => (asKey p.1).isSome
def gLenA : List D → Option O
  | [.dict kvs] => some (.leaf (.int kvs.length))
  | ds => gLen ds
def rLenA (K : PySem.W.Frag) : List V → Hp → VK → Prop := fun xs H Q => (∃ x n, xs = [x] ∧ LenV K x H n ∧ Q (.int n) H) ∨ (∃ a kvs, xs = [V.ref a] ∧ (Rd H a (.dK kvs) ∨ (kvs = [] ∧ H a = some (.dT []))) ∧ Q (.int (kvs.length : Nat)) H) ∨
  ∃ (a : Addr) (kvs : List (List Key × V)), xs = [V.ref a] ∧ Rd H a (.dT kvs) ∧ Q (.int (kvs.length : Nat)) H
theorem call_lenA {X : Cx} : CallR X (.builtin "len") (rLenA X.K) := by
  intro pins s σ H xs us Q I r h
  rcases h with h | ⟨a, kvs, rfl, ha, q⟩ | ⟨a, kvs, rfl, ha, q⟩
  · exact call_len pins s σ H xs us Q I r h
  · obtain ⟨u, rfl, ru⟩ := vals1 r
    cases ru
    rcases ha with ha | ⟨rfl, ha⟩
    · exact d_len I ha fun t s' I' => ⟨.int kvs.length, H, I', ⟨t, rfl⟩, q⟩
    · refine d_len (Inv.tk I ha) (.inl upd_same) fun t s' I' => ?_
      have := Inv.kt I' upd_same
      rw [upd_back ha] at this
      exact ⟨.int (0 : Nat), H, this, ⟨t, rfl⟩, q⟩
  · obtain ⟨u, rfl, ru⟩ := vals1 r
    cases ru
    obtain ⟨z, hd, ys, rel, dd⟩ := dt_rd I.hok ha
    have hl : kvs.length = ys.length := Paired.length rel
    refine call_len_dictH hd dd (by rw [← hl]; rw [sizeLine_eq] at z; omega) ?_
    rw [← hl]
    exact ⟨.int ((kvs.length : Nat) : Int), H, I.tok _, ⟨_, rfl⟩, q⟩
theorem does_lenA {X : Cx} : DoesL X gLenA (rLenA X.K) := by
  intro xs ds o G T ρ σ S H Q s r e q
  have base : gLen ds = some o → rLenA X.K xs H Q := fun e => .inl (does_len xs ds o G T ρ σ S H Q s r e q)
  unfold gLenA at e
  split at e
  · rename_i kvs
    obtain ⟨x, rfl, rx⟩ := r.one
    cases e
    cases rx with
    | dK h1 h2 h3 => exact .inr (.inl ⟨_, _, rfl, .inl h1, by rw [h3.length]; exact s.val (.int _) q⟩)
    | dT h1 h2 h3 => exact .inr (.inr ⟨_, _, rfl, h1, by rw [h3.length]; exact s.val (.int _) q⟩)
  · exact base e

/-! ### methods -/
def tyOk (T : String) (d : D) : Bool := match d with
  | .str _ => T == "str"
  | .list _ => T == "list"
  | _ => false
def mth (T : String) (g : D → List D → Option O) (fo : Ev → Rs B) (fs : Ev → Rs (List B)) : Ev → Rs O := bnd fo fun a ρ => match a.val ρ with
  | some x => if tyOk T x = true then bnd fs (fun bs ρ' => match a.val ρ' with
    | some y => (match vals ρ' bs with
      | some ds => (match g y ds with | some o => .ok o ρ' | none => .stk)
      | none => .stk)
    | none => .stk) ρ else .stk
  | none => .stk
theorem tyOk_V {K : PySem.W.Frag} {S H : Hp} {v : V} {d : D} {T : String} (r : Rt K S H v d) (h : tyOk T d = true) : tyV K T v H := by
  cases r with
  | str x hx => exact eq_of_beq h
  | lst h1 h2 => exact .inl ⟨eq_of_beq h, _, h1⟩
  | _ => cases h
def DoesM (X : Cx) (g : D → List D → Option O) (r : V → List V → Hp → VK → Prop) : Prop := ∀ (x : V) (dx : D) (xs : List V) (ds : List D) (o : O) (G : Fra) (T : List (V × E)) (ρ : Ev) (σ : Sg) (S H : Hp) (Q : VK), Stt X.K G T ρ σ S H → Rt X.K S H x dx → RtA X.K S H xs ds → g dx ds = some o →
  (∀ v S' H', Stt X.K G ((v, ow o) :: T) ρ σ S' H' → Q v H') → r x xs H Q
section
variable {X : Cx} {W : XW} {o e : Expr} {es : List Expr} {apos pos : Pos} {fo : Ev → Rs B} {fs : Ev → Rs (List B)}
theorem mth_run {T : String} {g : D → List D → Option O} {r : V → List V → Hp → VK → Prop} (h : DoesM X g r) {σ : Sg} {H : Hp} {Q : VK} (q : tE X.K W (mth T g fo fs) σ H Q) : tBM X.K T r (tB' X.K W fo) (tA X.K W fs) σ H Q := by
  obtain ⟨G, TT, S, ρ, s, q⟩ := q
  refine ⟨G, TT, S, ρ, s, seq sid (fun a ρ1 z x S1 H1 s1 at1 => ?_) q⟩
  split at z
  · rename_i dx hx
    split at z
    · rename_i ht
      have rx : Rt X.K S1 H1 x dx := B.rt s1 (fun p m => List.mem_append_left _ m) at1 hx
      refine ⟨tyOk_V rx ht, G, a.tm x ++ TT, S1, ρ1, s1, seq sdr (fun bs ρ2 z2 xs S2 H2 s2 at2 => ?_) z⟩
      split at z2
      · rename_i y hy
        split at z2
        · rename_i ds hds
          split at z2
          · rename_i o ho
            have ry : Rt X.K S2 H2 x y := B.rt s2 (fun p m => List.mem_append_right _ (List.mem_append_left _ m)) at1 hy
            have rs := at2.rt s2 (fun p m => List.mem_append_left _ m) hds
            exact h x y xs ds o G _ ρ2 σ S2 H2 Q s2 ry rs ho fun v S' H' s' => z2 v S' H' (s'.subT (List.Sublist.cons_cons _ ((List.sublist_append_right _ _).trans (List.sublist_append_right _ _))))
          · exact z2.elim
        · exact z2.elim
      · exact z2.elim
    · exact z.elim
  · exact z.elim
theorem de_mth {T id : String} {name : Str} {g : D → List D → Option O} {r : V → List V → Hp → VK → Prop} (h : DoesM X g r) (pa : PlainAttrs T) (slot : Slot T name id) (hty : typeOf (.builtin id) = pure (.type "method_descriptor")) (hm : MtR X id r) (ho : DB X W o fo) (he : DA X W (e :: es) fs)
    (hbase : attributeBase o name X.env (eval o X.env) = eval o X.env := by rfl)
    (hfew : ((backTo pos (starEach (e :: es) X.env)).all (fun x => !x.1) && (backToKw pos (keywordEach [] X.env)).all (fun x => x.1.isSome)
      && decide ((e :: es).length + ([] : List Keyword).length + (if ([] : List Keyword).isEmpty then 0 else 1) < 30)) = true := by rfl)
    (hline : (apos.endLine == pos.line) = true := by rfl) (hs : starEach (e :: es) X.env = (false, eval e X.env) :: starEach es X.env := by rfl) (hplain : (backTo pos (starEach es X.env)).any (·.1) = false := by rfl) :
    DE X W (.Call (.Attribute o name apos) (e :: es) [] pos) (mth T g fo fs) := PE.imp (pe_bm pa slot hty hm ho he hbase hfew hline hs hplain) fun _ _ _ q => mth_run h q
def gStarts : D → List D → Option O
  | .str a, [.str b] => some (.leaf (.bool (Txt.startswith a b)))
  | _, _ => none
theorem does_starts : DoesM X gStarts (fun x xs H Q => ∃ a b, x = .str a ∧ xs = [.str b] ∧ Q (.bl (Txt.startswith a b)) H) := by
  intro x dx xs ds o G T ρ σ S H Q s rx r e q
  unfold gStarts at e
  split at e
  · obtain ⟨y, rfl, ry⟩ := r.one
    cases e
    have h2 := ry.str_of
    subst h2
    exact ⟨_, _, rx.str_of, rfl, s.val (.bl _) q⟩
  · cases e
end
end Y
/-! Y: walking a dict -/
namespace Y
open PySem PySem.Spec PyProof.Rows L2

/-! ### a dict is locked, and unlocked again -/
def DictNe : HO → Prop
  | .dK (_ :: _) => True
  | .dT (_ :: _) => True
  | _ => False
structure Sw (d : Addr) (S1 S2 : Hp) : Prop where
  off : ∀ b, b ≠ d → S2 b = S1 b
  at1 : ∃ od u, DictNe u ∧ ((S1 d = some u ∧ S2 d = some (.frz od u)) ∨ (S1 d = some (.frz od u) ∧ S2 d = some u))
section
variable {d a : Addr} {S1 S2 : Hp} {K : PySem.W.Frag}
theorem Sw.plain (w : Sw d S1 S2) {u : HO} (h : S1 a = some u) (h1 : ¬ DictNe u) (h2 : ∀ o v, DictNe v → u ≠ .frz o v) : S2 a = some u := by
  by_cases e : a = d
  · subst e
    exfalso
    obtain ⟨od, v, hv, ⟨g1, g2⟩ | ⟨g1, g2⟩⟩ := w.at1
    · rw [h] at g1; cases g1; exact h1 hv
    · rw [h] at g1; cases g1; exact h2 _ _ hv rfl
  · exact (w.off a e).trans h
theorem Sw.rd (w : Sw d S1 S2) {u : HO} (hf : ∀ o v, u ≠ .frz o v) (h : Rd S1 a u) : Rd S2 a u := by
  by_cases e : a = d
  · subst e
    obtain ⟨od, v, hv, ⟨g1, g2⟩ | ⟨g1, g2⟩⟩ := w.at1
    · rcases h with h | ⟨o, h⟩
      · rw [h] at g1; cases g1; exact .inr ⟨od, g2⟩
      · rw [h] at g1; cases g1; exact hv.elim
    · rcases h with h | ⟨o, h⟩
      · rw [h] at g1; cases g1; exact absurd rfl (hf od v)
      · rw [h] at g1; cases g1; exact .inl g2
  · rcases h with h | ⟨o, h⟩
    · exact .inl ((w.off a e).trans h)
    · exact .inr ⟨o, (w.off a e).trans h⟩
theorem Sw.sqL (w : Sw d S1 S2) {xs : List V} (h : SqL K S1 a xs) : SqL K S2 a xs := by
  rcases h with h | h
  · exact .inl (w.rd (fun _ _ z => nomatch z) h)
  · exact .inr h
theorem Sw.emK (w : Sw d S1 S2) {kvs : List (Key × V)} (h : kvs = [] → S1 a = some (.dK kvs)) : kvs = [] → S2 a = some (.dK kvs) := fun z => by
  have h := h z
  subst z
  exact w.plain h (fun z => z) (fun _ _ _ z => nomatch z)
theorem Sw.rdK (w : Sw d S1 S2) {kvs : List (Key × V)} (h : Rd S1 a (.dK kvs)) : Rd S2 a (.dK kvs) := w.rd (fun _ _ z => nomatch z) h
theorem Sw.rdT (w : Sw d S1 S2) {kvs : List (List Key × V)} (h : Rd S1 a (.dT kvs)) : Rd S2 a (.dT kvs) := w.rd (fun _ _ z => nomatch z) h
theorem Sw.tup (w : Sw d S1 S2) {xs : List V} (h : S1 a = some (.tup xs)) : S2 a = some (.tup xs) := w.plain h (fun z => z) (fun _ _ _ z => nomatch z)
end
mutual
theorem Rp.sw {d : Addr} {S1 S2 : Hp} {K : PySem.W.Frag} (w : Sw d S1 S2) : ∀ {v : V} {x : D}, Rp K S1 v x → Rp K S2 v x
  | _, _, .non => .non
  | _, _, .bl b => .bl b
  | _, _, .int i => .int i
  | _, _, .str x h => .str x h
  | _, _, .lst a b => .lst (w.sqL a) (RpA.sw w b)
  | _, _, .tup a b => .tup (w.tup a) (RpA.sw w b)
  | _, _, .dK a c b => .dK (w.rdK a) (w.emK c) (RpK.sw w b)
  | _, _, .dT a c b => .dT (w.rdT a) c (RpT.sw w b)
theorem RpA.sw {d : Addr} {S1 S2 : Hp} {K : PySem.W.Frag} (w : Sw d S1 S2) : ∀ {v : List V} {x : List D}, RpA K S1 v x → RpA K S2 v x
  | _, _, .nil => .nil
  | _, _, .cons a b => .cons (Rp.sw w a) (RpA.sw w b)
theorem RpK.sw {d : Addr} {S1 S2 : Hp} {K : PySem.W.Frag} (w : Sw d S1 S2) : ∀ {v : List (Key × V)} {x : List (D × D)}, RpK K S1 v x → RpK K S2 v x
  | _, _, .nil => .nil
  | _, _, .cons o a b => .cons o (Rp.sw w a) (RpK.sw w b)
theorem RpT.sw {d : Addr} {S1 S2 : Hp} {K : PySem.W.Frag} (w : Sw d S1 S2) : ∀ {v : List (List Key × V)} {x : List (D × D)}, RpT K S1 v x → RpT K S2 v x
  | _, _, .nil => .nil
  | _, _, .cons o a b => .cons o (Rp.sw w a) (RpT.sw w b)
end
section
variable {d a : Addr} {S1 S2 : Hp} {K : PySem.W.Frag}
theorem Sw.non (w : Sw d S1 S2) (h : S1 a = none) : S2 a = none := by
  by_cases e : a = d
  · subst e
    obtain ⟨od, v, hv, ⟨g1, g2⟩ | ⟨g1, g2⟩⟩ := w.at1 <;> rw [h] at g1 <;> cases g1
  · exact (w.off a e).trans h
theorem Sw.ne (w : Sw d S1 S2) (h : S1 a = none) : a ≠ d := fun e => by
  subst e
  obtain ⟨od, v, hv, ⟨g1, g2⟩ | ⟨g1, g2⟩⟩ := w.at1 <;> rw [h] at g1 <;> cases g1
theorem Own.sw {H1 H2 : Hp} (w : Sw d S1 S2) (hH : ∀ b, b ≠ d → H2 b = H1 b) {v : V} {o : O} {F : List Addr} (h : Own K S1 H1 v o F) : Own K S2 H2 v o F := by
  cases h with
  | leaf r => exact .leaf (r.sw w)
  | lst e n r => exact .lst ((hH _ (w.ne n)).trans e) (w.non n) (r.sw w)
  | dK e n r => exact .dK ((hH _ (w.ne n)).trans e) (w.non n) (r.sw w)
  | dT e n ne r => exact .dT ((hH _ (w.ne n)).trans e) (w.non n) ne (r.sw w)
theorem Sep.sw {G1 G2 : Fra} {H1 H2 : Hp} (w : Sw d S1 S2) (hH : ∀ b, b ≠ d → H2 b = H1 b) (hF : ∀ io a, a ≠ d → Flag G1 io a → Flag G2 io a) {L : List (V × E)} {F : List Addr} (h : Sep K G1 S1 H1 L F) : Sep K G2 S2 H2 L F := by
  induction h with
  | nil => exact .nil
  | @cons v e _ F1 F2 o f _ dj ih => exact .cons (o.sw w hH) (fun a m => hF _ a (w.ne (o.there a m).2) (f a m)) ih dj
end
/-- the frame of what runs under the lock -/
def Fra.lk (G : Fra) (d : Addr) (u : HO) : Fra := ⟨upd G.S0 d u, upd G.H0 d u, G.M, G.P⟩
theorem Stt.lock {K : PySem.W.Frag} {G : Fra} {T : List (V × E)} {ρ : Ev} {σ : Sg} {S H : Hp} {d : Addr} {u : HO} {od : Obj} (s : Stt K G T ρ σ S H) (hd : S d = some u) (hu : DictNe u) :
    Stt K (G.lk d (.frz od u)) T ρ σ (upd S d (.frz od u)) (upd H d (.frz od u)) ∧
    (∀ T' ρ' σ' S' H', Stt K (G.lk d (.frz od u)) T' ρ' σ' S' H' → H' d = some (.frz od u) ∧ Stt K G T' ρ' σ' (upd S' d u) (upd H' d u)) := by
  constructor
  · obtain ⟨L, F, sl, sep⟩ := s.res
    refine ⟨fun b o e => ?_, fun b o e => ?_, fun b o m e => ?_, fun b m => ?_, fun b m z => ?_, s.ios, L, F, sl, sep.sw ⟨fun b hb => upd_ne hb, od, u, hu, .inl ⟨hd, upd_same⟩⟩ (fun b hb => upd_ne hb) fun io a ha f => ?_⟩
    · by_cases hb : b = d
      · subst hb; rw [upd_same] at e ⊢; exact e
      · rw [upd_ne hb] at e ⊢; exact s.sub _ _ e
    · by_cases hb : b = d
      · subst hb
        have e : upd G.S0 b (.frz od u) b = some o := e
        rw [upd_same] at e ⊢; exact e
      · have e : upd G.S0 d (.frz od u) b = some o := e
        rw [upd_ne hb] at e ⊢; exact s.s0 _ _ e
    · by_cases hb : b = d
      · subst hb
        have e : upd G.H0 b (.frz od u) b = some o := e
        rw [upd_same] at e ⊢; exact e
      · have e : upd G.H0 d (.frz od u) b = some o := e
        rw [upd_ne hb] at e ⊢; exact s.keep _ _ m e
    · by_cases hb : b = d
      · subst hb; rw [upd_same]; simp
      · have m : upd G.H0 d (.frz od u) b ≠ none := m
        rw [upd_ne hb] at m ⊢; exact s.dom _ m
    · by_cases hb : b = d
      · subst hb
        have z : upd G.S0 b (.frz od u) b = none := z
        rw [upd_same] at z; cases z
      · have m : upd G.H0 d (.frz od u) b ≠ none := m
        have z : upd G.S0 d (.frz od u) b = none := z
        rw [upd_ne hb] at m z ⊢; exact s.new _ m z
    · unfold Flag at f ⊢
      show if io = true then G.M a ∨ upd G.H0 d (.frz od u) a = none else upd G.H0 d (.frz od u) a = none
      rw [upd_ne ha]
      exact f
  · intro T' ρ' σ' S' H' s'
    have eS : S' d = some (.frz od u) := s'.s0 d _ (show upd G.S0 d (.frz od u) d = _ from upd_same)
    have eH := s'.sub _ _ eS
    refine ⟨eH, ?_⟩
    obtain ⟨L, F, sl, sep⟩ := s'.res
    refine ⟨fun b o e => ?_, fun b o e => ?_, fun b o m e => ?_, fun b m => ?_, fun b m z => ?_, s'.ios, L, F, sl, sep.sw ⟨fun b hb => upd_ne hb, od, u, hu, .inr ⟨eS, upd_same⟩⟩ (fun b hb => upd_ne hb) fun io a ha f => ?_⟩
    · by_cases hb : b = d
      · subst hb; rw [upd_same] at e ⊢; exact e
      · rw [upd_ne hb] at e ⊢; exact s'.sub _ _ e
    · by_cases hb : b = d
      · subst hb
        have := s.s0 _ _ e
        rw [hd] at this
        rw [upd_same]; exact this
      · rw [upd_ne hb]
        exact s'.s0 b o (by show upd G.S0 d (.frz od u) b = some o; rw [upd_ne hb]; exact e)
    · by_cases hb : b = d
      · subst hb
        have := s.keep _ _ m e
        rw [s.sub _ _ hd] at this
        rw [upd_same]; exact this
      · rw [upd_ne hb]
        exact s'.keep b o m (by show upd G.H0 d (.frz od u) b = some o; rw [upd_ne hb]; exact e)
    · by_cases hb : b = d
      · subst hb; rw [upd_same]; simp
      · rw [upd_ne hb]
        exact s'.dom b (by show upd G.H0 d (.frz od u) b ≠ none; rw [upd_ne hb]; exact m)
    · by_cases hb : b = d
      · subst hb
        rcases s.new _ m z with h | ⟨xs, h⟩
        · rw [hd] at h; cases h
        · rw [hd] at h; cases h; exact hu.elim
      · rw [upd_ne hb]
        exact s'.new b (by show upd G.H0 d (.frz od u) b ≠ none; rw [upd_ne hb]; exact m) (by show upd G.S0 d (.frz od u) b = none; rw [upd_ne hb]; exact z)
    · have f : if io = true then G.M a ∨ upd G.H0 d (.frz od u) a = none else upd G.H0 d (.frz od u) a = none := f
      rw [upd_ne ha] at f
      exact f
/-- a tuple that stands there is shared -/
theorem Stt.tupIn {K : PySem.W.Frag} {G : Fra} {T : List (V × E)} {ρ : Ev} {σ : Sg} {S H : Hp} {q : Addr} {xs : List V} (s : Stt K G T ρ σ S H) (h : H q = some (.tup xs)) : ∃ S', Stt K G T ρ σ S' H ∧ Same S S' ∧ S' q = some (.tup xs) := by
  cases hS : S q with
  | some o =>
    have := s.sub _ _ hS
    rw [h] at this
    cases this
    exact ⟨S, s, Same.refl _, hS⟩
  | none =>
    have ss : Same S (upd S q (.tup xs)) := fun b o e => by rw [upd_ne (ne_of_none e hS)]; exact e
    obtain ⟨L, F, sl, sep⟩ := s.res
    have hF : ∀ a ∈ F, a ≠ q := fun a m z => sep.notup a m xs (z ▸ h)
    refine ⟨upd S q (.tup xs), ⟨fun b o e => ?_, s.s0.trans ss, s.keep, s.dom, fun b m z => ?_, s.ios, L, F, sl, sep.mono ss fun a m => ⟨rfl, by rw [upd_ne (hF a m)]; exact (sep.there a m).2⟩⟩, ss, upd_same⟩
    · by_cases hb : b = q
      · subst hb; rw [upd_same] at e; rw [← e]; exact h
      · rw [upd_ne hb] at e; exact s.sub _ _ e
    · by_cases hb : b = q
      · subst hb; exact .inr ⟨xs, upd_same⟩
      · rw [upd_ne hb]; exact s.new b m z

/-! ### the loop once, from what is walked -/
section
variable {K : PySem.W.Frag} {W : XW} {G : Fra} {T : List (V × E)} {gt : O → Ev → Rs Unit} {fb : Ev → Rs Ctl} {Dn : Ends}
def tFor1 (J : It) (g : TG) (tb : TS) (Dn : Ends) (σ : Sg) (H : Hp) : Prop := ∃ W : Nat → Nat → Sg → Hp → Prop, (∃ m, W 0 m σ H) ∧ ∀ i m σ H, W i m σ H →
  (J.stop i H ∧ Dn.nx σ H) ∨ (J.go i H ∧ ∃ N : Sg → Hp → Prop, (∀ σ' H', N σ' H' → ∃ m', m' < m ∧ W (i + 1) m' σ' H') ∧ ∀ x H', J.yld i H x H' → g x σ H' fun σ2 H2 => tb { Dn with nx := N, ct := N, bk := Dn.nx } σ2 H2)
def ItOkG (K : PySem.W.Frag) (G : Fra) (J : It) (ds : List D) (L : List (V × E)) : Prop := ∀ (T : List (V × E)) (ρ : Ev) (σ : Sg) (S H : Hp), Stt K G (L ++ T) ρ σ S H →
  (∀ (i : Nat) (d : D), ds[i]? = some d → J.go i H ∧ ∀ x H', J.yld i H x H' → ∃ S', Stt K G ((x, lf d) :: (L ++ T)) ρ σ S' H') ∧ (∀ i : Nat, ds.length ≤ i → J.stop i H)
theorem for_core {cl : List Nat} {σ : Sg} {S H : Hp} {ρ : Ev} {ds : List D} {J : It} {L : List (V × E)} (s1 : Stt K G (L ++ T) ρ σ S H) (iok : ItOkG K G J ds L) (z : GoS K W G T Dn (forGo cl gt fb ds (clrs ρ cl))) : tFor1 J (tG K W gt) (tS K W fb) Dn σ H := by
  refine ⟨fun i m σ' H' => m = ds.length - i ∧ i ≤ ds.length ∧ ∃ ρi S', Stt K G (L ++ T) ρi σ' S' H' ∧ GoS K W G T Dn (forGo cl gt fb (ds.drop i) ρi), ⟨ds.length, by omega, Nat.zero_le _, clrs ρ cl, S, s1.clrs cl, z⟩, ?_⟩
  rintro i m σ' H' ⟨rfl, hi, ρi, S', si, qi⟩
  have iok' := iok T ρi σ' S' H' si
  by_cases hlt : i < ds.length
  · have hd : ds[i]? = some ds[i] := List.getElem?_eq_getElem hlt
    obtain ⟨go, yld⟩ := iok'.1 i _ hd
    have hdrop : ds.drop i = ds[i] :: ds.drop (i + 1) := List.drop_eq_getElem_cons hlt
    rw [hdrop] at qi
    refine .inr ⟨go, fun σ2 H2 => i + 1 ≤ ds.length ∧ ∃ ρi S', Stt K G (L ++ T) ρi σ2 S' H2 ∧ GoS K W G T Dn (forGo cl gt fb (ds.drop (i + 1)) ρi), fun σ2 H2 h2 => ⟨ds.length - (i + 1), by omega, rfl, h2.1, h2.2⟩, ?_⟩
    intro x H2 y
    obtain ⟨S2, sx⟩ := yld x H2 y
    refine ⟨G, L ++ T, S2, ρi, .leaf ds[i], sx, ?_⟩
    unfold forGo at qi
    cases e1 : gt (.leaf ds[i]) ρi with
    | stk => rw [e1] at qi; exact qi
    | er x ρ' => rw [e1] at qi; exact fun σ' S' H' s' => qi σ' S' H' s'.dropL
    | ok u ρa =>
      rw [e1] at qi
      intro σ3 S3 H3 s3
      refine ⟨G, L ++ T, S3, ρa, s3, ?_⟩
      simp only at qi
      cases e2 : fb ρa with
      | stk => rw [e2] at qi; exact qi
      | er x ρ' => rw [e2] at qi; exact fun σ' S' H' s' => qi σ' S' H' s'.dropL
      | ok c ρb =>
        rw [e2] at qi
        cases c with
        | nx => exact fun σ4 S4 H4 s4 => ⟨hlt, clrs ρb cl, S4, s4.clrs cl, qi⟩
        | ct => exact fun σ4 S4 H4 s4 => ⟨hlt, clrs ρb cl, S4, s4.clrs cl, qi⟩
        | bk => exact fun σ4 S4 H4 s4 => qi σ4 S4 H4 s4.dropL
        | rt d => exact fun v σ4 S4 H4 s4 => qi v σ4 S4 H4 (s4.subT (List.Sublist.cons_cons _ (List.sublist_append_right _ _)))
  · have e : i = ds.length := by omega
    subst e
    rw [List.drop_length] at qi
    exact .inl ⟨iok'.2 _ (Nat.le_refl _), qi σ' S' H' si.dropL⟩
end
/-! ### for k in d -/
def keyL (kvs : List (D × D)) : List D := kvs.map (·.1)
theorem keyL_get {kvs : List (D × D)} {i : Nat} {k : D} (h : (keyL kvs)[i]? = some k) : ∃ d, kvs[i]? = some (k, d) := by
  unfold keyL at h
  rw [List.getElem?_map] at h
  obtain ⟨⟨a, b⟩, h1, h2⟩ := Option.map_eq_some_iff.mp h
  cases h2
  exact ⟨b, h1⟩
/-- what is walked of a locked dict: keys, values, pairs -/
inductive Wk where
  | ks
  | vs
  | its
def Wk.ds : Wk → List (D × D) → List D
  | .ks, es => keyL es
  | .vs, es => es.map (·.2)
  | .its, es => es.map fun p => .tuple [p.1, p.2]
def Wk.itK (d : Addr) (od : Obj) (kvs : List (Key × V)) : Wk → It
  | .ks => Itk d od kvs
  | .vs => Itd d od kvs
  | .its => Iti d od kvs
theorem Wk.len (k : Wk) (es : List (D × D)) : (k.ds es).length = es.length := by cases k <;> simp [Wk.ds, keyL]
theorem keyD_rp {K : PySem.W.Frag} {S : Hp} {k : Key} (h : okK k = true) : Rp K S (kV k) (keyD k) := by
  cases k with
  | inl i => exact .int i
  | inr i => exact .str i h
theorem RpK.getO {K : PySem.W.Frag} {S : Hp} : ∀ {kvs : List (Key × V)} {es : List (D × D)}, RpK K S kvs es → ∀ {i : Nat} {k d : D}, es[i]? = some (k, d) → ∃ k' v, kvs[i]? = some (k', v) ∧ k = keyD k' ∧ okK k' = true ∧ Rp K S v d
  | _, _, .nil, _, _, _, h => by simp at h
  | _, _, .cons (k := k') o a b, 0, _, _, h => by simp at h; obtain ⟨h1, h2⟩ := h; subst h1 h2; exact ⟨k', _, rfl, rfl, o, a⟩
  | _, _, .cons o a b, i + 1, _, _, h => by
    obtain ⟨k', v, e, r⟩ := RpK.getO b (i := i) (by simpa using h)
    exact ⟨k', v, by simpa using e, r⟩
theorem RpT.getO {K : PySem.W.Frag} {S : Hp} : ∀ {kvs : List (List Key × V)} {es : List (D × D)}, RpT K S kvs es → ∀ {i : Nat} {k d : D}, es[i]? = some (k, d) → ∃ k' v, kvs[i]? = some (k', v) ∧ k = .tuple (k'.map keyD) ∧ (∀ x ∈ k', okK x = true) ∧ Rp K S v d
  | _, _, .nil, _, _, _, h => by simp at h
  | _, _, .cons (k := k') o a b, 0, _, _, h => by simp at h; obtain ⟨h1, h2⟩ := h; subst h1 h2; exact ⟨k', _, rfl, rfl, o, a⟩
  | _, _, .cons o a b, i + 1, _, _, h => by
    obtain ⟨k', v, e, r⟩ := RpT.getO b (i := i) (by simpa using h)
    exact ⟨k', v, by simpa using e, r⟩
def Wk.pick : Wk → D → D → D
  | .ks, a, _ => a
  | .vs, _, b => b
  | .its, a, b => .tuple [a, b]
theorem Wk.get {k : Wk} {es : List (D × D)} {i : Nat} {x : D} (h : (k.ds es)[i]? = some x) : ∃ a b, es[i]? = some (a, b) ∧ x = k.pick a b := by
  cases k <;>
  · unfold Wk.ds at h
    try unfold keyL at h
    rw [List.getElem?_map] at h
    obtain ⟨⟨a, b⟩, h1, h2⟩ := Option.map_eq_some_iff.mp h
    exact ⟨a, b, h1, h2.symm⟩
section
variable {K : PySem.W.Frag} {G : Fra} {d : Addr} {od : Obj}
theorem itk_ok {kvs : List (Key × V)} {es : List (D × D)} (k : Wk) (h0 : G.S0 d = some (.frz od (.dK kvs))) : ItOkG K G (k.itK d od kvs) (k.ds es) [(.ref d, lf (.dict es))] := by
  intro T ρ σ S H s
  have hS := s.s0 _ _ h0
  have hH := s.sub _ _ hS
  obtain ⟨F, o, _⟩ := s.head
  have r0 : RpK K S kvs es := by
    cases o with
    | leaf r =>
      cases r with
      | dK h1 h2 h3 =>
        rcases h1 with h1 | ⟨_, h1⟩
        · rw [hS] at h1; cases h1
        · rw [hS] at h1; cases h1; exact h3
      | dT h1 h2 h3 =>
        rcases h1 with h1 | ⟨_, h1⟩
        · rw [hS] at h1; cases h1
        · rw [hS] at h1; cases h1
  have hl := r0.length
  refine ⟨fun i x hx => ?_, fun i hi => ?_⟩
  · obtain ⟨a, b, hab, rfl⟩ := Wk.get hx
    obtain ⟨k', v, h1, rfl, ok, rv⟩ := r0.getO hab
    have hlt := (List.getElem?_eq_some_iff.mp h1).1
    cases k with
    | ks =>
      refine ⟨⟨hH, hlt⟩, fun x H' y => ?_⟩
      obtain ⟨rfl, k2, v2, e2, rfl⟩ := y
      rw [h1] at e2
      cases e2
      exact ⟨S, s.push (keyD_rp ok)⟩
    | vs =>
      refine ⟨⟨hH, hlt⟩, fun x H' y => ?_⟩
      obtain ⟨rfl, k2, e2⟩ := y
      rw [h1] at e2
      cases e2
      exact ⟨S, s.push rv⟩
    | its =>
      refine ⟨⟨hH, hlt⟩, fun x H' y => ?_⟩
      obtain ⟨t, k2, v2, e2, rfl, n, rfl⟩ := y
      rw [h1] at e2
      cases e2
      exact s.newTup (.cons (keyD_rp ok) (.cons rv .nil)) n
  · rw [Wk.len] at hi
    cases k <;> exact ⟨hH, by omega⟩
theorem itkt_ok {kvs : List (List Key × V)} {es : List (D × D)} (h0 : G.S0 d = some (.frz od (.dT kvs))) : ItOkG K G (Itkt d od kvs) (keyL es) [(.ref d, lf (.dict es))] := by
  intro T ρ σ S H s
  have hS := s.s0 _ _ h0
  have hH := s.sub _ _ hS
  obtain ⟨F, o, _⟩ := s.head
  have r0 : RpT K S kvs es := by
    cases o with
    | leaf r =>
      cases r with
      | dT h1 h2 h3 =>
        rcases h1 with h1 | ⟨_, h1⟩
        · rw [hS] at h1; cases h1
        · rw [hS] at h1; cases h1; exact h3
      | dK h1 h2 h3 =>
        rcases h1 with h1 | ⟨_, h1⟩
        · rw [hS] at h1; cases h1
        · rw [hS] at h1; cases h1
  have hl := r0.length
  refine ⟨fun i x hx => ?_, fun i hi => ⟨hH, by unfold keyL at hi; rw [List.length_map] at hi; omega⟩⟩
  obtain ⟨b, hab⟩ := keyL_get hx
  obtain ⟨k', v, h1, rfl, ok, rv⟩ := r0.getO hab
  refine ⟨⟨hH, (List.getElem?_eq_some_iff.mp h1).1⟩, fun x H' y => ?_⟩
  obtain ⟨rfl, k2, v2, q, e2, rfl, hq⟩ := y
  rw [h1] at e2
  cases e2
  obtain ⟨S', s', ss, hS'⟩ := s.tupIn hq
  refine ⟨S', s'.push (.tup hS' ?_)⟩
  have : ∀ ks : List Key, (∀ x ∈ ks, okK x = true) → RpA K S' (ks.map kV) (ks.map keyD) := by
    intro ks
    induction ks with
    | nil => intro _; exact .nil
    | cons x xs ih => intro h; exact .cons (keyD_rp (h x (by simp))) (ih fun y m => h y (by simp [m]))
  exact this _ ok
/-- what is known to stay -/
theorem Stt.pin {T : List (V × E)} {ρ : Ev} {σ : Sg} {S H : Hp} {u : HO} (s : Stt K G T ρ σ S H) (hd : S d = some (.frz od u)) :
    Stt K ⟨upd G.S0 d (.frz od u), G.H0, G.M, G.P⟩ T ρ σ S H ∧ (∀ T' ρ' σ' S' H', Stt K ⟨upd G.S0 d (.frz od u), G.H0, G.M, G.P⟩ T' ρ' σ' S' H' → Stt K G T' ρ' σ' S' H') := by
  have fl : ∀ {T : List (V × E)} {S H : Hp} {F : List Addr} {S0 S0' : Hp}, Sep K ⟨S0, G.H0, G.M, G.P⟩ S H T F → Sep K ⟨S0', G.H0, G.M, G.P⟩ S H T F := by
    intro T S H F S0 S0' h
    induction h with
    | nil => exact .nil
    | cons o f _ dj ih => exact .cons o f ih dj
  constructor
  · obtain ⟨L, F, sl, sep⟩ := s.res
    refine ⟨s.sub, fun b o e => ?_, s.keep, s.dom, fun b m z => ?_, s.ios, L, F, sl, fl (S0 := G.S0) sep⟩
    · by_cases hb : b = d
      · subst hb
        have e : upd G.S0 b (.frz od u) b = some o := e
        rw [upd_same] at e; cases e; exact hd
      · have e : upd G.S0 d (.frz od u) b = some o := e
        rw [upd_ne hb] at e; exact s.s0 _ _ e
    · by_cases hb : b = d
      · subst hb
        have z : upd G.S0 b (.frz od u) b = none := z
        rw [upd_same] at z; cases z
      · have z : upd G.S0 d (.frz od u) b = none := z
        rw [upd_ne hb] at z; exact s.new _ m z
  · intro T' ρ' σ' S' H' s'
    obtain ⟨L, F, sl, sep⟩ := s'.res
    refine ⟨s'.sub, fun b o e => ?_, s'.keep, s'.dom, fun b m z => ?_, s'.ios, L, F, sl, fl (S0' := G.S0) sep⟩
    · by_cases hb : b = d
      · subst hb
        have h1 := s.s0 _ _ e
        rw [hd] at h1
        cases h1
        exact s'.s0 b _ (show upd G.S0 b (.frz od u) b = _ from upd_same)
      · exact s'.s0 b o (by show upd G.S0 d (.frz od u) b = some o; rw [upd_ne hb]; exact e)
    · by_cases hb : b = d
      · subst hb
        rcases s.new _ m z with h | ⟨xs, h⟩
        · rw [hd] at h; cases h
        · rw [hd] at h; cases h
      · exact s'.new b m (by show upd G.S0 d (.frz od u) b = none; rw [upd_ne hb]; exact z)
end
end Y
/-! Y: walking what a name holds -/
namespace Y
open PySem PySem.Spec PyProof.Rows L2

theorem PS.or {X : Cx} {st : Stmt} {t u : TS} (h : PS X st t) (h' : PS X st u) : PS X st (fun D σ H => t D σ H ∨ u D σ H) := ⟨fun pins s σ H D I q => by
  rcases q with q | q
  · exact h.run pins s σ H D I q
  · exact h'.run pins s σ H D I q⟩
theorem PE.orr {X : Cx} {e : Expr} {t u : TE} (h : PE X e t) (h' : PE X e u) : PE X e (fun σ H Q => t σ H Q ∨ u σ H Q) := ⟨fun pins s σ H Q I q => by
  rcases q with q | q
  · exact h.run pins s σ H Q I q
  · exact h'.run pins s σ H Q I q⟩
/-! an empty dict of tuple keys, as one of text keys -/
def tRel (t : TS) : TS := fun D σ H => ∃ d, H d = some (.dT []) ∧ t ⟨fun σ' H' => H' d = some (.dK []) ∧ D.nx σ' (upd H' d (.dT [])), fun v H' => H' d = some (.dK []) ∧ D.rt v (upd H' d (.dT [])), fun σ' H' => H' d = some (.dK []) ∧ D.bk σ' (upd H' d (.dT [])), fun σ' H' => H' d = some (.dK []) ∧ D.ct σ' (upd H' d (.dT []))⟩ σ (upd H d (.dK []))
def tRelE (t : TE) : TE := fun σ H Q => ∃ d, H d = some (.dT []) ∧ t σ (upd H d (.dK [])) fun v H' => H' d = some (.dK []) ∧ Q v (upd H' d (.dT []))
section
variable {X : Cx}
theorem ps_rel {st : Stmt} {t : TS} (h : PS X st t) : PS X st (tRel t) := by
  refine ⟨fun pins s σ H D I hw => ?_⟩
  obtain ⟨d, hd, hw⟩ := hw
  refine thn (h.run pins s σ _ _ (Inv.tk I hd) hw) fun f s1 q => ?_
  cases f with
  | next => obtain ⟨σ', H', I2, e, q⟩ := q; exact ⟨σ', _, Inv.kt I2 e, q⟩
  | brk => obtain ⟨σ', H', I2, e, q⟩ := q; exact ⟨σ', _, Inv.kt I2 e, q⟩
  | cont => obtain ⟨σ', H', I2, e, q⟩ := q; exact ⟨σ', _, Inv.kt I2 e, q⟩
  | ret v => obtain ⟨x, σ', H', I2, r, e, q⟩ := q; exact ⟨x, σ', _, Inv.kt I2 e, r, q⟩
theorem pe_rel {e : Expr} {t : TE} (h : PE X e t) : PE X e (tRelE t) := by
  refine ⟨fun pins s σ H Q I hw => ?_⟩
  obtain ⟨d, hd, hw⟩ := hw
  refine thn (h.run pins s σ _ _ (Inv.tk I hd) hw) fun v s1 ⟨x, H1, I2, r, e2, q⟩ => ?_
  exact ⟨x, _, Inv.kt I2 e2, r, q⟩
end
def tLc1 (J : It) (g : TG) (tt : TT) (te : TE) (vs : List Nat) (σ : Sg) (Q : VK) (H1 : Hp) : Prop := ∀ D, H1 D = none → ∃ W : Nat → Nat → Hp → Prop, (∃ m, W 0 m (upd H1 D (.lst []))) ∧ ∀ i m H, W i m H →
  (J.stop i H ∧ Q (.ref D) H) ∨ (J.go i H ∧ ∃ Nx : Hp → Prop, (∀ H', Nx H' → ∃ m', m' < m ∧ W (i + 1) m' H') ∧ ∀ x H', J.yld i H x H' → g x (wipe σ vs) H' fun σ2 H2 => wipe σ2 vs = wipe σ vs ∧ tt σ2 H2 fun b H3 =>
    if b = true then te σ2 H3 fun y H4 => ∃ acc, H4 D = some (.lst acc) ∧ acc.length < sizeLine ∧ Nx (upd H4 D (.lst (acc ++ [y]))) else Nx H3)
theorem lc_core {K : PySem.W.Frag} {vs : List Nat} {σ : Sg} {H1 : Hp} {Q : VK} {g : O → Ev → Rs Unit} {tt : Ev → Rs Bool} {el : Ev → Rs O} {G : Fra} {T L : List (V × E)} {S1 : Hp} {ρ1 : Ev} {ds : List D} {J : It} (s1 : Stt K G (L ++ T) ρ1 σ S1 H1) (iok : ItOkG K G J ds L)
    (z : GoE K W0 G T σ Q (if hidable ρ1 vs = true ∧ ds.length ≤ sizeLine then (match lcGo vs g tt el ds (wipeE ρ1 vs) with
    | .ok ys ρ' => .ok (.lst ys) (unhide ρ1 ρ' vs)
    | _ => .stk) else .stk)) : tLc1 J (tC' K W0 vs g) (tTs K tt) (tE K W0 el) vs σ Q H1 := by
  intro D' hD
  split at z
  · rename_i hh
    obtain ⟨hhid, hsz⟩ := hh
    -- the new list, our hidden entries held
    have s2 := (s1.hide (vs := vs) hhid)
    have s3 := s2.make (o := .lst []) hD (u := .lst []) (.lst upd_same (s2.sub.free hD) .nil)
    have s4 := s3.wiped vs
    refine ⟨fun i m H' => m = ds.length - i ∧ i ≤ ds.length ∧ ∃ acc ρi S', acc.length ≤ i ∧ Stt K G ((.ref D', ow (.lst acc)) :: (hidT σ ρ1 vs ++ (L ++ T))) (wipeE ρi vs) (wipe σ vs) S' H' ∧ ρi.length = ρ1.length ∧
      ∃ ys ρe, lcGo vs g tt el (ds.drop i) (wipeE ρi vs) = .ok ys ρe ∧ ∀ v S'' H'', Stt K G ((v, ow (.lst (acc ++ ys))) :: T) (unhide ρ1 ρe vs) σ S'' H'' → Q v H'', ⟨ds.length, ?_⟩, ?_⟩
    · refine ⟨by omega, Nat.zero_le _, [], ρ1, S1, Nat.zero_le _, s4, rfl, ?_⟩
      split at z
      · rename_i ys ρe he
        exact ⟨ys, ρe, he, by rw [List.nil_append]; exact z⟩
      · exact z.elim
    · rintro i m H' ⟨rfl, hi, acc, ρi, S', hacc, si, hlen, ys, ρe, he, fin⟩
      have iok' := iok ((.ref D', ow (.lst acc)) :: (hidT σ ρ1 vs ++ T)) (wipeE ρi vs) (wipe σ vs) S' H' (si.permT (by
        refine List.Perm.trans ?_ (List.perm_middle (l₁ := L)).symm
        refine List.Perm.cons _ ?_
        rw [← List.append_assoc, ← List.append_assoc]
        exact List.Perm.append_right T List.perm_append_comm))
      by_cases hlt : i < ds.length
      · have hd : ds[i]? = some ds[i] := List.getElem?_eq_getElem hlt
        obtain ⟨go, yld⟩ := iok'.1 i _ hd
        have hdrop : ds.drop i = ds[i] :: ds.drop (i + 1) := List.drop_eq_getElem_cons hlt
        rw [hdrop] at he
        -- what a turn is to reach
        refine .inr ⟨go, fun H2 => i + 1 ≤ ds.length ∧ ∃ acc ρi S', acc.length ≤ i + 1 ∧ Stt K G ((.ref D', ow (.lst acc)) :: (hidT σ ρ1 vs ++ (L ++ T))) (wipeE ρi vs) (wipe σ vs) S' H2 ∧ ρi.length = ρ1.length ∧
          ∃ ys ρe, lcGo vs g tt el (ds.drop (i + 1)) (wipeE ρi vs) = .ok ys ρe ∧ ∀ v S'' H'', Stt K G ((v, ow (.lst (acc ++ ys))) :: T) (unhide ρ1 ρe vs) σ S'' H'' → Q v H'', fun H2 h2 => ⟨ds.length - (i + 1), by omega, rfl, h2.1, h2.2⟩, ?_⟩
        intro x H2 y
        obtain ⟨S2, sx⟩ := yld x H2 y
        have sx' : Stt K G ((x, lf ds[i]) :: ((.ref D', ow (.lst acc)) :: (hidT σ ρ1 vs ++ (L ++ T)))) (wipeE ρi vs) (wipe σ vs) S2 H2 := sx.permT (by
          refine List.Perm.cons _ ?_
          refine List.Perm.trans (List.perm_middle (l₁ := L)) ?_
          refine List.Perm.cons _ ?_
          rw [← List.append_assoc, ← List.append_assoc]
          exact List.Perm.append_right T List.perm_append_comm)
        unfold lcGo at he
        cases e1 : g (.leaf ds[i]) (wipeE ρi vs) with
        | stk => rw [e1] at he; cases he
        | er x ρ' => rw [e1] at he; cases he
        | ok u ρa =>
          rw [e1] at he
          simp only at he
          refine ⟨G, _, S2, _, .leaf ds[i], sx', ?_⟩
          rw [e1]
          intro σ3 S3 H3 hw s5
          rw [wipe_wipe] at hw
          refine ⟨hw, G, _, S3, ρa, s5, ?_⟩
          have hla : ρa.length = ρ1.length := by
            have h1 := s5.len
            have h2 := s1.len
            have h3 := congrArg List.length hw
            rw [wipe_length, wipe_length] at h3
            omega
          -- the list that grows
          have next : ∀ {S4 H4 : Hp} {ρ4 : Ev} {acc' : List D}, Stt K G ((.ref D', ow (.lst acc')) :: (hidT σ ρ1 vs ++ (L ++ T))) ρ4 σ3 S4 H4 → Stt K G ((.ref D', ow (.lst acc')) :: (hidT σ ρ1 vs ++ (L ++ T))) (wipeE ρ4 vs) (wipe σ vs) S4 H4 := fun s6 => by
            have := s6.wiped vs
            rw [hw] at this
            exact this
          cases e2 : tt ρa with
          | stk => rw [e2] at he; cases he
          | er x ρ' => rw [e2] at he; cases he
          | ok b ρb =>
            rw [e2] at he
            intro S4 H4 s6
            have hlb : ρb.length = ρ1.length := by
              have h1 := s6.len
              have h3 := congrArg List.length hw
              have h2 := s1.len
              rw [wipe_length, wipe_length] at h3
              omega
            cases b with
            | false =>
              rw [if_neg Bool.false_ne_true]
              simp only at he
              exact ⟨hlt, acc, ρb, S4, Nat.le_succ_of_le hacc, next s6, hlb, ys, ρe, he, fin⟩
            | true =>
              rw [if_pos rfl]
              simp only at he
              refine ⟨G, _, S4, ρb, s6, ?_⟩
              cases e3 : el ρb with
              | stk => rw [e3] at he; cases he
              | er x ρ' => rw [e3] at he; cases he
              | ok o ρc =>
                rw [e3] at he
                simp only at he
                intro v S5 H5 s7
                have hlc : ρc.length = ρ1.length := by
                  have h1 := s7.len
                  have h3 := congrArg List.length hw
                  have h2 := s1.len
                  rw [wipe_length, wipe_length] at h3
                  omega
                obtain ⟨S6, s8, _, rv⟩ := s7.freeze
                have s9 := s8.drop1
                obtain ⟨F, ow', _⟩ := s9.head
                cases hgo : lcGo vs g tt el (ds.drop (i + 1)) (wipeE ρc vs) with
                | stk => rw [hgo] at he; cases he
                | er x ρ' => rw [hgo] at he; cases he
                | ok ys' ρ4 =>
                  rw [hgo] at he
                  simp only at he
                  cases he
                  cases ow' with
                  | @lst _ xs _ eH nS rA =>
                    refine ⟨xs, eH, by rw [rA.length]; omega, hlt, acc ++ [o.d], ρc, S6, by rw [List.length_append]; simp; omega, next ?_, hlc, ys', _, hgo, ?_⟩
                    · exact s9.write (o' := .lst (acc ++ [o.d])) (.lst eH nS rA) (.lst upd_same nS (rA.app (.cons rv .nil)))
                    · intro v' S'' H'' h
                      refine fin v' S'' H'' ?_
                      rw [List.append_assoc] at h
                      exact h
      · have e : i = ds.length := by omega
        subst e
        refine .inl ⟨iok'.2 _ (Nat.le_refl _), ?_⟩
        rw [List.drop_length] at he
        have : ys = [] ∧ ρe = wipeE ρi vs := by
          unfold lcGo at he
          injection he with h1 h2
          exact ⟨h1.symm, h2.symm⟩
        obtain ⟨rfl, rfl⟩ := this
        rw [List.append_nil] at fin
        refine fin _ S' H' ?_
        -- back to the slots as they were
        have ent : ∀ (j : Nat) (e : E), ρ1[j]? = some (some e) → ∃ w, σ[j]? = some (some w) := fun j e he => let ⟨w, hw, _⟩ := s1.take he; ⟨w, hw⟩
        have sσ : Stt K G ((.ref D', ow (.lst acc)) :: (hidT σ ρ1 vs ++ (L ++ T))) (wipeE ρi vs) σ S' H' := by
          refine si.slots (by rw [wipe_length]) fun j e he => ?_
          rw [wipeE_get] at he
          rw [wipe_get]
          split at he
          · split at he <;> cases he
          · rename_i hj
            rw [if_neg hj]
        have su := Stt.unhide (ρ0 := ρ1) ent (by rw [wipeE_length]; exact hlen.symm) (vs := vs) (fun x hx => List.mem_cons_of_mem _ (List.mem_append_left _ hx)) hhid sσ
        exact su.subT (List.Sublist.cons_cons _ ((List.sublist_append_right _ _).trans (List.sublist_append_right _ _)))
  · exact z.elim

/-! ### what a walk of the dict at slot i reads -/
def wkT (k : Wk) (td : TE) : TI := match k with
  | .ks => iKeys td
  | .vs => iVals td
  | .its => iItems td
def Wk.ok : Wk → List (D × D) → Bool
  | .ks, _ => true
  | _, kvs => kkeys kvs
def wkI (k : Wk) (i : Nat) : Ev → Rs (List D) := bnd (rv i) fun o ρ => match o.d with
  | .dict kvs => if k.ok kvs = true then .ok (k.ds kvs) ρ else .stk
  | _ => .stk
def nmI (i : Nat) : Ev → Rs (List D) := bnd (rv i) fun o ρ => match o.d with
  | .list ds => .ok ds ρ
  | .tuple ds => .ok ds ρ
  | .str z => .ok (chars z) ρ
  | .dict kvs => .ok (keyL kvs) ρ
  | _ => .stk
theorem rv_run {K : PySem.W.Frag} {G : Fra} {T : List (V × E)} {ρ ρ1 : Ev} {σ : Sg} {S H : Hp} {i : Nat} {o : O} (s : Stt K G T ρ σ S H) (e : rv i ρ = .ok o ρ1) : ∃ v S1, σ[i]? = some (some v) ∧ Stt K G ((v, lf o.d) :: T) ρ1 σ S1 H ∧ Rp K S1 v o.d := by
  unfold rv at e
  split at e
  · rename_i o' ho
    obtain ⟨v, hv, s1⟩ := s.take ho
    obtain ⟨S2, s2, _, r⟩ := s1.freeze
    have s3 := (s2.back ho hv (by intro z; cases z)).push r
    cases e
    refine ⟨v, S2, hv, ?_, r⟩
    cases o' with
    | leaf d =>
      have e : ρ.set i (some (lf (O.leaf d).d)) = ρ := Stt.set_leaf ho
      rw [e] at s3
      exact s3
    | lst ds => exact s3
    | dic ds => exact s3
  · rename_i d ho
    obtain ⟨v, hv, s1⟩ := s.take ho
    obtain ⟨F, o, _⟩ := s1.head
    cases e
    cases o with
    | leaf r => exact ⟨v, S, hv, s.push r, r⟩
  · cases e
theorem rv_er {i : Nat} {ρ ρ' : Ev} {x : Err} : rv i ρ ≠ .er x ρ' := by
  unfold rv
  split <;> intro z <;> cases z
theorem wk_readK {k : Wk} {i : Nat} {σ : Sg} {H : Hp} {R : It → Hp → Prop} {d : Addr} {od : Obj} {kvs : List (Key × V)} (hv : σ[i]? = some (some (.ref d))) (hd : H d = some (.frz od (.dK kvs))) (r : R (k.itK d od kvs) H) : wkT k (tVar i) σ H R := by
  cases k with
  | ks => exact ⟨_, hv, d, od, rfl, .inl ⟨kvs, hd, r⟩⟩
  | vs => exact ⟨_, hv, d, od, kvs, rfl, hd, r⟩
  | its => exact ⟨_, hv, d, od, kvs, rfl, hd, r⟩
theorem wk_readT {i : Nat} {σ : Sg} {H : Hp} {R : It → Hp → Prop} {d : Addr} {od : Obj} {kvs : List (List Key × V)} (hv : σ[i]? = some (some (.ref d))) (hd : H d = some (.frz od (.dT kvs))) (r : R (Itkt d od kvs) H) : wkT .ks (tVar i) σ H R := ⟨_, hv, d, od, rfl, .inr ⟨kvs, hd, r⟩⟩
def lkD (Dn : Ends) (d : Addr) (od : Obj) (u : HO) : Ends := ⟨fun σ' H' => H' d = some (.frz od u) ∧ Dn.nx σ' (upd H' d u), fun v H' => H' d = some (.frz od u) ∧ Dn.rt v (upd H' d u), fun σ' H' => H' d = some (.frz od u) ∧ Dn.bk σ' (upd H' d u), fun σ' H' => H' d = some (.frz od u) ∧ Dn.ct σ' (upd H' d u)⟩
section
variable {K : PySem.W.Frag} {G Gl : Fra} {T : List (V × E)} {d : Addr} {od : Obj} {u : HO}
theorem GoS.lk {Dn : Ends} (un : ∀ T' ρ' σ' S' H', Stt K Gl T' ρ' σ' S' H' → H' d = some (.frz od u) ∧ Stt K G T' ρ' σ' (upd S' d u) (upd H' d u)) : ∀ {r : Rs Ctl}, GoS K W0 G T Dn r → GoS K W0 Gl T (lkD Dn d od u) r
  | .ok .nx ρ', h => fun σ' S' H' s => ⟨(un _ _ _ _ _ s).1, h σ' _ _ (un _ _ _ _ _ s).2⟩
  | .ok (.rt x) ρ', h => fun v σ' S' H' s => ⟨(un _ _ _ _ _ s).1, h v σ' _ _ (un _ _ _ _ _ s).2⟩
  | .ok .bk ρ', h => fun σ' S' H' s => ⟨(un _ _ _ _ _ s).1, h σ' _ _ (un _ _ _ _ _ s).2⟩
  | .ok .ct ρ', h => fun σ' S' H' s => ⟨(un _ _ _ _ _ s).1, h σ' _ _ (un _ _ _ _ _ s).2⟩
  | .er x ρ', h => fun σ' S' H' s => False.elim (h σ' (upd S' d u) (upd H' d u) (un _ _ _ _ _ s).2)
  | .stk, h => h
theorem GoS.pin {Dn : Ends} (un : ∀ T' ρ' σ' S' H', Stt K Gl T' ρ' σ' S' H' → Stt K G T' ρ' σ' S' H') : ∀ {r : Rs Ctl}, GoS K W0 G T Dn r → GoS K W0 Gl T Dn r
  | .ok .nx ρ', h => fun σ' S' H' s => h σ' _ _ (un _ _ _ _ _ s)
  | .ok (.rt x) ρ', h => fun v σ' S' H' s => h v σ' _ _ (un _ _ _ _ _ s)
  | .ok .bk ρ', h => fun σ' S' H' s => h σ' _ _ (un _ _ _ _ _ s)
  | .ok .ct ρ', h => fun σ' S' H' s => h σ' _ _ (un _ _ _ _ _ s)
  | .er x ρ', h => fun σ' S' H' s => h σ' _ _ (un _ _ _ _ _ s)
  | .stk, h => h
theorem GoE.lk {σ : Sg} {Q : VK} (un : ∀ T' ρ' σ' S' H', Stt K Gl T' ρ' σ' S' H' → H' d = some (.frz od u) ∧ Stt K G T' ρ' σ' (upd S' d u) (upd H' d u)) : ∀ {r : Rs O}, GoE K W0 G T σ Q r → GoE K W0 Gl T σ (fun v H' => H' d = some (.frz od u) ∧ Q v (upd H' d u)) r
  | .ok o ρ', h => fun v S' H' s => ⟨(un _ _ _ _ _ s).1, h v _ _ (un _ _ _ _ _ s).2⟩
  | .er x ρ', h => fun S' H' s => False.elim (h (upd S' d u) (upd H' d u) (un _ _ _ _ _ s).2)
  | .stk, h => h
theorem GoE.pin {σ : Sg} {Q : VK} (un : ∀ T' ρ' σ' S' H', Stt K Gl T' ρ' σ' S' H' → Stt K G T' ρ' σ' S' H') : ∀ {r : Rs O}, GoE K W0 G T σ Q r → GoE K W0 Gl T σ Q r
  | .ok o ρ', h => fun v S' H' s => h v _ _ (un _ _ _ _ _ s)
  | .er x ρ', h => fun S' H' s => h _ _ (un _ _ _ _ _ s)
  | .stk, h => h
end
theorem for_nil {J : It} {g : TG} {tb : TS} {Dn : Ends} {σ : Sg} {H : Hp} (h1 : J.stop 0 H) (h2 : Dn.nx σ H) : tFor1 J g tb Dn σ H :=
  ⟨fun i m σ' H' => i = 0 ∧ σ' = σ ∧ H' = H, ⟨0, rfl, rfl, rfl⟩, fun i m σ' H' ⟨a, b, c⟩ => by subst a b c; exact .inl ⟨h1, h2⟩⟩
theorem upd_upd_back {H : Hp} {a : Addr} {u u' : HO} (e : H a = some u) : upd (upd H a u') a u = H := upd_back e
section
variable {X : Cx} {tg iter : Expr} {body : List Stmt} {pos : Pos} {gt : O → Ev → Rs Unit} {fb : Ev → Rs Ctl} {i : Nat}
theorem ds_forW (b : Bd X) (hp : PassesOwn (model X.prog X.w) X.A X.env X.xe) (cl : List Nat) (k : Wk) (hi : PI X tg iter (wkT k (tVar i))) (hg : DG' X W0 tg gt) (hb : DSs X W0 body fb) (hs : ∀ x, foldedSetIterable iter X.env x = pure x := by intro _; rfl) :
    DS X W0 (.For tg iter body [] pos) (forS (wkI k i) gt fb cl) := by
  have F : PS X (.For tg iter body [] pos) (tFor (wkT k (tVar i)) (tG X.K W0 gt) (tS X.K W0 fb)) := ps_for hp b.calm hi hg hb hs
  refine PS.imp (PS.or (ps_lock F) (PS.or F (ps_rel (ps_lock F)))) fun Dn σ H ⟨G, T, S, ρ, s, q⟩ => ?_
  unfold forS wkI bnd at q
  cases e0 : rv i ρ with
  | stk => rw [e0] at q; exact q.elim
  | er x ρ' => exact absurd e0 rv_er
  | ok o ρ1 =>
    rw [e0] at q
    obtain ⟨v, S1, hv, s1, r⟩ := rv_run s e0
    simp only at q
    split at q
    · rename_i a ρa hq
      split at hq
      · rename_i es hes
        split at hq
        · rename_i hk
          cases hq
          rw [hes] at r s1
          have s0 := s1.drop1
          cases r with
          | @dK d kvs _ h1 h2 h3 =>
            rcases h1 with h1 | ⟨od, h1⟩
            · -- unlocked
              have hH := s1.sub _ _ h1
              refine .inl ⟨d, _, hH, trivial, fun od => wk_readK hv upd_same ?_⟩
              cases h3 with
              | nil =>
                have e : k.ds [] = [] := by cases k <;> rfl
                rw [e] at q
                refine for_nil (by cases k <;> exact ⟨upd_same, Nat.le_refl _⟩) ⟨upd_same, ?_⟩
                rw [upd_back hH]
                exact q σ S1 H (s0.clrs cl)
              | @cons k0 v0 d0 kvs' es' o1 a1 b1 =>
                obtain ⟨sl, un⟩ := s1.lock (od := od) h1 trivial
                exact for_core (L := [(.ref d, lf (.dict ((keyD k0, d0) :: es')))]) sl (itk_ok k upd_same) (GoS.lk un q)
            · have hH := s1.sub _ _ h1
              obtain ⟨sp, un⟩ := s1.pin h1
              exact .inr (.inl (wk_readK hv hH (for_core (L := [(.ref d, lf (.dict es))]) sp (itk_ok k upd_same) (GoS.pin un q))))
          | @dT d kvs _ h1 h2 h3 =>
            rcases h1 with h1 | ⟨od, h1⟩
            · have hH := s1.sub _ _ h1
              cases h3 with
              | nil => exact absurd rfl h2
              | @cons k0 v0 d0 kvs' es' o1 a1 b1 =>
                cases k with
                | ks =>
                  refine .inl ⟨d, _, hH, trivial, fun od => wk_readT hv upd_same ?_⟩
                  obtain ⟨sl, un⟩ := s1.lock (od := od) h1 trivial
                  exact for_core (L := [(.ref d, lf (.dict ((.tuple (k0.map keyD), d0) :: es')))]) sl (itkt_ok upd_same) (GoS.lk un q)
                | vs => simp [Wk.ok, kkeys, asKey] at hk
                | its => simp [Wk.ok, kkeys, asKey] at hk
            · have hH := s1.sub _ _ h1
              obtain ⟨sp, un⟩ := s1.pin h1
              cases h3 with
              | nil => exact absurd rfl h2
              | @cons k0 v0 d0 kvs' es' o1 a1 b1 =>
                cases k with
                | ks => exact .inr (.inl (wk_readT hv hH (for_core (L := [(.ref d, lf (.dict ((.tuple (k0.map keyD), d0) :: es')))]) sp (itkt_ok upd_same) (GoS.pin un q))))
                | vs => simp [Wk.ok, kkeys, asKey] at hk
                | its => simp [Wk.ok, kkeys, asKey] at hk
        · cases hq
      · cases hq
    · rename_i hq
      split at hq
      · split at hq
        · cases hq
        · cases hq
      · cases hq
    · exact q.elim
/-- for x in NAME -/
theorem ds_forN (b : Bd X) (hp : PassesOwn (model X.prog X.w) X.A X.env X.xe) (cl : List Nat) (hx : PE X iter (tVar i)) (hg : DG' X W0 tg gt) (hb : DSs X W0 body fb) (hs : ∀ x, foldedSetIterable iter X.env x = pure x := by intro _; rfl) :
    DS X W0 (.For tg iter body [] pos) (forS (nmI i) gt fb cl) := by
  refine PS.imp (PS.or (ds_for b hp cl (di_seq (de_var hx)) hg hb hs) (ds_forW b hp cl .ks (pi_keys hx) hg hb hs)) fun Dn σ H ⟨G, T, S, ρ, s, q⟩ => ?_
  have e : forS (nmI i) gt fb cl ρ = forS (seqI (rv i)) gt fb cl ρ ∨ forS (nmI i) gt fb cl ρ = forS (wkI .ks i) gt fb cl ρ := by
    unfold forS nmI seqI wkI bnd
    cases e0 : rv i ρ with
    | stk => exact .inl rfl
    | er x ρ' => exact .inl rfl
    | ok o ρ1 =>
      simp only
      cases o.d <;> first | exact .inl rfl | exact .inr rfl
  rcases e with e | e
  · rw [e] at q; exact .inl ⟨G, T, S, ρ, s, q⟩
  · rw [e] at q; exact .inr ⟨G, T, S, ρ, s, q⟩
end
/-! ### [.. for x in NAME] -/
section
variable {K : PySem.W.Frag} {vs : List Nat} {σ : Sg} {H1 : Hp} {Q : VK} {g : O → Ev → Rs Unit} {tt : Ev → Rs Bool} {el : Ev → Rs O} {G : Fra} {T : List (V × E)} {S1 : Hp} {ρ1 : Ev}
theorem lc_nil (s1 : Stt K G T ρ1 σ S1 H1) (z : GoE K W0 G T σ Q (if hidable ρ1 vs = true ∧ ([] : List D).length ≤ sizeLine then (match lcGo vs g tt el [] (wipeE ρ1 vs) with
    | .ok ys ρ' => .ok (.lst ys) (unhide ρ1 ρ' vs)
    | _ => .stk) else .stk)) : ∀ D, H1 D = none → Q (.ref D) (upd H1 D (.lst [])) := fun D hD => by
  obtain ⟨W, ⟨m, w⟩, h⟩ := lc_core (g := g) (tt := tt) (el := el) (L := []) (J := ⟨fun _ _ => False, fun _ _ _ _ => False, fun _ _ => True⟩) s1 (fun T ρ σ S H s => ⟨fun i d hd => by simp at hd, fun i hi => trivial⟩) z D hD
  rcases h 0 m _ w with ⟨_, q⟩ | ⟨f, _⟩
  · exact q
  · exact f.elim
end
section
variable {X : Cx} {elt tg iter : Expr} {ifs : List Expr} {scope : Scope} {own : List (Str × Nat)} {pos : Pos} {g : O → Ev → Rs Unit} {tt : Ev → Rs Bool} {el : Ev → Rs O} {i : Nat}
theorem upd_comm {H : Hp} {a b : Addr} {u w : HO} (h : a ≠ b) : upd (upd H a u) b w = upd (upd H b w) a u := by
  funext c
  unfold upd
  by_cases h1 : c = b
  · subst h1
    rw [if_pos rfl, if_neg (Ne.symm h), if_pos rfl]
  · rw [if_neg h1]
    by_cases h2 : c = a
    · rw [if_pos h2, if_pos h2]
    · rw [if_neg h2, if_neg h2, if_neg h1]
theorem lcW_reads {K : PySem.W.Frag} {vs : List Nat} (k : Wk) {σ : Sg} {H : Hp} {Q : VK} (q : tE K W0 (lcE (wkI k i) vs g tt el) σ H Q) :
    tLockE (tLc (wkT k (tVar i)) (tC' K W0 vs g) (tTs K tt) (tE K W0 el) vs) σ H Q ∨ tLc (wkT k (tVar i)) (tC' K W0 vs g) (tTs K tt) (tE K W0 el) vs σ H Q ∨ tRelE (tLockE (tLc (wkT k (tVar i)) (tC' K W0 vs g) (tTs K tt) (tE K W0 el) vs)) σ H Q := by
  obtain ⟨G, T, S, ρ, s, q⟩ := q
  unfold lcE wkI bnd at q
  cases e0 : rv i ρ with
  | stk => rw [e0] at q; exact q.elim
  | er x ρ' => exact absurd e0 rv_er
  | ok o ρ1 =>
    rw [e0] at q
    obtain ⟨v, S1, hv, s1, r⟩ := rv_run s e0
    simp only at q
    split at q
    · rename_i a ρa hq
      split at hq
      · rename_i es hes
        split at hq
        · rename_i hk
          cases hq
          rw [hes] at r s1
          have s0 := s1.drop1
          cases r with
          | @dK d kvs _ h1 h2 h3 =>
            rcases h1 with h1 | ⟨od, h1⟩
            · have hH := s1.sub _ _ h1
              refine .inl ⟨d, _, hH, trivial, fun od => wk_readK hv upd_same ?_⟩
              cases h3 with
              | nil =>
                have e : k.ds [] = [] := by cases k <;> rfl
                rw [e] at q
                have z := lc_nil (g := g) (tt := tt) (el := el) s0 q
                refine fun D hD => ⟨fun i m H' => i = 0 ∧ H' = upd (upd H d (.frz od (.dK []))) D (.lst []), ⟨0, rfl, rfl⟩, fun i m H' ⟨ea, eb⟩ => .inl ?_⟩
                subst ea eb
                have hne : D ≠ d := fun e => by subst e; rw [upd_same] at hD; cases hD
                rw [upd_ne hne] at hD
                refine ⟨by cases k <;> exact ⟨by rw [upd_ne (Ne.symm hne), upd_same], Nat.le_refl _⟩, by rw [upd_ne (Ne.symm hne), upd_same], ?_⟩
                rw [upd_comm hne, upd_back hH]
                exact z D hD
              | @cons k0 v0 d0 kvs' es' o1 a1 b1 =>
                obtain ⟨sl, un⟩ := s1.lock (od := od) h1 trivial
                exact lc_core (L := [(.ref d, lf (.dict ((keyD k0, d0) :: es')))]) sl (itk_ok k upd_same) (GoE.lk un q)
            · have hH := s1.sub _ _ h1
              obtain ⟨sp, un⟩ := s1.pin h1
              exact .inr (.inl (wk_readK hv hH (lc_core (L := [(.ref d, lf (.dict es))]) sp (itk_ok k upd_same) (GoE.pin un q))))
          | @dT d kvs _ h1 h2 h3 =>
            rcases h1 with h1 | ⟨od, h1⟩
            · have hH := s1.sub _ _ h1
              cases h3 with
              | nil => exact absurd rfl h2
              | @cons k0 v0 d0 kvs' es' o1 a1 b1 =>
                cases k with
                | ks =>
                  refine .inl ⟨d, _, hH, trivial, fun od => wk_readT hv upd_same ?_⟩
                  obtain ⟨sl, un⟩ := s1.lock (od := od) h1 trivial
                  exact lc_core (L := [(.ref d, lf (.dict ((.tuple (k0.map keyD), d0) :: es')))]) sl (itkt_ok upd_same) (GoE.lk un q)
                | vs => simp [Wk.ok, kkeys, asKey] at hk
                | its => simp [Wk.ok, kkeys, asKey] at hk
            · have hH := s1.sub _ _ h1
              obtain ⟨sp, un⟩ := s1.pin h1
              cases h3 with
              | nil => exact absurd rfl h2
              | @cons k0 v0 d0 kvs' es' o1 a1 b1 =>
                cases k with
                | ks => exact .inr (.inl (wk_readT hv hH (lc_core (L := [(.ref d, lf (.dict ((.tuple (k0.map keyD), d0) :: es')))]) sp (itkt_ok upd_same) (GoE.pin un q))))
                | vs => simp [Wk.ok, kkeys, asKey] at hk
                | its => simp [Wk.ok, kkeys, asKey] at hk
        · cases hq
      · cases hq
    · rename_i hq
      split at hq
      · split at hq
        · cases hq
        · cases hq
      · cases hq
    · exact q.elim
theorem de_lcW (b : Bd X) (k : Wk) (hi : PI X tg iter (wkT k (tVar i))) (ok : BlkOk X.N X.env.scope scope own)
    (hg : ∀ (s : Shared) (H : Hp) (C : Addr) (cl : List (Str × Addr)) (fp : List Addr), PG (X.blk s H scope (compEnvC scope cl C X.env) fp) tg (tC' X.K W0 (own.map (·.2)) g))
    (ht : ∀ (s : Shared) (H : Hp) (C : Addr) (cl : List (Str × Addr)) (fp : List Addr), PTs (X.blk s H scope (compEnvC scope cl C X.env) fp) ifs (tTs X.K tt))
    (he : ∀ (s : Shared) (H : Hp) (C : Addr) (cl : List (Str × Addr)) (fp : List Addr), PE (X.blk s H scope (compEnvC scope cl C X.env) fp) elt (tE X.K W0 el)) (hs : ∀ x, foldedSetIterable iter X.env x = pure x := by intro _; rfl) :
    DE X W0 (.ListComp elt [⟨tg, iter, ifs, 0⟩] scope pos) (lcE (wkI k i) (own.map (·.2)) g tt el) := by
  have F := pe_lc (pos := pos) b.calm b.nd hi ok hg ht he hs
  exact PE.imp (PE.orr (pe_lock F) (PE.orr F (pe_rel (pe_lock F)))) fun σ H Q q => lcW_reads k q
theorem asg_tE {K : PySem.W.Frag} {W : XW} {f : Ev → Rs O} {Dn : Ends} {σ : Sg} {H : Hp} {i : Nat} (q : tS K W (asgS f (gN i)) Dn σ H) : tE K W f σ H (fun x H1 => gName i x σ H1 Dn.nx) := by
  obtain ⟨G, T, S, ρ, s, q⟩ := q
  refine ⟨G, T, S, ρ, s, seqS sid ?_ q⟩
  intro o ρ' z v S' H' s'
  unfold gN bnd at z
  by_cases hi : i < ρ'.length
  · simp only [if_pos hi] at z
    exact z _ _ _ (s'.store (by rw [s'.len]; exact hi))
  · simp only [if_neg hi] at z
    exact z.elim
/-- y = [..] on one line -/
theorem ds_setLc {j : Nat} {y : Str} {py : Pos} {spos : Pos} {it : Ev → Rs (List D)} {W : XW} (b : Bd X) (hy : X.N[j]? = some y) (hyl : X.env.scope.names.lookup y = some .local) (hsw : swapsWith (.ListComp elt [⟨tg, iter, ifs, 0⟩] scope pos) (some (.Name y py)) spos.line X.env = pure true)
    (hi : DI X W tg iter it) (ok : BlkOk X.N X.env.scope scope own)
    (hg : ∀ (s : Shared) (H : Hp) (C : Addr) (cl : List (Str × Addr)) (fp : List Addr), PG (X.blk s H scope (compEnvC scope cl C X.env) fp) tg (tC' X.K W0 (own.map (·.2)) g))
    (ht : ∀ (s : Shared) (H : Hp) (C : Addr) (cl : List (Str × Addr)) (fp : List Addr), PTs (X.blk s H scope (compEnvC scope cl C X.env) fp) ifs (tTs X.K tt))
    (he : ∀ (s : Shared) (H : Hp) (C : Addr) (cl : List (Str × Addr)) (fp : List Addr), PE (X.blk s H scope (compEnvC scope cl C X.env) fp) elt (tE X.K W0 el)) (hs : ∀ x, foldedSetIterable iter X.env x = pure x := by intro _; rfl) :
    DS X W (.Assign [.Name y py] (.ListComp elt [⟨tg, iter, ifs, 0⟩] scope pos) spos) (asgS (lcE it (own.map (·.2)) g tt el) (gN j)) :=
  PS.imp (ps_setLc b.calm b.nd hy hyl hsw hi ok hg ht he hs) fun Dn σ H q => lc_reads (asg_tE q)
theorem ds_setLcW {j : Nat} {y : Str} {py : Pos} {spos : Pos} (b : Bd X) (k : Wk) (hy : X.N[j]? = some y) (hyl : X.env.scope.names.lookup y = some .local) (hsw : swapsWith (.ListComp elt [⟨tg, iter, ifs, 0⟩] scope pos) (some (.Name y py)) spos.line X.env = pure true)
    (hi : PI X tg iter (wkT k (tVar i))) (ok : BlkOk X.N X.env.scope scope own)
    (hg : ∀ (s : Shared) (H : Hp) (C : Addr) (cl : List (Str × Addr)) (fp : List Addr), PG (X.blk s H scope (compEnvC scope cl C X.env) fp) tg (tC' X.K W0 (own.map (·.2)) g))
    (ht : ∀ (s : Shared) (H : Hp) (C : Addr) (cl : List (Str × Addr)) (fp : List Addr), PTs (X.blk s H scope (compEnvC scope cl C X.env) fp) ifs (tTs X.K tt))
    (he : ∀ (s : Shared) (H : Hp) (C : Addr) (cl : List (Str × Addr)) (fp : List Addr), PE (X.blk s H scope (compEnvC scope cl C X.env) fp) elt (tE X.K W0 el)) (hs : ∀ x, foldedSetIterable iter X.env x = pure x := by intro _; rfl) :
    DS X W0 (.Assign [.Name y py] (.ListComp elt [⟨tg, iter, ifs, 0⟩] scope pos) spos) (asgS (lcE (wkI k i) (own.map (·.2)) g tt el) (gN j)) := by
  have F := ps_setLc b.calm b.nd hy hyl hsw hi ok hg ht he hs
  exact PS.imp (PS.or (ps_lock F) (PS.or F (ps_rel (ps_lock F)))) fun Dn σ H q => lcW_reads k (asg_tE q)
theorem de_lcN (b : Bd X) (hx : PE X iter (tVar i)) (ok : BlkOk X.N X.env.scope scope own)
    (hg : ∀ (s : Shared) (H : Hp) (C : Addr) (cl : List (Str × Addr)) (fp : List Addr), PG (X.blk s H scope (compEnvC scope cl C X.env) fp) tg (tC' X.K W0 (own.map (·.2)) g))
    (ht : ∀ (s : Shared) (H : Hp) (C : Addr) (cl : List (Str × Addr)) (fp : List Addr), PTs (X.blk s H scope (compEnvC scope cl C X.env) fp) ifs (tTs X.K tt))
    (he : ∀ (s : Shared) (H : Hp) (C : Addr) (cl : List (Str × Addr)) (fp : List Addr), PE (X.blk s H scope (compEnvC scope cl C X.env) fp) elt (tE X.K W0 el)) (hs : ∀ x, foldedSetIterable iter X.env x = pure x := by intro _; rfl) :
    DE X W0 (.ListComp elt [⟨tg, iter, ifs, 0⟩] scope pos) (lcE (nmI i) (own.map (·.2)) g tt el) := by
  refine PE.imp (PE.orr (de_lc (W := W0) (pos := pos) b (di_seq (de_var hx)) ok hg ht he hs) (de_lcW (pos := pos) b .ks (pi_keys hx) ok hg ht he hs)) fun σ H Q ⟨G, T, S, ρ, s, q⟩ => ?_
  have e : lcE (nmI i) (own.map (·.2)) g tt el ρ = lcE (seqI (rv i)) (own.map (·.2)) g tt el ρ ∨ lcE (nmI i) (own.map (·.2)) g tt el ρ = lcE (wkI .ks i) (own.map (·.2)) g tt el ρ := by
    unfold lcE nmI seqI wkI bnd
    cases e0 : rv i ρ with
    | stk => exact .inl rfl
    | er x ρ' => exact .inl rfl
    | ok o ρ1 =>
      simp only
      cases o.d <;> first | exact .inl rfl | exact .inr rfl
  rcases e with e | e
  · rw [e] at q; exact .inl ⟨G, T, S, ρ, s, q⟩
  · rw [e] at q; exact .inr ⟨G, T, S, ρ, s, q⟩
theorem lcN_eq {vs : List Nat} (ρ : Ev) : lcE (nmI i) vs g tt el ρ = lcE (seqI (rv i)) vs g tt el ρ ∨ lcE (nmI i) vs g tt el ρ = lcE (wkI .ks i) vs g tt el ρ := by
  unfold lcE nmI seqI wkI bnd
  cases e0 : rv i ρ with
  | stk => exact .inl rfl
  | er x ρ' => exact .inl rfl
  | ok o ρ1 =>
    simp only
    cases o.d <;> first | exact .inl rfl | exact .inr rfl
theorem ds_setLcN {j : Nat} {y : Str} {py : Pos} {spos : Pos} (b : Bd X) (hy : X.N[j]? = some y) (hyl : X.env.scope.names.lookup y = some .local) (hsw : swapsWith (.ListComp elt [⟨tg, iter, ifs, 0⟩] scope pos) (some (.Name y py)) spos.line X.env = pure true)
    (hx : PE X iter (tVar i)) (ok : BlkOk X.N X.env.scope scope own)
    (hg : ∀ (s : Shared) (H : Hp) (C : Addr) (cl : List (Str × Addr)) (fp : List Addr), PG (X.blk s H scope (compEnvC scope cl C X.env) fp) tg (tC' X.K W0 (own.map (·.2)) g))
    (ht : ∀ (s : Shared) (H : Hp) (C : Addr) (cl : List (Str × Addr)) (fp : List Addr), PTs (X.blk s H scope (compEnvC scope cl C X.env) fp) ifs (tTs X.K tt))
    (he : ∀ (s : Shared) (H : Hp) (C : Addr) (cl : List (Str × Addr)) (fp : List Addr), PE (X.blk s H scope (compEnvC scope cl C X.env) fp) elt (tE X.K W0 el)) (hs : ∀ x, foldedSetIterable iter X.env x = pure x := by intro _; rfl) :
    DS X W0 (.Assign [.Name y py] (.ListComp elt [⟨tg, iter, ifs, 0⟩] scope pos) spos) (asgS (lcE (nmI i) (own.map (·.2)) g tt el) (gN j)) := by
  refine PS.imp (PS.or (ds_setLc (W := W0) b hy hyl hsw (di_seq (de_var hx)) ok hg ht he hs) (ds_setLcW b .ks hy hyl hsw (pi_keys hx) ok hg ht he hs)) fun Dn σ H ⟨G, T, S, ρ, s, q⟩ => ?_
  unfold asgS bnd at q ⊢
  rcases lcN_eq (g := g) (tt := tt) (el := el) (i := i) (vs := own.map (·.2)) ρ with e | e
  · rw [e] at q; exact .inl ⟨G, T, S, ρ, s, q⟩
  · rw [e] at q; exact .inr ⟨G, T, S, ρ, s, q⟩
end
end Y
/-! Y: short words for printed derivations; the law's own head -/
namespace Y
open PySem PySem.Spec PyProof.Rows L2

theorem tn {X : Cx} (b : Bd X) (i : Nat) {x : Str} {pos : Pos} (hi : X.N[i]? = some x := by rfl) (hx : Loc X.env.scope x := by first | exact Or.inl rfl | exact Or.inr rfl)
    (hf : X.fn x = true ∨ X.env.scope.names.lookup x = some .local := by first | exact .inl rfl | exact .inr rfl) : PG X (.Name x pos) (gName i) := pg_name b.nd hi hx hf
theorem bd_of {P : Program} {w : World} {K : PySem.W.Frag} {mg : Str → Option Value} {base : Heap} {N : List Str} {qual : Str} {scope : Scope} {f : Addr} {cd : Value} {A : Around} {outer : List Env} {s : Shared} {H : Hp} {E : XK} {k : Nat}
    (hr : Room k (A.deeper (envOfC qual scope s.heap.objs.size f cd))) (nd : N.Nodup) : Bd (cxOf CX0 P w K mg base N qual scope f cd A outer s H E).nox := ⟨rfl, by have := hr.un; show (A.deeper (envOfC qual scope s.heap.objs.size f cd)).units + 200 < cLine; omega, nd⟩
/-- the names that are a def's slots -/
theorem cal_mk {P : Program} {w : World} {K : PySem.W.Frag} {mg : Str → Option Value} {base : Heap} {k : Nat} {x : Str} {st : Stmt} {f : Addr} {fd : FuncData} {ps : List Str} {n : Nat} {F : Fn} (G : FnOk P w K mg base CX0 k f fd ps (spF K n F)) (hm : mg x = some (.ref f)) (D : L2.Fun K x x st f fd)
    (b : Binds K fd ps []) : Cal P w K mg base k x n F := ⟨f, fd, ps, [], G, hm, D.kp, b, .nil⟩
theorem cal_mono {P : Program} {w : World} {K : PySem.W.Frag} {mg : Str → Option Value} {base : Heap} {k j : Nat} {x : Str} {n : Nat} {F : Fn} (c : Cal P w K mg base k x n F) (h : k ≤ j) : Cal P w K mg base j x n F := by
  obtain ⟨f, fd, ps, ds, G, a, b, c, d⟩ := c.ex
  exact ⟨f, fd, ps, ds, G.mono h, a, b, c, d⟩
def scr (ns : List Int) : D := .list (ns.map .int)
def spLaw (K : PySem.W.Frag) : Sp := fun vs H Q _ => ∃ (a : Addr) (ns : List Int), vs = [.ref a] ∧ SqL K H a (ns.map V.int) ∧ ns.length ≤ 63 ∧ ∀ H', Q (.bl true) H'
theorem rpA_ints {K : PySem.W.Frag} {S : Hp} : ∀ ns : List Int, RpA K S (ns.map V.int) (ns.map PyData.int)
  | [] => .nil
  | n :: ns => .cons (.int n) (rpA_ints ns)
theorem law_sp {K : PySem.W.Frag} {F : Fn} (h : ∀ ns : List Int, ns.length ≤ 63 → ∃ ρ, F [lf (scr ns)] = .ok (.leaf (.bool true)) ρ) : ∀ vs H Q E, spLaw K vs H Q E → spF K 1 F vs H Q E := by
  rintro vs H Q E ⟨a, ns, rfl, hS, hl, q⟩
  obtain ⟨ρ, e⟩ := h ns hl
  refine ⟨rfl, H, fun _ => False, [lf (scr ns)], rfl, ⟨Same.refl _, Same.refl _, fun _ _ _ e => e, fun _ e => e, fun _ _ e => .inl e, fun _ _ _ _ => rfl, _, _, .inn .nil, .cons (.leaf (.lst hS (rpA_ints ns))) (by simp) .nil (by simp)⟩, ?_⟩
  rw [e]
  intro v σ' S' H' s
  have := (s.rtT (v := v) (e := lf (.bool true)) (by simp)).bl_of
  subst this
  exact q H'
theorem op_eqB {X : Cx} (b : Bd X) : OpR X (compareOp .Eq) (rEqD X.K) := op_eqD (by have := b.un; omega)
theorem op_neB {X : Cx} (b : Bd X) : OpR X (compareOp .NotEq) (rNeD X.K) := op_neD (by have := b.un; omega)
/-- a block's names, by the scope around it -/
def relS (scope sc : Scope) : Scope := { scope with names := scope.names.map fun (n, k) => if k == .free && sc.kind == .function && sc.names.lookup n == some .cell then (n, .cell) else (n, k) }
theorem relabel_eq {scope : Scope} {env : Env} : relabel scope env = relS scope env.scope := rfl
theorem nil_and {X : Cx} {W : XW} {a : Expr} {f : Ev → Rs Bool} (h : DV X W a f) : DV X W a f := h
/-- a name of the module, by its value -/
theorem de_gint {X : Cx} {W : XW} {x : Str} {pos : Pos} {i : Int} (hg : Gl X x) (h : ∃ u, X.mg x = some u ∧ RelV (.int i) u) (hd : (x == ("__debug__" : Str)) = false := by decide) : DE X W (.Name x pos) (kD (.int i)) := de_const (C8.pe_gc hg h hd) fun _ => .int i
/-- not x, x anything -/
theorem dv_notT {X : Cx} {W : XW} {a : Expr} {pos : Pos} {fa : Ev → Rs B} (ha : DB X W a fa) : DV X W (.UnaryOp .Not a pos) (notT (truB fa)) := PE.imp (pe_notT ha) fun σ H Q ⟨G, T, S, ρ, s, g⟩ => by
  refine ⟨G, T, S, ρ, s, ?_⟩
  unfold notT truB bnd at g
  cases e0 : fa ρ with
  | stk => rw [e0] at g; exact g.elim
  | er x ρ' => rw [e0] at g; exact g
  | ok b ρ1 =>
    rw [e0] at g
    intro x S1 H1 s1 at1
    simp only at g
    cases e1 : b.val ρ1 with
    | none => rw [e1] at g; exact g.elim
    | some d =>
      rw [e1] at g
      simp only at g
      cases e2 : gTru d with
      | none => rw [e2] at g; exact g.elim
      | some k =>
        rw [e2] at g
        exact ⟨k, tru_of (B.rt s1 (fun p m => List.mem_append_left _ m) at1 e1) e2, g S1 H1 s1.dropL⟩
end Y
/-! Y: further rules -/
namespace Y
open PySem PySem.Spec PyProof.Rows L2

/-! ### dict comprehensions -/
theorem putD_len {kvs : List (D × D)} {k d : D} : (putD kvs k d).length ≤ kvs.length + 1 := by
  unfold putD
  split
  · rw [List.length_map]; omega
  · simp
theorem kkeys_put {kvs : List (D × D)} {k : Key} {d : D} (h : kkeys kvs = true) : kkeys (putD kvs (keyD k) d) = true := by
  have hk : (asKey (keyD k)).isSome = true := by cases k <;> rfl
  unfold kkeys at *
  rw [List.all_eq_true] at *
  unfold putD
  split
  · intro p hp
    obtain ⟨q, hq, e⟩ := List.mem_map.mp hp
    have := h q hq
    subst e
    split <;> exact this
  · intro p hp
    rcases List.mem_append.mp hp with hp | hp
    · exact h p hp
    · simp at hp; subst hp; exact hk
def dcGo (vs : List Nat) (tg : O → Ev → Rs Unit) (tt : Ev → Rs Bool) (ek el : Ev → Rs O) : List D → List (D × D) → Ev → Rs (List (D × D))
  | [], acc, ρ => .ok acc ρ
  | d :: ds, acc, ρ => match tg (.leaf d) ρ with
    | .ok _ ρ1 => (match tt ρ1 with
      | .ok true ρ2 => (match ek ρ2 with
        | .ok k ρ3 => (match asKey k.d with
          | some k' => (match el ρ3 with
            | .ok o ρ4 => dcGo vs tg tt ek el ds (putD acc (keyD k') o.d) (wipeE ρ4 vs)
            | _ => .stk)
          | none => .stk)
        | _ => .stk)
      | .ok false ρ2 => dcGo vs tg tt ek el ds acc (wipeE ρ2 vs)
      | _ => .stk)
    | _ => .stk
def dcE (it : Ev → Rs (List D)) (vs : List Nat) (tg : O → Ev → Rs Unit) (tt : Ev → Rs Bool) (ek el : Ev → Rs O) : Ev → Rs O := bnd it fun ds ρ => if hidable ρ vs = true ∧ ds.length ≤ sizeLine then (match dcGo vs tg tt ek el ds [] (wipeE ρ vs) with
    | .ok ys ρ' => .ok (.dic ys) (unhide ρ ρ' vs)
    | _ => .stk) else .stk
def tDc1 (J : It) (g : TG) (tt : TT) (tk tv : TE) (vs : List Nat) (σ : Sg) (Q : VK) (H1 : Hp) : Prop := ∀ D, H1 D = none → ∃ W : Nat → Nat → Hp → Prop, (∃ m, W 0 m (upd H1 D (.dK []))) ∧ ∀ i m H, W i m H →
  (J.stop i H ∧ Q (.ref D) H) ∨ (J.go i H ∧ ∃ Nx : Hp → Prop, (∀ H', Nx H' → ∃ m', m' < m ∧ W (i + 1) m' H') ∧ ∀ x H', J.yld i H x H' → g x (wipe σ vs) H' fun σ2 H2 => wipe σ2 vs = wipe σ vs ∧ tt σ2 H2 fun b H3 =>
    if b = true then tk σ2 H3 fun y H4 => tv σ2 H4 fun z H5 => ∃ kvs k, y = kV k ∧ H5 D = some (.dK kvs) ∧ kvs.length < sizeLine ∧ Nx (upd H5 D (.dK (putK kvs k z))) else Nx H3)
theorem dcr_core {W : XW} {K : PySem.W.Frag} {vs : List Nat} {σ : Sg} {H1 : Hp} {Q : VK} {g : O → Ev → Rs Unit} {tt : Ev → Rs Bool} {ek el : Ev → Rs O} {G : Fra} {T L : List (V × E)} {S1 : Hp} {ρ1 : Ev} {ds : List D} {J : It} (s1 : Stt K G (L ++ T) ρ1 σ S1 H1) (iok : ItOkG K G J ds L)
    (z : GoE K W G T σ Q (if hidable ρ1 vs = true ∧ ds.length ≤ sizeLine then (match dcGo vs g tt ek el ds [] (wipeE ρ1 vs) with
    | .ok ys ρ' => .ok (.dic ys) (unhide ρ1 ρ' vs)
    | _ => .stk) else .stk)) : tDc1 J (tC' K W0 vs g) (tTs K tt) (tE K W0 ek) (tE K W0 el) vs σ Q H1 := by
  intro D' hD
  split at z
  · rename_i hh
    obtain ⟨hhid, hsz⟩ := hh
    -- the new list, our hidden entries held
    have s2 := (s1.hide (vs := vs) hhid)
    have s3 := s2.make (o := .dic []) hD (u := .dK []) (.dK upd_same (s2.sub.free hD) .nil)
    have s4 := s3.wiped vs
    refine ⟨fun i m H' => m = ds.length - i ∧ i ≤ ds.length ∧ ∃ acc ρi S', acc.length ≤ i ∧ kkeys acc = true ∧ Stt K G ((.ref D', ow (.dic acc)) :: (hidT σ ρ1 vs ++ (L ++ T))) (wipeE ρi vs) (wipe σ vs) S' H' ∧ ρi.length = ρ1.length ∧
      ∃ ys ρe, dcGo vs g tt ek el (ds.drop i) acc (wipeE ρi vs) = .ok ys ρe ∧ ∀ v S'' H'', Stt K G ((v, ow (.dic ys)) :: T) (unhide ρ1 ρe vs) σ S'' H'' → Q v H'', ⟨ds.length, ?_⟩, ?_⟩
    · refine ⟨by omega, Nat.zero_le _, [], ρ1, S1, Nat.zero_le _, rfl, s4, rfl, ?_⟩
      split at z
      · rename_i ys ρe he
        exact ⟨ys, ρe, he, z⟩
      · exact z.elim
    · rintro i m H' ⟨rfl, hi, acc, ρi, S', hacc, hdk, si, hlen, ys, ρe, he, fin⟩
      have iok' := iok ((.ref D', ow (.dic acc)) :: (hidT σ ρ1 vs ++ T)) (wipeE ρi vs) (wipe σ vs) S' H' (si.permT (by
        refine List.Perm.trans ?_ (List.perm_middle (l₁ := L)).symm
        refine List.Perm.cons _ ?_
        rw [← List.append_assoc, ← List.append_assoc]
        exact List.Perm.append_right T List.perm_append_comm))
      by_cases hlt : i < ds.length
      · have hd : ds[i]? = some ds[i] := List.getElem?_eq_getElem hlt
        obtain ⟨go, yld⟩ := iok'.1 i _ hd
        have hdrop : ds.drop i = ds[i] :: ds.drop (i + 1) := List.drop_eq_getElem_cons hlt
        rw [hdrop] at he
        -- what a turn is to reach
        refine .inr ⟨go, fun H2 => i + 1 ≤ ds.length ∧ ∃ acc ρi S', acc.length ≤ i + 1 ∧ kkeys acc = true ∧ Stt K G ((.ref D', ow (.dic acc)) :: (hidT σ ρ1 vs ++ (L ++ T))) (wipeE ρi vs) (wipe σ vs) S' H2 ∧ ρi.length = ρ1.length ∧
          ∃ ys ρe, dcGo vs g tt ek el (ds.drop (i + 1)) acc (wipeE ρi vs) = .ok ys ρe ∧ ∀ v S'' H'', Stt K G ((v, ow (.dic ys)) :: T) (unhide ρ1 ρe vs) σ S'' H'' → Q v H'', fun H2 h2 => ⟨ds.length - (i + 1), by omega, rfl, h2.1, h2.2⟩, ?_⟩
        intro x H2 y
        obtain ⟨S2, sx⟩ := yld x H2 y
        have sx' : Stt K G ((x, lf ds[i]) :: ((.ref D', ow (.dic acc)) :: (hidT σ ρ1 vs ++ (L ++ T)))) (wipeE ρi vs) (wipe σ vs) S2 H2 := sx.permT (by
          refine List.Perm.cons _ ?_
          refine List.Perm.trans (List.perm_middle (l₁ := L)) ?_
          refine List.Perm.cons _ ?_
          rw [← List.append_assoc, ← List.append_assoc]
          exact List.Perm.append_right T List.perm_append_comm)
        unfold dcGo at he
        cases e1 : g (.leaf ds[i]) (wipeE ρi vs) with
        | stk => rw [e1] at he; cases he
        | er x ρ' => rw [e1] at he; cases he
        | ok u ρa =>
          rw [e1] at he
          simp only at he
          refine ⟨G, _, S2, _, .leaf ds[i], sx', ?_⟩
          rw [e1]
          intro σ3 S3 H3 hw s5
          rw [wipe_wipe] at hw
          refine ⟨hw, G, _, S3, ρa, s5, ?_⟩
          have hla : ρa.length = ρ1.length := by
            have h1 := s5.len
            have h2 := s1.len
            have h3 := congrArg List.length hw
            rw [wipe_length, wipe_length] at h3
            omega
          -- the list that grows
          have next : ∀ {S4 H4 : Hp} {ρ4 : Ev} {acc' : List (D × D)}, Stt K G ((.ref D', ow (.dic acc')) :: (hidT σ ρ1 vs ++ (L ++ T))) ρ4 σ3 S4 H4 → Stt K G ((.ref D', ow (.dic acc')) :: (hidT σ ρ1 vs ++ (L ++ T))) (wipeE ρ4 vs) (wipe σ vs) S4 H4 := fun s6 => by
            have := s6.wiped vs
            rw [hw] at this
            exact this
          cases e2 : tt ρa with
          | stk => rw [e2] at he; cases he
          | er x ρ' => rw [e2] at he; cases he
          | ok b ρb =>
            rw [e2] at he
            intro S4 H4 s6
            have hlb : ρb.length = ρ1.length := by
              have h1 := s6.len
              have h3 := congrArg List.length hw
              have h2 := s1.len
              rw [wipe_length, wipe_length] at h3
              omega
            cases b with
            | false =>
              rw [if_neg Bool.false_ne_true]
              simp only at he
              exact ⟨hlt, acc, ρb, S4, Nat.le_succ_of_le hacc, hdk, next s6, hlb, ys, ρe, he, fin⟩
            | true =>
              rw [if_pos rfl]
              simp only at he
              refine ⟨G, _, S4, ρb, s6, ?_⟩
              cases e3 : ek ρb with
              | stk => rw [e3] at he; cases he
              | er x ρ' => rw [e3] at he; cases he
              | ok ok ρk =>
                rw [e3] at he
                simp only at he
                intro y S5 H5 s7
                obtain ⟨Sk, s7, _, rk⟩ := s7.freeze
                have sk := s7.drop1
                cases hkey : asKey ok.d with
                | none => rw [hkey] at he; simp only at he; cases he
                | some k' =>
                  rw [hkey] at he
                  simp only at he
                  have ek := asKey_eq hkey
                  rw [ek] at rk
                  have ey : y = kV k' ∧ okK k' = true := by
                    cases k' with
                    | inl i => cases rk; exact ⟨rfl, rfl⟩
                    | inr i => cases rk; exact ⟨rfl, by assumption⟩
                  obtain ⟨rfl, okk⟩ := ey
                  refine ⟨G, _, Sk, ρk, sk, ?_⟩
                  cases e4 : el ρk with
                  | stk => rw [e4] at he; cases he
                  | er x ρ' => rw [e4] at he; cases he
                  | ok o ρc =>
                    rw [e4] at he
                    simp only at he
                    intro v S6 H6 s8
                    have hlc : ρc.length = ρ1.length := by
                      have h1 := s8.len
                      have h3 := congrArg List.length hw
                      have h2 := s1.len
                      rw [wipe_length, wipe_length] at h3
                      omega
                    obtain ⟨S7, s9, _, rv⟩ := s8.freeze
                    have s10 := s9.drop1
                    obtain ⟨F, ow', _⟩ := s10.head
                    cases ow' with
                    | @dK _ kvs _ eH nS rA =>
                      refine ⟨kvs, k', rfl, eH, by rw [rA.length]; omega, hlt, putD acc (keyD k') o.d, ρc, S7, Nat.le_trans putD_len (by omega), kkeys_put hdk, next ?_, hlc, ys, _, he, fin⟩
                      exact s10.write (o' := .dic (putD acc (keyD k') o.d)) (.dK eH nS rA) (.dK upd_same nS (rA.put rv k' okk))
                    | @dT _ kvs _ eH nS ne rA =>
                      cases rA with
                      | nil => exact absurd rfl ne
                      | cons _ _ _ => simp [kkeys, asKey] at hdk
      · have e : i = ds.length := by omega
        subst e
        refine .inl ⟨iok'.2 _ (Nat.le_refl _), ?_⟩
        rw [List.drop_length] at he
        have : acc = ys ∧ wipeE ρi vs = ρe := by
          unfold dcGo at he
          injection he with h1 h2
          exact ⟨h1, h2⟩
        obtain ⟨rfl, rfl⟩ := this
        refine fin _ S' H' ?_
        -- back to the slots as they were
        have ent : ∀ (j : Nat) (e : E), ρ1[j]? = some (some e) → ∃ w, σ[j]? = some (some w) := fun j e he => let ⟨w, hw, _⟩ := s1.take he; ⟨w, hw⟩
        have sσ : Stt K G ((.ref D', ow (.dic acc)) :: (hidT σ ρ1 vs ++ (L ++ T))) (wipeE ρi vs) σ S' H' := by
          refine si.slots (by rw [wipe_length]) fun j e he => ?_
          rw [wipeE_get] at he
          rw [wipe_get]
          split at he
          · split at he <;> cases he
          · rename_i hj
            rw [if_neg hj]
        have su := Stt.unhide (ρ0 := ρ1) ent (by rw [wipeE_length]; exact hlen.symm) (vs := vs) (fun x hx => List.mem_cons_of_mem _ (List.mem_append_left _ hx)) hhid sσ
        exact su.subT (List.Sublist.cons_cons _ ((List.sublist_append_right _ _).trans (List.sublist_append_right _ _)))
  · exact z.elim
section
variable {X : Cx} {W : XW} {kx vx tg iter : Expr} {ifs : List Expr} {scope : Scope} {own : List (Str × Nat)} {pos : Pos} {it : Ev → Rs (List D)} {g : O → Ev → Rs Unit} {tt : Ev → Rs Bool} {ek el : Ev → Rs O}
theorem dc_reads {K : PySem.W.Frag} {vs : List Nat} {σ : Sg} {H : Hp} {Q : VK} (q : tE K W (dcE it vs g tt ek el) σ H Q) : tDc (tI K W it) (tC' K W0 vs g) (tTs K tt) (tE K W0 ek) (tE K W0 el) vs σ H Q := by
  obtain ⟨G, T, S, ρ, s, q⟩ := q
  refine ⟨G, T, S, ρ, s, seq sid ?_ q⟩
  intro ds ρ1 z J L S1 H1 s1 iok
  exact dcr_core s1 (iok G) z
theorem ps_setDc {i : Nat} {y : Str} {py : Pos} {spos : Pos} {wi : TI} {g : TG} {tt : TT} {tk te : TE} (hc : X.calm = true) (hN : X.N.Nodup) (hy : X.N[i]? = some y) (hyl : X.env.scope.names.lookup y = some .local)
    (hsw : swapsWith (.DictComp kx vx [⟨tg, iter, ifs, 0⟩] scope pos) (some (.Name y py)) spos.line X.env = pure true) (hi : PI X tg iter wi) (ok : BlkOk X.N X.env.scope scope own)
    (hg : ∀ (s : Shared) (H : Hp) (C : Addr) (cl : List (Str × Addr)) (fp : List Addr), PG (X.blk s H scope (compEnvC scope cl C X.env) fp) tg g) (ht : ∀ (s : Shared) (H : Hp) (C : Addr) (cl : List (Str × Addr)) (fp : List Addr), PTs (X.blk s H scope (compEnvC scope cl C X.env) fp) ifs tt)
    (hk : ∀ (s : Shared) (H : Hp) (C : Addr) (cl : List (Str × Addr)) (fp : List Addr), PE (X.blk s H scope (compEnvC scope cl C X.env) fp) kx tk)
    (he : ∀ (s : Shared) (H : Hp) (C : Addr) (cl : List (Str × Addr)) (fp : List Addr), PE (X.blk s H scope (compEnvC scope cl C X.env) fp) vx te) (hs : ∀ x, foldedSetIterable iter X.env x = pure x := by intro _; rfl) :
    PS X (.Assign [.Name y py] (.DictComp kx vx [⟨tg, iter, ifs, 0⟩] scope pos) spos) (tAsg (tDc wi g tt tk te (own.map (·.2))) (gName i)) := by
  refine ⟨fun pins s σ H D I h => ?_⟩
  rw [exec_Assign_Name_used _ _ _ _ hsw]
  refine wpAny_bind (wpAny_standAt (wpAny_bind ?_))
  show wpAny _ X.A (do let _ ← comprehension (.DictComp kx vx [⟨tg, iter, ifs, 0⟩] scope pos) scope X.env (firstIterPos [⟨tg, iter, ifs, 0⟩] pos) newDict false (eval iter X.env) (some (assign (.Name y py) X.env))) _ _ s
  have h : tDc wi g tt tk te (own.map (·.2)) σ H (fun x H1 => gName i x σ H1 D.nx) := h
  refine wpAny_bind (thn (dc_core (Qf := fun _ s' => SP X pins D .next s') hc hN I hi ok hg ht hk he hs h fun L C s' m H' I' q hn f => ?_) fun _ s' hq => wpAny_pure (wpAny_pure hq))
  show wpAny _ _ (assign (.Name y py) X.env (.ref L)) _ _ _
  refine wpAny_assign_Name (store_ok2 (v := V.ref L) I' hN hy (.inl hyl) rfl (fun s2 I2 ⟨a, sb, ha⟩ => ?_) (.inr hyl))
  obtain ⟨f0, f1, f2, f3, f4, f5⟩ := f
  have haC : C ≠ a := by
    rcases ha with z | z
    · rw [z]; exact f1
    · exact fun e => f4 y a z e.symm
  refine ⟨m, hn.sameBut sb haC, fun h3 sb3 => ?_⟩
  exact ⟨_, H', I2.turned (t' := s2.toks) (fun b o hb e => (sb3.2 b hb).trans e) f0 f1 f3 f4 f5, q⟩
theorem sw_trueD {kx vx : Expr} {gs : List Comprehension} {scope : Scope} {pos py : Pos} {y : Str} {l : Nat} {env : Env} (hk : env.scope.kind = .function) (hy : env.scope.names.lookup y = some .local) (hl : (py.line == pos.line) = true)
    (ha : (scope.names.any fun (n, k) => n == y && (k == .local || k == .cell)) = false) : swapsWith (.DictComp kx vx gs scope pos) (some (.Name y py)) l env = pure true := by
  have ky : env.kindOf y = some .local := hy
  have hb : env.blockKind = .function := by unfold Env.blockKind; rw [hk]; rfl
  unfold swapsWith
  simp only [hb, ky, ha, Expr.pos, hl]
  rfl
theorem de_dc (b : Bd X) (hi : DI X W tg iter it) (ok : BlkOk X.N X.env.scope scope own)
    (hg : ∀ (s : Shared) (H : Hp) (C : Addr) (cl : List (Str × Addr)) (fp : List Addr), PG (X.blk s H scope (compEnvC scope cl C X.env) fp) tg (tC' X.K W0 (own.map (·.2)) g))
    (ht : ∀ (s : Shared) (H : Hp) (C : Addr) (cl : List (Str × Addr)) (fp : List Addr), PTs (X.blk s H scope (compEnvC scope cl C X.env) fp) ifs (tTs X.K tt))
    (hk : ∀ (s : Shared) (H : Hp) (C : Addr) (cl : List (Str × Addr)) (fp : List Addr), PE (X.blk s H scope (compEnvC scope cl C X.env) fp) kx (tE X.K W0 ek))
    (he : ∀ (s : Shared) (H : Hp) (C : Addr) (cl : List (Str × Addr)) (fp : List Addr), PE (X.blk s H scope (compEnvC scope cl C X.env) fp) vx (tE X.K W0 el)) (hs : ∀ x, foldedSetIterable iter X.env x = pure x := by intro _; rfl) :
    DE X W (.DictComp kx vx [⟨tg, iter, ifs, 0⟩] scope pos) (dcE it (own.map (·.2)) g tt ek el) := PE.imp (pe_dc b.calm b.nd hi ok hg ht hk he hs) fun σ H Q q => dc_reads q
theorem ds_setDc {j : Nat} {y : Str} {py : Pos} {spos : Pos} (b : Bd X) (hy : X.N[j]? = some y) (hyl : X.env.scope.names.lookup y = some .local) (hsw : swapsWith (.DictComp kx vx [⟨tg, iter, ifs, 0⟩] scope pos) (some (.Name y py)) spos.line X.env = pure true)
    (hi : DI X W tg iter it) (ok : BlkOk X.N X.env.scope scope own)
    (hg : ∀ (s : Shared) (H : Hp) (C : Addr) (cl : List (Str × Addr)) (fp : List Addr), PG (X.blk s H scope (compEnvC scope cl C X.env) fp) tg (tC' X.K W0 (own.map (·.2)) g))
    (ht : ∀ (s : Shared) (H : Hp) (C : Addr) (cl : List (Str × Addr)) (fp : List Addr), PTs (X.blk s H scope (compEnvC scope cl C X.env) fp) ifs (tTs X.K tt))
    (hk : ∀ (s : Shared) (H : Hp) (C : Addr) (cl : List (Str × Addr)) (fp : List Addr), PE (X.blk s H scope (compEnvC scope cl C X.env) fp) kx (tE X.K W0 ek))
    (he : ∀ (s : Shared) (H : Hp) (C : Addr) (cl : List (Str × Addr)) (fp : List Addr), PE (X.blk s H scope (compEnvC scope cl C X.env) fp) vx (tE X.K W0 el)) (hs : ∀ x, foldedSetIterable iter X.env x = pure x := by intro _; rfl) :
    DS X W (.Assign [.Name y py] (.DictComp kx vx [⟨tg, iter, ifs, 0⟩] scope pos) spos) (asgS (dcE it (own.map (·.2)) g tt ek el) (gN j)) :=
  PS.imp (ps_setDc b.calm b.nd hy hyl hsw hi ok hg ht hk he hs) fun Dn σ H q => dc_reads (asg_tE q)
end
/-! ### {.. for x in NAME} -/
section
variable {K : PySem.W.Frag} {vs : List Nat} {σ : Sg} {H1 : Hp} {Q : VK} {g : O → Ev → Rs Unit} {tt : Ev → Rs Bool} {ek el : Ev → Rs O} {G : Fra} {T : List (V × E)} {S1 : Hp} {ρ1 : Ev}
theorem dc_nil (s1 : Stt K G T ρ1 σ S1 H1) (z : GoE K W0 G T σ Q (if hidable ρ1 vs = true ∧ ([] : List D).length ≤ sizeLine then (match dcGo vs g tt ek el [] [] (wipeE ρ1 vs) with
    | .ok ys ρ' => .ok (.dic ys) (unhide ρ1 ρ' vs)
    | _ => .stk) else .stk)) : ∀ D, H1 D = none → Q (.ref D) (upd H1 D (.dK [])) := fun D hD => by
  obtain ⟨W, ⟨m, w⟩, h⟩ := dcr_core (W := W0) (g := g) (tt := tt) (ek := ek) (el := el) (L := []) (J := ⟨fun _ _ => False, fun _ _ _ _ => False, fun _ _ => True⟩) s1 (fun T ρ σ S H s => ⟨fun i d hd => by simp at hd, fun i hi => trivial⟩) z D hD
  rcases h 0 m _ w with ⟨_, q⟩ | ⟨f, _⟩
  · exact q
  · exact f.elim
end
section
variable {X : Cx} {kx vx tg iter : Expr} {ifs : List Expr} {scope : Scope} {own : List (Str × Nat)} {pos : Pos} {g : O → Ev → Rs Unit} {tt : Ev → Rs Bool} {ek el : Ev → Rs O} {i : Nat}
theorem dcW_reads {K : PySem.W.Frag} {vs : List Nat} (k : Wk) {σ : Sg} {H : Hp} {Q : VK} (q : tE K W0 (dcE (wkI k i) vs g tt ek el) σ H Q) :
    tLockE (tDc (wkT k (tVar i)) (tC' K W0 vs g) (tTs K tt) (tE K W0 ek) (tE K W0 el) vs) σ H Q ∨ tDc (wkT k (tVar i)) (tC' K W0 vs g) (tTs K tt) (tE K W0 ek) (tE K W0 el) vs σ H Q ∨ tRelE (tLockE (tDc (wkT k (tVar i)) (tC' K W0 vs g) (tTs K tt) (tE K W0 ek) (tE K W0 el) vs)) σ H Q := by
  obtain ⟨G, T, S, ρ, s, q⟩ := q
  unfold dcE wkI bnd at q
  cases e0 : rv i ρ with
  | stk => rw [e0] at q; exact q.elim
  | er x ρ' => exact absurd e0 rv_er
  | ok o ρ1 =>
    rw [e0] at q
    obtain ⟨v, S1, hv, s1, r⟩ := rv_run s e0
    simp only at q
    split at q
    · rename_i a ρa hq
      split at hq
      · rename_i es hes
        split at hq
        · rename_i hk
          cases hq
          rw [hes] at r s1
          have s0 := s1.drop1
          cases r with
          | @dK d kvs _ h1 h2 h3 =>
            rcases h1 with h1 | ⟨od, h1⟩
            · have hH := s1.sub _ _ h1
              refine .inl ⟨d, _, hH, trivial, fun od => wk_readK hv upd_same ?_⟩
              cases h3 with
              | nil =>
                have e : k.ds [] = [] := by cases k <;> rfl
                rw [e] at q
                have z := dc_nil (g := g) (tt := tt) (ek := ek) (el := el) s0 q
                refine fun D hD => ⟨fun i m H' => i = 0 ∧ H' = upd (upd H d (.frz od (.dK []))) D (.dK []), ⟨0, rfl, rfl⟩, fun i m H' ⟨ea, eb⟩ => .inl ?_⟩
                subst ea eb
                have hne : D ≠ d := fun e => by subst e; rw [upd_same] at hD; cases hD
                rw [upd_ne hne] at hD
                refine ⟨by cases k <;> exact ⟨by rw [upd_ne (Ne.symm hne), upd_same], Nat.le_refl _⟩, by rw [upd_ne (Ne.symm hne), upd_same], ?_⟩
                rw [upd_comm hne, upd_back hH]
                exact z D hD
              | @cons k0 v0 d0 kvs' es' o1 a1 b1 =>
                obtain ⟨sl, un⟩ := s1.lock (od := od) h1 trivial
                exact dcr_core (L := [(.ref d, lf (.dict ((keyD k0, d0) :: es')))]) sl (itk_ok k upd_same) (GoE.lk un q)
            · have hH := s1.sub _ _ h1
              obtain ⟨sp, un⟩ := s1.pin h1
              exact .inr (.inl (wk_readK hv hH (dcr_core (L := [(.ref d, lf (.dict es))]) sp (itk_ok k upd_same) (GoE.pin un q))))
          | @dT d kvs _ h1 h2 h3 =>
            rcases h1 with h1 | ⟨od, h1⟩
            · have hH := s1.sub _ _ h1
              cases h3 with
              | nil => exact absurd rfl h2
              | @cons k0 v0 d0 kvs' es' o1 a1 b1 =>
                cases k with
                | ks =>
                  refine .inl ⟨d, _, hH, trivial, fun od => wk_readT hv upd_same ?_⟩
                  obtain ⟨sl, un⟩ := s1.lock (od := od) h1 trivial
                  exact dcr_core (L := [(.ref d, lf (.dict ((.tuple (k0.map keyD), d0) :: es')))]) sl (itkt_ok upd_same) (GoE.lk un q)
                | vs => simp [Wk.ok, kkeys, asKey] at hk
                | its => simp [Wk.ok, kkeys, asKey] at hk
            · have hH := s1.sub _ _ h1
              obtain ⟨sp, un⟩ := s1.pin h1
              cases h3 with
              | nil => exact absurd rfl h2
              | @cons k0 v0 d0 kvs' es' o1 a1 b1 =>
                cases k with
                | ks => exact .inr (.inl (wk_readT hv hH (dcr_core (L := [(.ref d, lf (.dict ((.tuple (k0.map keyD), d0) :: es')))]) sp (itkt_ok upd_same) (GoE.pin un q))))
                | vs => simp [Wk.ok, kkeys, asKey] at hk
                | its => simp [Wk.ok, kkeys, asKey] at hk
        · cases hq
      · cases hq
    · rename_i hq
      split at hq
      · split at hq
        · cases hq
        · cases hq
      · cases hq
    · exact q.elim
theorem de_dcW (b : Bd X) (k : Wk) (hi : PI X tg iter (wkT k (tVar i))) (ok : BlkOk X.N X.env.scope scope own)
    (hg : ∀ (s : Shared) (H : Hp) (C : Addr) (cl : List (Str × Addr)) (fp : List Addr), PG (X.blk s H scope (compEnvC scope cl C X.env) fp) tg (tC' X.K W0 (own.map (·.2)) g))
    (ht : ∀ (s : Shared) (H : Hp) (C : Addr) (cl : List (Str × Addr)) (fp : List Addr), PTs (X.blk s H scope (compEnvC scope cl C X.env) fp) ifs (tTs X.K tt))
    (hk : ∀ (s : Shared) (H : Hp) (C : Addr) (cl : List (Str × Addr)) (fp : List Addr), PE (X.blk s H scope (compEnvC scope cl C X.env) fp) kx (tE X.K W0 ek))
    (he : ∀ (s : Shared) (H : Hp) (C : Addr) (cl : List (Str × Addr)) (fp : List Addr), PE (X.blk s H scope (compEnvC scope cl C X.env) fp) vx (tE X.K W0 el)) (hs : ∀ x, foldedSetIterable iter X.env x = pure x := by intro _; rfl) :
    DE X W0 (.DictComp kx vx [⟨tg, iter, ifs, 0⟩] scope pos) (dcE (wkI k i) (own.map (·.2)) g tt ek el) := by
  have F := pe_dc (pos := pos) b.calm b.nd hi ok hg ht hk he hs
  exact PE.imp (PE.orr (pe_lock F) (PE.orr F (pe_rel (pe_lock F)))) fun σ H Q q => dcW_reads k q
theorem ds_setDcW {j : Nat} {y : Str} {py : Pos} {spos : Pos} (b : Bd X) (k : Wk) (hy : X.N[j]? = some y) (hyl : X.env.scope.names.lookup y = some .local) (hsw : swapsWith (.DictComp kx vx [⟨tg, iter, ifs, 0⟩] scope pos) (some (.Name y py)) spos.line X.env = pure true)
    (hi : PI X tg iter (wkT k (tVar i))) (ok : BlkOk X.N X.env.scope scope own)
    (hg : ∀ (s : Shared) (H : Hp) (C : Addr) (cl : List (Str × Addr)) (fp : List Addr), PG (X.blk s H scope (compEnvC scope cl C X.env) fp) tg (tC' X.K W0 (own.map (·.2)) g))
    (ht : ∀ (s : Shared) (H : Hp) (C : Addr) (cl : List (Str × Addr)) (fp : List Addr), PTs (X.blk s H scope (compEnvC scope cl C X.env) fp) ifs (tTs X.K tt))
    (hk : ∀ (s : Shared) (H : Hp) (C : Addr) (cl : List (Str × Addr)) (fp : List Addr), PE (X.blk s H scope (compEnvC scope cl C X.env) fp) kx (tE X.K W0 ek))
    (he : ∀ (s : Shared) (H : Hp) (C : Addr) (cl : List (Str × Addr)) (fp : List Addr), PE (X.blk s H scope (compEnvC scope cl C X.env) fp) vx (tE X.K W0 el)) (hs : ∀ x, foldedSetIterable iter X.env x = pure x := by intro _; rfl) :
    DS X W0 (.Assign [.Name y py] (.DictComp kx vx [⟨tg, iter, ifs, 0⟩] scope pos) spos) (asgS (dcE (wkI k i) (own.map (·.2)) g tt ek el) (gN j)) := by
  have F := ps_setDc b.calm b.nd hy hyl hsw hi ok hg ht hk he hs
  exact PS.imp (PS.or (ps_lock F) (PS.or F (ps_rel (ps_lock F)))) fun Dn σ H q => dcW_reads k (asg_tE q)
theorem de_dcN (b : Bd X) (hx : PE X iter (tVar i)) (ok : BlkOk X.N X.env.scope scope own)
    (hg : ∀ (s : Shared) (H : Hp) (C : Addr) (cl : List (Str × Addr)) (fp : List Addr), PG (X.blk s H scope (compEnvC scope cl C X.env) fp) tg (tC' X.K W0 (own.map (·.2)) g))
    (ht : ∀ (s : Shared) (H : Hp) (C : Addr) (cl : List (Str × Addr)) (fp : List Addr), PTs (X.blk s H scope (compEnvC scope cl C X.env) fp) ifs (tTs X.K tt))
    (hk : ∀ (s : Shared) (H : Hp) (C : Addr) (cl : List (Str × Addr)) (fp : List Addr), PE (X.blk s H scope (compEnvC scope cl C X.env) fp) kx (tE X.K W0 ek))
    (he : ∀ (s : Shared) (H : Hp) (C : Addr) (cl : List (Str × Addr)) (fp : List Addr), PE (X.blk s H scope (compEnvC scope cl C X.env) fp) vx (tE X.K W0 el)) (hs : ∀ x, foldedSetIterable iter X.env x = pure x := by intro _; rfl) :
    DE X W0 (.DictComp kx vx [⟨tg, iter, ifs, 0⟩] scope pos) (dcE (nmI i) (own.map (·.2)) g tt ek el) := by
  refine PE.imp (PE.orr (de_dc (W := W0) (pos := pos) b (di_seq (de_var hx)) ok hg ht hk he hs) (de_dcW (pos := pos) b .ks (pi_keys hx) ok hg ht hk he hs)) fun σ H Q ⟨G, T, S, ρ, s, q⟩ => ?_
  have e : dcE (nmI i) (own.map (·.2)) g tt ek el ρ = dcE (seqI (rv i)) (own.map (·.2)) g tt ek el ρ ∨ dcE (nmI i) (own.map (·.2)) g tt ek el ρ = dcE (wkI .ks i) (own.map (·.2)) g tt ek el ρ := by
    unfold dcE nmI seqI wkI bnd
    cases e0 : rv i ρ with
    | stk => exact .inl rfl
    | er x ρ' => exact .inl rfl
    | ok o ρ1 =>
      simp only
      cases o.d <;> first | exact .inl rfl | exact .inr rfl
  rcases e with e | e
  · rw [e] at q; exact .inl ⟨G, T, S, ρ, s, q⟩
  · rw [e] at q; exact .inr ⟨G, T, S, ρ, s, q⟩
theorem dcN_eq {vs : List Nat} (ρ : Ev) : dcE (nmI i) vs g tt ek el ρ = dcE (seqI (rv i)) vs g tt ek el ρ ∨ dcE (nmI i) vs g tt ek el ρ = dcE (wkI .ks i) vs g tt ek el ρ := by
  unfold dcE nmI seqI wkI bnd
  cases e0 : rv i ρ with
  | stk => exact .inl rfl
  | er x ρ' => exact .inl rfl
  | ok o ρ1 =>
    simp only
    cases o.d <;> first | exact .inl rfl | exact .inr rfl
theorem ds_setDcN {j : Nat} {y : Str} {py : Pos} {spos : Pos} (b : Bd X) (hy : X.N[j]? = some y) (hyl : X.env.scope.names.lookup y = some .local) (hsw : swapsWith (.DictComp kx vx [⟨tg, iter, ifs, 0⟩] scope pos) (some (.Name y py)) spos.line X.env = pure true)
    (hx : PE X iter (tVar i)) (ok : BlkOk X.N X.env.scope scope own)
    (hg : ∀ (s : Shared) (H : Hp) (C : Addr) (cl : List (Str × Addr)) (fp : List Addr), PG (X.blk s H scope (compEnvC scope cl C X.env) fp) tg (tC' X.K W0 (own.map (·.2)) g))
    (ht : ∀ (s : Shared) (H : Hp) (C : Addr) (cl : List (Str × Addr)) (fp : List Addr), PTs (X.blk s H scope (compEnvC scope cl C X.env) fp) ifs (tTs X.K tt))
    (hk : ∀ (s : Shared) (H : Hp) (C : Addr) (cl : List (Str × Addr)) (fp : List Addr), PE (X.blk s H scope (compEnvC scope cl C X.env) fp) kx (tE X.K W0 ek))
    (he : ∀ (s : Shared) (H : Hp) (C : Addr) (cl : List (Str × Addr)) (fp : List Addr), PE (X.blk s H scope (compEnvC scope cl C X.env) fp) vx (tE X.K W0 el)) (hs : ∀ x, foldedSetIterable iter X.env x = pure x := by intro _; rfl) :
    DS X W0 (.Assign [.Name y py] (.DictComp kx vx [⟨tg, iter, ifs, 0⟩] scope pos) spos) (asgS (dcE (nmI i) (own.map (·.2)) g tt ek el) (gN j)) := by
  refine PS.imp (PS.or (ds_setDc (W := W0) b hy hyl hsw (di_seq (de_var hx)) ok hg ht hk he hs) (ds_setDcW b .ks hy hyl hsw (pi_keys hx) ok hg ht hk he hs)) fun Dn σ H ⟨G, T, S, ρ, s, q⟩ => ?_
  unfold asgS bnd at q ⊢
  rcases dcN_eq (g := g) (tt := tt) (ek := ek) (el := el) (i := i) (vs := own.map (·.2)) ρ with e | e
  · rw [e] at q; exact .inl ⟨G, T, S, ρ, s, q⟩
  · rw [e] at q; exact .inr ⟨G, T, S, ρ, s, q⟩
end
end Y
/-! Y: further built-ins and methods -/
namespace Y
open PySem PySem.Spec PyProof.Rows L2

/-! ### list.extend on a name of ours -/
def extS (j : Nat) (fe : Ev → Rs O) : Ev → Rs Unit := bnd (bv j) fun _ ρ => match ρ[j]? with
  | some (some ⟨_, .lst _⟩) => bnd fe (fun o ρ1 => match o with
    | .lst es => (match ρ1[j]? with
      | some (some ⟨io, .lst ds⟩) => if ds.length + es.length ≤ sizeLine then .ok () (ρ1.set j (some ⟨io, .lst (ds ++ es)⟩)) else .stk
      | _ => .stk)
    | _ => .stk) ρ
  | _ => .stk
section
variable {X : Cx} {W : XW} {o e : Expr} {apos pos : Pos} {fe : Ev → Rs O}
theorem dx_extend {j : Nat} (ho : PE X o (tVar j)) (he : DE X W e fe) (hat : attributeBase o "extend" X.env (eval o X.env) = eval o X.env := by rfl)
    (hall : (((backTo pos (starEach [e] X.env)).all fun x => !x.fst) && ((backToKw pos (keywordEach [] X.env)).all fun x => x.fst.isSome) && decide ((([e] : List Expr).length + ([] : List Keyword).length + if ([] : List Keyword).isEmpty = true then 0 else 1) < 30)) = true := by rfl)
    (hline : (apos.endLine == pos.line) = true := by rfl) (hs : starEach [e] X.env = (false, eval e X.env) :: starEach [] X.env := by rfl) (hpl : ((backTo pos (starEach [] X.env)).any fun x => x.fst) = false := by rfl) :
    DX X W (.Call (.Attribute o "extend" apos) [e] [] pos) (extS j fe) := PE.imp (pe_bm PySem.F.plainAttrs_list PySem.F.slot_list_extend PySem.F.type_list_extend mt_extend ho (pa_cons he pa_nil hs) hat hall hline hs hpl) fun σ H Q ⟨G, T, S, ρ, s, g⟩ => by
  unfold extS bnd bv at g
  cases e0 : ρ[j]? with
  | none => rw [e0] at g; exact g.elim
  | some m =>
    cases m with
    | none => rw [e0] at g; exact g.elim
    | some ex =>
      obtain ⟨w, hw, s0⟩ := s.take e0
      rw [e0] at g
      simp only [e0] at g
      obtain ⟨io, o⟩ := ex
      cases o with
      | leaf d => exact g.elim
      | dic d => exact g.elim
      | lst ds0 =>
        simp only at g
        obtain ⟨F0, own0, _⟩ := s0.head
        have hrt := own0.rt s0.sub
        obtain ⟨a, xs0, rfl, h1, _⟩ := hrt.lst_of
        refine ⟨_, hw, .inl ⟨rfl, xs0, h1⟩, G, T, S, ρ, s, ?_⟩
        cases e1 : fe ρ with
        | stk => rw [e1] at g; exact g.elim
        | er x ρ' => rw [e1] at g; exact g
        | ok oe ρ1 =>
          rw [e1] at g
          intro v S1 H1 s1
          simp only at g
          cases oe with
          | leaf d => exact g.elim
          | dic d => exact g.elim
          | lst es =>
            simp only at g
            cases e2 : ρ1[j]? with
            | none => rw [e2] at g; exact g.elim
            | some m =>
              cases m with
              | none => rw [e2] at g; exact g.elim
              | some ex1 =>
                rw [e2] at g
                obtain ⟨io1, o1⟩ := ex1
                cases o1 with
                | leaf d => exact g.elim
                | dic d => exact g.elim
                | lst ds =>
                  simp only at g
                  split at g
                  · rename_i hlen
                    obtain ⟨Fv, ownv, _⟩ := s1.head
                    cases ownv with
                    | @lst b ys _ eB nB rB =>
                      have s2 := s1.drop1
                      obtain ⟨w', hw', s3⟩ := s2.take e2
                      rw [hw] at hw'
                      cases hw'
                      obtain ⟨F, own, _⟩ := s3.head
                      cases own with
                      | @lst _ xs _ eH nS rA =>
                        refine ⟨a, b, xs, ys, rfl, rfl, eH, eB, by rw [rA.length, rB.length]; exact hlen, ?_⟩
                        have s4 := s3.write (o' := .lst (ds ++ es)) (.lst eH nS rA) (u := .lst (xs ++ ys)) (.lst upd_same nS (rA.app rB))
                        have s5 := s4.back e2 hw fun io => s2.ios j _ e2 io
                        exact g _ S1 _ s5
                  · exact g.elim
end
/-! ### xs[::-1], bool(x), list(range(..)) -/
def gRev : D → Option O
  | .list ds => some (.lst ds.reverse)
  | _ => none
theorem RpA.rev {K : PySem.W.Frag} {S : Hp} {vs : List V} {ds : List D} (h : RpA K S vs ds) : RpA K S vs.reverse ds.reverse := by
  induction vs generalizing ds with
  | nil => cases h; exact .nil
  | cons v vs ih =>
    cases h with
    | cons a b =>
      rw [List.reverse_cons, List.reverse_cons]
      exact (ih b).app (.cons a .nil)
theorem does_rev {X : Cx} : Does1 X gRev (fun x H Q => ∃ a xs, x = .ref a ∧ SqL X.K H a xs ∧ ∀ p, H p = none → Q (.ref p) (upd H p (.lst xs.reverse))) := by
  intro x dx o G T ρ σ S H Q s rx e q
  unfold gRev at e
  split at e
  · cases e
    obtain ⟨a, xs, rfl, h1, r1⟩ := rx.lst_of
    exact ⟨a, xs, rfl, h1, s.newL r1.rev q⟩
  · cases e
theorem de_rev {X : Cx} {W : XW} {e : Expr} {fa : Ev → Rs B} {k : Nat} {p1 p2 p3 pos : Pos} (ha : DB X W e fa) : DE X W (.Subscript e (.Slice none none (some (.UnaryOp .USub (.Constant (.int 1) k p1) p2)) p3) pos) (op1 gRev fa) :=
  PE.imp (pe_revL ha) fun _ _ _ q => run1 does_rev q
def gBool : List D → Option O
  | [.list ds] => some (.leaf (.bool (!ds.isEmpty)))
  | [.int i] => some (.leaf (.bool (i != 0)))
  | [.bool b] => some (.leaf (.bool b))
  | _ => none
def rBoolA (K : PySem.W.Frag) : List V → Hp → VK → Prop := fun xs H Q => ((∃ i, xs = [.int i] ∧ Q (.bl (i != 0)) H) ∨ ∃ k, xs = [.bl k] ∧ Q (.bl k) H) ∨ ∃ (a : Addr) (zs : List V), xs = [.ref a] ∧ SqL K H a zs ∧ Q (.bl (!zs.isEmpty)) H
theorem call_boolA {X : Cx} : CallR X (.type "bool") (rBoolA X.K) := call_bool1.or call_boolL
theorem does_bool {X : Cx} : DoesL X gBool (rBoolA X.K) := by
  intro xs ds o G T ρ σ S H Q s r e q
  unfold gBool at e
  split at e
  · obtain ⟨x, rfl, rx⟩ := r.one
    cases e
    obtain ⟨a, xs, rfl, h1, r1⟩ := rx.lst_of
    exact .inr ⟨a, xs, rfl, h1, s.val (by rw [r1.emp]; exact .bl _) q⟩
  · obtain ⟨x, rfl, rx⟩ := r.one
    cases e
    rw [rx.int_of]
    exact .inl (.inl ⟨_, rfl, s.val (.bl _) q⟩)
  · obtain ⟨x, rfl, rx⟩ := r.one
    cases e
    rw [rx.bl_of]
    exact .inl (.inr ⟨_, rfl, s.val (.bl _) q⟩)
  · cases e
noncomputable def lrg1 (fa : Ev → Rs B) : Ev → Rs O := bnd fa fun b ρ => match b.val ρ with
  | some (.int j) => cif (-(2 ^ 62) ≤ j ∧ j ≤ 1000) (.ok (.lst (rangeD 0 j)) ρ) .stk
  | _ => .stk
noncomputable def lrg2 (fa fb : Ev → Rs B) : Ev → Rs O := bnd fa fun a => bnd fb fun b ρ => match a.val ρ, b.val ρ with
  | some (.int i), some (.int j) => cif ((-(2 ^ 62) ≤ i ∧ i ≤ 1000) ∧ (-(2 ^ 62) ≤ j ∧ j ≤ 1000) ∧ j - i ≤ 1000) (.ok (.lst (rangeD i j)) ρ) .stk
  | _, _ => .stk
theorem rpA_rg {K : PySem.W.Frag} {S : Hp} (i j : Int) : RpA K S (rgV i j) (rangeD i j) := by
  unfold rgV rangeD
  have : ∀ l : List Nat, RpA K S (l.map fun k => V.int (i + (k : Nat))) (l.map fun k => PyData.int (i + (k : Nat))) := fun l => by
    induction l with
    | nil => exact .nil
    | cons x l ih => exact .cons (.int _) ih
  exact this _
section
variable {X : Cx} {W : XW} {a b : Expr} {fa fb : Ev → Rs B} {p p2 pos pos2 : Pos}
theorem de_lrg1 (bd : Bd X) (hg : Gl X "list") (hm : X.mg "list" = none) (hg2 : Gl X "range") (hm2 : X.mg "range" = none) (ha : DB X W a fa) (hs2 : starEach [a] X.env = (false, eval a X.env) :: starEach [] X.env := by rfl)
    (hs : starEach [.Call (.Name "range" p2) [a] [] pos2] X.env = (false, eval (.Call (.Name "range" p2) [a] [] pos2) X.env) :: starEach [] X.env := by rfl) :
    DE X W (.Call (.Name "list" p) [.Call (.Name "range" p2) [a] [] pos2] [] pos) (lrg1 fa) := PE.imp (pe_listRg bd.calm hg hm (prg_1 hg2 hm2 ha hs2) hs) fun σ H Q ⟨G, T, S, ρ, s, g⟩ => by
  refine ⟨G, T, S, ρ, s, seq sid ?_ g⟩
  intro b ρ1 z x S1 H1 s1 at1
  split at z
  · rename_i j hj
    unfold cif at z
    split at z
    · rename_i hb
      have rx := B.rt s1 (fun p m => List.mem_append_left _ m) at1 hj
      refine ⟨j, rx.int_of, ⟨by decide, by decide, hb.1, by omega, by omega⟩, (s1.dropL).newL (rpA_rg 0 j) z⟩
    · exact z.elim
  · exact z.elim
theorem de_lrg2 (bd : Bd X) (hg : Gl X "list") (hm : X.mg "list" = none) (hg2 : Gl X "range") (hm2 : X.mg "range" = none) (ha : DB X W a fa) (hb : DB X W b fb) (hs2 : starEach [a, b] X.env = (false, eval a X.env) :: starEach [b] X.env := by rfl) (hs3 : starEach [b] X.env = (false, eval b X.env) :: starEach [] X.env := by rfl)
    (hpl : (backTo pos2 (starEach [b] X.env)).any (·.1) = false := by rfl)
    (hs : starEach [.Call (.Name "range" p2) [a, b] [] pos2] X.env = (false, eval (.Call (.Name "range" p2) [a, b] [] pos2) X.env) :: starEach [] X.env := by rfl) :
    DE X W (.Call (.Name "list" p) [.Call (.Name "range" p2) [a, b] [] pos2] [] pos) (lrg2 fa fb) := PE.imp (pe_listRg bd.calm hg hm (prg_2 hg2 hm2 ha hb hs2 hs3 hpl) hs) fun σ H Q ⟨G, T, S, ρ, s, g⟩ => by
  refine ⟨G, T, S, ρ, s, seq sid ?_ g⟩
  intro a' ρ1 z x S1 H1 s1 at1
  refine ⟨G, a'.tm x ++ T, S1, ρ1, s1, seq sdr ?_ z⟩
  intro b' ρ2 z y S2 H2 s2 at2
  split at z
  · rename_i i j hi hj
    unfold cif at z
    split at z
    · rename_i hb
      have rx := B.rt s2 (fun p m => List.mem_append_right _ (List.mem_append_left _ m)) at1 hi
      have ry := B.rt s2 (fun p m => List.mem_append_left _ m) at2 hj
      refine ⟨i, j, rx.int_of, ry.int_of, ⟨hb.1.1, by omega, hb.2.1.1, by omega, by omega⟩, (s2.dropL.dropL).newL (rpA_rg i j) z⟩
    · exact z.elim
  · exact z.elim
end
/-! ### dict(d), list(d), sorted(d) -/
theorem RpK.keysA {K : PySem.W.Frag} {S : Hp} : ∀ {kvs : List (Key × V)} {es : List (D × D)}, RpK K S kvs es → RpA K S (kvs.map fun kv => kV kv.1) (es.map (·.1))
  | _, _, .nil => .nil
  | _, _, .cons o _ b => .cons (keyD_rp o) (RpK.keysA b)
def gDict : List D → Option O
  | [.dict kvs] => if kkeys kvs = true then some (.dic kvs) else none
  | _ => none
theorem kk_T {K : PySem.W.Frag} {S : Hp} {kvs : List (List Key × V)} {es : List (D × D)} (ne : kvs ≠ []) (r : RpT K S kvs es) : kkeys es = false := by
  cases r with
  | nil => exact absurd rfl ne
  | cons _ _ _ => simp [kkeys, asKey]
theorem does_dict {X : Cx} : DoesL X gDict (fun xs H Q => ∃ (a : Addr) (kvs : List (Key × V)), xs = [.ref a] ∧ Rd H a (.dK kvs) ∧ ∀ p, H p = none → Q (.ref p) (upd H p (.dK kvs))) := by
  intro xs ds o G T ρ σ S H Q s r e q
  unfold gDict at e
  split at e
  · obtain ⟨x, rfl, rx⟩ := r.one
    split at e
    · rename_i hk
      cases e
      cases rx with
      | dK h1 h2 h3 => exact ⟨_, _, rfl, h1, fun p n => q _ _ _ (s.make n (.dK upd_same (s.sub.free n) h3))⟩
      | dT h1 h2 h3 => rw [kk_T h2 h3] at hk; cases hk
    · cases e
  · cases e
def gListA : List D → Option O
  | [.dict kvs] => if kkeys kvs = true then some (.lst (kvs.map (·.1))) else none
  | ds => gList ds
def rListA (K : PySem.W.Frag) : List V → Hp → VK → Prop := fun xs H Q => (∃ p ys, xs = [.ref p] ∧ (SqL K H p ys ∨ SqT K H p ys) ∧ ∀ l, H l = none → Q (.ref l) (upd H l (.lst ys))) ∨
  ∃ (a : Addr) (kvs : List (Key × V)), xs = [.ref a] ∧ Rd H a (.dK kvs) ∧ ∀ p, H p = none → Q (.ref p) (upd H p (.lst (kvs.map fun kv => kV kv.1)))
theorem call_listA {X : Cx} (b : Bd X) : CallR X (.type "list") (rListA X.K) := call_list_of.or (call_listD b.calm)
theorem does_listA {X : Cx} : DoesL X gListA (rListA X.K) := by
  intro xs ds o G T ρ σ S H Q s r e q
  unfold gListA at e
  split at e
  · obtain ⟨x, rfl, rx⟩ := r.one
    split at e
    · rename_i hk
      cases e
      cases rx with
      | dK h1 h2 h3 => exact .inr ⟨_, _, rfl, h1, s.newL h3.keysA q⟩
      | dT h1 h2 h3 => rw [kk_T h2 h3] at hk; cases hk
    · cases e
  · exact .inl (does_list xs ds o G T ρ σ S H Q s r e q)
theorem sorted_uniq : ∀ {l1 l2 : List Int}, l1.Perm l2 → l1.Pairwise (· ≤ ·) → l2.Pairwise (· ≤ ·) → l1 = l2
  | [], l2, p, _, _ => (List.Perm.nil_eq p)
  | a :: l1, [], p, _, _ => absurd p.length_eq (by simp)
  | a :: l1, b :: l2, p, h1, h2 => by
    have ea : a = b := by
      have m1 : a ∈ b :: l2 := p.subset (by simp)
      have m2 : b ∈ a :: l1 := p.symm.subset (by simp)
      have k1 : b ≤ a := by
        rcases List.mem_cons.mp m1 with q | q
        · omega
        · exact (List.pairwise_cons.mp h2).1 a q
      have k2 : a ≤ b := by
        rcases List.mem_cons.mp m2 with q | q
        · omega
        · exact (List.pairwise_cons.mp h1).1 b q
      omega
    subst ea
    rw [sorted_uniq (List.Perm.cons_inv p) (List.pairwise_cons.mp h1).2 (List.pairwise_cons.mp h2).2]
def sortZ (ns : List Int) : List Int := ns.mergeSort fun a b => decide (a ≤ b)
theorem sortZ_perm (ns : List Int) : (sortZ ns).Perm ns := List.mergeSort_perm ns _
theorem sortZ_le (ns : List Int) : (sortZ ns).Pairwise (· ≤ ·) := by
  have := List.pairwise_mergeSort (le := fun a b : Int => decide (a ≤ b)) (fun a b c h1 h2 => by simp only [decide_eq_true_eq] at *; omega) (fun a b => by simp only [Bool.or_eq_true, decide_eq_true_eq]; omega) ns
  exact this.imp fun h => by simpa using h
theorem sortZ_of {ns ys : List Int} (p : ys.Perm ns) (h : ys.Pairwise (· ≤ ·)) : ys = sortZ ns := sorted_uniq (p.trans (sortZ_perm ns).symm) h (sortZ_le ns)
def gSortedA : List D → Option O
  | [.dict kvs] => (match intsD (kvs.map (·.1)) with | some ns => if ns.length < 64 then some (.lst ((sortZ ns).map .int)) else none | none => none)
  | ds => gSorted ds
def rSortedA (K : PySem.W.Frag) : List V → Hp → VK → Prop := fun xs H Q => rSortD K xs H Q ∨
  ∃ (a : Addr) (kvs : List (Key × V)) (ks : List Int), xs = [.ref a] ∧ Rd H a (.dK kvs) ∧ kvs.map (·.1) = ks.map Sum.inl ∧ ks.length < 64 ∧ ∀ (ys : List Int) (p : Addr), ys.Perm ks → ys.Pairwise (· ≤ ·) → H p = none → Q (.ref p) (upd H p (.lst (ys.map V.int)))
theorem cr_sortedA {X : Cx} (b : Bd X) : CallR X (.builtin "sorted") (rSortedA X.K) := (cr_sortD b).or (call_sortedDI b.calm)
theorem RpK.intKeys {K : PySem.W.Frag} {S : Hp} : ∀ {kvs : List (Key × V)} {es : List (D × D)}, RpK K S kvs es → ∀ {ns : List Int}, intsD (es.map (·.1)) = some ns → kvs.map (·.1) = ns.map Sum.inl
  | _, _, .nil, ns, h => by cases h; rfl
  | _, _, .cons (k := k) (es := es) o a b, ns, h => by
    cases k with
    | inr x => simp [intsD, keyD] at h
    | inl i =>
      have h : (intsD ((PyData.int i) :: es.map (·.1))) = some ns := h
      unfold intsD at h
      split at h
      · rename_i ms hm
        cases h
        rw [List.map_cons, List.map_cons, RpK.intKeys b hm]
      · cases h
theorem rpA_ints' {K : PySem.W.Frag} {S : Hp} : ∀ ns : List Int, RpA K S (ns.map V.int) (ns.map PyData.int)
  | [] => .nil
  | n :: ns => .cons (.int n) (rpA_ints' ns)
theorem does_sortedA {X : Cx} : DoesL X gSortedA (rSortedA X.K) := by
  intro xs ds o G T ρ σ S H Q s r e q
  unfold gSortedA at e
  split at e
  · obtain ⟨x, rfl, rx⟩ := r.one
    split at e
    · rename_i ns hns
      split at e
      · rename_i hl
        cases e
        cases rx with
        | dK h1 h2 h3 =>
          refine .inr ⟨_, _, ns, rfl, h1, h3.intKeys hns, hl, fun ys p hp hs n => ?_⟩
          rw [sortZ_of hp hs]
          exact s.newL (rpA_ints' _) q p n
        | dT h1 h2 h3 =>
          cases h3 with
          | nil => exact absurd rfl h2
          | cons _ _ _ => simp [intsD] at hns
      · cases e
    · cases e
  · exact .inl (does_sorted xs ds o G T ρ σ S H Q s r e q)
/-! ### min, max of data -/
def minOk (ds : List D) : Bool := (ds.all fun d => ds.all fun e => PySem.W.alike d e) && ds.all (fits 60) && ds.all (fun d => match d with | .none => false | _ => true)
def gMinA : List D → Option O
  | [.list ds] => (match intsD ds with
    | some _ => gMinI [.list ds]
    | none => (match ds with | d :: r => if minOk (d :: r) = true then some (.leaf (PySem.W.minD d r)) else none | [] => none))
  | ds => gMinI ds
def gMaxA : List D → Option O
  | [.list ds] => (match intsD ds with
    | some _ => gMax [.list ds]
    | none => (match ds with | d :: r => if minOk (d :: r) = true then some (.leaf (PySem.W.maxD d r)) else none | [] => none))
  | ds => gMax ds
def rBest (K : PySem.W.Frag) (best : D → List D → D) : List V → Hp → VK → Prop := fun vs H Q => ∃ (a : Addr) (xs : List V) (d : D) (ds : List D) (R : V → D → Prop), vs = [V.ref a] ∧ SqL K H a xs ∧ DpAll K H xs (d :: ds) ∧ minOk (d :: ds) = true ∧ PyData.depthAll (d :: ds) ≤ 60 ∧ PyData.canLayAll0 (d :: ds) = true ∧ Paired R xs (d :: ds) ∧ ∀ v, R v (best d ds) → Q v H
theorem canLay_at : ∀ {xs : List D}, PyData.canLayAll0 xs = true → ∀ (i : Nat) {d : D}, xs[i]? = some d → d.canLay0 = true
  | [], _, i, d, h => by simp at h
  | x :: xs, h, i, d, hd => by
    unfold PyData.canLayAll0 at h
    rw [Bool.and_eq_true] at h
    cases i with
    | zero => simp at hd; subst hd; exact h.1
    | succ i => exact canLay_at h.2 i (by simpa using hd)
theorem paired_at {R : V → D → Prop} : ∀ {xs : List V} {ds : List D} {us : List Value}, Paired R xs ds → Vals xs us → ∀ {i : Nat} {u : Value}, us[i]? = some u → ∃ x d, RelV x u ∧ R x d ∧ ds[i]? = some d
  | _, _, _, .nil, .nil, i, u, h => by simp at h
  | _, _, _, .cons a b, .cons c d, 0, u, h => by simp at h; subst h; exact ⟨_, _, c, a, rfl⟩
  | _, _, _, .cons a b, .cons c d, i + 1, u, h => by
    obtain ⟨x, d, h1, h2, h3⟩ := paired_at b d (i := i) (by simpa using h)
    exact ⟨x, d, h1, h2, by simpa using h3⟩
section
variable {X : Cx}
theorem all_reads {pins : List (Addr × Obj)} {σ : Sg} {H : Hp} {s : Shared} (I : Inv X pins σ H s) : ∀ {ds : List D} {xs : List V} {its : List Value}, DpAll X.K H xs ds → Vals xs its → ∃ as, ReadsAll s.heap its ds as
  | [], _, _, h, r => by cases h; cases r; exact ⟨_, .nil⟩
  | d :: ds, _, _, h, r => by
    cases h with
    | cons a b =>
      cases r with
      | cons r1 r2 =>
        obtain ⟨as, q⟩ := Dp.reads I d _ _ a r1
        obtain ⟨bs, q2⟩ := all_reads I b r2
        exact ⟨_, .cons q q2⟩
theorem minOk_alike {ds : List D} (h : minOk ds = true) : PySem.W.AlikeAll ds := by
  unfold minOk at h
  simp only [Bool.and_eq_true, List.all_eq_true] at h
  refine ⟨fun x hx y hy => h.1.1 x hx y hy, fun x hx e => ?_⟩
  have := h.2 x hx
  subst e
  cases this
theorem best_fin {h h' : Heap} {its : List Value} {xs : List V} {ds : List D} {as bs : List Addr} {R : V → D → Prop} {m : D} {i : Nat} {v : Value} (hr : ReadsAll h its ds as) (hc : PyData.canLayAll0 ds = true) (hp : Paired R xs ds) (rv : Vals xs its) (hi : its[i]? = some v) (rd : Reads h' v m bs)
    (hk : ∀ b o, h.get? b = some o → h'.get? b = some o) : ∃ x, RelV x v ∧ R x m := by
  obtain ⟨x, d, h1, h2, h3⟩ := paired_at hp rv hi
  obtain ⟨bs', r, hlt, _, _⟩ := PySem.W.readsAll_at hr i v hi
  have e : ds.getD i .none = d := by rw [List.getD, h3]; rfl
  rw [e] at r
  have := (Reads.unique (PySem.W.reads_keeps hk r) _ _ rd).1
  subst this
  exact ⟨x, h1, h2⟩
theorem cr_minD (b : Bd X) : CallR X (.builtin "min") (rBest X.K PySem.W.minD) := by
  intro pins s σ H vs us Q I r h
  obtain ⟨a, xs, d, ds, R, rfl, hs, hd, hok, hdep, hc, hp, q⟩ := h
  obtain ⟨its, rv, hl, hz⟩ := I.list hs
  rw [Vals.ref1 r]
  have hb := b.un
  obtain ⟨as, hr⟩ := all_reads I hd rv
  refine PySem.W.min_list_data (I.ok.hd b.calm) hl.isList hr (minOk_alike hok) (by omega) fun i v h' tk bs hi rd hk => ?_
  obtain ⟨x, h1, h2⟩ := best_fin hr hc hp rv (by simpa using hi) rd hk
  exact ⟨x, H, I.kept hk, h1, q x h2⟩
theorem cr_maxD (b : Bd X) : CallR X (.builtin "max") (rBest X.K PySem.W.maxD) := by
  intro pins s σ H vs us Q I r h
  obtain ⟨a, xs, d, ds, R, rfl, hs, hd, hok, hdep, hc, hp, q⟩ := h
  obtain ⟨its, rv, hl, hz⟩ := I.list hs
  rw [Vals.ref1 r]
  have hb := b.un
  obtain ⟨as, hr⟩ := all_reads I hd rv
  refine PySem.W.max_list_data (I.ok.hd b.calm) hl.isList hr (minOk_alike hok) (by omega) fun i v h' tk bs hi rd hk => ?_
  obtain ⟨x, h1, h2⟩ := best_fin hr hc hp rv (by simpa using hi) rd hk
  exact ⟨x, H, I.kept hk, h1, q x h2⟩
theorem cr_minA (b : Bd X) : CallR X (.builtin "min") (fun xs H Q => rMinG X.K xs H Q ∨ rBest X.K PySem.W.minD xs H Q) := (cr_minG b).or (cr_minD b)
theorem cr_maxA (b : Bd X) : CallR X (.builtin "max") (fun xs H Q => rMaxG X.K xs H Q ∨ rBest X.K PySem.W.maxD xs H Q) := (cr_maxG b).or (cr_maxD b)
theorem does_best {best : D → List D → D} {d : D} {r : List D} {xs : List V} {G : Fra} {T : List (V × E)} {ρ : Ev} {σ : Sg} {S H : Hp} {Q : VK} (s : Stt X.K G T ρ σ S H) (rr : RtA X.K S H xs [.list (d :: r)]) (hok : minOk (d :: r) = true)
    (q : ∀ v S' H', Stt X.K G ((v, ow (.leaf (best d r))) :: T) ρ σ S' H' → Q v H') : rBest X.K best xs H Q := by
  obtain ⟨x, rfl, rx⟩ := rr.one
  obtain ⟨a, xs, rfl, h1, r1⟩ := rx.lst_of
  have hf : ∀ y ∈ d :: r, fits 60 y = true := by
    unfold minOk at hok
    simp only [Bool.and_eq_true, List.all_eq_true] at hok
    exact hok.1.2
  obtain ⟨d1, d2, d3⟩ := RpA.dp 60 r1 hf
  refine ⟨a, xs, d, r, Rp X.K S, rfl, h1, ?_, hok, d3, d2, r1.paired, fun v rv => s.val rv q⟩
  obtain ⟨e1, _, _⟩ := RpA.dp 60 (r1.mono s.sub) hf
  exact e1
theorem does_minA : DoesL X gMinA (fun xs H Q => rMinG X.K xs H Q ∨ rBest X.K PySem.W.minD xs H Q) := by
  intro xs ds o G T ρ σ S H Q s r e q
  unfold gMinA at e
  split at e
  · split at e
    · exact .inl (does_minI xs _ o G T ρ σ S H Q s r e q)
    · split at e
      · split at e
        · rename_i hok
          cases e
          exact .inr (does_best s r hok q)
        · cases e
      · cases e
  · exact .inl (does_minI xs ds o G T ρ σ S H Q s r e q)
theorem does_maxA : DoesL X gMaxA (fun xs H Q => rMaxG X.K xs H Q ∨ rBest X.K PySem.W.maxD xs H Q) := by
  intro xs ds o G T ρ σ S H Q s r e q
  unfold gMaxA at e
  split at e
  · split at e
    · exact .inl (does_max xs _ o G T ρ σ S H Q s r e q)
    · split at e
      · split at e
        · rename_i hok
          cases e
          exact .inr (does_best s r hok q)
        · cases e
      · cases e
  · exact .inl (does_max xs ds o G T ρ σ S H Q s r e q)
end
/-! ### a name of the module that is a text -/
theorem de_gstr {X : Cx} {W : XW} {x : Str} {pos : Pos} {i : Str} (hg : Gl X x) (h : ∃ u, X.mg x = some u ∧ RelV (.str i) u) (hk : okS i = true := by decide +kernel) (hd : (x == ("__debug__" : Str)) = false := by decide) : DE X W (.Name x pos) (kD (.str i)) := de_const (C8.pe_gc hg h hd) fun _ => .str i hk
/-! ### d.pop(k) on a name of ours -/
def dropD (kvs : List (D × D)) (k : D) : List (D × D) := kvs.filter fun p => !PyData.eqv p.1 k
theorem RpK.drop {K : PySem.W.Frag} {S : Hp} (k : Key) : ∀ {kvs : List (Key × V)} {es : List (D × D)}, RpK K S kvs es → RpK K S (dropK kvs k) (dropD es (keyD k))
  | _, _, .nil => .nil
  | _, _, .cons (k := k') (v := v) (d := d) (kvs := kvs) (es := es) o a b => by
    have ih := RpK.drop k b
    unfold dropK dropD at *
    rw [List.filter_cons, List.filter_cons]
    have e : PyData.eqv (keyD k') (keyD k) = decide (k' = k) := keyD_eqv _ _
    by_cases h : k' = k
    · subst h
      rw [e]
      simp only [decide_true, ne_eq, not_true, decide_false, Bool.false_eq_true, if_false, Bool.not_true]
      exact ih
    · rw [e]
      simp only [h, decide_false, ne_eq, not_false_eq_true, decide_true, if_true, Bool.not_false]
      exact .cons o a ih
def popS (j : Nat) (fk : Ev → Rs B) : Ev → Rs Unit := bnd (bv j) fun _ ρ => match ρ[j]? with
  | some (some ⟨_, .dic _⟩) => bnd fk (fun b ρ1 => match b.val ρ1 with
    | some k => (match ρ1[j]? with
      | some (some ⟨io, .dic kvs⟩) => (match asKey k with
        | some k' => if (lookD kvs (keyD k')).isSome = true then .ok () (ρ1.set j (some ⟨io, .dic (dropD kvs (keyD k'))⟩)) else .stk
        | none => .stk)
      | _ => .stk)
    | none => .stk) ρ
  | _ => .stk
section
variable {X : Cx} {W : XW} {o e : Expr} {apos pos : Pos} {fk : Ev → Rs B}
theorem dx_pop {j : Nat} (ho : PE X o (tVar j)) (he : DB X W e fk) (m : M1 X o "pop" apos e pos := by exact ⟨rfl, rfl, rfl, rfl⟩) : DX X W (.Call (.Attribute o "pop" apos) [e] [] pos) (popS j fk) := PE.imp (pe_dpop1 ho he m) fun σ H Q ⟨G, T, S, ρ, s, g⟩ => by
  unfold popS bnd bv at g
  cases e0 : ρ[j]? with
  | none => rw [e0] at g; exact g.elim
  | some m =>
    cases m with
    | none => rw [e0] at g; exact g.elim
    | some ex =>
      obtain ⟨w, hw, s0⟩ := s.take e0
      rw [e0] at g
      simp only [e0] at g
      obtain ⟨io, o⟩ := ex
      cases o with
      | leaf d => exact g.elim
      | lst d => exact g.elim
      | dic ds0 =>
        simp only at g
        obtain ⟨F0, own0, _⟩ := s0.head
        obtain ⟨a, ha, hd⟩ : ∃ a, w = .ref a ∧ IsD H a := by
          cases own0 with
          | dK e _ _ => exact ⟨_, rfl, .inl ⟨_, .inl e⟩⟩
          | dT e _ _ _ => exact ⟨_, rfl, .inr ⟨_, .inl e⟩⟩
        subst ha
        refine ⟨_, hw, a, rfl, hd, G, T, S, ρ, s, ?_⟩
        cases e1 : fk ρ with
        | stk => rw [e1] at g; exact g.elim
        | er x ρ' => rw [e1] at g; exact g
        | ok be ρ1 =>
          rw [e1] at g
          intro v S1 H1 s1 at1
          simp only at g
          cases hv : be.val ρ1 with
          | none => rw [hv] at g; exact g.elim
          | some k =>
            rw [hv] at g
            simp only at g
            cases e2 : ρ1[j]? with
            | none => rw [e2] at g; exact g.elim
            | some m =>
              cases m with
              | none => rw [e2] at g; exact g.elim
              | some ex1 =>
                rw [e2] at g
                obtain ⟨io1, o1⟩ := ex1
                cases o1 with
                | leaf d => exact g.elim
                | lst d => exact g.elim
                | dic ds =>
                  simp only at g
                  cases hk : asKey k with
                  | none => rw [hk] at g; exact g.elim
                  | some k' =>
                    rw [hk] at g
                    simp only at g
                    split at g
                    · rename_i hlook
                      have rk := B.rt s1 (fun p m => List.mem_append_left _ m) at1 hv
                      have ek := asKey_eq hk
                      subst ek
                      have ey : v = kV k' := by
                        cases k' with
                        | inl i => exact rk.int_of
                        | inr i => exact rk.str_of
                      have s2 := s1.dropL
                      obtain ⟨w', hw', s3⟩ := s2.take e2
                      rw [hw] at hw'
                      cases hw'
                      obtain ⟨F, own, _⟩ := s3.head
                      cases own with
                      | @dT _ kvs _ eH nS ne rA =>
                        rw [RpT.noK k' rA] at hlook
                        cases hlook
                      | @dK _ kvs _ eH nS rA =>
                        rcases rA.look k' with ⟨h1, h2⟩ | ⟨w2, d2, h1, h2, h3⟩
                        · rw [h1] at hlook; cases hlook
                        · refine ⟨kvs, k', w2, eH, ey, h1, ?_⟩
                          have s4 := s3.write (o' := .dic (dropD ds (keyD k'))) (.dK eH nS rA) (u := .dK (dropK kvs k')) (.dK upd_same nS (rA.drop k'))
                          have s5 := s4.back e2 hw fun io => s2.ios j _ e2 io
                          exact g _ S1 _ s5
                    · exact g.elim
end
/-! ### a dict in a tuple, walked -/
def nsI (i c : Nat) : Ev → Rs (List D) := fun ρ => match ρ[i]? with
  | some (some ⟨_, .leaf (.tuple ds)⟩) => (match ds[c]? with
    | some (.dict kvs) => .ok (keyL kvs) ρ
    | _ => seqI (op2 gIx (bv i) (tm (kD (.int (c : Int))))) ρ)
  | _ => seqI (op2 gIx (bv i) (tm (kD (.int (c : Int))))) ρ
theorem nsI_cases {i c : Nat} (ρ : Ev) : nsI i c ρ = seqI (op2 gIx (bv i) (tm (kD (.int (c : Int))))) ρ ∨ ∃ io ds kvs, ρ[i]? = some (some ⟨io, .leaf (.tuple ds)⟩) ∧ ds[c]? = some (.dict kvs) ∧ nsI i c ρ = .ok (keyL kvs) ρ := by
  unfold nsI
  split
  · rename_i io ds h
    split
    · rename_i kvs h2
      exact .inr ⟨io, ds, kvs, h, h2, rfl⟩
    · exact .inl rfl
  · exact .inl rfl
theorem lcE_it {it it' : Ev → Rs (List D)} {vs : List Nat} {tg : O → Ev → Rs Unit} {tt : Ev → Rs Bool} {el : Ev → Rs O} {ρ : Ev} (h : it ρ = it' ρ) : lcE it vs tg tt el ρ = lcE it' vs tg tt el ρ := by
  unfold lcE bnd
  rw [h]
section
variable {X : Cx} {elt tg x e0 : Expr} {ifs : List Expr} {scope : Scope} {own : List (Str × Nat)} {pos p1 p2 : Pos} {kk : Nat} {g : O → Ev → Rs Unit} {tt : Ev → Rs Bool} {el : Ev → Rs O} {i c : Nat}
theorem lcX_reads {K : PySem.W.Frag} {vs : List Nat} {σ : Sg} {H : Hp} {Q : VK} (q : tE K W0 (lcE (nsI i c) vs g tt el) σ H Q) :
    tLockE (tLc (iKeys (tOp (rIxA K) (tVar i) (tC (.int (c : Int))))) (tC' K W0 vs g) (tTs K tt) (tE K W0 el) vs) σ H Q ∨ tLc (iKeys (tOp (rIxA K) (tVar i) (tC (.int (c : Int))))) (tC' K W0 vs g) (tTs K tt) (tE K W0 el) vs σ H Q ∨ tE K W0 (lcE (seqI (op2 gIx (bv i) (tm (kD (.int (c : Int)))))) vs g tt el) σ H Q := by
  obtain ⟨G, T, S, ρ, s, q⟩ := q
  rcases nsI_cases (i := i) (c := c) ρ with e | ⟨io, dd, kvs0, hslot, hds, e⟩
  · rw [lcE_it e] at q
    exact .inr (.inr ⟨G, T, S, ρ, s, q⟩)
  · unfold lcE bnd at q
    rw [e] at q
    simp only at q
    · · -- the dict
        obtain ⟨v, hv, s1⟩ := s.take hslot
        have rt := s.rtS hslot hv
        obtain ⟨a, xs, rfl, hS, hH, rA⟩ := rt.tup_S
        obtain ⟨w, hw, rw'⟩ := rA.get hds
        have hat : atI xs (c : Int) = some w := atI_nat hw
        have td : ∀ (H' : Hp) (R : VK), H' a = some (.tup xs) → R w H' → tOp (rIxA K) (tVar i) (tC (.int (c : Int))) σ H' R := fun H' R h1 h2 => ⟨_, hv, .inl (.inr (.inl ⟨a, xs, _, w, rfl, rfl, SqT.of h1, hat, h2⟩))⟩
        have s2 := s.push rw'
        cases rw' with
        | @dK d kvs _ h1 h2 h3 =>
          rcases h1 with h1 | ⟨od, h1⟩
          · have hHd := s.sub _ _ h1
            have hne : a ≠ d := fun e => by subst e; rw [hHd] at hH; cases hH
            refine .inl ⟨d, _, hHd, trivial, fun od => td _ _ (by rw [upd_ne hne]; exact hH) ⟨d, od, rfl, .inl ⟨kvs, upd_same, ?_⟩⟩⟩
            cases h3 with
            | nil =>
              have z := lc_nil (g := g) (tt := tt) (el := el) s q
              refine fun D hD => ⟨fun i m H' => i = 0 ∧ H' = upd (upd H d (.frz od (.dK []))) D (.lst []), ⟨0, rfl, rfl⟩, fun i m H' ⟨ea, eb⟩ => .inl ?_⟩
              subst ea eb
              have hne : D ≠ d := fun e => by subst e; rw [upd_same] at hD; cases hD
              rw [upd_ne hne] at hD
              refine ⟨⟨by rw [upd_ne (Ne.symm hne), upd_same], Nat.le_refl _⟩, by rw [upd_ne (Ne.symm hne), upd_same], ?_⟩
              rw [upd_comm hne, upd_back hHd]
              exact z D hD
            | @cons k0 v0 d0 kvs' es' o1 a1 b1 =>
              obtain ⟨sl, un⟩ := s2.lock (od := od) h1 trivial
              exact lc_core (L := [(.ref d, lf (.dict ((keyD k0, d0) :: es')))]) sl (itk_ok .ks upd_same) (GoE.lk un q)
          · have hHd := s.sub _ _ h1
            obtain ⟨sp, un⟩ := s2.pin h1
            exact .inr (.inl (td _ _ hH ⟨d, od, rfl, .inl ⟨kvs, hHd, lc_core (L := [(.ref d, lf (.dict kvs0))]) sp (itk_ok .ks upd_same) (GoE.pin un q)⟩⟩))
        | @dT d kvs _ h1 h2 h3 =>
          rcases h1 with h1 | ⟨od, h1⟩
          · have hHd := s.sub _ _ h1
            have hne : a ≠ d := fun e => by subst e; rw [hHd] at hH; cases hH
            refine .inl ⟨d, _, hHd, trivial, fun od => td _ _ (by rw [upd_ne hne]; exact hH) ⟨d, od, rfl, .inr ⟨kvs, upd_same, ?_⟩⟩⟩
            cases h3 with
            | nil => exact absurd rfl h2
            | @cons k0 v0 d0 kvs' es' o1 a1 b1 =>
              obtain ⟨sl, un⟩ := s2.lock (od := od) h1 trivial
              exact lc_core (L := [(.ref d, lf (.dict ((.tuple (k0.map keyD), d0) :: es')))]) sl (itkt_ok upd_same) (GoE.lk un q)
          · have hHd := s.sub _ _ h1
            obtain ⟨sp, un⟩ := s2.pin h1
            exact .inr (.inl (td _ _ hH ⟨d, od, rfl, .inr ⟨kvs, hHd, lc_core (L := [(.ref d, lf (.dict kvs0))]) sp (itkt_ok upd_same) (GoE.pin un q)⟩⟩))
theorem de_lcX (b : Bd X) (hx : PE X x (tVar i)) (ok : BlkOk X.N X.env.scope scope own)
    (hg : ∀ (s : Shared) (H : Hp) (C : Addr) (cl : List (Str × Addr)) (fp : List Addr), PG (X.blk s H scope (compEnvC scope cl C X.env) fp) tg (tC' X.K W0 (own.map (·.2)) g))
    (ht : ∀ (s : Shared) (H : Hp) (C : Addr) (cl : List (Str × Addr)) (fp : List Addr), PTs (X.blk s H scope (compEnvC scope cl C X.env) fp) ifs (tTs X.K tt))
    (he : ∀ (s : Shared) (H : Hp) (C : Addr) (cl : List (Str × Addr)) (fp : List Addr), PE (X.blk s H scope (compEnvC scope cl C X.env) fp) elt (tE X.K W0 el)) (hpi : PlainIx (.Constant (.int (c : Int)) kk p1) := by exact fun _ _ => rfl) (hs : ∀ y, foldedSetIterable (.Subscript x (.Constant (.int (c : Int)) kk p1) p2) X.env y = pure y := by intro _; rfl) :
    DE X W0 (.ListComp elt [⟨tg, .Subscript x (.Constant (.int (c : Int)) kk p1) p2, ifs, 0⟩] scope pos) (lcE (nsI i c) (own.map (·.2)) g tt el) := by
  have hix : PE X (.Subscript x (.Constant (.int (c : Int)) kk p1) p2) (tOp (rIxA X.K) (tVar i) (tC (.int (c : Int)))) := pe_ix (ix_any b) hx pe_int hpi
  have F := pe_lc (pos := pos) b.calm b.nd (pi_keys hix) ok hg ht he hs
  have F2 := de_lc (W := W0) (pos := pos) b (di_seq (de_ix b (db_var hx) (db_tm de_int) hpi)) ok hg ht he hs
  exact PE.imp (PE.orr (pe_lock F) (PE.orr F F2)) fun σ H Q q => lcX_reads q
end
end Y
/-! Y: comprehensions with two fors -/
namespace Y
open PySem PySem.Spec PyProof.Rows L2
def lc2Go (vs vs1 : List Nat) (tg : O → Ev → Rs Unit) (tt : Ev → Rs Bool) (it1 : Ev → Rs (List D)) (tg1 : O → Ev → Rs Unit) (tt1 : Ev → Rs Bool) (el : Ev → Rs O) : List D → Ev → Rs (List D)
  | [], ρ => .ok [] ρ
  | d :: ds, ρ => match tg (.leaf d) ρ with
    | .ok _ ρ1 => (match tt ρ1 with
      | .ok true ρ2 => (match it1 ρ2 with
        | .ok es ρ3 => (match lcGo vs1 tg1 tt1 el es (wipeE ρ3 vs1) with
          | .ok ys ρ4 => (match lc2Go vs vs1 tg tt it1 tg1 tt1 el ds (wipeE ρ4 vs) with
            | .ok zs ρ5 => .ok (ys ++ zs) ρ5
            | _ => .stk)
          | _ => .stk)
        | _ => .stk)
      | .ok false ρ2 => lc2Go vs vs1 tg tt it1 tg1 tt1 el ds (wipeE ρ2 vs)
      | _ => .stk)
    | _ => .stk
def lc2E (it : Ev → Rs (List D)) (vs vs1 : List Nat) (tg : O → Ev → Rs Unit) (tt : Ev → Rs Bool) (it1 : Ev → Rs (List D)) (tg1 : O → Ev → Rs Unit) (tt1 : Ev → Rs Bool) (el : Ev → Rs O) : Ev → Rs O := bnd it fun ds ρ =>
  if hidable ρ vs = true then (match lc2Go vs vs1 tg tt it1 tg1 tt1 el ds (wipeE ρ vs) with
    | .ok ys ρ' => if ys.length ≤ sizeLine then .ok (.lst ys) (unhide ρ ρ' vs) else .stk
    | _ => .stk) else .stk
theorem wipe_sub {σ : Sg} {vs vs1 : List Nat} (h : ∀ i ∈ vs1, i ∈ vs) : wipe (wipe σ vs1) vs = wipe σ vs := by
  apply List.ext_getElem?
  intro j
  by_cases hj : j ∈ vs
  · simp only [wipe_get, wipe_length, if_pos hj]
  · simp only [wipe_get, wipe_length, if_neg hj, if_neg (fun m => hj (h j m))]
section
variable {X : Cx} {W : XW} {elt tg iter tg1 iter1 : Expr} {ifs ifs1 : List Expr} {scope : Scope} {own : List (Str × Nat)} {vs1 : List Nat} {pos : Pos} {it it1 : Ev → Rs (List D)} {g g1 : O → Ev → Rs Unit} {tt tt1 : Ev → Rs Bool} {el : Ev → Rs O}
theorem lc2_reads {K : PySem.W.Frag} {vs : List Nat} {σ : Sg} {H : Hp} {Q : VK} (hv : ∀ i ∈ vs1, i ∈ vs) (q : tE K W (lc2E it vs vs1 g tt it1 g1 tt1 el) σ H Q) :
    tLc2 (tI K W it) (tC' K W0 vs g) (tTs K tt) (tI K W0 it1) (tC' K W0 vs1 g1) (tTs K tt1) (tE K W0 el) vs vs1 σ H Q := by
  obtain ⟨G, T, S, ρ, s, q⟩ := q
  refine ⟨G, T, S, ρ, s, seq sid ?_ q⟩
  intro ds ρ1 z J L S1 H1 s1 iok D' hD
  split at z
  · rename_i hhid
    have s2 := (s1.hide (vs := vs) hhid)
    have s3 := s2.make (o := .lst []) hD (u := .lst []) (.lst upd_same (s2.sub.free hD) .nil)
    have s4 := s3.wiped vs
    refine ⟨fun i m H' => m = ds.length - i ∧ i ≤ ds.length ∧ ∃ acc ρi S', Stt K G ((.ref D', ow (.lst acc)) :: (hidT σ ρ1 vs ++ (L ++ T))) (wipeE ρi vs) (wipe σ vs) S' H' ∧ ρi.length = ρ1.length ∧
      ∃ ys ρe, lc2Go vs vs1 g tt it1 g1 tt1 el (ds.drop i) (wipeE ρi vs) = .ok ys ρe ∧ acc.length + ys.length ≤ sizeLine ∧ ∀ v S'' H'', Stt K G ((v, ow (.lst (acc ++ ys))) :: T) (unhide ρ1 ρe vs) σ S'' H'' → Q v H'', ⟨ds.length, ?_⟩, ?_⟩
    · refine ⟨by omega, Nat.zero_le _, [], ρ1, S1, s4, rfl, ?_⟩
      split at z
      · rename_i ys ρe he
        split at z
        · rename_i hsz
          exact ⟨ys, ρe, he, by simpa using hsz, by rw [List.nil_append]; exact z⟩
        · exact z.elim
      · exact z.elim
    · rintro i m H' ⟨rfl, hi, acc, ρi, S', si, hlen, ys, ρe, he, hsz, fin⟩
      have iok' := iok G ((.ref D', ow (.lst acc)) :: (hidT σ ρ1 vs ++ T)) (wipeE ρi vs) (wipe σ vs) S' H' (si.permT (by
        refine List.Perm.trans ?_ (List.perm_middle (l₁ := L)).symm
        refine List.Perm.cons _ ?_
        rw [← List.append_assoc, ← List.append_assoc]
        exact List.Perm.append_right T List.perm_append_comm))
      by_cases hlt : i < ds.length
      · have hd : ds[i]? = some ds[i] := List.getElem?_eq_getElem hlt
        obtain ⟨go, yld⟩ := iok'.1 i _ hd
        have hdrop : ds.drop i = ds[i] :: ds.drop (i + 1) := List.drop_eq_getElem_cons hlt
        rw [hdrop] at he
        refine .inr ⟨go, fun H2 => i + 1 ≤ ds.length ∧ ∃ acc ρi S', Stt K G ((.ref D', ow (.lst acc)) :: (hidT σ ρ1 vs ++ (L ++ T))) (wipeE ρi vs) (wipe σ vs) S' H2 ∧ ρi.length = ρ1.length ∧
          ∃ ys ρe, lc2Go vs vs1 g tt it1 g1 tt1 el (ds.drop (i + 1)) (wipeE ρi vs) = .ok ys ρe ∧ acc.length + ys.length ≤ sizeLine ∧ ∀ v S'' H'', Stt K G ((v, ow (.lst (acc ++ ys))) :: T) (unhide ρ1 ρe vs) σ S'' H'' → Q v H'', fun H2 h2 => ⟨ds.length - (i + 1), by omega, rfl, h2.1, h2.2⟩, ?_⟩
        intro x H2 y
        obtain ⟨S2, sx⟩ := yld x H2 y
        have sx' : Stt K G ((x, lf ds[i]) :: ((.ref D', ow (.lst acc)) :: (hidT σ ρ1 vs ++ (L ++ T)))) (wipeE ρi vs) (wipe σ vs) S2 H2 := sx.permT (by
          refine List.Perm.cons _ ?_
          refine List.Perm.trans (List.perm_middle (l₁ := L)) ?_
          refine List.Perm.cons _ ?_
          rw [← List.append_assoc, ← List.append_assoc]
          exact List.Perm.append_right T List.perm_append_comm)
        unfold lc2Go at he
        cases e1 : g (.leaf ds[i]) (wipeE ρi vs) with
        | stk => rw [e1] at he; cases he
        | er x ρ' => rw [e1] at he; cases he
        | ok u ρa =>
          rw [e1] at he
          simp only at he
          refine ⟨G, _, S2, _, .leaf ds[i], sx', ?_⟩
          rw [e1]
          intro σ3 S3 H3 hw s5
          rw [wipe_wipe] at hw
          refine ⟨hw, G, _, S3, ρa, s5, ?_⟩
          have hlen3 : σ3.length = ρ1.length := by
            have h2 := s1.len
            have h3 := congrArg List.length hw
            rw [wipe_length, wipe_length] at h3
            omega
          have next : ∀ {S4 H4 : Hp} {ρ4 : Ev} {acc' : List D}, Stt K G ((.ref D', ow (.lst acc')) :: (hidT σ ρ1 vs ++ (L ++ T))) ρ4 σ3 S4 H4 → Stt K G ((.ref D', ow (.lst acc')) :: (hidT σ ρ1 vs ++ (L ++ T))) (wipeE ρ4 vs) (wipe σ vs) S4 H4 := fun s6 => by
            have := s6.wiped vs
            rw [hw] at this
            exact this
          cases e2 : tt ρa with
          | stk => rw [e2] at he; cases he
          | er x ρ' => rw [e2] at he; cases he
          | ok b ρb =>
            rw [e2] at he
            intro S4 H4 s6
            have hlb : ρb.length = ρ1.length := by
              have h1 := s6.len
              omega
            cases b with
            | false =>
              rw [if_neg Bool.false_ne_true]
              simp only at he
              exact ⟨hlt, acc, ρb, S4, next s6, hlb, ys, ρe, he, hsz, fin⟩
            | true =>
              rw [if_pos rfl]
              simp only at he
              refine ⟨G, _, S4, ρb, s6, ?_⟩
              cases e3 : it1 ρb with
              | stk => rw [e3] at he; cases he
              | er x ρ' => rw [e3] at he; cases he
              | ok es ρc =>
                rw [e3] at he
                simp only at he
                intro J1 L1 S5 H5 s7 iok1
                cases e4 : lcGo vs1 g1 tt1 el es (wipeE ρc vs1) with
                | stk => rw [e4] at he; cases he
                | er x ρ' => rw [e4] at he; cases he
                | ok ys1 ρd =>
                  rw [e4] at he
                  simp only at he
                  cases e5 : lc2Go vs vs1 g tt it1 g1 tt1 el (ds.drop (i + 1)) (wipeE ρd vs) with
                  | stk => rw [e5] at he; cases he
                  | er x ρ' => rw [e5] at he; cases he
                  | ok zs ρe' =>
                    rw [e5] at he
                    simp only at he
                    injection he with he1 he2
                    subst he1
                    cases he2
                    have hlc : ρc.length = ρ1.length := by
                      have h1 := s7.len
                      omega
                    refine ⟨fun j k H' => k = es.length - j ∧ j ≤ es.length ∧ ∃ acc ρj S', Stt K G ((.ref D', ow (.lst acc)) :: (L1 ++ (hidT σ ρ1 vs ++ (L ++ T)))) (wipeE ρj vs1) (wipe σ3 vs1) S' H' ∧ ρj.length = ρ1.length ∧
                      ∃ ys ρd, lcGo vs1 g1 tt1 el (es.drop j) (wipeE ρj vs1) = .ok ys ρd ∧ lc2Go vs vs1 g tt it1 g1 tt1 el (ds.drop (i + 1)) (wipeE ρd vs) = .ok zs ρe ∧ acc.length + ys.length + zs.length ≤ sizeLine ∧
                        ∀ v S'' H'', Stt K G ((v, ow (.lst (acc ++ (ys ++ zs)))) :: T) (unhide ρ1 ρe vs) σ S'' H'' → Q v H'', ⟨es.length, ?_⟩, ?_⟩
                    · refine ⟨by omega, Nat.zero_le _, acc, ρc, S5, (s7.wiped vs1).permT List.perm_middle, hlc, ys1, ρd, e4, e5, by rw [List.length_append] at hsz; omega, fin⟩
                    · rintro j k H6 ⟨rfl, hj, acc, ρj, S6, sj, hlj, ys2, ρf, f1, f2, f3, f4⟩
                      have iok1' := iok1 G ((.ref D', ow (.lst acc)) :: (hidT σ ρ1 vs ++ (L ++ T))) (wipeE ρj vs1) (wipe σ3 vs1) S6 H6 (sj.permT List.perm_middle.symm)
                      by_cases hlt1 : j < es.length
                      · have hd1 : es[j]? = some es[j] := List.getElem?_eq_getElem hlt1
                        obtain ⟨go1, yld1⟩ := iok1'.1 j _ hd1
                        have hdrop1 : es.drop j = es[j] :: es.drop (j + 1) := List.drop_eq_getElem_cons hlt1
                        rw [hdrop1] at f1
                        refine .inr ⟨go1, fun H' => j + 1 ≤ es.length ∧ ∃ acc ρj S', Stt K G ((.ref D', ow (.lst acc)) :: (L1 ++ (hidT σ ρ1 vs ++ (L ++ T)))) (wipeE ρj vs1) (wipe σ3 vs1) S' H' ∧ ρj.length = ρ1.length ∧
                          ∃ ys ρd, lcGo vs1 g1 tt1 el (es.drop (j + 1)) (wipeE ρj vs1) = .ok ys ρd ∧ lc2Go vs vs1 g tt it1 g1 tt1 el (ds.drop (i + 1)) (wipeE ρd vs) = .ok zs ρe ∧ acc.length + ys.length + zs.length ≤ sizeLine ∧
                            ∀ v S'' H'', Stt K G ((v, ow (.lst (acc ++ (ys ++ zs)))) :: T) (unhide ρ1 ρe vs) σ S'' H'' → Q v H'', fun H' h' => ⟨es.length - (j + 1), by omega, rfl, h'.1, h'.2⟩, ?_⟩
                        intro x1 H7 y1
                        obtain ⟨S7, sy⟩ := yld1 x1 H7 y1
                        have sy' : Stt K G ((x1, lf es[j]) :: ((.ref D', ow (.lst acc)) :: (L1 ++ (hidT σ ρ1 vs ++ (L ++ T))))) (wipeE ρj vs1) (wipe σ3 vs1) S7 H7 := sy.permT (List.Perm.cons _ List.perm_middle)
                        unfold lcGo at f1
                        cases k1 : g1 (.leaf es[j]) (wipeE ρj vs1) with
                        | stk => rw [k1] at f1; cases f1
                        | er x ρ' => rw [k1] at f1; cases f1
                        | ok u ρa1 =>
                          rw [k1] at f1
                          simp only at f1
                          refine ⟨G, _, S7, _, .leaf es[j], sy', ?_⟩
                          rw [k1]
                          intro σ8 S8 H8 hw8 s8
                          rw [wipe_wipe] at hw8
                          refine ⟨hw8, G, _, S8, ρa1, s8, ?_⟩
                          have hl8 : σ8.length = ρ1.length := by
                            have h3 := congrArg List.length hw8
                            rw [wipe_length, wipe_length] at h3
                            omega
                          have next1 : ∀ {S4 H4 : Hp} {ρ4 : Ev} {acc' : List D}, Stt K G ((.ref D', ow (.lst acc')) :: (L1 ++ (hidT σ ρ1 vs ++ (L ++ T)))) ρ4 σ8 S4 H4 → Stt K G ((.ref D', ow (.lst acc')) :: (L1 ++ (hidT σ ρ1 vs ++ (L ++ T)))) (wipeE ρ4 vs1) (wipe σ3 vs1) S4 H4 := fun s6 => by
                            have := s6.wiped vs1
                            rw [hw8] at this
                            exact this
                          cases k2 : tt1 ρa1 with
                          | stk => rw [k2] at f1; cases f1
                          | er x ρ' => rw [k2] at f1; cases f1
                          | ok b1 ρb1 =>
                            rw [k2] at f1
                            intro S9 H9 s9
                            have hlb1 : ρb1.length = ρ1.length := by
                              have h1 := s9.len
                              omega
                            cases b1 with
                            | false =>
                              rw [if_neg Bool.false_ne_true]
                              simp only at f1
                              exact ⟨hlt1, acc, ρb1, S9, next1 s9, hlb1, ys2, ρf, f1, f2, f3, f4⟩
                            | true =>
                              rw [if_pos rfl]
                              simp only at f1
                              refine ⟨G, _, S9, ρb1, s9, ?_⟩
                              cases k3 : el ρb1 with
                              | stk => rw [k3] at f1; cases f1
                              | er x ρ' => rw [k3] at f1; cases f1
                              | ok o ρc1 =>
                                rw [k3] at f1
                                simp only at f1
                                intro v S10 H10 s10
                                have hlc1 : ρc1.length = ρ1.length := by
                                  have h1 := s10.len
                                  omega
                                obtain ⟨S11, s11, _, rv⟩ := s10.freeze
                                have s12 := s11.drop1
                                obtain ⟨F, ow', _⟩ := s12.head
                                cases hgo : lcGo vs1 g1 tt1 el (es.drop (j + 1)) (wipeE ρc1 vs1) with
                                | stk => rw [hgo] at f1; cases f1
                                | er x ρ' => rw [hgo] at f1; cases f1
                                | ok ys' ρ4 =>
                                  rw [hgo] at f1
                                  simp only at f1
                                  injection f1 with f11 f12
                                  subst f11
                                  subst f12
                                  cases ow' with
                                  | @lst _ xs _ eH nS rA =>
                                    have hx := rA.length
                                    rw [List.length_cons] at f3
                                    refine ⟨xs, eH, by omega, hlt1, acc ++ [o.d], ρc1, S11, next1 ?_, hlc1, ys', _, hgo, f2, by rw [List.length_append]; simp only [List.length_cons, List.length_nil]; omega, ?_⟩
                                    · exact s12.write (o' := .lst (acc ++ [o.d])) (.lst eH nS rA) (.lst upd_same nS (rA.app (.cons rv .nil)))
                                    · intro v' S'' H'' h
                                      refine f4 v' S'' H'' ?_
                                      rw [List.append_assoc] at h
                                      exact h
                      · have e : j = es.length := by omega
                        subst e
                        refine .inl ⟨iok1'.2 _ (Nat.le_refl _), ?_⟩
                        rw [List.drop_length] at f1
                        have : ys2 = [] ∧ ρf = wipeE ρj vs1 := by
                          unfold lcGo at f1
                          injection f1 with h1 h2
                          exact ⟨h1.symm, h2.symm⟩
                        obtain ⟨rfl, rfl⟩ := this
                        rw [List.nil_append] at f4
                        refine ⟨hlt, acc, wipeE ρj vs1, S6, ?_, by rw [wipeE_length]; exact hlj, zs, ρe, f2, by simpa using f3, f4⟩
                        have w := sj.wiped vs
                        rw [wipe_sub hv, hw] at w
                        refine w.subT (List.Sublist.cons_cons _ ?_)
                        exact List.sublist_append_right _ _
      · have e : i = ds.length := by omega
        subst e
        refine .inl ⟨iok'.2 _ (Nat.le_refl _), ?_⟩
        rw [List.drop_length] at he
        have : ys = [] ∧ ρe = wipeE ρi vs := by
          unfold lc2Go at he
          injection he with h1 h2
          exact ⟨h1.symm, h2.symm⟩
        obtain ⟨rfl, rfl⟩ := this
        rw [List.append_nil] at fin
        refine fin _ S' H' ?_
        have ent : ∀ (j : Nat) (e : E), ρ1[j]? = some (some e) → ∃ w, σ[j]? = some (some w) := fun j e he => let ⟨w, hw, _⟩ := s1.take he; ⟨w, hw⟩
        have sσ : Stt K G ((.ref D', ow (.lst acc)) :: (hidT σ ρ1 vs ++ (L ++ T))) (wipeE ρi vs) σ S' H' := by
          refine si.slots (by rw [wipe_length]) fun j e he => ?_
          rw [wipeE_get] at he
          rw [wipe_get]
          split at he
          · split at he <;> cases he
          · rename_i hj
            rw [if_neg hj]
        have su := Stt.unhide (ρ0 := ρ1) ent (by rw [wipeE_length]; exact hlen.symm) (vs := vs) (fun x hx => List.mem_cons_of_mem _ (List.mem_append_left _ hx)) hhid sσ
        exact su.subT (List.Sublist.cons_cons _ ((List.sublist_append_right _ _).trans (List.sublist_append_right _ _)))
  · exact z.elim
theorem de_lc2 (b : Bd X) (hi : DI X W tg iter it) (ok : BlkOk X.N X.env.scope scope own) (hv : ∀ i ∈ vs1, i ∈ own.map (·.2))
    (hg : ∀ (s : Shared) (H : Hp) (C : Addr) (cl : List (Str × Addr)) (fp : List Addr), PG (X.blk s H scope (compEnvC scope cl C X.env) fp) tg (tC' X.K W0 (own.map (·.2)) g))
    (ht : ∀ (s : Shared) (H : Hp) (C : Addr) (cl : List (Str × Addr)) (fp : List Addr), PTs (X.blk s H scope (compEnvC scope cl C X.env) fp) ifs (tTs X.K tt))
    (hi1 : ∀ (s : Shared) (H : Hp) (C : Addr) (cl : List (Str × Addr)) (fp : List Addr), DI (X.blk s H scope (compEnvC scope cl C X.env) fp) W0 tg1 iter1 it1)
    (hg1 : ∀ (s : Shared) (H : Hp) (C : Addr) (cl : List (Str × Addr)) (fp : List Addr), PG (X.blk s H scope (compEnvC scope cl C X.env) fp) tg1 (tC' X.K W0 vs1 g1))
    (ht1 : ∀ (s : Shared) (H : Hp) (C : Addr) (cl : List (Str × Addr)) (fp : List Addr), PTs (X.blk s H scope (compEnvC scope cl C X.env) fp) ifs1 (tTs X.K tt1))
    (he : ∀ (s : Shared) (H : Hp) (C : Addr) (cl : List (Str × Addr)) (fp : List Addr), PE (X.blk s H scope (compEnvC scope cl C X.env) fp) elt (tE X.K W0 el)) (hs : ∀ x, foldedSetIterable iter X.env x = pure x := by intro _; rfl) (hs1 : ∀ env x, foldedSetIterable iter1 env x = pure x := by intro _ _; rfl) :
    DE X W (.ListComp elt [⟨tg, iter, ifs, 0⟩, ⟨tg1, iter1, ifs1, 0⟩] scope pos) (lc2E it (own.map (·.2)) vs1 g tt it1 g1 tt1 el) := PE.imp (pe_lc2 b.calm b.nd hi ok hv hg ht hi1 hg1 ht1 he hs hs1) fun σ H Q q => lc2_reads hv q
theorem ds_setLc2 {j : Nat} {y : Str} {py : Pos} {spos : Pos} (b : Bd X) (hy : X.N[j]? = some y) (hyl : X.env.scope.names.lookup y = some .local) (hsw : swapsWith (.ListComp elt [⟨tg, iter, ifs, 0⟩, ⟨tg1, iter1, ifs1, 0⟩] scope pos) (some (.Name y py)) spos.line X.env = pure true)
    (hi : DI X W tg iter it) (ok : BlkOk X.N X.env.scope scope own) (hv : ∀ i ∈ vs1, i ∈ own.map (·.2))
    (hg : ∀ (s : Shared) (H : Hp) (C : Addr) (cl : List (Str × Addr)) (fp : List Addr), PG (X.blk s H scope (compEnvC scope cl C X.env) fp) tg (tC' X.K W0 (own.map (·.2)) g))
    (ht : ∀ (s : Shared) (H : Hp) (C : Addr) (cl : List (Str × Addr)) (fp : List Addr), PTs (X.blk s H scope (compEnvC scope cl C X.env) fp) ifs (tTs X.K tt))
    (hi1 : ∀ (s : Shared) (H : Hp) (C : Addr) (cl : List (Str × Addr)) (fp : List Addr), DI (X.blk s H scope (compEnvC scope cl C X.env) fp) W0 tg1 iter1 it1)
    (hg1 : ∀ (s : Shared) (H : Hp) (C : Addr) (cl : List (Str × Addr)) (fp : List Addr), PG (X.blk s H scope (compEnvC scope cl C X.env) fp) tg1 (tC' X.K W0 vs1 g1))
    (ht1 : ∀ (s : Shared) (H : Hp) (C : Addr) (cl : List (Str × Addr)) (fp : List Addr), PTs (X.blk s H scope (compEnvC scope cl C X.env) fp) ifs1 (tTs X.K tt1))
    (he : ∀ (s : Shared) (H : Hp) (C : Addr) (cl : List (Str × Addr)) (fp : List Addr), PE (X.blk s H scope (compEnvC scope cl C X.env) fp) elt (tE X.K W0 el)) (hs : ∀ x, foldedSetIterable iter X.env x = pure x := by intro _; rfl) (hs1 : ∀ env x, foldedSetIterable iter1 env x = pure x := by intro _ _; rfl) :
    DS X W (.Assign [.Name y py] (.ListComp elt [⟨tg, iter, ifs, 0⟩, ⟨tg1, iter1, ifs1, 0⟩] scope pos) spos) (asgS (lc2E it (own.map (·.2)) vs1 g tt it1 g1 tt1 el) (gN j)) := by
  refine PS.imp (ps_setLc2 b.calm b.nd hy hyl hsw hi ok hv hg ht hi1 hg1 ht1 he hs hs1) fun Dn σ H q => lc2_reads hv (asg_tE q)
end
end Y
/-! Y: sorted(set(list of ints)) -/
namespace Y
open PySem PySem.Spec PyProof.Rows L2
section
variable {P : Program} {w : World} {A : Around} {E : Value → Shared → Prop} {s : Shared}
theorem set_lst {l : Addr} {items : Array Value} (ns : List Int) {Q : Value → Shared → Prop} (hh : A.handled = none) (hl : s.heap.IsList l items) (hit : IntsAre items.toList ns) (hb : ns.length + 1 < scanBound)
    (h : ∀ (h' : Heap) (tk c : Nat), SetR w h' s.heap.objs.size (fun j => decide (j ∈ ns)) c → c ≤ ns.length → (∀ b o, s.heap.get? b = some o → h'.get? b = some o) → Q (.ref s.heap.objs.size) { s with heap := h', toks := tk }) :
    wpAny (model P w) A (call (.type "set") [.ref l]) Q E s := by
  have hisz : items.size = ns.length := by
    have q := IntsAre.length hit
    rw [Array.length_toList] at q
    exact q
  obtain ⟨c, tl, hmro⟩ := F.called_set.mro
  have hmade := F.called_set.made
  have hsub := F.called_set.sub
  refine wpAny_call (codeAny_of_tree ?_)
  show wpAny _ _ (callAny (.type "set") _) _ _ _
  refine wpAny_pure ⟨Code.quiet_builtin _ (by decide +kernel), codeAny_builtin F.entry_type_call ?_⟩
  rw [Around.under_plain (weight_type_call_type "set" [.ref l] []) rfl]
  have h1 := F.called_set.notType
  have h2 := F.called_set.canCreate
  have hct := F.typeCall_set_1 (.ref l)
  repeat (any_goals (first | assumption | wp_step))

  refine codeAny_mono (code_set_led1 (.ref l) (E := E) (Q₁ := fun obj s₁ => obj = .ref s.heap.objs.size ∧ s₁ = { s with heap := s.heap.push { cls := .type "set", dict := none, data := .set #[] 0 (.fresh 0 0 (!w.params.followText "set-order")) } }) ⟨rfl, rfl⟩) fun r s₁ hr => ?_
  cases r with
  | error e => exact hr
  | ok fl =>
    cases fl with
    | ret obj =>
      obtain ⟨rfl, rfl⟩ := hr
      have hS : (s.heap.push { cls := .type "set", dict := none, data := .set #[] 0 (.fresh 0 0 (!w.params.followText "set-order")) }).get? s.heap.objs.size = some { cls := .type "set", dict := none, data := .set #[] 0 (.fresh 0 0 (!w.params.followText "set-order")) } := Heap.get?_push_size _ rfl
      have hT : Shared.TypeIs { s with heap := s.heap.push { cls := .type "set", dict := none, data := .set #[] 0 (.fresh 0 0 (!w.params.followText "set-order")) } } (.ref s.heap.objs.size) "set" := ⟨_, hS, rfl⟩
      have hli := F.called_set.init.lookup
      have hbi := F.called_set.init.bind (.ref s.heap.objs.size)
      repeat (any_goals (first | assumption | wp_step))

      refine codeAny_mono (codeAny_call_builtin (R := wants (fun r s₂ => r = .none ∧ ∃ h' tk c, s₂ = { s with heap := h', toks := tk } ∧ SetR w h' s.heap.objs.size (fun j => decide (j ∈ ns)) c ∧ c ≤ ns.length ∧
          (∀ b o, s.heap.get? b = some o → h'.get? b = some o)) E) F.called_set.init.plain F.entry_set_init (check_set_init_1 hT ?_)) fun r₂ s₂ hr₂ => ?_
      · obtain ⟨ol, hol, hcl, nl, hdl⟩ := hl
        obtain ⟨ocls, odict, odata, oslots⟩ := ol
        simp only at hcl hdl
        subst hcl; subst hdl
        have hol' : (s.heap.push { cls := .type "set", dict := none, data := .set #[] 0 (.fresh 0 0 (!w.params.followText "set-order")) }).get? l = some { cls := .type "list", dict := odict, data := .seq items nl, slots := oslots } := Heap.get?_push_of_some _ hol
        have hsls := F.sub_list_set
        have hslf := F.sub_list_frozenset
        have hne : (Value.type "list" == Value.type "dict") = false := by decide
        have hl1 : (s.heap.push { cls := .type "set", dict := none, data := .set #[] 0 (.fresh 0 0 (!w.params.followText "set-order")) }).IsList l items := ⟨_, hol', rfl, nl, rfl⟩
        unfold Builtin.«set.__init__» noKeywords Builtin.Frozenset.updateFrom
        generalize hPI : pyIter = PI
        wp_walk
        subst hPI

        refine wpAny_pyIter_list hl1 ?_
        refine wpAny_bind (wpAny_runValue ?_)
        have hlS : l < s.heap.objs.size := Heap.lt_size hol
        have hh3 : A.in1.in1.in1.handled = none := by simp [hh]
        have hz1 : (s.heap.push { cls := .type "set", dict := none, data := .set #[] 0 (.fresh 0 0 (!w.params.followText "set-order")) }).objs.size = s.heap.objs.size + 1 := Heap.size_push ..
        have hneI : l ≠ (s.heap.push { cls := .type "set", dict := none, data := .set #[] 0 (.fresh 0 0 (!w.params.followText "set-order")) }).objs.size := by
          rw [Heap.size_push]; exact Nat.ne_of_lt (Nat.lt_succ_of_lt hlS)
        have hSf : s.heap.objs.size ∉ [(s.heap.push { cls := .type "set", dict := none, data := .set #[] 0 (.fresh 0 0 (!w.params.followText "set-order")) }).objs.size, l] := by
          rw [Heap.size_push]; simp only [List.mem_cons, List.mem_singleton, List.not_mem_nil, or_false, not_or]
          exact ⟨Nat.ne_of_lt (Nat.lt_succ_self _), Nat.ne_of_gt hlS⟩
        have hval : ∀ (i : Nat) (v : Value), items[i]? = some v → ∃ k t, ns[i]? = some k ∧ v = .int k t := fun i v hv => by
          have hi : i < ns.length := by rw [← hisz]; exact (Array.getElem?_eq_some_iff.mp hv).1
          obtain ⟨t, e⟩ := PyProof.Rows.IntsAre.int_at hit i v (by rw [Array.getElem?_toList]; exact hv)
          refine ⟨ns[i], t, List.getElem?_eq_getElem hi, ?_⟩
          rw [e, List.getD_eq_getElem?_getD, List.getElem?_eq_getElem hi] <;> rfl
        refine set_update_ints ((Walks.list hh3 _ l hneI items).toS) s.heap.objs.size
          hSf ns hisz hb hval (items.size - 0) 0 _ (by omega) (Nat.zero_le _)
          ⟨⟨_, Heap.get?_push_size _ rfl, rfl, rfl⟩, (hl1.push _)⟩ ?hS0 ?hR
        case hS0 =>
          have hget : ((s.heap.push { cls := .type "set", dict := none, data := .set #[] 0 (.fresh 0 0 (!w.params.followText "set-order")) }).push { cls := .type "list_iterator", data := .fields #[.ref l, .int 0 0] }).get? s.heap.objs.size
              = some { cls := .type "set", dict := none, data := .set #[] 0 (.fresh 0 0 (!w.params.followText "set-order")) } := Heap.get?_push_of_some _ hS
          exact ⟨0, Nat.le_refl 0, setR_new_at hget⟩
        case hR =>
          intro s' c' hm hc' hS'
          obtain ⟨h', g2, d', tk', os'⟩ := s'
          have eg : g2 = s.gens := hm.gens
          have ed : d' = s.drawn := hm.drawn
          have eo : os' = s.os := hm.os
          subst eg; subst ed; subst eo
          show wpAny _ _ _ _ _ _
          refine wpAny_pure ?_
          show wpAny _ _ (ret Value.none) _ _ _
          rw [hisz] at hc'
          refine wpAny_pure ⟨rfl, h', tk', c', rfl, hS', hc', fun b o e => ?_⟩
          have hb0 : b < s.heap.objs.size := Heap.lt_size e
          have hb1 : b ≠ s.heap.objs.size := Nat.ne_of_lt hb0
          have hb2 : b ≠ (s.heap.push { cls := .type "set", dict := none, data := .set #[] 0 (.fresh 0 0 (!w.params.followText "set-order")) }).objs.size := by
            rw [Heap.size_push]; exact Nat.ne_of_lt (Nat.lt_succ_of_lt hb0)
          exact hm.heap b o (by simp only [List.mem_cons, List.mem_singleton, List.not_mem_nil, or_false, not_or]; exact ⟨hb1, hb2⟩) (Heap.get?_push_of_some _ (Heap.get?_push_of_some _ e))

      · cases r₂ with
        | error e => exact hr₂
        | ok fl₂ =>
          cases fl₂ with
          | ret r =>
            obtain ⟨rfl, h', tk, c', rfl, hS', hc', hk'⟩ := hr₂
            repeat (any_goals (first | assumption | wp_step))
            exact h _ _ _ hS' hc' hk'
          | _ => exact hr₂.elim
    | _ => exact hr.elim
end
/-! the rule -/
def rSetI (w : World) (K : PySem.W.Frag) : List V → Hp → VK → Prop := fun xs H Q => ∃ (l : Addr) (ns : List Int), xs = [.ref l] ∧ SqL K H l (ns.map V.int) ∧ ns.length ≤ 1000 ∧ ∀ (a : Addr) (c : Nat), c ≤ ns.length → H a = none → Q (.ref a) (upd H a (SetO w a (fun j => decide (j ∈ ns)) c))
theorem cr_setI {X : Cx} (b : Bd X) : CallR X (.type "set") (rSetI X.w X.K) := by
  intro pins s σ H xs us Q I r h
  obtain ⟨l, ns, rfl, hl, hlen, q⟩ := h
  rw [Vals.ref1 r]
  obtain ⟨its, rv, pl, hz⟩ := I.list hl
  have hn : H s.heap.objs.size = none := I.hok.fresh (Nat.le_refl _)
  refine set_lst (P := X.prog) (w := X.w) ns (I.ok.hd b.calm) pl.isList (by simpa using rv.ints) (by unfold scanBound; omega) fun h' tk c R hc k => ?_
  exact ⟨.ref s.heap.objs.size, upd H s.heap.objs.size (SetO X.w s.heap.objs.size (fun j => decide (j ∈ ns)) c), I.laid (t' := tk) k (Nat.le_refl _) (setO_new R), rfl, q _ c hc hn⟩
/-- the different ones, in order -/
def sset (ns : List Int) : List Int := sortZ ns.eraseDups
def gSortSet : D → Option O
  | .list ds => (match intsD ds with | some ns => if ns.length < 64 then some (.lst ((sset ns).map .int)) else none | none => none)
  | _ => none
theorem eraseDups_nodup : ∀ l : List Int, l.eraseDups.Nodup
  | [] => by simp
  | a :: l => by
    rw [List.eraseDups_cons, List.nodup_cons]
    refine ⟨fun m => ?_, eraseDups_nodup _⟩
    rw [List.mem_eraseDups, List.mem_filter] at m
    simpa using m.2
termination_by l => l.length
decreasing_by
  have := List.length_filter_le (fun b => !b == a) l
  simp only [List.length_cons]
  omega
theorem sset_of {ns ys : List Int} (h1 : ys.Pairwise (· < ·)) (h2 : ∀ k, k ∈ ys ↔ k ∈ ns) : ys = sset ns := by
  have n1 : ys.Nodup := h1.imp fun h => by omega
  have pm : ys.Perm ns.eraseDups := (List.perm_ext_iff_of_nodup n1 (eraseDups_nodup ns)).mpr fun k => by rw [h2, List.mem_eraseDups]
  exact sortZ_of pm (h1.imp fun h => by omega)
section
variable {X : Cx} {W : XW} {a : Expr} {fa : Ev → Rs B} {p p2 pos pos2 : Pos}
theorem de_sortSet (bd : Bd X) (hg : Gl X "sorted") (hm : X.mg "sorted" = none) (hg2 : Gl X "set") (hm2 : X.mg "set" = none) (ha : DB X W a fa)
    (hs : starEach [a] X.env = (false, eval a X.env) :: starEach [] X.env := by rfl)
    (hs2 : starEach [.Call (.Name "set" p2) [a] [] pos2] X.env = (false, eval (.Call (.Name "set" p2) [a] [] pos2) X.env) :: starEach [] X.env := by rfl) :
    DE X W (.Call (.Name "sorted" p) [.Call (.Name "set" p2) [a] [] pos2] [] pos) (op1 gSortSet fa) := by
  have h1 := pe_callTy (pos := pos2) (p := p2) (cr_setI bd) hg2 hm2 (by decide +kernel) (pa_cons ha pa_nil hs) (by decide) (by decide) hs
  have h2 := pe_callB (pos := pos) (p := p) (cr_sortedSet bd.calm) hg hm (by decide +kernel) (pa_cons h1 pa_nil hs2) (by decide) (by decide) hs2
  refine PE.imp h2 fun σ H Q q => ?_
  obtain ⟨G, T, S, ρ, s, g⟩ := q
  refine ⟨G, T, S, ρ, s, seq sid ?_ g⟩
  intro b ρ1 z v S1 H1 s1 at1
  split at z
  · rename_i d hd
    have rx := B.rt s1 (fun p m => List.mem_append_left _ m) at1 hd
    split at z
    · rename_i o ho
      unfold gSortSet at ho
      split at ho
      · rename_i ds
        split at ho
        · rename_i ns hns
          split at ho
          · rename_i hl
            cases ho
            obtain ⟨l, xs, rfl, h1, r1⟩ := rx.lst_of
            obtain rfl := r1.ints hns
            refine ⟨l, ns, rfl, h1, by omega, fun p c hc hp => ?_⟩
            have s2 := (s1.dropL).share (u := SetO X.w p (fun j => decide (j ∈ ns)) c) hp
            refine ⟨p, _, c, rfl, upd_same, by omega, fun ys q h1 h2 h3 hq => ?_⟩
            rw [sset_of h1 (ns := ns) fun k => by simpa using h2 k]
            exact s2.newL (rpA_ints' _) z q hq
          · cases ho
        · cases ho
      · cases ho
    · exact z.elim
  · exact z.elim
end
end Y
/-! Y: dicts with tuple keys: dict(d), sorted(d), d.pop(k); "".join -/
namespace Y
open PySem PySem.Spec PyProof.Rows L2
/-! ### tuples of keys that become shared -/
def TupAt (H : Hp) (x : V) (d : D) : Prop := ∃ (ks : List Key) (b : Addr), x = .ref b ∧ H b = some (.tup (ks.map kV)) ∧ d = .tuple (ks.map keyD) ∧ ∀ k ∈ ks, okK k = true
theorem rpA_keys {K : PySem.W.Frag} {S : Hp} : ∀ ks : List Key, (∀ x ∈ ks, okK x = true) → RpA K S (ks.map kV) (ks.map keyD)
  | [], _ => .nil
  | x :: xs, h => .cons (keyD_rp (h x (by simp))) (rpA_keys xs fun y m => h y (by simp [m]))
theorem Stt.tupsIn {K : PySem.W.Frag} {G : Fra} {T : List (V × E)} {ρ : Ev} {σ : Sg} {H : Hp} : ∀ {xs : List V} {ds : List D} {S : Hp}, Paired (TupAt H) xs ds → Stt K G T ρ σ S H → ∃ S', Stt K G T ρ σ S' H ∧ Same S S' ∧ RpA K S' xs ds
  | _, _, S, .nil, s => ⟨S, s, fun _ _ e => e, .nil⟩
  | _, _, S, .cons h t, s => by
    obtain ⟨ks, b, rfl, hb, rfl, ok⟩ := h
    obtain ⟨S1, s1, ss1, e1⟩ := s.tupIn hb
    obtain ⟨S2, s2, ss2, r2⟩ := Stt.tupsIn t s1
    exact ⟨S2, s2, fun b o e => ss2 b o (ss1 b o e), .cons (.tup (ss2 _ _ e1) (rpA_keys ks ok)) r2⟩
theorem RpT.tupAt {K : PySem.W.Frag} {S H : Hp} : ∀ {kvs : List (List Key × V)} {es : List (D × D)} {bs : List Addr}, RpT K S kvs es → IsKeys H kvs bs → Paired (TupAt H) (bs.map V.ref) (es.map (·.1))
  | _, _, _, .nil, h => by cases h; exact .nil
  | _, _, _, .cons o a b, h => by
    cases h with
    | cons h1 h2 => exact .cons ⟨_, _, rfl, h1, rfl, o⟩ (RpT.tupAt b h2)
theorem tupAt_dp {K : PySem.W.Frag} {H : Hp} : ∀ {xs : List V} {ds : List D}, Paired (TupAt H) xs ds → DpAll K H xs ds
  | _, _, .nil => .nil
  | _, _, .cons h t => by
    obtain ⟨ks, b, rfl, hb, rfl, ok⟩ := h
    refine .cons (.tup (SqT.of hb) ?_) (tupAt_dp t)
    exact (RpA.dp (S := H) 0 (rpA_keys ks ok) fun d m => by
      obtain ⟨k, _, rfl⟩ := List.mem_map.mp m
      cases k <;> rfl).1
theorem each_imp {α : Type} {R R' : Value → α → Prop} (h : ∀ v d, R v d → R' v d) : ∀ {vs : List Value} {ds : List α}, PySem.W.EachIs R vs ds → PySem.W.EachIs R' vs ds
  | _, _, .nil => .nil
  | _, _, .cons a b => .cons (h _ _ a) (each_imp h b)
/-! ### sorted(d) -/
def rSortT (K : PySem.W.Frag) : List V → Hp → VK → Prop := fun vs H Q => ∃ (a : Addr) (kvs : List (List Key × V)) (ds : List D), vs = [V.ref a] ∧ Rd H a (.dT kvs) ∧ ds.length ≤ 1000 ∧ sortOk ds = true ∧ (∀ d ∈ ds, d.depth ≤ 60) ∧
  (∀ bs, IsKeys H kvs bs → Paired (TupAt H) (bs.map V.ref) ds) ∧ ∀ (ys : List V) (p : Addr), Paired (TupAt H) ys (sortD ds) → H p = none → Q (.ref p) (upd H p (.lst ys))
section
variable {X : Cx}
theorem cr_sortT (b : Bd X) : CallR X (.builtin "sorted") (rSortT X.K) := by
  intro pins s σ H vs us Q I r h
  obtain ⟨a, kvs, ds, rfl, hd, hlen, hok, hdep, hk, q⟩ := h
  rw [Vals.ref1 r]
  have hb := b.un
  obtain ⟨z, lo, ks, pr, o, es, ep, ho, hx, hdt, he, hn⟩ := (show ObjOk X.prog X.w H s.heap a (.dT kvs) from hd.ok I.hok)
  have l1 : es.size = ks.length := size_of_entries he
  have l2 : kvs.length = ks.length := Paired.length pr
  have pk := hk _ (isKeys_of pr)
  have l3 : ks.length = ds.length := by have := Paired.length pk; simpa using this
  unfold sortOk at hok
  simp only [Bool.and_eq_true, Bool.or_eq_true, List.all_eq_true] at hok
  obtain ⟨⟨h1, h2⟩, h3⟩ := hok
  refine Calls.call_function_entry PyProof.Rows.kind_sorted PyProof.Rows.plain_sorted PyProof.Rows.entry_sorted (PyProof.Rows.args_sorted1 _) ?_
  unfold Builtin.«sorted»
  refine wpAny_bind (m := checkCount "sorted" 1 1 _) (wpAny_pure ?_)
  refine wpAny_bind (PySem.W.kdu_collect (A := X.A.in1) (kdl_raw lo hx hdt) (I.ok.hd b.calm) ho (by omega) fun h' tk acc kp it => ?_)
  have ea : acc.toList = ks.map fun x => Value.ref x.2.1 := by
    have hl : acc.toList.length = ks.length := by rw [Array.length_toList, it.1]; exact l1
    apply List.ext_getElem?
    intro j
    rw [List.getElem?_map]
    cases hj : acc.toList[j]? with
    | none =>
      have h1 := List.getElem?_eq_none_iff.mp hj
      rw [List.getElem?_eq_none (by omega)]
      all_goals rfl
    | some v =>
      obtain ⟨en, hen, hv⟩ := it.2 j v (by rw [← Array.getElem?_toList]; exact hj)
      have qe := entry_at he j
      rw [hen] at qe
      cases hb : ks[j]? with
      | none =>
        rw [hb] at qe
        exact nomatch (show some en = none from qe)
      | some b =>
        rw [hb] at qe
        have e2 : en = entryOfKey (tupleKind (mixKind X.prog X.w)) b := Option.some.inj qe
        rw [hv, e2]
        all_goals rfl
  have I1 : Inv X pins σ H { s with heap := h', toks := tk } := I.kept kp
  have hal : acc.toList.length = ds.length := by rw [ea, List.length_map]; exact l3
  have rv : Vals (ks.map fun x => V.ref x.2.1) acc.toList := by
    rw [ea]
    have := vals_refs (ks.map fun x => x.2.1)
    rw [List.map_map, List.map_map] at this
    exact this
  have pk' : Paired (TupAt H) (ks.map fun x => V.ref x.2.1) ds := by
    rw [List.map_map] at pk
    exact pk
  refine wpAny_bind (wpAny_newList ?_ (by rw [hal, sizeLine_eq]; omega))
  have hoL : (h'.push (seqObj "list" acc.toList.toArray 0)).get? h'.objs.size = some (seqObj "list" acc.toList.toArray 0) := Heap.get?_push_size _ rfl
  show wpAny _ _ _ _ _ { s with heap := h'.push (seqObj "list" acc.toList.toArray 0), toks := tk }
  have er : PySem.W.EachIs (fun v b => ∃ as, Reads (h'.push (seqObj "list" acc.toList.toArray 0)) v (id b) as ∧ h'.objs.size ∉ as) acc.toList ds := by
    have e0 := each_reads I1 (tupAt_dp (K := X.K) pk') rv
    exact each_imp (fun v d ⟨as, ra⟩ => ⟨as, PyProof.Rows.Reads.keeps (fun b o e => Heap.get?_push_of_some _ e) ra, fun m => by
      obtain ⟨ob, eo⟩ := PyProof.On.reads_mem_get ra _ m
      exact Nat.lt_irrefl _ (Heap.lt_size eo)⟩) e0
  refine wpAny_bind (wpAny_holding (PySem.W.list_sort_data (enc := id) (s := { s with heap := h'.push (seqObj "list" acc.toList.toArray 0), toks := tk }) hoL (each_pair pk' rv) er ?_ ?_ (by rw [sizeLine_eq]; omega) (fun d m => ?_) fun out hl eo => ?_))
  · rw [List.map_id]
    exact fun d m e m' => h1 d m e m'
  · rw [List.map_id]
    rcases h3 with h3 | h3
    · refine .inl fun d m => ?_
      have := h3 d m
      split at this
      · exact ⟨_, _, rfl⟩
      · cases this
    · refine .inr fun d m => ?_
      have := h3 d m
      split at this
      · cases this
      · cases this
      · rename_i k1 k2
        exact ⟨fun z => k2 z, fun ys z => k1 ys z⟩
  · have := hdep d m
    show X.A.units + 2 + d.depth < cLine
    omega
  · obtain ⟨ys, ry, py⟩ := pair_each eo
    obtain ⟨e', he'⟩ := PyProof.Rows.sortedHeap_at (vs := acc.toList) (out := out.toArray) hoL
    have hl2 : ys.length = out.length := ry.length
    refine wpAny_pure ⟨_, rfl, .ref h'.objs.size, upd H h'.objs.size (.lst ys), I1.laid (t' := tk) (fun b u e => ?_) (Nat.le_refl _)
      (show ObjOk X.prog X.w _ _ _ (.lst ys) from ⟨by rw [sizeLine_eq]; omega, out, e', ry, he'⟩), rfl, q ys _ py (I1.hok.fresh (Nat.le_refl _))⟩
    have hb : b < h'.objs.size := Heap.lt_size e
    rw [PyProof.Rows.sortedHeap_old (Nat.ne_of_lt hb) (by rw [size_push']; exact Nat.lt_succ_of_lt hb)]
    exact Heap.get?_push_of_some _ e
end
/-! ### the built-in sorted, for both kinds of dicts -/
def tupKeys : List (D × D) → Bool
  | (.tuple _, _) :: _ => true
  | _ => false
def gSortedB : List D → Option O
  | [.dict kvs] => if tupKeys kvs = true then (if sortOk (kvs.map (·.1)) = true ∧ kvs.length ≤ 1000 then some (.lst (sortD (kvs.map (·.1)))) else none) else gSortedA [.dict kvs]
  | ds => gSortedA ds
theorem tupKeys_K {K : PySem.W.Frag} {S : Hp} {kvs : List (Key × V)} {es : List (D × D)} (r : RpK K S kvs es) : tupKeys es = false := by
  cases r with
  | nil => rfl
  | cons o a b => rename_i k _ _ _ _; cases k <;> rfl
theorem depth_all : ∀ (ds : List D), PyData.depthAll ds ≤ 60 → ∀ d ∈ ds, d.depth ≤ 60
  | [], _, d, m => by cases m
  | x :: xs, hle, d, m => by
    unfold PyData.depthAll at hle
    rcases List.mem_cons.mp m with rfl | m
    · omega
    · exact depth_all xs (by omega) d m
theorem keys_depth : ∀ ks : List Key, PyData.depthAll (ks.map keyD) = 0
  | [] => by simp [PyData.depthAll]
  | k :: ks => by cases k <;> simp [PyData.depthAll, keyD, PyData.depth, keys_depth ks]
theorem rpT_depth {K : PySem.W.Frag} {S : Hp} : ∀ {kvs : List (List Key × V)} {es : List (D × D)}, RpT K S kvs es → ∀ p ∈ es, p.1.depth ≤ 60
  | _, _, .nil, p, m => by cases m
  | _, _, .cons o a b, p, m => by
    rcases List.mem_cons.mp m with rfl | m
    · simp [PyData.depth, keys_depth]
    · exact rpT_depth b p m
section
variable {X : Cx}
theorem cr_sortedB (b : Bd X) : CallR X (.builtin "sorted") (fun xs H Q => rSortedA X.K xs H Q ∨ rSortT X.K xs H Q) := (cr_sortedA b).or (cr_sortT b)
theorem does_sortedB : DoesL X gSortedB (fun xs H Q => rSortedA X.K xs H Q ∨ rSortT X.K xs H Q) := by
  intro xs ds o G T ρ σ S H Q s r e q
  unfold gSortedB at e
  split at e
  · rename_i kvs
    split at e
    · rename_i htup
      split at e
      · rename_i hok
        cases e
        obtain ⟨x, rfl, rx⟩ := r.one
        cases rx with
        | dK h1 h2 h3 => rw [tupKeys_K h3] at htup; cases htup
        | @dT a kvs' _ h1 h2 h3 =>
          have hf : ∀ d ∈ kvs.map (·.1), fits 60 d = true := by
            have h := hok.1
            unfold sortOk at h
            simp only [Bool.and_eq_true, List.all_eq_true] at h
            exact h.1.2
          have dep : ∀ d ∈ kvs.map (·.1), d.depth ≤ 60 := by
            intro d m
            obtain ⟨p, hp, rfl⟩ := List.mem_map.mp m
            exact rpT_depth h3 p hp
          refine .inr ⟨a, kvs', kvs.map (·.1), rfl, h1, by rw [List.length_map]; exact hok.2, hok.1, dep, fun bs hb => h3.tupAt hb, fun ys p py n => ?_⟩
          obtain ⟨S1, s1, ss, ra⟩ := Stt.tupsIn py s
          exact s1.newL ra q p n
      · cases e
    · exact .inl (does_sortedA _ _ o G T ρ σ S H Q s r e q)
  · exact .inl (does_sortedA _ _ o G T ρ σ S H Q s r e q)
end
/-! ### dict(d) -/
def hash2 (a b : Nat) : Int := reduceHash (Builtin.Tuple.tupleHashOf [hashInt (a : Int), hashInt (b : Int)])
theorem hash2_all : ((List.range 10).all fun a => (List.range 6).all fun b => (List.range 10).all fun c => (List.range 6).all fun d => hash2 a b != hash2 c d || (a == c && b == d)) = true := by decide +kernel
theorem hash2_inj {a b c d : Nat} (ha : a < 10) (hb : b < 6) (hc : c < 10) (hd : d < 6) (h : hash2 a b = hash2 c d) : a = c ∧ b = d := by
  have q := hash2_all
  rw [List.all_eq_true] at q
  have q := q a (List.mem_range.mpr ha)
  rw [List.all_eq_true] at q
  have q := q b (List.mem_range.mpr hb)
  rw [List.all_eq_true] at q
  have q := q c (List.mem_range.mpr hc)
  rw [List.all_eq_true] at q
  have q := q d (List.mem_range.mpr hd)
  rw [h] at q
  simpa using q
def smallT (kvs : List (D × D)) : Bool := kvs.all fun p => match p.1 with
  | .tuple [.int a, .int b] => decide (0 ≤ a ∧ a < 10 ∧ 0 ≤ b ∧ b < 6)
  | _ => false
def SmallK (kvs : List (List Key × V)) : Prop := ∀ p ∈ kvs, ∃ a b : Nat, a < 10 ∧ b < 6 ∧ p.1 = [Sum.inl (a : Int), Sum.inl (b : Int)]
theorem keys_two {ks : List Key} {a b : Int} (h : ks.map keyD = [.int a, .int b]) : ks = [.inl a, .inl b] := by
  cases ks with
  | nil => simp at h
  | cons x ks =>
    cases ks with
    | nil => simp at h
    | cons y ks =>
      cases ks with
      | cons z ks => simp at h
      | nil =>
        simp only [List.map_cons, List.map_nil] at h
        injection h with h1 h2
        injection h2 with h2 h3
        cases x with
        | inr x => simp [keyD] at h1
        | inl x =>
          cases y with
          | inr y => simp [keyD] at h2
          | inl y =>
            simp only [keyD, PyData.int.injEq] at h1 h2
            subst h1
            subst h2
            rfl
theorem rpT_small {K : PySem.W.Frag} {S : Hp} : ∀ {kvs : List (List Key × V)} {es : List (D × D)}, RpT K S kvs es → smallT es = true → SmallK kvs
  | _, _, .nil, _ => fun p m => by cases m
  | _, _, .cons (k := k) o a b, h => fun p m => by
    unfold smallT at h
    rw [List.all_cons, Bool.and_eq_true] at h
    rcases List.mem_cons.mp m with rfl | m
    · have h1 := h.1
      dsimp only at h1 ⊢
      split at h1
      · rename_i x a b e
        injection e with e
        have e2 := keys_two e
        have h1 := of_decide_eq_true h1
        refine ⟨a.toNat, b.toNat, by omega, by omega, ?_⟩
        rw [e2, Int.toNat_of_nonneg h1.1, Int.toNat_of_nonneg h1.2.2.1]
      · cases h1
    · exact rpT_small b h.2 p m
section
variable {X : Cx}
theorem nodup_hash {prog : Program} {w : World} {xs : List (List Key × Addr × Value)} (hn : (xs.map (·.1)).Nodup) (hs : ∀ x ∈ xs, ∃ a b : Nat, a < 10 ∧ b < 6 ∧ x.1 = [Sum.inl (a : Int), Sum.inl (b : Int)]) :
    (xs.map fun x => (tupleKind (mixKind prog w)).hash x.1).Nodup := by
  unfold List.Nodup at hn ⊢
  rw [List.pairwise_map] at hn ⊢
  refine hn.imp_of_mem fun {x y} hx hy h e => ?_
  obtain ⟨a, b, h1, h2, e1⟩ := hs x hx
  obtain ⟨c, d, h3, h4, e2⟩ := hs y hy
  rw [e1, e2] at e
  obtain ⟨rfl, rfl⟩ := hash2_inj h1 h2 h3 h4 e
  exact h (e1.trans e2.symm)
theorem call_dictT (b : Bd X) : CallR X (.type "dict") (fun xs H Q => ∃ (a : Addr) (kvs : List (List Key × V)), xs = [.ref a] ∧ Rd H a (.dT kvs) ∧ SmallK kvs ∧ ∀ p, H p = none → Q (.ref p) (upd H p (.dT kvs))) := by
  intro pins s σ H xs us Q I r q
  obtain ⟨a, kvs, ex, hd, hsm, q⟩ := q
  subst ex
  rw [Vals.ref1 r]
  have hb := b.un
  obtain ⟨z, lo, vs, rel, dd⟩ := dt_rd I.hok hd
  have hz : vs.length ≤ sizeLine := by rw [← Paired.length rel]; exact z
  refine callType_codes (Q₁ := fun obj s₁ => obj = .ref s.heap.objs.size ∧ s₁ = { s with heap := s.heap.push { cls := .type "dict", data := .dict #[] } }) F.kt_called_dict (F.kt_typeCall_dict_1 _) F.entry_dict_init (kt_code_dict_new _ ⟨rfl, rfl⟩) ?_
  rintro obj s₁ ⟨rfl, rfl⟩
  have hnew : (s.heap.push { cls := .type "dict", data := .dict #[] }).DictOfH (tupleKind (mixKind X.prog X.w)) s.heap.objs.size [] := Heap.DictOfH.new s.heap
  have keepD : ∀ y ∈ vs, (tupleKind (mixKind X.prog X.w)).is s.heap y.1 y.2.1 := let ⟨_, _, _, _, _, _, _, his, _⟩ := dd; his
  have ho' : (s.heap.push { cls := .type "dict", data := .dict #[] }).DictOfH (tupleKind (mixKind X.prog X.w)) a vs := by
    obtain ⟨o, es, ep, h1, h2, h3, h4, h5, h6⟩ := dd
    refine ⟨o, es, ep, Heap.get?_push_of_some _ h1, h2, h3, h4, fun x m => ?_, h6⟩
    obtain ⟨ob, items, n, g1, g2, g3, g4⟩ := h5 x m
    exact ⟨ob, items, n, Heap.get?_push_of_some _ g1, g2, g3, g4⟩
  have hdo : s.heap.objs.size ≠ a := by
    obtain ⟨_, _, _, hg, _⟩ := dd
    exact fun e => absurd (Heap.lt_size hg) (by rw [e]; exact Nat.lt_irrefl _)
  have hmem : ∀ x ∈ vs, ∃ p ∈ kvs, p.1 = x.1 := by
    have : ∀ {l : List (List Key × V)} {m : List (List Key × Addr × Value)}, KT H l m → ∀ x ∈ m, ∃ p ∈ l, p.1 = x.1 := by
      intro l m q
      induction q with
      | nil => intro x hx; cases hx
      | @cons p q ps qs hq t ih =>
        intro x hx
        rcases List.mem_cons.mp hx with rfl | hx
        · exact ⟨p, List.mem_cons_self .., hq.1⟩
        · obtain ⟨y, m, e⟩ := ih x hx
          exact ⟨y, List.mem_cons_of_mem _ m, e⟩
    exact this rel
  refine ⟨hnew.typeIs, F.args_dict_init_2 _ _, ?_⟩
  unfold Builtin.«dict.__init__»
  refine wpAny_bind ?_
  unfold Builtin.Dict.selfAndRest
  refine wpAny_bind (wpAny_notOrdered_dict hnew.typeIs ?_)
  show wpAny _ _ (pure (s.heap.objs.size, [Value.ref a])) _ _ _
  refine wpAny_pure ?_
  show wpAny _ _ (Builtin.Dict.updateFrom "dict.__init__" s.heap.objs.size (.ref a) [] .none) _ _ _
  refine updateFrom_dictH (knd := tupleKind (mixKind X.prog X.w)) (kvs := []) (more := vs) .none ?_ hdo lo hnew ho' (.inr ⟨fun x m => ?_, ?_⟩) (by simpa using hz) fun h' hd' ho2 hs => ?_
  · exact tupleKind_room_in1 (A := X.A.in1) (show X.A.units + 1 + 1 < cLine by omega)
  · obtain ⟨ob, items, n, g1, g2, g3, g4⟩ := keepD x m
    exact ⟨ob, Heap.get?_push_of_some _ g1, g2⟩
  · refine nodup_hash (let ⟨_, _, _, _, _, _, _, _, hn⟩ := dd; hn) fun x m => ?_
    obtain ⟨p, hp, e⟩ := hmem x m
    obtain ⟨a, b, h1, h2, e2⟩ := hsm p hp
    exact ⟨a, b, h1, h2, e.symm.trans e2⟩
  · have hm : (s.heap.objs.size == sysModules) = false := beq_eq_false_iff_ne.mpr (Nat.ne_of_gt I.big)
    rw [storedAllH_nil_of_nodup vs (let ⟨_, _, _, _, _, _, _, _, hn⟩ := dd; hn)] at hd'
    obtain ⟨o, es, ep, g1, g2, g3, g4, _, g6⟩ := hd'
    refine ⟨rfl, .ref s.heap.objs.size, upd H s.heap.objs.size (.dT kvs), I.laid (t' := s.toks) (fun b u e => (hs.2 b (Nat.ne_of_lt (Heap.lt_size e))).trans (Heap.get?_push_of_some _ e)) (Nat.le_refl _) ?_, rfl, q _ (I.hok.fresh (Nat.le_refl _))⟩
    exact (show ObjOk X.prog X.w _ _ _ (.dT kvs) from ⟨z, hm, vs, rel.keeps fun c ys ec => (by rw [upd_ne (ne_of_none ec (I.hok.fresh (Nat.le_refl _)))]; exact ec), o, es, ep, g1, g2, g3, g4, g6⟩)
end
def gDictB : List D → Option O
  | [.dict kvs] => if kkeys kvs = true then some (.dic kvs) else if smallT kvs = true then some (.dic kvs) else none
  | _ => none
def rDictB (K : PySem.W.Frag) : List V → Hp → VK → Prop := fun xs H Q => (∃ (a : Addr) (kvs : List (Key × V)), xs = [.ref a] ∧ Rd H a (.dK kvs) ∧ ∀ p, H p = none → Q (.ref p) (upd H p (.dK kvs))) ∨
  ∃ (a : Addr) (kvs : List (List Key × V)), xs = [.ref a] ∧ Rd H a (.dT kvs) ∧ SmallK kvs ∧ ∀ p, H p = none → Q (.ref p) (upd H p (.dT kvs))
section
variable {X : Cx}
theorem call_dictB (b : Bd X) : CallR X (.type "dict") (rDictB X.K) := call_dictD.or (call_dictT b)
theorem does_dictB : DoesL X gDictB (rDictB X.K) := by
  intro xs ds o G T ρ σ S H Q s r e q
  unfold gDictB at e
  split at e
  · obtain ⟨x, rfl, rx⟩ := r.one
    split at e
    · rename_i hk
      cases e
      cases rx with
      | dK h1 h2 h3 => exact .inl ⟨_, _, rfl, h1, fun p n => q _ _ _ (s.make n (.dK upd_same (s.sub.free n) h3))⟩
      | dT h1 h2 h3 => rw [kk_T h2 h3] at hk; cases hk
    · rename_i hk
      split at e
      · rename_i hsm
        cases e
        cases rx with
        | dK h1 h2 h3 => exact absurd (by
            have : ∀ {kvs : List (Key × V)} {es : List (D × D)}, RpK X.K S kvs es → kkeys es = true := by
              intro kvs es h
              unfold kkeys
              rw [List.all_eq_true]
              intro p m
              obtain ⟨i, hi⟩ := List.mem_iff_getElem?.mp m
              obtain ⟨k', v, _, e, _⟩ := h.getO (k := p.1) (d := p.2) hi
              rw [e]
              cases k' <;> rfl
            exact this h3) hk
        | dT h1 h2 h3 => exact .inr ⟨_, _, rfl, h1, rpT_small h3 hsm, fun p n => q _ _ _ (s.make n (.dT upd_same (s.sub.free n) h2 h3))⟩
      · cases e
  · cases e
end
/-! ### d.pop(k) -/
def dTn (kvs : List (List Key × V)) : HO := match kvs with
  | [] => .dK []
  | _ => .dT kvs
def tDPopA (td ty : TE) : TE := fun σ H Q => td σ H fun x H1 => ∃ a, x = .ref a ∧ IsD H1 a ∧ ty σ H1 fun y H2 => (∃ kvs k v, H2 a = some (.dK kvs) ∧ y = kV k ∧ valV kvs k = some v ∧ Q v (upd H2 a (.dK (dropK kvs k)))) ∨
  ∃ kvs k b v, H2 a = some (.dT kvs) ∧ y = .ref b ∧ H2 b = some (.tup (k.map kV)) ∧ valV kvs k = some v ∧ Q v (upd H2 a (dTn (dropK kvs k)))
section
variable {X : Cx} {pins : List (Addr × Obj)} {σ : Sg} {H : Hp} {s : Shared} {a b : Addr} {E : Value → Shared → Prop}
theorem d_popT {kvs : List (List Key × V)} {k : List Key} {v : V} {Q : Value → Shared → Prop} (hu : X.A.units + 1 < cLine) (I : Inv X pins σ H s) (e : H a = some (.dT kvs)) (eb : H b = some (.tup (k.map kV))) (l : valV kvs k = some v)
    (h : ∀ w' s', Inv X pins σ (upd H a (dTn (dropK kvs k))) s' → RelV v w' → Q w' s') : wpAny (model X.prog X.w) X.A (call (.builtin "dict.pop") [.ref a, .ref b]) Q E s := by
  obtain ⟨z, hd, xs', rel, dd⟩ := dt_of I.hok e
  have hz : xs'.length ≤ sizeLine := by rw [← Paired.length rel]; exact z
  obtain ⟨w', hw, rw'⟩ := RelO.some_of (v := v) (o := (atKey xs' k).map (·.2)) (by rw [← l]; exact rel.val k)
  obtain ⟨p, hp, hp2⟩ := Option.map_eq_some_iff.mp hw
  refine call_pop_heap (hsz := hz) (knd := tupleKind (mixKind X.prog X.w)) (k := k) (.inl rfl) (PySem.F.args_dict_pop_2 _ _) (tupleKind_room_in1 hu) (key_of I.hok eb) hd dd hp fun h' dd' hs => ?_
  rw [hp2]
  refine h w' _ ?_ rw'
  have rel' : KT H (dropK kvs k) (withoutH xs' k) := DX.KT_drop k rel
  obtain ⟨o, es, ep, g1, g2, g3, g4, g5, g6⟩ := dd'
  refine d_write (t' := s.toks + (tupleKind (mixKind X.prog X.w)).draws k) I (by rw [e]; exact True.intro) hs ⟨o, g1⟩ ?_
  cases hk : dropK kvs k with
  | nil =>
    rw [hk] at rel'
    have e0 : withoutH xs' k = [] := by
      have := Paired.length rel'
      exact List.length_eq_zero_iff.mp (by simpa using this.symm)
    rw [e0] at g4
    have e1 : es = #[] := by
      have : es.toList = [] := g4
      simpa using this
    subst e1
    exact (show ObjOk X.prog X.w _ _ _ (.dK []) from ⟨Nat.zero_le _, hd, [], .nil, o, #[], ep, g1, g2, g3, fun en hen => by simp at hen, .nil, by simp⟩)
  | cons q qs =>
    rw [hk] at rel'
    have hl : (q :: qs).length ≤ sizeLine := by rw [← hk]; exact Nat.le_trans (dropK_le kvs k) z
    exact (show ObjOk X.prog X.w _ _ _ (.dT (q :: qs)) from ⟨hl, hd, _, rel'.keeps (fun c ys ec => (by rw [upd_ne (ne_of ec e (fun z => nomatch z))]; exact ec)), o, es, ep, g1, g2, g3, g4, g6⟩)
end
section
variable {X : Cx} {o e : Expr} {td ty : TE} {apos cpos : Pos}
theorem pe_dpopA (b : Bd X) (ho : PE X o td) (he : PE X e ty) (m : M1 X o "pop" apos e cpos) : PE X (.Call (.Attribute o "pop" apos) [e] [] cpos) (tDPopA td ty) := by
  have hb := b.un
  refine ⟨fun pins s σ H Q I h => ?_⟩
  refine wpAny_Call_method m.base m.few m.line PySem.F.plainAttrs_dict PySem.F.slot_dict_pop PySem.F.type_dict_pop (thn (ho.run pins s σ H _ I h) fun u s1 ⟨x, H1, I1, rx, a, ex, d, q1⟩ => ?_)
  subst ex
  obtain rfl : u = Value.ref a := rx
  obtain ⟨t1, t2, _⟩ := isD_at I1 d
  refine ⟨t1, t2, ?_⟩
  rw [m.trees]
  refine Calls.callWith_builtin rfl (Calls.evalArgs_plain (Calls.spliced_cons (thn (he.run pins s1 σ H1 _ I1 q1) fun iv s2 ⟨y, H2, I2, ry, q2⟩ => Calls.spliced_nil ?_)))
  rcases q2 with ⟨kvs, k, v, ea, ey, l, q2⟩ | ⟨kvs, k, b, v, ea, ey, eb, l, q2⟩
  · subst ey
    exact d_pop I2 ea ry l (.inl rfl) fun w' s3 I3 rw' => ⟨v, _, I3, rw', q2⟩
  · subst ey
    obtain rfl : iv = Value.ref b := ry
    exact d_popT (by omega) I2 ea eb l fun w' s3 I3 rw' => ⟨v, _, I3, rw', q2⟩
end
theorem RpT.drop {K : PySem.W.Frag} {S : Hp} (k : List Key) : ∀ {kvs : List (List Key × V)} {es : List (D × D)}, RpT K S kvs es → RpT K S (dropK kvs k) (dropD es (.tuple (k.map keyD)))
  | _, _, .nil => .nil
  | _, _, .cons (k := k') (v := v) (d := d) (kvs := kvs) (es := es) o a b => by
    have ih := RpT.drop k b
    unfold dropK dropD at *
    rw [List.filter_cons, List.filter_cons]
    have e : PyData.eqv (.tuple (k'.map keyD)) (.tuple (k.map keyD)) = decide (k' = k) := by
      simp only [PyData.eqv, keyDs_eqv]
    by_cases h : k' = k
    · subst h
      rw [e]
      simp only [decide_true, ne_eq, not_true, decide_false, Bool.false_eq_true, if_false, Bool.not_true]
      exact ih
    · rw [e]
      simp only [h, decide_false, ne_eq, not_false_eq_true, decide_true, if_true, Bool.not_false]
      exact .cons o a ih
def popA (j : Nat) (fk : Ev → Rs B) : Ev → Rs Unit := bnd (bv j) fun _ ρ => match ρ[j]? with
  | some (some ⟨_, .dic _⟩) => bnd fk (fun b ρ1 => match b.val ρ1 with
    | some k => (match ρ1[j]? with
      | some (some ⟨io, .dic kvs⟩) => if isKey k = true ∧ (lookD kvs k).isSome = true then .ok () (ρ1.set j (some ⟨io, .dic (dropD kvs k)⟩)) else .stk
      | _ => .stk)
    | none => .stk) ρ
  | _ => .stk
theorem own_dTn {K : PySem.W.Frag} {S H : Hp} {a : Addr} {kvs : List (List Key × V)} {es : List (D × D)} (nS : S a = none) (r : RpT K S kvs es) : Own K S (upd H a (dTn kvs)) (.ref a) (.dic es) [a] := by
  cases kvs with
  | nil => cases r; exact .dK upd_same nS .nil
  | cons p ps => exact .dT upd_same nS (by simp) r
section
variable {X : Cx} {W : XW} {o e : Expr} {apos pos : Pos} {fk : Ev → Rs B}
theorem dx_popA {j : Nat} (bd : Bd X) (ho : PE X o (tVar j)) (he : DB X W e fk) (m : M1 X o "pop" apos e pos := by exact ⟨rfl, rfl, rfl, rfl⟩) : DX X W (.Call (.Attribute o "pop" apos) [e] [] pos) (popA j fk) := PE.imp (pe_dpopA bd ho he m) fun σ H Q ⟨G, T, S, ρ, s, g⟩ => by
  unfold popA bnd bv at g
  cases e0 : ρ[j]? with
  | none => rw [e0] at g; exact g.elim
  | some m =>
    cases m with
    | none => rw [e0] at g; exact g.elim
    | some ex =>
      obtain ⟨w, hw, s0⟩ := s.take e0
      rw [e0] at g
      simp only [e0] at g
      obtain ⟨io, o⟩ := ex
      cases o with
      | leaf d => exact g.elim
      | lst d => exact g.elim
      | dic ds0 =>
        simp only at g
        obtain ⟨F0, own0, _⟩ := s0.head
        obtain ⟨a, ha, hd⟩ : ∃ a, w = .ref a ∧ IsD H a := by
          cases own0 with
          | dK e _ _ => exact ⟨_, rfl, .inl ⟨_, .inl e⟩⟩
          | dT e _ _ _ => exact ⟨_, rfl, .inr ⟨_, .inl e⟩⟩
        subst ha
        refine ⟨_, hw, a, rfl, hd, G, T, S, ρ, s, ?_⟩
        cases e1 : fk ρ with
        | stk => rw [e1] at g; exact g.elim
        | er x ρ' => rw [e1] at g; exact g
        | ok be ρ1 =>
          rw [e1] at g
          intro v S1 H1 s1 at1
          simp only at g
          cases hv : be.val ρ1 with
          | none => rw [hv] at g; exact g.elim
          | some k =>
            rw [hv] at g
            simp only at g
            cases e2 : ρ1[j]? with
            | none => rw [e2] at g; exact g.elim
            | some m =>
              cases m with
              | none => rw [e2] at g; exact g.elim
              | some ex1 =>
                rw [e2] at g
                obtain ⟨io1, o1⟩ := ex1
                cases o1 with
                | leaf d => exact g.elim
                | lst d => exact g.elim
                | dic ds =>
                  simp only at g
                  split at g
                  · rename_i hlook
                    obtain ⟨hkey, hlook⟩ := hlook
                    have rk := B.rt s1 (fun p m => List.mem_append_left _ m) at1 hv
                    have s2 := s1.dropL
                    obtain ⟨w', hw', s3⟩ := s2.take e2
                    rw [hw] at hw'
                    cases hw'
                    obtain ⟨F, own, _⟩ := s3.head
                    cases own with
                    | @dT _ kvs _ eH nS ne rA =>
                      refine .inr ?_
                      cases hk : asKey k with
                      | some k' =>
                        have ek := asKey_eq hk
                        subst ek
                        rw [RpT.noK k' rA] at hlook
                        cases hlook
                      | none =>
                        cases k with
                        | tuple ts =>
                          unfold isKey at hkey
                          obtain ⟨ks, hks⟩ := Option.isSome_iff_exists.mp hkey
                          have ek := asKeys_eq hks
                          subst ek
                          obtain ⟨b, xs, rfl, _, hb, rb⟩ := rk.tup_S
                          obtain rfl := rb.keys
                          rcases rA.look ks with ⟨h1, h2⟩ | ⟨w2, d2, h1, h2, h3⟩
                          · rw [h1] at hlook; cases hlook
                          · refine ⟨kvs, ks, b, w2, eH, rfl, hb, h1, ?_⟩
                            have s4 := s3.write (o' := .dic (dropD ds (.tuple (ks.map keyD)))) (.dT eH nS ne rA) (u := dTn (dropK kvs ks)) (own_dTn nS (rA.drop ks))
                            have s5 := s4.back e2 hw fun io => s2.ios j _ e2 io
                            exact g _ S1 _ s5
                        | _ => simp [isKey, hk] at hkey
                    | @dK _ kvs _ eH nS rA =>
                      refine .inl ?_
                      cases hk : asKey k with
                      | none =>
                        cases k with
                        | tuple ts => rw [RpK.noT ts rA] at hlook; cases hlook
                        | _ => simp [isKey, hk] at hkey
                      | some k' =>
                        have ek := asKey_eq hk
                        subst ek
                        have ey : v = kV k' := by
                          cases k' with
                          | inl i => exact rk.int_of
                          | inr i => exact rk.str_of
                        rcases rA.look k' with ⟨h1, h2⟩ | ⟨w2, d2, h1, h2, h3⟩
                        · rw [h1] at hlook; cases hlook
                        · refine ⟨kvs, k', w2, eH, ey, h1, ?_⟩
                          have s4 := s3.write (o' := .dic (dropD ds (keyD k'))) (.dK eH nS rA) (u := .dK (dropK kvs k')) (.dK upd_same nS (rA.drop k'))
                          have s5 := s4.back e2 hw fun io => s2.ios j _ e2 io
                          exact g _ S1 _ s5
                  · exact g.elim
end

/-! ### methods of a text -/
def strsD : List D → Option (List Str)
  | [] => some []
  | .str x :: ds => (match strsD ds with | some xs => some (x :: xs) | none => none)
  | _ => none
theorem strsD_map : ∀ ns : List Str, strsD (ns.map .str) = some ns
  | [] => rfl
  | n :: ns => by rw [List.map_cons, strsD, strsD_map ns]
theorem RpA.strs {K : PySem.W.Frag} {S : Hp} : ∀ {vs : List V} {ds : List D}, RpA K S vs ds → ∀ {ns : List Str}, strsD ds = some ns → vs = ns.map V.str
  | _, _, .nil, ns, h => by cases h; rfl
  | _, _, .cons (d := d) a b, ns, h => by
    cases d with
    | str x =>
      unfold strsD at h
      split at h
      · rename_i xs hx
        cases h
        rw [List.map_cons, RpA.strs b hx]
        cases a
        rfl
      · cases h
    | _ => simp [strsD] at h
def m1E (g : D → D → Option O) (fa fb : Ev → Rs B) : Ev → Rs O := bnd fa fun a ρ => match a.val ρ with
  | some (.str _) => bnd fb (fun b ρ => match a.val ρ with
    | some x => (match b.val ρ with
      | some y => (match g x y with | some o => .ok o ρ | none => .stk)
      | none => .stk)
    | none => .stk) ρ
  | _ => .stk
def m0E (g : D → Option O) (fa : Ev → Rs B) : Ev → Rs O := bnd fa fun a ρ => match a.val ρ with
  | some (.str z) => (match g (.str z) with | some o => .ok o ρ | none => .stk)
  | _ => .stk
def DoesM1 (X : Cx) (g : D → D → Option O) (r : V → List V → Hp → VK → Prop) : Prop := Does2 X g fun x y H Q => r x [y] H Q
section
variable {X : Cx} {W : XW}
theorem runM1 {g : D → D → Option O} {r : V → List V → Hp → VK → Prop} (h : DoesM1 X g r) {fa fb : Ev → Rs B} {σ : Sg} {H : Hp} {Q : VK} (q : tE X.K W (m1E g fa fb) σ H Q) : tM1 r (tB' X.K W fa) (tB' X.K W fb) σ H Q := by
  obtain ⟨G, T, S, ρ, s, g'⟩ := q
  refine ⟨G, T, S, ρ, s, seq sid (fun a ρ1 z x S1 H1 s1 at1 => ?_) g'⟩
  split at z
  · rename_i y0 hy0
    have r0 : Rt X.K S1 H1 x (.str y0) := B.rt s1 (fun p m => List.mem_append_left _ m) at1 hy0
    refine ⟨by cases r0; exact ⟨_, rfl⟩, G, a.tm x ++ T, S1, ρ1, s1, seq sdr (fun b ρ2 z2 y S2 H2 s2 at2 => ?_) z⟩
    split at z2
    · rename_i dx hx
      split at z2
      · rename_i dy hy
        split at z2
        · rename_i o ho
          have rx : Rt X.K S2 H2 x dx := B.rt s2 (fun p m => List.mem_append_right _ (List.mem_append_left _ m)) at1 hx
          have ry : Rt X.K S2 H2 y dy := B.rt s2 (fun p m => List.mem_append_left _ m) at2 hy
          exact h x y dx dy o G _ ρ2 σ S2 H2 Q s2 rx ry ho fun v S' H' s' => z2 v S' H' (s'.subT (List.Sublist.cons_cons _ ((List.sublist_append_right _ _).trans (List.sublist_append_right _ _))))
        · exact z2.elim
      · exact z2.elim
    · exact z2.elim
  · exact z.elim
theorem runM0 {g : D → Option O} {r : V → List V → Hp → VK → Prop} (h : Does1 X g fun x H Q => r x [] H Q) {fa : Ev → Rs B} {σ : Sg} {H : Hp} {Q : VK} (q : tE X.K W (m0E g fa) σ H Q) : tM0 r (tB' X.K W fa) σ H Q := by
  obtain ⟨G, T, S, ρ, s, g'⟩ := q
  refine ⟨G, T, S, ρ, s, seq sid (fun a ρ1 z x S1 H1 s1 at1 => ?_) g'⟩
  split at z
  · rename_i y0 hy0
    have r0 : Rt X.K S1 H1 x (.str y0) := B.rt s1 (fun p m => List.mem_append_left _ m) at1 hy0
    refine ⟨by cases r0; exact ⟨_, rfl⟩, ?_⟩
    split at z
    · rename_i o ho
      exact h x _ o G _ ρ1 σ S1 H1 Q s1 r0 ho fun v S' H' s' => z v S' H' (s'.subT (List.Sublist.cons_cons _ (List.sublist_append_right _ _)))
    · exact z.elim
  · exact z.elim
def gJoin : D → D → Option O
  | .str a, .list ds => (match strsD ds with | some ys => if (ys.map (·.length)).sum + ys.length * a.length ≤ 16777216 ∧ okS (Txt.join a ys) = true then some (.leaf (.str (Txt.join a ys))) else none | none => none)
  | _, _ => none
def rJoin (K : PySem.W.Frag) : V → List V → Hp → VK → Prop := fun x xs H Q => ∃ a p, ∃ ys : List Str, x = .str a ∧ xs = [.ref p] ∧ (SqL K H p (ys.map V.str) ∨ SqT K H p (ys.map V.str)) ∧
      (ys.map (·.length)).sum + ys.length * a.length ≤ 16777216 ∧ Q (.str (Txt.join a ys)) H
theorem does_join : DoesM1 X gJoin (rJoin X.K) := by
  intro x y dx dy o G T ρ σ S H Q s rx ry e q
  unfold gJoin at e
  split at e
  · split at e
    · rename_i ys hys
      split at e
      · rename_i hc
        cases e
        obtain ⟨p, xs, rfl, h1, r1⟩ := ry.lst_of
        obtain rfl := r1.strs hys
        cases rx
        exact ⟨_, p, ys, rfl, rfl, .inl h1, hc.1, q _ S H (s.push (.str _ hc.2))⟩
      · cases e
    · cases e
  · cases e
theorem de_join {a e : Expr} {fa fb : Ev → Rs B} {apos pos : Pos} (ha : DB X W a fa) (he : DB X W e fb) (hs : starEach [e] X.env = [(false, eval e X.env)] := by rfl) (hbase : attributeBase a "join" X.env (eval a X.env) = eval a X.env := by rfl) (hline : (apos.endLine == pos.line) = true := by rfl) :
    DE X W (.Call (.Attribute a "join" apos) [e] [] pos) (m1E gJoin fa fb) := PE.imp (pe_join ha he hs hbase hline) fun _ _ _ q => runM1 does_join q
end
end Y
/-! Y: zip(a, b, strict=True) of lists of one length -/
namespace PySem
namespace YZ
open Sem (wp)
abbrev IsZipS (h : Heap) (z TI TO : Addr) (f0 : Value) : Prop :=
  h.get? z = some { cls := .type "zip", dict := none, data := .fields #[f0, .bool false, .bool true, .ref TI, .ref TO], slots := #[] }
section
variable {prog : Program} {w : World} {A : Around} {E : Value → Shared → Prop} {s : Shared}
theorem nextOrEnd_item {i l : Addr} {k : Nat} {xs : Array Value} {x : Value} {Q : Option Value → Shared → Prop} (h1 : s.heap.IsListIter i l k) (hl : s.heap.IsList l xs) (hx : xs[k]? = some x)
    (hQ : ∀ h', h'.IsListIter i l (k + 1) → Heap.SameBut i s.heap h' → Q (some x) { s with heap := h' }) : wpAny (model prog w) A (Builtin.SmallTypes.nextOrEnd (.ref i)) Q E s := by
  unfold Builtin.SmallTypes.nextOrEnd
  exact wpAny_bind (wpAny_attempt (wpAny_nextOf_list_item h1 hl hx fun h' a b => wpAny_pure (hQ h' a b)))
theorem nextOrEnd_end {i l : Addr} {k : Nat} {xs : Array Value} {Q : Option Value → Shared → Prop} (hh : A.handled = none) (h1 : s.heap.IsListIter i l k) (hl : s.heap.IsList l xs) (hx : xs[k]? = none)
    (hQ : ∀ h', (∀ c o, c ≠ i → s.heap.get? c = some o → h'.get? c = some o) → Q none { s with heap := h' }) : wpAny (model prog w) A (Builtin.SmallTypes.nextOrEnd (.ref i)) Q E s := by
  unfold Builtin.SmallTypes.nextOrEnd
  refine wpAny_bind (wpAny_attempt (wpAny_nextOf_list_end hh h1 hl hx fun h' e k he => ?_))
  obtain ⟨o, ho, hc⟩ := he
  refine wpAny_bind (wpAny_isInstance (T := "StopIteration") (b := true) ⟨o, ho, hc⟩ isSubtype_stop ?_)
  exact wpAny_pure (hQ _ k)
theorem zipS_next_item {z TI TO i1 i2 l1 l2 : Addr} {k1 k2 : Nat} {xs ys : Array Value} {x y a b : Value} {Q : Value → Shared → Prop} (D : ZipApart z TI TO i1 i2 l1 l2)
    (hz : IsZipS s.heap z TI TO .none) (hTI : IsPair s.heap TI (.ref i1) (.ref i2)) (hTO : IsPair s.heap TO a b)
    (h1 : s.heap.IsListIter i1 l1 k1) (h2 : s.heap.IsListIter i2 l2 k2) (hl1 : s.heap.IsList l1 xs) (hl2 : s.heap.IsList l2 ys) (hx : xs[k1]? = some x) (hy : ys[k2]? = some y)
    (hQ : ∀ h', IsZipS h' z TI TO (rawInt s.heap.objs.size) → IsPair h' TO x y → h'.IsListIter i1 l1 (k1 + 1) → h'.IsListIter i2 l2 (k2 + 1) → IsPair h' s.heap.objs.size x y → h'.objs.size = s.heap.objs.size + 1 →
      (∀ c o, c ≠ z → c ≠ TO → c ≠ i1 → c ≠ i2 → s.heap.get? c = some o → h'.get? c = some o) → Q (.ref s.heap.objs.size) { s with heap := h' }) :
    wpAny (model prog w) A (Builtin.«zip.__next__» ⟨[.ref z], []⟩) (fun fin s' => ∃ v, fin = .done (.ret v) ∧ Q v s') E s := by
  show wpAny _ _ (field (.ref z) 2 >>= _) _ _ _
  refine wpAny_bind (wpAny_field hz rfl (x := .bool true) rfl ?_)
  show wpAny _ _ (field (.ref z) 3 >>= _) _ _ _
  refine wpAny_bind (wpAny_field hz rfl (x := .ref TI) rfl ?_)
  refine wpAny_bind (wpAny_seqItems hTI rfl ?_)
  show wpAny _ _ (Builtin.SmallTypes.ownedTupleIsFree (.ref z) >>= _) _ _ _
  refine wpAny_bind ?_
  unfold Builtin.SmallTypes.ownedTupleIsFree
  refine wpAny_bind (wpAny_field hz rfl (x := .none) rfl (wpAny_pure ?_))
  simp only [if_true]
  refine wpAny_bind (wpAny_rule ?_)
  refine wpAny_bind (wpAny_field hz rfl (x := .ref TO) rfl ?_)
  refine wpAny_bind (wpAny_setField_rec hz (by simp) fun h₁ hz₁ hs₁ => ?_)
  replace hz₁ : IsZipS h₁ z TI TO .ellipsis := hz₁
  refine wpAny_bind ?_
  simp only [List.zipIdx_cons, List.zipIdx_nil, List.forIn_cons, List.forIn_nil]

  refine wpAny_bind (wpAny_bind (wpAny_onRaise ?_))
  show wpAny _ _ (Builtin.SmallTypes.nextOrEnd (.ref i1)) _ _ _
  refine nextOrEnd_item (h1.extBut hs₁.extBut D.i1z) (hl1.extBut hs₁.extBut D.l1z) hx fun h₂ h1₂ hs₂ => ?_
  have hTO₂ : IsPair h₂ TO a b := hs₂.extBut _ _ D.TOi1 (hs₁.extBut _ _ D.TOz hTO)
  refine wpAny_bind (wpAny_seqItems hTO₂ rfl ?_)
  refine wpAny_bind (wpAny_updateSeq_pair hTO₂ fun h₃ hTO₃ hs₃ => ?_)
  replace hTO₃ : IsPair h₃ TO x b := hTO₃
  refine wpAny_bind (wpAny_letGo (wpAny_pure ?_))

  refine wpAny_bind (wpAny_bind (wpAny_onRaise ?_))
  show wpAny _ _ (Builtin.SmallTypes.nextOrEnd (.ref i2)) _ _ _
  refine nextOrEnd_item (((h2.extBut hs₁.extBut D.i2z).extBut hs₂.extBut D.i12.symm).extBut hs₃.extBut D.TOi2.symm)
    (((hl2.extBut hs₁.extBut D.l2z).extBut hs₂.extBut D.l2i1).extBut hs₃.extBut D.l2TO) hy fun h₄ h2₄ hs₄ => ?_
  have hTO₄ : IsPair h₄ TO x b := hs₄.extBut _ _ D.TOi2 hTO₃
  refine wpAny_bind (wpAny_seqItems hTO₄ rfl ?_)
  refine wpAny_bind (wpAny_updateSeq_pair hTO₄ fun h₅ hTO₅ hs₅ => ?_)
  replace hTO₅ : IsPair h₅ TO x y := hTO₅
  refine wpAny_bind (wpAny_letGo (wpAny_pure (wpAny_pure ?_)))

  refine wpAny_bind (wpAny_seqItems hTO₅ rfl ?_)
  refine wpAny_bind (wpAny_newTuple ?_)
  have hsz : h₅.objs.size = s.heap.objs.size := by rw [hs₅.1, hs₄.1, hs₃.1, hs₂.1, hs₁.1]
  have hz₅ : IsZipS h₅ z TI TO .ellipsis := hs₅.extBut _ _ D.TOz.symm (hs₄.extBut _ _ D.i2z.symm (hs₃.extBut _ _ D.TOz.symm (hs₂.extBut _ _ D.i1z.symm hz₁)))
  have hk₅ : ∀ c o, c ≠ z → c ≠ TO → c ≠ i1 → c ≠ i2 → s.heap.get? c = some o → h₅.get? c = some o := fun c o c1 c2 c3 c4 e =>
    hs₅.extBut _ _ c2 (hs₄.extBut _ _ c4 (hs₃.extBut _ _ c2 (hs₂.extBut _ _ c3 (hs₁.extBut _ _ c1 e))))
  have h1₅ : h₅.IsListIter i1 l1 (k1 + 1) := ((h1₂.extBut hs₃.extBut D.TOi1.symm).extBut hs₄.extBut D.i12).extBut hs₅.extBut D.TOi1.symm
  have h2₅ : h₅.IsListIter i2 l2 (k2 + 1) := h2₄.extBut hs₅.extBut D.TOi2.symm
  have hzlt : z < h₅.objs.size := Heap.lt_size hz₅
  have hTOlt : TO < h₅.objs.size := Heap.lt_size hTO₅
  have hi1lt : i1 < h₅.objs.size := by obtain ⟨_, e, _⟩ := h1₅; exact Heap.lt_size e
  have hi2lt : i2 < h₅.objs.size := by obtain ⟨_, e, _⟩ := h2₅; exact Heap.lt_size e
  show wpAny _ _ (Builtin.SmallTypes.ownedTupleHandOut (.ref z) (.ref h₅.objs.size) >>= _) _ _ _
  refine wpAny_bind ?_
  unfold Builtin.SmallTypes.ownedTupleHandOut
  have hz₆ : IsZipS (h₅.push { cls := .type "tuple", data := .seq #[x, y] }) z TI TO .ellipsis := Heap.get?_push_of_some _ hz₅
  refine wpAny_bind (wpAny_setField_rec hz₆ (by simp) fun h₇ hz₇ hs₇ => ?_)
  replace hz₇ : IsZipS h₇ z TI TO (rawInt h₅.objs.size) := hz₇
  refine wpAny_setField_rec hz₇ (by simp) fun h₈ hz₈ hs₈ => ?_
  replace hz₈ : IsZipS h₈ z TI TO (rawInt h₅.objs.size) := hz₈
  have up : ∀ c o, c ≠ z → h₅.get? c = some o → h₈.get? c = some o := fun c o c1 e => hs₈.extBut _ _ c1 (hs₇.extBut _ _ c1 (Heap.get?_push_of_some _ e))
  have hT₈ : IsPair h₈ h₅.objs.size x y := hs₈.extBut _ _ (Nat.ne_of_gt hzlt) (hs₇.extBut _ _ (Nat.ne_of_gt hzlt) (Heap.get?_push_size _ rfl))
  have hz8 : h₈.objs.size = h₅.objs.size + 1 := by rw [hs₈.1, hs₇.1, Heap.size_push]
  rw [hsz] at hz₈ hT₈ hz8
  refine wpAny_pure ⟨_, rfl, ?_⟩
  show Q (.ref h₅.objs.size) _
  rw [hsz]
  exact hQ h₈ hz₈ (up _ _ D.TOz hTO₅) (h1₅.at fun o e => up _ o D.i1z e) (h2₅.at fun o e => up _ o D.i2z e) hT₈ hz8 fun c o c1 c2 c3 c4 e => up c o c1 (hk₅ c o c1 c2 c3 c4 e)

theorem stop_now {Q : Fin → Shared → Prop} (hh : A.handled = none) (hE : ∀ h' e, (∀ c o, s.heap.get? c = some o → h'.get? c = some o) → (∃ o, h'.get? e = some o ∧ o.cls = .type "StopIteration") → E (.ref e) { s with heap := h' }) :
    wpAny (model prog w) A (Builtin.SmallTypes.stopIteration : Sem Fin) Q E s := by
  unfold Builtin.SmallTypes.stopIteration
  refine wpAny_bind ?_
  simp only [newExc, newTuple]
  refine wpAny_bind (wpAny_newObj_type ?_ (by size_fits))
  refine wpAny_bind (m := firstArgMember _ _) (wpAny_of_eq (a := Value.none) (by first | rfl | (simp only [firstArgMember]; rfl)) ?_)
  refine wpAny_newObj_type ?_ (by size_fits)
  simp only [raiseNew]
  refine wpAny_bind (wpAny_handled ?_)
  first | rw [show A.in1.handled = none from hh] | rw [hh]
  refine wpAny_bind (wpAny_pure (wpAny_throw ?_))
  exact hE _ _ (fun c o e => Heap.get?_push_of_some _ (Heap.get?_push_of_some _ e)) ⟨_, Heap.get?_push_size _ rfl, rfl⟩
theorem zipS_next_end {z TI TO i1 i2 l1 l2 : Addr} {k1 k2 : Nat} {xs ys : Array Value} {a b : Value} {Q : Fin → Shared → Prop} (hh : A.handled = none) (D : ZipApart z TI TO i1 i2 l1 l2)
    (hz : IsZipS s.heap z TI TO .none) (hTI : IsPair s.heap TI (.ref i1) (.ref i2)) (hTO : IsPair s.heap TO a b)
    (h1 : s.heap.IsListIter i1 l1 k1) (h2 : s.heap.IsListIter i2 l2 k2) (hl1 : s.heap.IsList l1 xs) (hl2 : s.heap.IsList l2 ys) (e1 : xs[k1]? = none) (e2 : ys[k2]? = none)
    (hE : ∀ h' e, (∀ c o, c ≠ z → c ≠ TO → c ≠ i1 → c ≠ i2 → s.heap.get? c = some o → h'.get? c = some o) → (∃ o, h'.get? e = some o ∧ o.cls = .type "StopIteration") → E (.ref e) { s with heap := h' }) :
    wpAny (model prog w) A (Builtin.«zip.__next__» ⟨[.ref z], []⟩) Q E s := by
  show wpAny _ _ (field (.ref z) 2 >>= _) _ _ _
  refine wpAny_bind (wpAny_field hz rfl (x := .bool true) rfl ?_)
  show wpAny _ _ (field (.ref z) 3 >>= _) _ _ _
  refine wpAny_bind (wpAny_field hz rfl (x := .ref TI) rfl ?_)
  refine wpAny_bind (wpAny_seqItems hTI rfl ?_)
  show wpAny _ _ (Builtin.SmallTypes.ownedTupleIsFree (.ref z) >>= _) _ _ _
  refine wpAny_bind ?_
  unfold Builtin.SmallTypes.ownedTupleIsFree
  refine wpAny_bind (wpAny_field hz rfl (x := .none) rfl (wpAny_pure ?_))
  simp only [if_true]
  refine wpAny_bind (wpAny_rule ?_)
  refine wpAny_bind (wpAny_field hz rfl (x := .ref TO) rfl ?_)
  refine wpAny_bind (wpAny_setField_rec hz (by simp) fun h₁ hz₁ hs₁ => ?_)
  replace hz₁ : IsZipS h₁ z TI TO .ellipsis := hz₁
  refine wpAny_bind ?_
  simp only [List.zipIdx_cons, List.zipIdx_nil, List.forIn_cons, List.forIn_nil]
  refine wpAny_bind (wpAny_bind (wpAny_onRaise ?_))
  show wpAny _ _ (Builtin.SmallTypes.nextOrEnd (.ref i1)) _ _ _
  refine nextOrEnd_end hh (h1.extBut hs₁.extBut D.i1z) (hl1.extBut hs₁.extBut D.l1z) e1 fun h₂ k₂ => ?_
  have hz₂ : IsZipS h₂ z TI TO .ellipsis := k₂ _ _ D.i1z.symm hz₁
  refine wpAny_bind (wpAny_setField_rec hz₂ (by simp) fun h₃ hz₃ hs₃ => ?_)
  refine wpAny_bind ?_
  show wpAny (model prog w) A ((do
    if (0 : Nat) > 0 then
      rule "zip.__next__.shorter"
      raiseError "ValueError" s!"zip() argument {0 + 1} is shorter than {if (0 : Nat) == 1 then "argument 1" else s!"arguments 1-{0}"}"
    for (it, j) in ([Value.ref i1, Value.ref i2].drop 1).zipIdx 1 do
      if (← Builtin.SmallTypes.nextOrEnd it).isSome then
        rule "zip.__next__.longer"
        raiseError "ValueError" s!"zip() argument {j + 1} is longer than {if j == 1 then "argument 1" else s!"arguments 1-{j}"}"
    rule "zip.__next__.all-ended"
    Builtin.SmallTypes.stopIteration : Sem Fin)) _ _ _
  simp only [Nat.lt_irrefl, gt_iff_lt, if_false, List.drop_succ_cons, List.drop_zero, List.zipIdx_cons, List.zipIdx_nil, List.forIn_cons, List.forIn_nil]
  refine wpAny_bind (wpAny_bind (wpAny_bind (nextOrEnd_end hh (((h2.extBut hs₁.extBut D.i2z).extBut k₂ D.i12.symm).extBut hs₃.extBut D.i2z) (((hl2.extBut hs₁.extBut D.l2z).extBut k₂ D.l2i1).extBut hs₃.extBut D.l2z) e2 fun h₄ k₄ => ?_)))
  simp only [Option.isSome_none, Bool.false_eq_true, if_false]
  refine wpAny_pure (wpAny_pure (wpAny_bind (wpAny_rule ?_)))
  exact stop_now hh fun h₅ e k₅ he => hE h₅ e (fun c o c1 c2 c3 c4 x => k₅ _ _ (k₄ _ _ c4 (hs₃.extBut _ _ c1 (k₂ _ _ c3 (hs₁.extBut _ _ c1 x))))) he
theorem pyNext_zipS_item {z TI TO i1 i2 l1 l2 : Addr} {k1 k2 : Nat} {xs ys : Array Value} {x y a b : Value} {Q : Option Value → Shared → Prop} (D : ZipApart z TI TO i1 i2 l1 l2)
    (hz : IsZipS s.heap z TI TO .none) (hTI : IsPair s.heap TI (.ref i1) (.ref i2)) (hTO : IsPair s.heap TO a b)
    (h1 : s.heap.IsListIter i1 l1 k1) (h2 : s.heap.IsListIter i2 l2 k2) (hl1 : s.heap.IsList l1 xs) (hl2 : s.heap.IsList l2 ys) (hx : xs[k1]? = some x) (hy : ys[k2]? = some y)
    (hQ : ∀ h', IsZipS h' z TI TO (rawInt s.heap.objs.size) → IsPair h' TO x y → h'.IsListIter i1 l1 (k1 + 1) → h'.IsListIter i2 l2 (k2 + 1) → IsPair h' s.heap.objs.size x y → h'.objs.size = s.heap.objs.size + 1 →
      (∀ c o, c ≠ z → c ≠ TO → c ≠ i1 → c ≠ i2 → s.heap.get? c = some o → h'.get? c = some o) → Q (some (.ref s.heap.objs.size)) { s with heap := h' }) :
    wpAny (model prog w) A (pyNext (.ref z)) Q E s := by
  have hT : s.TypeIs (.ref z) "zip" := ⟨_, hz, rfl⟩
  unfold pyNext
  exact wpAny_bind (wpAny_attempt (wpAny_callSpecial?_slot (name := Str.ofString "__next__") hT F.slot_zip_next
    (wpAny_call_entry F.slot_zip_next hT F.entry_zip_next
      (zipS_next_item D hz hTI hTO h1 h2 hl1 hl2 hx hy fun h' a1 a2 a3 a4 a5 a6 a7 => wpAny_pure (hQ h' a1 a2 a3 a4 a5 a6 a7)) (F.args_zip_next_1 _))))
theorem pyNext_zipS_end {z TI TO i1 i2 l1 l2 : Addr} {k1 k2 : Nat} {xs ys : Array Value} {a b : Value} {Q : Option Value → Shared → Prop} (hh : A.handled = none) (D : ZipApart z TI TO i1 i2 l1 l2)
    (hz : IsZipS s.heap z TI TO .none) (hTI : IsPair s.heap TI (.ref i1) (.ref i2)) (hTO : IsPair s.heap TO a b)
    (h1 : s.heap.IsListIter i1 l1 k1) (h2 : s.heap.IsListIter i2 l2 k2) (hl1 : s.heap.IsList l1 xs) (hl2 : s.heap.IsList l2 ys) (e1 : xs[k1]? = none) (e2 : ys[k2]? = none)
    (hQ : ∀ h', (∀ c o, c ≠ z → c ≠ TO → c ≠ i1 → c ≠ i2 → s.heap.get? c = some o → h'.get? c = some o) → Q none { s with heap := h' }) : wpAny (model prog w) A (pyNext (.ref z)) Q E s := by
  have hT : s.TypeIs (.ref z) "zip" := ⟨_, hz, rfl⟩
  unfold pyNext
  refine wpAny_bind (wpAny_attempt (wpAny_callSpecial?_slot (name := Str.ofString "__next__") hT F.slot_zip_next
    (wpAny_call_entry F.slot_zip_next hT F.entry_zip_next (zipS_next_end hh D hz hTI hTO h1 h2 hl1 hl2 e1 e2 fun h' e hk he => ?_) (F.args_zip_next_1 _))))
  obtain ⟨o, ho, hc⟩ := he
  refine wpAny_bind (wpAny_isInstance (T := "StopIteration") (b := true) ⟨o, ho, hc⟩ isSubtype_stop ?_)
  exact wpAny_pure (hQ _ hk)
theorem letGo_zipS {elts : List Expr} {x1} {pos : Pos} {z TI TO T : Addr} {Q : Unit → Shared → Prop} (hz : IsZipS s.heap z TI TO (rawInt T))
    (hQ : ∀ h', IsZipS h' z TI TO .none → Heap.SameBut z s.heap h' → Q () { s with heap := h' }) :
    wpAny (model prog w) A (letOwnedTupleGo (.Tuple elts x1 pos) (.ref z) (.ref T)) Q E s := by
  unfold letOwnedTupleGo
  refine wpAny_bind (wpAny_load hz ?_)
  show wpAny _ _ (if (["enumerate", "zip", "dict_itemiterator", "dict_reverseitemiterator", "odict_iterator", "itertools.zip_longest", "itertools.pairwise"].contains "zip" &&
      (#[rawInt T, .bool false, .bool true, .ref TI, .ref TO] : Array Value)[0]? == some (rawInt T)) = true then _ else _) Q E s
  rw [if_pos (by simp)]
  refine wpAny_bind (wpAny_rule ?_)
  show wpAny _ _ (setField (.ref z) 0 .none) Q E s
  exact wpAny_setField_rec hz (by simp) fun h' hz' hs' => hQ h' hz' hs'
theorem pyIter_zipS {z TI TO : Addr} {f0 : Value} {Q : Value → Shared → Prop} (hz : IsZipS s.heap z TI TO f0) (h : Q (.ref z) s) : wpAny (model prog w) A (pyIter (.ref z)) Q E s := by
  have hT : s.TypeIs (.ref z) "zip" := ⟨_, hz, rfl⟩
  refine wpAny_pyIter_slot hT F.slot_zip_iter (wpAny_call_entry F.slot_zip_iter hT F.entry_zip_iter ?_ (F.args_zip_iter_1 _))
  show wpAny _ _ (ret (.ref z)) _ _ s
  exact wpAny_pure ⟨_, rfl, "zip", _, hT, F.slot_zip_next.lookup, h⟩
end
theorem typeCall_zipS (a b v : Value) : checkTypeCall "zip" ⟨[a, b], [(Str.ofString "strict", v)]⟩ = pure () := by kernel_rfl
theorem newCall_zipS (a b v : Value) : checkBuiltinCall "zip.__new__" ⟨[.type "zip", a, b], [(Str.ofString "strict", v)]⟩ = pure () := by kernel_rfl
theorem args_object_init_zipS (o a b v : Value) : argsOk "object.__init__" ⟨[o, a, b], [(Str.ofString "strict", v)]⟩ := by unfold argsOk; kernel_rfl
abbrev zipHS (h : Heap) (l1 l2 : Addr) : Heap := (zipH4 h l1 l2).push { cls := .type "zip", data := .fields #[.none, .bool false, .bool true, .ref (zipH2 h l1 l2).objs.size, .ref (zipH3 h l1 l2).objs.size] }
theorem meets_zipS_new (l1 l2 : Addr) (xs ys : Array Value) :
    Meets (Builtin.«zip.__new__» ⟨[.type "zip", .ref l1, .ref l2], [(Str.ofString "strict", .bool true)]⟩) (fun _ R s => s.heap.IsList l1 xs ∧ s.heap.IsList l2 ys ∧
      R (.ok (.ret (.ref (zipH4 s.heap l1 l2).objs.size))) { s with heap := zipHS s.heap l1 l2 }) :=
  .of_wp fun prog w A R s h => by
    obtain ⟨hp, g, d, tk, os⟩ := s; obtain ⟨hl1, hl2, h⟩ := h
    have hsub := sub_zip
    have hL1 : Heap.IsList (Shared.heap ⟨hp, g, d, tk, os⟩) l1 xs := hl1
    have hL2 : Heap.IsList (Shared.heap ⟨hp.push { cls := .type "list_iterator", data := .fields #[.ref l1, .int 0 0] }, g, d, tk, os⟩) l2 ys := Heap.IsList.push hl2 _
    have e1 : (Str.ofString "strict" != ("strict" : Str)) = false := by decide +kernel
    wp_walk using wpAny_pyIter_list hL1, wpAny_pyIter_list hL2
    exact ⟨_, rfl, h⟩
section
variable {prog : Program} {w : World} {A : Around} {E : Value → Shared → Prop} {s : Shared}
theorem call_zipS {l1 l2 : Addr} {xs ys : Array Value} {Q : Value → Shared → Prop} (hl1 : s.heap.IsList l1 xs) (hl2 : s.heap.IsList l2 ys)
    (h : ∀ h', IsZipS h' (s.heap.objs.size + 4) (s.heap.objs.size + 2) (s.heap.objs.size + 3) .none → IsPair h' (s.heap.objs.size + 2) (.ref s.heap.objs.size) (.ref (s.heap.objs.size + 1)) →
      IsPair h' (s.heap.objs.size + 3) .none .none → h'.IsListIter s.heap.objs.size l1 0 → h'.IsListIter (s.heap.objs.size + 1) l2 0 → h'.objs.size = s.heap.objs.size + 5 →
      (∀ c o, s.heap.get? c = some o → h'.get? c = some o) → Q (.ref (s.heap.objs.size + 4)) { s with heap := h' }) :
    wpAny (model prog w) A (call (.type "zip") [.ref l1, .ref l2] [(Str.ofString "strict", .bool true)]) Q E s := by
  refine callType_newKw F.called_zip (by decide) (typeCall_zipS _ _ _) (newCall_zipS _ _ _) (fun obj => args_object_init_zipS obj _ _ _) F.entry_zip_new
    (meets_zipS_new l1 l2 xs ys) ⟨hl1, hl2, ?_⟩
  have z1 : (zipH1 s.heap l1).objs.size = s.heap.objs.size + 1 := Heap.size_push ..
  have z2 : (zipH2 s.heap l1 l2).objs.size = s.heap.objs.size + 2 := by rw [Heap.size_push, z1]
  have z3 : (zipH3 s.heap l1 l2).objs.size = s.heap.objs.size + 3 := by rw [Heap.size_push, z2]
  have z4 : (zipH4 s.heap l1 l2).objs.size = s.heap.objs.size + 4 := by rw [Heap.size_push, z3]
  have z5 : (zipHS s.heap l1 l2).objs.size = s.heap.objs.size + 5 := by rw [Heap.size_push, z4]
  have g5 : (zipHS s.heap l1 l2).get? (zipH4 s.heap l1 l2).objs.size = some _ := Heap.get?_push_size _ rfl
  have g4 : (zipHS s.heap l1 l2).get? (zipH3 s.heap l1 l2).objs.size = some _ := Heap.get?_push_of_some _ (Heap.get?_push_size _ rfl)
  have g3 : (zipHS s.heap l1 l2).get? (zipH2 s.heap l1 l2).objs.size = some _ := Heap.get?_push_of_some _ (Heap.get?_push_of_some _ (Heap.get?_push_size _ rfl))
  have g2 : (zipHS s.heap l1 l2).get? (zipH1 s.heap l1).objs.size = some _ := Heap.get?_push_of_some _ (Heap.get?_push_of_some _ (Heap.get?_push_of_some _ (Heap.get?_push_size _ rfl)))
  have g1 : (zipHS s.heap l1 l2).get? s.heap.objs.size = some _ := Heap.get?_push_of_some _ (Heap.get?_push_of_some _ (Heap.get?_push_of_some _ (Heap.get?_push_of_some _ (Heap.get?_push_size _ rfl))))
  show _ ∧ _
  rw [z2, z3, z4] at g5
  rw [z1, z2] at g3
  rw [z3] at g4
  rw [z1] at g2
  rw [z4]
  exact ⟨⟨_, g5, rfl⟩, h _ g5 g3 g4 ⟨_, g1, rfl, rfl⟩ ⟨_, g2, rfl, rfl⟩ z5 fun c o x =>
    Heap.get?_push_of_some _ (Heap.get?_push_of_some _ (Heap.get?_push_of_some _ (Heap.get?_push_of_some _ (Heap.get?_push_of_some _ x))))⟩
theorem callWith_typeKw {M : Model} {pos : Pos} {T : String} {args : List (Bool × Sem Value)} {keywords : List (Option Str × Sem Value)} {Q : Value → Shared → Prop}
    (hplain : args.any (·.1) = false) (hkw : keywords.any (·.1.isNone) = false)
    (h : wpAny M A (evalArgs (.type T) true args keywords) (fun a s₁ => wpAny M A (call (.type T) a.pos a.kw) Q E s₁) E s) :
    wpAny M A (callWith pos (.type T) [] args keywords) Q E s := by
  unfold callWith
  refine wpAny_bind (wpAny_holding (wpAny_mono h (fun a s₁ h₁ => wpAny_bind (wpAny_standAt ?_)) fun _ _ x => x))
  simp only [hplain, hkw, Bool.or_false]
  refine wpAny_bind (wpAny_pure ?_)
  exact wpAny_bind (wpAny_mono h₁ (fun r s₂ hr => wpAny_bind (wpAny_holding (wpAny_point (wpAny_pure hr)))) fun _ _ x => x)
end
end YZ
end PySem
namespace Y
open PySem PySem.Spec PyProof.Rows L2 PySem.YZ
/-- the lists at a and b, of one length, as they stand at each turn -/
def ItzS (K : PySem.W.Frag) (a b : Addr) : It :=
  ⟨fun i H => ∃ (xs ys : List V) (x y : V), SqL K H a xs ∧ SqL K H b ys ∧ xs[i]? = some x ∧ ys[i]? = some y,
    fun i H v H' => ∃ T x y, v = .ref T ∧ H T = none ∧ H' = upd H T (.tup [x, y]) ∧ (∀ xs, SqL K H a xs → xs[i]? = some x) ∧ ∀ ys, SqL K H b ys → ys[i]? = some y,
    fun i H => ∃ xs ys : List V, SqL K H a xs ∧ SqL K H b ys ∧ (xs.length ≤ i ∧ ys.length ≤ i)⟩
theorem turn_zipS {P : Program} {w : World} {K : PySem.W.Frag} {elts : List Expr} {kk : Nat} {tpos : Pos} {a b z TI TO i1 i2 : Addr} (D : ZipApart z TI TO i1 i2 a b) :
    Turn P w K (.Tuple elts kk tpos) (ItzS K a b) [z, TI, TO, i1, i2] z (fun i h => IsZipS h z TI TO .none ∧ IsPair h TI (.ref i1) (.ref i2) ∧ (∃ x y, IsPair h TO x y) ∧ h.IsListIter i1 a i ∧ h.IsListIter i2 b i) where
  mem := by simp
  obj := fun i h st c hc => by
    obtain ⟨hz, hTI, ⟨x, y, hTO⟩, ⟨o1, e1, _, d1⟩, ⟨o2, e2, _, d2⟩⟩ := st
    have e' : c = z ∨ c = TI ∨ c = TO ∨ c = i1 ∨ c = i2 := by simpa using hc
    rcases e' with q | q | q | q | q
    · rw [q]; exact ⟨_, hz, fun v q => nomatch q⟩
    · rw [q]; exact ⟨_, hTI, fun v q => nomatch q⟩
    · rw [q]; exact ⟨_, hTO, fun v q => nomatch q⟩
    · rw [q]; exact ⟨o1, e1, fun v q => by rw [d1] at q; cases q⟩
    · rw [q]; exact ⟨o2, e2, fun v q => by rw [d2] at q; cases q⟩
  keep := fun i h h' st k => by
    obtain ⟨hz, hTI, ⟨x, y, hTO⟩, h1, h2⟩ := st
    exact ⟨k z (by simp) _ hz, k TI (by simp) _ hTI, ⟨x, y, k TO (by simp) _ hTO⟩, h1.at fun o q => k i1 (by simp) o q, h2.at fun o q => k i2 (by simp) o q⟩
  item := by
    intro X hP hw hK hc i pins s σ H E I hf st hg
    subst hP hw hK
    obtain ⟨hz, hTI, ⟨x0, y0, hTO⟩, h1, h2⟩ := st
    obtain ⟨xs, ys, x, y, hqx, hqy, hx, hy⟩ := hg
    obtain ⟨its, rv, p, _⟩ := I.list hqx
    obtain ⟨its2, rv2, p2, _⟩ := I.list hqy
    obtain ⟨u, hu, ru⟩ := rv.get hx
    obtain ⟨u2, hu2, ru2⟩ := rv2.get hy
    have hzl : z < s.heap.objs.size := Heap.lt_size hz
    refine pyNext_zipS_item D hz hTI hTO h1 h2 p.isList p2.isList (x := u) (y := u2) (by simpa using hu) (by simpa using hu2) fun h' z' TO' h1' h2' hT hsz hk => ?_
    refine ⟨_, rfl, letGo_zipS (s := { s with heap := h' }) z' fun h'' z'' sb => ?_⟩
    have hT2 : h''.get? s.heap.objs.size = some { cls := .type "tuple", data := .seq #[u, u2] } := (sb.2 _ (Nat.ne_of_gt hzl)).trans hT
    have new : ObjOk X.prog X.w (upd H s.heap.objs.size (.tup [x, y])) h'' s.heap.objs.size (.tup [x, y]) :=
      ⟨by show 2 ≤ sizeLine; decide, [u, u2], .cons ru (.cons ru2 .nil), ⟨_, hT2, rfl, _, rfl⟩⟩
    have I1 : Inv X pins σ (upd H s.heap.objs.size (.tup [x, y])) { s with heap := h'' } :=
      I.turnedNew (t' := s.toks) (ch := [z, TI, TO, i1, i2]) (fun c o hb q => (sb.2 c (fun q' => hb (by simp [q']))).trans (hk c o (fun q' => hb (by simp [q'])) (fun q' => hb (by simp [q'])) (fun q' => hb (by simp [q'])) (fun q' => hb (by simp [q'])) q)) hf (Nat.le_refl _) new
    refine ⟨.ref s.heap.objs.size, _, I1, rfl, ⟨_, x, y, rfl, I.hok.fresh (Nat.le_refl _), rfl, fun l hl => by rw [I.list_inj hl hqx]; exact hx, fun l hl => by rw [I.list_inj hl hqy]; exact hy⟩, ⟨z'', ?_, ⟨u, u2, ?_⟩, ?_, ?_⟩, fun c hcm => ?_⟩
    · exact (sb.2 _ D.TIz).trans (hk _ _ D.TIz D.TITO D.TIi1 D.TIi2 hTI)
    · exact (sb.2 _ D.TOz).trans TO'
    · exact h1'.at fun o q => (sb.2 _ D.i1z).trans q
    · exact h2'.at fun o q => (sb.2 _ D.i2z).trans q
    · have hlt : c < s.heap.objs.size := by
        have e' : c = z ∨ c = TI ∨ c = TO ∨ c = i1 ∨ c = i2 := by simpa using hcm
        rcases e' with q | q | q | q | q
        · rw [q]; exact hzl
        · rw [q]; exact Heap.lt_size hTI
        · rw [q]; exact Heap.lt_size hTO
        · rw [q]; obtain ⟨_, e1, _⟩ := h1; exact Heap.lt_size e1
        · rw [q]; obtain ⟨_, e2, _⟩ := h2; exact Heap.lt_size e2
      rw [upd_ne (Nat.ne_of_lt hlt)]
      exact (hf c hcm).1
  done := by
    intro X hP hw hK hc i pins s σ H E I hf st hg
    subst hP hw hK
    obtain ⟨hz, hTI, ⟨x0, y0, hTO⟩, h1, h2⟩ := st
    obtain ⟨xs, ys, hqx, hqy, hend⟩ := hg
    obtain ⟨its, rv, p, _⟩ := I.list hqx
    obtain ⟨its2, rv2, p2, _⟩ := I.list hqy
    have l1 := rv.length
    have l2 := rv2.length
    have he1 : its.toArray[i]? = none := by simp; omega
    have he2 : its2.toArray[i]? = none := by simp; omega
    exact pyNext_zipS_end (I.ok.hd hc) D hz hTI hTO h1 h2 p.isList p2.isList he1 he2 fun h' hk => ⟨rfl, I.turnedL (t' := s.toks) (ch := [z, TI, TO, i1, i2]) (fun c o hb q =>
      hk c o (fun q' => hb (by simp [q'])) (fun q' => hb (by simp [q'])) (fun q' => hb (by simp [q'])) (fun q' => hb (by simp [q'])) q) hf⟩
  self := fun A i s Q E st h => pyIter_zipS st.1 h
end Y
/-! Y: zip(a, b, strict=True), the rule and the reading -/
namespace Y
open PySem PySem.Spec PyProof.Rows L2 PySem.YZ
def iZipS (K : PySem.W.Frag) (ta : TA) : TI := fun σ H R => ta σ H fun vs H1 => ∃ a b xs ys, vs = [.ref a, .ref b] ∧ SqL K H1 a xs ∧ SqL K H1 b ys ∧ R (ItzS K a b) H1
theorem pi_zipS {X : Cx} {e e2 : Expr} {ta : TA} {p pos tpos kpos cpos : Pos} {elts : List Expr} {kk ck : Nat} (hg : Gl X "zip") (hm : X.mg "zip" = none) (ha : PA X [e, e2] ta)
    (hs : starEach [e, e2] X.env = (false, eval e X.env) :: starEach [e2] X.env := by rfl) (hpl : (backTo pos (starEach [e, e2] X.env)).any (·.1) = false := by rfl)
    (he : backTo pos (starEach [e, e2] X.env) = (false, eval e X.env) :: backTo pos (starEach [e2] X.env) := by rfl) :
    PI X (.Tuple elts kk tpos) (.Call (.Name "zip" p) [e, e2] [⟨some "strict", .Constant (.bool true) ck cpos, kpos⟩] pos) (iZipS X.K ta) := by
  refine ⟨fun pins s σ H R I h => ?_⟩
  refine wpAny_Call_Name_kw (ld_blt I hg hm PyProof.Rows.boot_zip ?_ (by decide) (by decide))
  refine callWith_typeKw hpl rfl ?_
  rw [he]
  refine PyProof.Rows.evalArgs_kwB rfl ?_
  rw [← he]
  refine thn (ha.run pos pins s σ H _ I h) fun us s1 ⟨vs, H1, I1, r1, q1⟩ => ?_
  obtain ⟨a, b, xs, ys, ex, hqx, hqy, q⟩ := q1
  subst ex
  refine thn ((pk_cons (nm := some "strict") (kpos := kpos) (pe_bl (b := true) (j := ck) (pos := cpos)) pk_nil).run pos pins s1 σ H1 (fun zs H2 => zs = [V.bl true] ∧ H2 = H1) I1 ⟨rfl, rfl⟩) fun ws s2 ⟨zs, H2, I2, r2, ez, eH⟩ => ?_
  subst ez
  subst eH
  cases r2 with
  | cons rb rn =>
    cases rn
    cases rb
    cases r1 with
    | cons r rr =>
      cases rr with
      | cons r' rr =>
        cases rr
        cases r
        cases r'
        show wpAny _ _ (call (.type "zip") [.ref a, .ref b] [(Str.ofString "strict", .bool true)]) _ _ _
        obtain ⟨its, rv, p1, _⟩ := I2.list hqx
        obtain ⟨its2, rv2, p2, _⟩ := I2.list hqy
        have la : a < s2.heap.objs.size := p1.lt
        have lb : b < s2.heap.objs.size := p2.lt
        refine call_zipS p1.isList p2.isList fun h' hz hTI hTO h1 h2 hsz hk => pyIter_zipS hz ?_
        have I3 : Inv X pins σ H2 { s2 with heap := h' } := I2.kept (t' := s2.toks) hk
        refine ⟨s2.heap.objs.size + 4, [s2.heap.objs.size + 4, s2.heap.objs.size + 2, s2.heap.objs.size + 3, s2.heap.objs.size, s2.heap.objs.size + 1], _, _, H2, rfl, I3, turn_zipS (PySem.W.ktu_apart s2.heap.objs.size a b la lb), ⟨hz, hTI, ⟨_, _, hTO⟩, h1, h2⟩, fun c hcm => ?_, q⟩
        have hle : s2.heap.objs.size ≤ c := by
          have e' : c = s2.heap.objs.size + 4 ∨ c = s2.heap.objs.size + 2 ∨ c = s2.heap.objs.size + 3 ∨ c = s2.heap.objs.size ∨ c = s2.heap.objs.size + 1 := by simpa using hcm
          rcases e' with z | z | z | z | z <;> rw [z] <;> first | exact Nat.le_refl _ | exact Nat.le_add_right _ _
        exact I2.fpOk hle (I2.hok.fresh hle)
/-! ### the reading -/
def zipSI (fs : Ev → Rs (List B)) : Ev → Rs (List D) := bnd fs fun bs ρ => match tmpD bs with
  | some [.list ds, .list es] => if ds.length = es.length then .ok (zipD ds es) ρ else .stk
  | _ => .stk
theorem itzS_ok {K : PySem.W.Frag} {a b : Addr} {ds es : List D} (hl : ds.length = es.length) : ItOk K (ItzS K a b) (zipD ds es) [(.ref a, lf (.list ds)), (.ref b, lf (.list es))] := by
  intro G T ρ σ S H s
  obtain ⟨a', xs, e, h1, r1⟩ := (s.rtT (v := .ref a) (e := lf (.list ds)) (by simp)).lst_of
  cases e
  obtain ⟨b', ys, e, h2, r2⟩ := (s.rtT (v := .ref b) (e := lf (.list es)) (by simp)).lst_of
  cases e
  refine ⟨fun i d hd => ?_, fun i hi => ⟨xs, ys, h1, h2, by rw [zipD_len] at hi; rw [r1.length, r2.length]; omega⟩⟩
  obtain ⟨d1, d2, g1, g2, rfl⟩ := zipD_get ds es i d hd
  obtain ⟨v, hv, rv⟩ := r1.get g1
  obtain ⟨w, hw, rw'⟩ := r2.get g2
  refine ⟨⟨xs, ys, v, w, h1, h2, hv, hw⟩, fun x H' y => ?_⟩
  obtain ⟨t, v', w', rfl, n, rfl, y1, y2⟩ := y
  have q1 := y1 xs h1
  have q2 := y2 ys h2
  rw [hv] at q1
  rw [hw] at q2
  cases q1
  cases q2
  exact s.newTup (.cons rv (.cons rw' .nil)) n
section
variable {X : Cx} {W : XW} {e e2 : Expr} {fs : Ev → Rs (List B)} {p pos : Pos}
theorem di_zipS {elts : List Expr} {kk ck : Nat} {tpos kpos cpos : Pos} (hg : Gl X "zip") (hm : X.mg "zip" = none) (ha : DA X W [e, e2] fs) (hs : starEach [e, e2] X.env = (false, eval e X.env) :: starEach [e2] X.env := by rfl)
    (hpl : (backTo pos (starEach [e, e2] X.env)).any (·.1) = false := by rfl) (he : backTo pos (starEach [e, e2] X.env) = (false, eval e X.env) :: backTo pos (starEach [e2] X.env) := by rfl) :
    DI X W (.Tuple elts kk tpos) (.Call (.Name "zip" p) [e, e2] [⟨some "strict", .Constant (.bool true) ck cpos, kpos⟩] pos) (zipSI fs) := PI.imp (pi_zipS hg hm ha hs hpl he) fun σ H R ⟨G, T, S, ρ, s, g⟩ => by
  refine ⟨G, T, S, ρ, s, seq sid ?_ g⟩
  intro bs ρ1 z vs S1 H1 s1 at1
  split at z
  · rename_i ds es hd
    split at z
    · rename_i hl
      obtain ⟨S2, s2, _, r⟩ := Stt.freezeAll at1 hd s1
      cases r with
      | cons r rr =>
        cases rr with
        | cons r' rr =>
          cases rr
          obtain ⟨a, xs, rfl, h1, r1⟩ := (r.rt s2.sub).lst_of
          obtain ⟨b, ys, rfl, h2, r2⟩ := (r'.rt s2.sub).lst_of
          exact ⟨a, b, xs, ys, rfl, h1, h2, z (ItzS X.K a b) [(.ref a, lf (.list ds)), (.ref b, lf (.list es))] S2 H1 ((s2.push r').push r) (itzS_ok hl)⟩
    · exact z.elim
  · exact z.elim
end
end Y
/-! Y: max(xs, default=d) -/
namespace Y
open PySem PySem.Spec PyProof.Rows L2
def rMaxDf (K : PySem.W.Frag) : List V → List V → Hp → VK → Prop := fun vs zs H Q => ∃ (a : Addr) (xs : List V) (d : V) (ds : List D) (R : V → D → Prop), vs = [V.ref a] ∧ zs = [d] ∧ SqL K H a xs ∧ DpAll K H xs ds ∧ minOk ds = true ∧ PyData.depthAll ds ≤ 60 ∧ PyData.canLayAll0 ds = true ∧ Paired R xs ds ∧
  (ds = [] → Q d H) ∧ ∀ y ys, ds = y :: ys → ∀ v, R v (PySem.W.maxD y ys) → Q v H
section
variable {X : Cx}
theorem cr_maxDf (b : Bd X) : CallRK X (.builtin "max") ["default"] (rMaxDf X.K) := by
  intro pins s σ H vs zs us ws Q I r r' h
  obtain ⟨a, xs, d, ds, R, rfl, rfl, hs, hd, hok, hdep, hc, hp, q0, q⟩ := h
  obtain ⟨its, rv, hl, hz⟩ := I.list hs
  rw [Vals.ref1 r]
  cases r' with
  | @cons _ w0 _ _ rd0 rn =>
    cases rn
    have hb := b.un
    obtain ⟨as, hr⟩ := all_reads I hd rv
    refine PySem.W.max_list_default (I.ok.hd b.calm) hl.isList hr (minOk_alike hok) (by omega) (fun he h' tk hk => ⟨d, H, I.kept hk, rd0, q0 he⟩) fun y ys i v h' tk bs he hi rd hk => ?_
    subst he
    obtain ⟨x, h1, h2⟩ := best_fin hr hc hp rv (by simpa using hi) rd hk
    exact ⟨x, H, I.kept hk, h1, q y ys rfl x h2⟩
end
/-- max with a default -/
def gMaxDf : D → D → Option O
  | .list [], .int n => some (.leaf (.int n))
  | .list (x :: r), .int _ => if minOk (x :: r) = true then some (.leaf (PySem.W.maxD x r)) else none
  | _, _ => none
section
variable {X : Cx} {W : XW} {a d : Expr} {fa fd : Ev → Rs B} {p pos kpos : Pos}
theorem de_maxDf (b : Bd X) (hg : Gl X "max") (hm : X.mg "max" = none) (ha : DB X W a fa) (hd : DB X W d fd) (hs : starEach [a] X.env = (false, eval a X.env) :: starEach [] X.env := by rfl)
    (he : backTo pos (starEach [a] X.env) = (false, eval a X.env) :: backTo pos (starEach [] X.env) := by rfl) (hpl : (backTo pos (starEach [a] X.env)).any (·.1) = false := by rfl)
    (hall : (backToKw pos (keywordEach [⟨some "default", d, kpos⟩] X.env)).all (·.1.isSome) = true := by rfl) (hnone : (backToKw pos (keywordEach [⟨some "default", d, kpos⟩] X.env)).any (·.1.isNone) = false := by rfl) (hks : (backToKw pos (keywordEach [⟨some "default", d, kpos⟩] X.env)).filterMap (·.1) = (["default"] : List Str) := by rfl) :
    DE X W (.Call (.Name "max" p) [a] [⟨some "default", d, kpos⟩] pos) (op2 gMaxDf fa fd) := by
  have h := pe_callBK (pos := pos) (p := p) (cr_maxDf b) hg hm (by decide +kernel) (pa_cons ha pa_nil hs) (pk_cons (nm := some "default") (kpos := kpos) hd pk_nil) (by decide) (by decide) he hpl hall hnone hks
  refine PE.imp h fun σ H Q q => ?_
  obtain ⟨G, T, S, ρ, s, g'⟩ := q
  refine ⟨G, T, S, ρ, s, seq sid (fun ba ρ1 z x S1 H1 s1 at1 => ?_) g'⟩
  refine ⟨G, ba.tm x ++ T, S1, ρ1, s1, seq sdr (fun bb ρ2 z2 y S2 H2 s2 at2 => ?_) z⟩
  split at z2
  · rename_i dx hx
    split at z2
    · rename_i dy hy
      have rx : Rt X.K S2 H2 x dx := B.rt s2 (fun p m => List.mem_append_right _ (List.mem_append_left _ m)) at1 hx
      have ry : Rt X.K S2 H2 y dy := B.rt s2 (fun p m => List.mem_append_left _ m) at2 hy
      split at z2
      · rename_i o ho
        have s3 := s2.subT ((List.sublist_append_right _ _).trans (List.sublist_append_right _ _))
        unfold gMaxDf at ho
        split at ho
        · cases ho
          obtain ⟨l, xs, rfl, h1, r1⟩ := rx.lst_of
          cases r1
          cases ry
          exact ⟨l, [], _, [], Rp X.K S2, rfl, rfl, h1, .nil, rfl, by simp [PyData.depthAll], by simp [PyData.canLayAll0], .nil, fun _ => s3.val (.int _) z2, fun y ys e => by cases e⟩
        · split at ho
          · rename_i x0 r0 n0 hok
            cases ho
            obtain ⟨l, xs, rfl, h1, r1⟩ := rx.lst_of
            have hf : ∀ y ∈ x0 :: r0, fits 60 y = true := by
              unfold minOk at hok
              simp only [Bool.and_eq_true, List.all_eq_true] at hok
              exact hok.1.2
            obtain ⟨d1, d2, d3⟩ := RpA.dp 60 r1 hf
            obtain ⟨e1, _, _⟩ := RpA.dp 60 (r1.mono s2.sub) hf
            refine ⟨l, xs, _, x0 :: r0, Rp X.K S2, rfl, rfl, h1, e1, hok, d3, d2, r1.paired, fun e => (by cases e), fun y ys e v rv => ?_⟩
            cases e
            exact s3.val rv z2
          · cases ho
        · cases ho
      · exact z2.elim
    · exact z2.elim
  · exact z2.elim
end
end Y
/-! Y: a dict display of one pair -/
namespace Y
open PySem PySem.Spec PyProof.Rows L2
/-- {k: v} -/
def dispE (ek el : Ev → Rs O) : Ev → Rs O := fun ρ => match ek ρ with
  | .ok k ρ1 => (match asKey k.d with
    | some k' => (match el ρ1 with
      | .ok o ρ2 => .ok (.dic [(keyD k', o.d)]) ρ2
      | _ => .stk)
    | none => .stk)
  | _ => .stk
section
variable {X : Cx} {W : XW} {k v : Expr} {fk fv : Ev → Rs O} {pos : Pos}
theorem de_disp (hk : DE X W k fk) (hv : DE X W v fv) : DE X W (.Dict [some k] [v] pos) (dispE fk fv) := by
  refine PE.imp (pe_disp (pps_cons hk hv pps_nil) rfl rfl (by simp) (by simp)) fun σ H Q q => ?_
  obtain ⟨G, T, S, ρ, s, g⟩ := q
  intro p n
  have s0 := s.make (o := .dic []) n (.dK upd_same (s.sub.free n) .nil)
  refine ⟨G, _, S, ρ, s0, ?_⟩
  unfold dispE at g
  cases e1 : fk ρ with
  | stk => rw [e1] at g; exact g
  | er x ρ' => rw [e1] at g; exact absurd g id
  | ok ok ρ1 =>
    rw [e1] at g
    simp only at g
    intro x S1 H1 s1
    obtain ⟨S2, s2, _, rk⟩ := s1.freeze
    cases hkey : asKey ok.d with
    | none => rw [hkey] at g; exact absurd g id
    | some k' =>
      rw [hkey] at g
      simp only at g
      have ek := asKey_eq hkey
      refine ⟨G, _, S2, ρ1, s2, ?_⟩
      cases e2 : fv ρ1 with
      | stk => rw [e2] at g; exact g
      | er x ρ' => rw [e2] at g; exact absurd g id
      | ok o ρ2 =>
        rw [e2] at g
        simp only at g
        intro y S3 H3 s3
        obtain ⟨S4, s4, _, rv⟩ := s3.freeze
        have s5 := s4.drop1
        obtain ⟨F, ow', _⟩ := s5.head
        cases ow' with
        | leaf rk' =>
          have rk' : Rp X.K S4 x ok.d := rk'
          rw [ek] at rk'
          have ey : x = kV k' ∧ okK k' = true := by
            cases k' with
            | inl i => cases rk'; exact ⟨rfl, rfl⟩
            | inr i => cases rk'; exact ⟨rfl, by assumption⟩
          obtain ⟨rfl, okk⟩ := ey
          have s6 := s5.drop1
          obtain ⟨F, ow2, _⟩ := s6.head
          cases ow2 with
          | @dK _ kvs _ eH nS rA =>
            cases rA with
            | nil =>
              refine ⟨eH, [(k', y)], rfl, by simp, ?_⟩
              refine g _ _ _ (s6.write (o' := .dic [(keyD k', o.d)]) (.dK eH nS .nil) (.dK upd_same nS (RpK.put rv k' okk .nil)))
          | @dT _ kvs _ eH nS ne rA =>
            cases rA with
            | nil => exact absurd rfl ne
end
/-- a second global name of a def -/
theorem Cal.alias {P : Program} {w : World} {K : PySem.W.Frag} {mg : Str → Option Value} {base : Heap} {k n : Nat} {x y : Str} {F : Fn} {f : Addr} (c : Cal P w K mg base k x n F) (hx : mg x = some (.ref f)) (hy : mg y = some (.ref f)) : Cal P w K mg base k y n F := by
  obtain ⟨f', fd, ps, ds, h1, h2, h3⟩ := c
  exact ⟨f', fd, ps, ds, h1, hy.trans (hx.symm.trans h2), h3⟩
end Y
/-! Y: running a semantic function -/
namespace Y
open PySem PySem.Spec PyProof.Rows L2

/-- it ends well, and then Q -/
@[irreducible] def Go {α : Type} (r : Rs α) (Q : α → Ev → Prop) : Prop := match r with
  | .ok a ρ => Q a ρ
  | _ => False
section
variable {α β : Type} {ρ : Ev} {Q : α → Ev → Prop}
theorem Go_ok {a : α} : Go (.ok a ρ) Q = Q a ρ := by unfold Go; rfl
theorem Go_er {x : Err} : Go (.er x ρ : Rs α) Q = False := by unfold Go; rfl
theorem Go_stk : Go (.stk : Rs α) Q = False := by unfold Go; rfl
theorem Go_bnd {m : Ev → Rs β} {k : β → Ev → Rs α} : Go (bnd m k ρ) Q = Go (m ρ) (fun b ρ' => Go (k b ρ') Q) := by
  unfold bnd
  cases m ρ with
  | ok b ρ' => rw [Go_ok]
  | er x ρ' => rw [Go_er, Go_er]
  | stk => rw [Go_stk, Go_stk]
theorem Go_ite {c : Prop} [Decidable c] {x y : Rs α} : Go (if c then x else y) Q = if c then Go x Q else Go y Q := by split <;> rfl
theorem Go.ex {r : Rs α} (h : Go r Q) : ∃ a ρ', r = .ok a ρ' ∧ Q a ρ' := by
  cases r with
  | ok a ρ' => rw [Go_ok] at h; exact ⟨a, ρ', rfl, h⟩
  | er => rw [Go_er] at h; exact h.elim
  | stk => rw [Go_stk] at h; exact h.elim
theorem Go.of {r : Rs α} {a : α} {ρ' : Ev} (h : r = .ok a ρ') (q : Q a ρ') : Go r Q := by rw [h, Go_ok]; exact q
theorem Go.okk {a : α} (q : Q a ρ) : Go (.ok a ρ) Q := by rw [Go_ok]; exact q
theorem Go.mono {r : Rs α} {Q' : α → Ev → Prop} (h : Go r Q) (k : ∀ a ρ, Q a ρ → Q' a ρ) : Go r Q' := by
  obtain ⟨a, ρ', e, q⟩ := h.ex
  exact Go.of e (k a ρ' q)
end
section
variable {ρ : Ev} {Q : Ctl → Ev → Prop}
theorem Go_cons {f g : Ev → Rs Ctl} : Go (cons f g ρ) Q = Go (f ρ) (fun c ρ' => match c with | .nx => Go (g ρ') Q | c => Q c ρ') := by
  unfold cons
  cases f ρ with
  | ok c ρ' => rw [Go_ok]; cases c <;> first | rfl | rw [Go_ok]
  | er => rw [Go_er, Go_er]
  | stk => rw [Go_stk, Go_stk]
theorem Go_cons_nx {f g : Ev → Rs Ctl} (h : Go (f ρ) (fun c ρ' => c = .nx ∧ Go (g ρ') Q)) : Go (cons f g ρ) Q := by
  rw [Go_cons]
  exact h.mono fun c ρ' ⟨e, q⟩ => by subst e; exact q
end
/-- a def's value, its arguments handed in whole -/
def Val (F : Fn) (es : List E) (d : O) : Prop := ∃ ρ, F es = .ok d ρ
theorem val_fnS {n N : Nat} {body : Ev → Rs Ctl} {es : List E} {d : O} (h : Go (body (es.map some ++ List.replicate (N - n) none)) (fun c _ => c = .rt d)) : Val (fnS n N body) es d := by
  obtain ⟨c, ρ', e, rfl⟩ := h.ex
  exact ⟨ρ', by unfold fnS; rw [e]⟩
theorem go_fnS {n N : Nat} {body : Ev → Rs Ctl} {es : List E} {Q : O → Ev → Prop} (h : Go (body (es.map some ++ List.replicate (N - n) none)) (fun c ρ => match c with | .rt d => Q d ρ | .nx => Q (.leaf .none) ρ | _ => False)) : Go (fnS n N body es) Q := by
  obtain ⟨c, ρ', e, q⟩ := h.ex
  unfold fnS
  rw [e]
  cases c with
  | nx => exact Go.okk q
  | rt d => exact Go.okk q
  | bk => exact q.elim
  | ct => exact q.elim
/-- a call with shared data alone -/
def leafs : List B → Ev → Option (List D)
  | [], _ => some []
  | .tmp o :: bs, ρ => (match leafs bs ρ with | some ds => some (o.d :: ds) | none => none)
  | .slot j :: bs, ρ => (match ρ[j]? with
    | some (some ⟨_, .leaf d⟩) => (match leafs bs ρ with | some ds => some (d :: ds) | none => none)
    | _ => none)
theorem lend_leafs {ρ : Ev} : ∀ {bs : List B} {ds : List D}, leafs bs ρ = some ds → lend bs ρ = some (ds.map lf, ρ)
  | [], _, h => by cases h; rfl
  | .tmp o :: bs, ds, h => by
    unfold leafs at h
    split at h
    · rename_i ds' h'
      cases h
      unfold lend
      rw [lend_leafs h']
      rfl
    · cases h
  | .slot j :: bs, ds, h => by
    unfold leafs at h
    split at h
    · rename_i io d hj
      split at h
      · rename_i ds' h'
        cases h
        unfold lend
        rw [hj]
        simp only
        rw [lend_leafs h']
        rfl
      · cases h
    · cases h
theorem unlend_leafs {ρ ρ' : Ev} : ∀ {bs : List B} {ds : List D} {i : Nat}, bs.length = ds.length → unlend ρ' i bs (ds.map lf) ρ = some ρ
  | [], [], _, _ => rfl
  | .tmp o :: bs, d :: ds, i, h => by
    show unlend ρ' (i + 1) bs (ds.map lf) ρ = some ρ
    exact unlend_leafs (by simpa using h)
  | .slot j :: bs, d :: ds, i, h => by
    show unlend ρ' (i + 1) bs (ds.map lf) ρ = some ρ
    exact unlend_leafs (by simpa using h)
theorem leafs_len {ρ : Ev} : ∀ {bs : List B} {ds : List D}, leafs bs ρ = some ds → bs.length = ds.length
  | [], _, h => by cases h; rfl
  | .tmp o :: bs, ds, h => by
    unfold leafs at h
    split at h
    · rename_i ds' h'; cases h; simp [leafs_len h']
    · cases h
  | .slot j :: bs, ds, h => by
    unfold leafs at h
    split at h
    · split at h
      · rename_i ds' h'; cases h; simp [leafs_len h']
      · cases h
    · cases h
theorem ce_lf (ds : List D) : (ds.map lf).map ce = ds.map lf := by
  rw [List.map_map]
  rfl
/-- a call whose arguments are shared data: by the def's value -/
theorem Go_call {F : Fn} {fs : Ev → Rs (List B)} {ρ : Ev} {Q : O → Ev → Prop} (h : Go (fs ρ) (fun bs ρ1 => ∃ ds d, leafs bs ρ1 = some ds ∧ Val F (ds.map lf) d ∧ Q d ρ1)) : Go (callS F fs ρ) Q := by
  unfold callS
  rw [Go_bnd]
  refine h.mono fun bs ρ1 ⟨ds, d, h1, ⟨ρ', h2⟩, q⟩ => ?_
  rw [lend_leafs h1]
  simp only [ce_lf]
  rw [h2]
  simp only
  rw [unlend_leafs (leafs_len h1)]
  exact Go.okk q
/-- the same, whatever comes out -/
theorem Go_callG {F : Fn} {fs : Ev → Rs (List B)} {ρ : Ev} {Q : O → Ev → Prop} (h : Go (fs ρ) (fun bs ρ1 => ∃ ds, leafs bs ρ1 = some ds ∧ Go (F (ds.map lf)) (fun o _ => Q o ρ1))) : Go (callS F fs ρ) Q := by
  refine Go_call (h.mono fun bs ρ1 ⟨ds, h1, h2⟩ => ?_)
  obtain ⟨o, ρ', e, q⟩ := h2.ex
  exact ⟨ds, o, h1, ⟨ρ', e⟩, q⟩
/-- a call that is lent its first argument, a list of ours at slot j -/
theorem Go_callP {F : Fn} {fs : Ev → Rs (List B)} {ρ : Ev} {Q : O → Ev → Prop} (h : Go (fs ρ) (fun bs ρ1 => ∃ j bs' io xs ds, bs = .slot j :: bs' ∧ ρ1[j]? = some (some ⟨io, .lst xs⟩) ∧ leafs bs' ρ1 = some ds ∧ leafs bs' (ρ1.set j none) = some ds ∧
    Go (F (⟨true, .lst xs⟩ :: ds.map lf)) (fun d ρ' => ∃ ys, ρ'[0]? = some (some ⟨true, .lst ys⟩) ∧ Q d ((ρ1.set j none).set j (some ⟨io, .lst ys⟩))))) : Go (callS F fs ρ) Q := by
  unfold callS
  rw [Go_bnd]
  refine h.mono fun bs ρ1 ⟨j, bs', io, xs, ds, e1, e2, h0, h1, h2⟩ => ?_
  subst e1
  obtain ⟨d, ρ', e3, ys, e4, q⟩ := h2.ex
  have el : lend (.slot j :: bs') ρ1 = some (⟨io, .lst xs⟩ :: ds.map lf, ρ1.set j none) := by
    unfold lend
    rw [e2]
    simp only
    rw [lend_leafs h1]
  rw [el]
  have ec : (⟨io, .lst xs⟩ :: ds.map lf : List E).map ce = ⟨true, .lst xs⟩ :: ds.map lf := by
    rw [List.map_cons, ce_lf]
    rfl
  simp only [ec, e3]
  have eu : unlend ρ' 0 (.slot j :: bs') (⟨io, .lst xs⟩ :: ds.map lf) (ρ1.set j none) = some ((ρ1.set j none).set j (some ⟨io, .lst ys⟩)) := by
    unfold unlend
    simp only [e4]
    exact unlend_leafs (leafs_len h1)
  rw [eu]
  exact Go.okk q
/-! ### loops -/
theorem go_for {cl : List Nat} {tg : O → Ev → Rs Unit} {body : Ev → Rs Ctl} (P : Nat → Ev → Prop) (R : O → Ev → Prop) : ∀ (ds : List D) (i : Nat) (ρ : Ev), P i ρ →
    (∀ k d ρ, ds[k]? = some d → P (i + k) ρ → Go (tg (.leaf d) ρ) (fun _ ρ1 => Go (body ρ1) (fun c ρ2 => match c with | .nx => P (i + k + 1) (clrs ρ2 cl) | .ct => P (i + k + 1) (clrs ρ2 cl) | .rt d => R d ρ2 | .bk => False))) →
    Go (forGo cl tg body ds ρ) (fun c ρ' => match c with | .nx => P (i + ds.length) ρ' | .rt d => R d ρ' | _ => False)
  | [], i, ρ, h, _ => Go.okk h
  | d :: ds, i, ρ, h, hs => by
    have h1 := hs 0 d ρ rfl h
    obtain ⟨u, ρ1, e1, h2⟩ := h1.ex
    obtain ⟨c, ρ2, e2, h3⟩ := h2.ex
    unfold forGo
    rw [e1]
    simp only
    rw [e2]
    have next : P (i + 1) (clrs ρ2 cl) → Go (forGo cl tg body ds (clrs ρ2 cl)) (fun c ρ' => match c with | .nx => P (i + (ds.length + 1)) ρ' | .rt d => R d ρ' | _ => False) := fun h => by
      have := go_for P R ds (i + 1) (clrs ρ2 cl) h fun k d ρ hk hp => by
        have := hs (k + 1) d ρ (by simpa using hk) (by rw [show i + (k + 1) = i + 1 + k by omega]; exact hp)
        rw [show i + (k + 1) = i + 1 + k by omega] at this
        exact this
      rw [show i + (ds.length + 1) = i + 1 + ds.length by omega]
      exact this
    cases c with
    | nx => exact next h3
    | ct => exact next h3
    | rt d => exact Go.okk h3
    | bk => exact h3.elim
/-- a loop that runs to its end -/
theorem Go_for {it : Ev → Rs (List D)} {cl : List Nat} {tg : O → Ev → Rs Unit} {body : Ev → Rs Ctl} {ρ : Ev} {Q : Ctl → Ev → Prop} {ds : List D} {ρ0 : Ev} (P : Nat → Ev → Prop) (hit : it ρ = .ok ds ρ0) (h0 : P 0 (clrs ρ0 cl))
    (hs : ∀ k d ρ, ds[k]? = some d → P k ρ → Go (tg (.leaf d) ρ) (fun _ ρ1 => Go (body ρ1) (fun c ρ2 => c = .nx ∧ P (k + 1) (clrs ρ2 cl))))
    (hq : ∀ ρ, P ds.length ρ → Q .nx ρ) : Go (forS it tg body cl ρ) Q := by
  unfold forS
  rw [Go_bnd, hit, Go_ok]
  have := go_for (cl := cl) (tg := tg) (body := body) P (fun _ _ => False) ds 0 (clrs ρ0 cl) h0 fun k d ρ hk hp => by
    rw [Nat.zero_add] at hp ⊢
    refine (hs k d ρ hk hp).mono fun _ ρ1 h => h.mono fun c ρ2 ⟨e, q⟩ => ?_
    subst e
    exact q
  refine this.mono fun c ρ' h => ?_
  cases c with
  | nx => rw [Nat.zero_add] at h; exact hq _ h
  | rt d => exact h.elim
  | bk => exact h.elim
  | ct => exact h.elim
theorem go_wh {cl : List Nat} {c : Ev → Rs Bool} {body : Ev → Rs Ctl} (P : Nat → Ev → Prop) (Qe : Ev → Prop) (hs : ∀ m ρ, P m ρ → Go (c ρ) (fun b ρ1 => if b = true then Go (body ρ1) (fun k ρ2 => k = .nx ∧ ∃ m', m' < m ∧ P m' (clrs ρ2 cl)) else Qe ρ1)) :
    ∀ m ρ, P m ρ → Go (whN cl c body (m + 1) ρ) (fun k ρ' => k = .nx ∧ Qe ρ') := by
  intro m
  induction m using Nat.strongRecOn with
  | _ m ih =>
    intro ρ hp
    obtain ⟨b, ρ1, e1, h1⟩ := (hs m ρ hp).ex
    unfold whN
    rw [e1]
    cases b with
    | false => exact Go.okk ⟨rfl, h1⟩
    | true =>
      simp only [if_true] at h1
      obtain ⟨k, ρ2, e2, rfl, m', hm, hp'⟩ := h1.ex
      simp only [e2]
      have := ih m' hm _ hp'
      obtain ⟨k', ρ3, e3, h3⟩ := this.ex
      rw [whN_mono (m := m) (by rw [e3]; intro z; cases z) (by omega), e3]
      exact Go.okk h3
/-- a while that ends -/
theorem Go_wh {cl : List Nat} {c : Ev → Rs Bool} {body : Ev → Rs Ctl} {ρ : Ev} {Q : Ctl → Ev → Prop} (P : Nat → Ev → Prop) (m : Nat) (h0 : P m (clrs ρ cl))
    (hs : ∀ m ρ, P m ρ → Go (c ρ) (fun b ρ1 => if b = true then Go (body ρ1) (fun k ρ2 => k = .nx ∧ ∃ m', m' < m ∧ P m' (clrs ρ2 cl)) else Q .nx ρ1)) : Go (whS cl c body ρ) Q := by
  have := go_wh (cl := cl) (body := body) P (fun ρ => Q .nx ρ) hs m _ h0
  obtain ⟨k, ρ', e, rfl, q⟩ := this.ex
  rw [whS_eq e (by intro z; cases z)]
  exact Go.okk q
/-! ### comprehensions that draw nothing -/
theorem lc_pure {vs : List Nat} {tg : O → Ev → Rs Unit} {tt : Ev → Rs Bool} {el : Ev → Rs O} {ρw : Ev} {c : D → Bool} {e : D → D} : ∀ {ds : List D},
    (∀ d ∈ ds, Go (tg (.leaf d) ρw) (fun _ ρ1 => Go (tt ρ1) (fun b ρ2 => b = c d ∧ if c d = true then Go (el ρ2) (fun o ρ3 => o.d = e d ∧ wipeE ρ3 vs = ρw) else wipeE ρ2 vs = ρw))) →
    lcGo vs tg tt el ds ρw = .ok ((ds.filter c).map e) ρw
  | [], _ => rfl
  | d :: ds, h => by
    obtain ⟨u, ρ1, e1, h1⟩ := (h d (by simp)).ex
    obtain ⟨b, ρ2, e2, rfl, h2⟩ := h1.ex
    have ih := lc_pure (ds := ds) fun x m => h x (by simp [m])
    unfold lcGo
    rw [e1]
    simp only
    rw [e2]
    cases hc : c d with
    | false =>
      rw [hc] at h2
      simp only [Bool.false_eq_true, if_false] at h2
      simp only [h2, ih, List.filter_cons, hc, Bool.false_eq_true, if_false]
    | true =>
      rw [hc] at h2
      simp only [if_true] at h2
      obtain ⟨o, ρ3, e3, h3, h4⟩ := h2.ex
      simp only [e3, h4, ih, List.filter_cons, hc, if_true, List.map_cons, h3]
theorem Go_lc {it : Ev → Rs (List D)} {vs : List Nat} {tg : O → Ev → Rs Unit} {tt : Ev → Rs Bool} {el : Ev → Rs O} {ρ ρ1 : Ev} {Q : O → Ev → Prop} {ds : List D} (c : D → Bool) (e : D → D) (hit : it ρ = .ok ds ρ1) (hh : hidable ρ1 vs = true) (hl : ds.length ≤ 1000)
    (hs : ∀ d ∈ ds, Go (tg (.leaf d) (wipeE ρ1 vs)) (fun _ ρ2 => Go (tt ρ2) (fun b ρ3 => b = c d ∧ if c d = true then Go (el ρ3) (fun o ρ4 => o.d = e d ∧ wipeE ρ4 vs = wipeE ρ1 vs) else wipeE ρ3 vs = wipeE ρ1 vs)))
    (hq : Q (.lst ((ds.filter c).map e)) (unhide ρ1 (wipeE ρ1 vs) vs)) : Go (lcE it vs tg tt el ρ) Q := by
  unfold lcE
  rw [Go_bnd, hit, Go_ok]
  rw [if_pos ⟨hh, Nat.le_of_lt (small1000 hl)⟩, lc_pure hs]
  exact Go.okk hq
theorem Go_lcm {it : Ev → Rs (List D)} {vs : List Nat} {tg : O → Ev → Rs Unit} {el : Ev → Rs O} {ρ ρ1 : Ev} {Q : O → Ev → Prop} {ds : List D} (e : D → D) (hit : it ρ = .ok ds ρ1) (hh : hidable ρ1 vs = true) (hl : ds.length ≤ 1000)
    (hs : ∀ d ∈ ds, Go (tg (.leaf d) (wipeE ρ1 vs)) (fun _ ρ2 => Go (el ρ2) (fun o ρ4 => o.d = e d ∧ wipeE ρ4 vs = wipeE ρ1 vs)))
    (hq : Q (.lst (ds.map e)) (unhide ρ1 (wipeE ρ1 vs) vs)) : Go (lcE it vs tg yesT el ρ) Q := by
  refine Go_lc (fun _ => true) e hit hh hl (fun d m => (hs d m).mono fun _ ρ2 h => ?_) (by rw [List.filter_eq_self.mpr fun _ _ => rfl]; exact hq)
  exact Go.okk ⟨rfl, by rw [if_pos rfl]; exact h⟩
end Y
/-! Y: running a semantic function, step by step -/
namespace Y
open PySem PySem.Spec PyProof.Rows L2

section
variable {α : Type} {ρ : Ev}
@[simp] theorem go_ok' {a : α} {Q : α → Ev → Prop} : Go (.ok a ρ) Q = Q a ρ := by first | rfl | exact Go_ok | exact Go_stk | exact Go_er | simp only [Go_ok, Go_stk, Go_er] | (simp only [Go_ok, Go_stk, Go_er]; rfl)
@[simp] theorem go_stk' {Q : α → Ev → Prop} : Go (.stk : Rs α) Q = False := by first | rfl | exact Go_ok | exact Go_stk | exact Go_er | simp only [Go_ok, Go_stk, Go_er] | (simp only [Go_ok, Go_stk, Go_er]; rfl)
@[simp] theorem go_ite' {c : Prop} [Decidable c] {x y : Rs α} {Q : α → Ev → Prop} : Go (if c then x else y) Q = if c then Go x Q else Go y Q := Go_ite
end
section
variable {ρ : Ev}
@[simp] theorem g_kD {d : D} {Q : O → Ev → Prop} : Go (kD d ρ) Q = Q (.leaf d) ρ := by first | rfl | exact Go_ok | exact Go_stk | exact Go_er | simp only [Go_ok, Go_stk, Go_er] | (simp only [Go_ok, Go_stk, Go_er]; rfl)
@[simp] theorem g_tm {f : Ev → Rs O} {Q : B → Ev → Prop} : Go (tm f ρ) Q = Go (f ρ) (fun o ρ' => Q (.tmp o) ρ') := by unfold tm; rw [Go_bnd]; first | rfl | exact Go_ok | exact Go_stk | exact Go_er | simp only [Go_ok, Go_stk, Go_er] | (simp only [Go_ok, Go_stk, Go_er]; rfl)
/-- what slot i holds -/
def look (ρ : Ev) (i : Nat) : Option E := match ρ[i]? with
  | some (some e) => some e
  | _ => none
@[simp] theorem look_0 {e : E} {r : Ev} : look (some e :: r) 0 = some e := rfl
@[simp] theorem look_0n {r : Ev} : look (none :: r) 0 = none := rfl
@[simp] theorem look_s {x : Option E} {r : Ev} {i : Nat} : look (x :: r) (i + 1) = look r i := by unfold look; rw [List.getElem?_cons_succ]
theorem look_of {i : Nat} {e : E} (h : look ρ i = some e) : ρ[i]? = some (some e) := by
  unfold look at h
  split at h
  · rename_i e' he; cases h; exact he
  · cases h
theorem look_none {i : Nat} (h : look ρ i = none) : ∀ e, ρ[i]? ≠ some (some e) := fun e he => by
  unfold look at h
  rw [he] at h
  cases h
@[simp] theorem g_bv {i : Nat} {Q : B → Ev → Prop} : Go (bv i ρ) Q = ((look ρ i).isSome = true ∧ Q (.slot i) ρ) := by
  unfold bv look
  split
  · rename_i e he; simp [he]
  · rename_i h
    cases e : ρ[i]? with
    | none => simp
    | some m =>
      cases m with
      | none => simp
      | some x => exact absurd e (h x)
theorem val_slot {i : Nat} : (B.slot i).val ρ = (look ρ i).map fun e => e.o.d := by
  show (match ρ[i]? with | some (some e) => some e.o.d | _ => none) = _
  unfold look
  split <;> simp
@[simp] theorem val_tmp {o : O} : (B.tmp o).val ρ = some o.d := rfl
@[simp] theorem val_slot' {i : Nat} : (B.slot i).val ρ = (look ρ i).map fun e => e.o.d := val_slot
@[simp] theorem d_leaf {d : D} : (O.leaf d).d = d := rfl
@[simp] theorem d_lst {d : List D} : (O.lst d).d = .list d := rfl
@[simp] theorem d_dic {d : List (D × D)} : (O.dic d).d = .dict d := rfl
/-- reading a name: shared from then on -/
def shr : E → Option (O × E)
  | ⟨false, o⟩ => some (.leaf o.d, lf o.d)
  | ⟨true, .leaf d⟩ => some (.leaf d, ⟨true, .leaf d⟩)
  | _ => none
@[simp] theorem shr_leaf {d : D} : shr ⟨false, .leaf d⟩ = some (.leaf d, lf d) := rfl
@[simp] theorem shr_lst {d : List D} : shr ⟨false, .lst d⟩ = some (.leaf (.list d), lf (.list d)) := rfl
@[simp] theorem shr_dic {d : List (D × D)} : shr ⟨false, .dic d⟩ = some (.leaf (.dict d), lf (.dict d)) := rfl
@[simp] theorem g_rv {i : Nat} {Q : O → Ev → Prop} : Go (rv i ρ) Q = match (look ρ i).bind shr with
    | some (o, e) => Q o (ρ.set i (some e))
    | none => False := by
  unfold rv look
  cases h : ρ[i]? with
  | none => first | rfl | exact Go_ok | exact Go_stk | exact Go_er | simp only [Go_ok, Go_stk, Go_er] | (simp only [Go_ok, Go_stk, Go_er]; rfl)
  | some m =>
    cases m with
    | none => first | rfl | exact Go_ok | exact Go_stk | exact Go_er | simp only [Go_ok, Go_stk, Go_er] | (simp only [Go_ok, Go_stk, Go_er]; rfl)
    | some e =>
      obtain ⟨io, o⟩ := e
      cases io with
      | false =>
        cases o with
        | leaf d =>
          refine Eq.trans Go_ok ?_
          show Q (.leaf d) ρ = Q (.leaf d) (ρ.set i (some (lf d)))
          rw [Stt.set_leaf h]
        | lst d => exact Go_ok
        | dic d => exact Go_ok
      | true =>
        cases o with
        | leaf d =>
          refine Eq.trans Go_ok ?_
          show Q (.leaf d) ρ = Q (.leaf d) (ρ.set i (some ⟨true, .leaf d⟩))
          have : ρ.set i (some ⟨true, .leaf d⟩) = ρ := by
            obtain ⟨h1, h2⟩ := List.getElem?_eq_some_iff.mp h
            rw [← h2, List.set_getElem_self]
          rw [this]
        | lst d => exact Go_stk
        | dic d => exact Go_stk
def mov : E → Option (O × Option E)
  | ⟨io, .leaf d⟩ => some (.leaf d, some ⟨io, .leaf d⟩)
  | ⟨false, o⟩ => some (o, none)
  | _ => none
@[simp] theorem mov_leaf {io : Bool} {d : D} : mov ⟨io, .leaf d⟩ = some (.leaf d, some ⟨io, .leaf d⟩) := rfl
@[simp] theorem mov_lst {d : List D} : mov ⟨false, .lst d⟩ = some (.lst d, none) := rfl
@[simp] theorem mov_dic {d : List (D × D)} : mov ⟨false, .dic d⟩ = some (.dic d, none) := rfl
@[simp] theorem g_mv {i : Nat} {Q : O → Ev → Prop} : Go (mv i ρ) Q = match (look ρ i).bind mov with
    | some (o, e) => Q o (ρ.set i e)
    | none => False := by
  unfold mv look
  cases h : ρ[i]? with
  | none => first | rfl | exact Go_ok | exact Go_stk | exact Go_er | simp only [Go_ok, Go_stk, Go_er] | (simp only [Go_ok, Go_stk, Go_er]; rfl)
  | some m =>
    cases m with
    | none => first | rfl | exact Go_ok | exact Go_stk | exact Go_er | simp only [Go_ok, Go_stk, Go_er] | (simp only [Go_ok, Go_stk, Go_er]; rfl)
    | some e =>
      have same : ρ.set i (some e) = ρ := by
        obtain ⟨h1, h2⟩ := List.getElem?_eq_some_iff.mp h
        rw [← h2, List.set_getElem_self]
      obtain ⟨io, o⟩ := e
      cases io <;> cases o <;> first | exact Go_ok | exact Go_stk | (refine Eq.trans Go_ok ?_; show Q _ ρ = Q _ (ρ.set i _); rw [same])
@[simp] theorem g_aNil {Q : List B → Ev → Prop} : Go (aNil ρ) Q = Q [] ρ := by first | rfl | exact Go_ok | exact Go_stk | exact Go_er | simp only [Go_ok, Go_stk, Go_er] | (simp only [Go_ok, Go_stk, Go_er]; rfl)
@[simp] theorem g_aCons {f : Ev → Rs B} {r : Ev → Rs (List B)} {Q : List B → Ev → Prop} : Go (aCons f r ρ) Q = Go (f ρ) (fun b ρ1 => Go (r ρ1) (fun bs ρ2 => Q (b :: bs) ρ2)) := by
  unfold aCons
  rw [Go_bnd]
  congr 1
  funext b ρ1
  rw [Go_bnd]
  first | rfl | exact Go_ok | exact Go_stk | exact Go_er | simp only [Go_ok, Go_stk, Go_er] | (simp only [Go_ok, Go_stk, Go_er]; rfl)
theorem vals_nil : vals ρ [] = some [] := rfl
theorem vals_cons {b : B} {bs : List B} : vals ρ (b :: bs) = (b.val ρ).bind fun d => (vals ρ bs).map fun ds => d :: ds := by
  rw [vals]
  cases b.val ρ with
  | none => first | rfl | exact Go_ok | exact Go_stk | exact Go_er | simp only [Go_ok, Go_stk, Go_er] | (simp only [Go_ok, Go_stk, Go_er]; rfl)
  | some d => cases vals ρ bs <;> (first | rfl | exact Go_ok | exact Go_stk | exact Go_er | simp only [Go_ok, Go_stk, Go_er] | (simp only [Go_ok, Go_stk, Go_er]; rfl))
@[simp] theorem vals_nil' : vals ρ [] = some [] := rfl
@[simp] theorem vals_cons' {b : B} {bs : List B} : vals ρ (b :: bs) = (b.val ρ).bind fun d => (vals ρ bs).map fun ds => d :: ds := vals_cons
@[simp] theorem tmpD_nil : tmpD [] = some [] := rfl
@[simp] theorem tmpD_tmp {o : O} {bs : List B} : tmpD (.tmp o :: bs) = (tmpD bs).map fun ds => o.d :: ds := by rw [tmpD]; cases tmpD bs <;> (first | rfl | exact Go_ok | exact Go_stk | exact Go_er | simp only [Go_ok, Go_stk, Go_er] | (simp only [Go_ok, Go_stk, Go_er]; rfl))
@[simp] theorem g_op2 {g : D → D → Option O} {fa fb : Ev → Rs B} {Q : O → Ev → Prop} : Go (op2 g fa fb ρ) Q = Go (fa ρ) (fun a ρ1 => Go (fb ρ1) (fun b ρ2 => match (a.val ρ2).bind fun x => (b.val ρ2).bind fun y => g x y with
    | some o => Q o ρ2
    | none => False)) := by
  unfold op2
  rw [Go_bnd]
  congr 1
  funext a ρ1
  rw [Go_bnd]
  congr 1
  funext b ρ2
  cases h1 : a.val ρ2 with
  | none => first | rfl | exact Go_ok | exact Go_stk | exact Go_er | simp only [Go_ok, Go_stk, Go_er] | (simp only [Go_ok, Go_stk, Go_er]; rfl)
  | some x =>
    cases h2 : b.val ρ2 with
    | none => first | rfl | exact Go_ok | exact Go_stk | exact Go_er | simp only [Go_ok, Go_stk, Go_er] | (simp only [Go_ok, Go_stk, Go_er]; rfl)
    | some y =>
      show Go (match g x y with | some o => Rs.ok o ρ2 | none => .stk) Q = (match g x y with | some o => Q o ρ2 | none => False)
      cases g x y <;> (first | rfl | exact Go_ok | exact Go_stk | exact Go_er | simp only [Go_ok, Go_stk, Go_er] | (simp only [Go_ok, Go_stk, Go_er]; rfl))
@[simp] theorem g_op1 {g : D → Option O} {fa : Ev → Rs B} {Q : O → Ev → Prop} : Go (op1 g fa ρ) Q = Go (fa ρ) (fun a ρ1 => match (a.val ρ1).bind g with
    | some o => Q o ρ1
    | none => False) := by
  unfold op1
  rw [Go_bnd]
  congr 1
  funext a ρ1
  cases h1 : a.val ρ1 with
  | none => first | rfl | exact Go_ok | exact Go_stk | exact Go_er | simp only [Go_ok, Go_stk, Go_er] | (simp only [Go_ok, Go_stk, Go_er]; rfl)
  | some x =>
    show Go (match g x with | some o => Rs.ok o ρ1 | none => .stk) Q = (match g x with | some o => Q o ρ1 | none => False)
    cases g x <;> (first | rfl | exact Go_ok | exact Go_stk | exact Go_er | simp only [Go_ok, Go_stk, Go_er] | (simp only [Go_ok, Go_stk, Go_er]; rfl))
@[simp] theorem g_cmp2 {g : D → D → Option Bool} {fa fb : Ev → Rs B} {Q : Bool → Ev → Prop} : Go (cmp2 g fa fb ρ) Q = Go (fa ρ) (fun a ρ1 => Go (fb ρ1) (fun b ρ2 => match (a.val ρ2).bind fun x => (b.val ρ2).bind fun y => g x y with
    | some o => Q o ρ2
    | none => False)) := by
  unfold cmp2
  rw [Go_bnd]
  congr 1
  funext a ρ1
  rw [Go_bnd]
  congr 1
  funext b ρ2
  cases h1 : a.val ρ2 with
  | none => first | rfl | exact Go_ok | exact Go_stk | exact Go_er | simp only [Go_ok, Go_stk, Go_er] | (simp only [Go_ok, Go_stk, Go_er]; rfl)
  | some x =>
    cases h2 : b.val ρ2 with
    | none => first | rfl | exact Go_ok | exact Go_stk | exact Go_er | simp only [Go_ok, Go_stk, Go_er] | (simp only [Go_ok, Go_stk, Go_er]; rfl)
    | some y =>
      show Go (match g x y with | some o => Rs.ok o ρ2 | none => .stk) Q = (match g x y with | some o => Q o ρ2 | none => False)
      cases g x y <;> (first | rfl | exact Go_ok | exact Go_stk | exact Go_er | simp only [Go_ok, Go_stk, Go_er] | (simp only [Go_ok, Go_stk, Go_er]; rfl))
@[simp] theorem g_chn {g g' : D → D → Option Bool} {fa fb fc : Ev → Rs B} {Q : Bool → Ev → Prop} : Go (chn g g' fa fb fc ρ) Q = Go (fa ρ) (fun a ρ1 => Go (fb ρ1) (fun b ρ2 => match (a.val ρ2).bind fun x => (b.val ρ2).bind fun y => g x y with
    | some true => Go (fc ρ2) (fun c ρ3 => match (b.val ρ3).bind fun y => (c.val ρ3).bind fun z => g' y z with
      | some d => Q d ρ3
      | none => False)
    | some false => Q false ρ2
    | none => False)) := by
  unfold chn
  rw [Go_bnd]
  congr 1
  funext a ρ1
  rw [Go_bnd]
  congr 1
  funext b ρ2
  cases h1 : a.val ρ2 with
  | none => first | rfl | exact Go_ok | exact Go_stk | exact Go_er | simp only [Go_ok, Go_stk, Go_er] | (simp only [Go_ok, Go_stk, Go_er]; rfl)
  | some x =>
    cases h2 : b.val ρ2 with
    | none => first | rfl | exact Go_ok | exact Go_stk | exact Go_er | simp only [Go_ok, Go_stk, Go_er] | (simp only [Go_ok, Go_stk, Go_er]; rfl)
    | some y =>
      simp only [Option.bind_some]
      cases h3 : g x y with
      | none => first | rfl | exact Go_ok | exact Go_stk | exact Go_er | simp only [Go_ok, Go_stk, Go_er] | (simp only [Go_ok, Go_stk, Go_er]; rfl)
      | some k =>
        cases k with
        | false => first | rfl | exact Go_ok | exact Go_stk | exact Go_er
        | true =>
          simp only
          rw [Go_bnd]
          congr 1
          funext c ρ3
          cases h4 : b.val ρ3 with
          | none => first | rfl | exact Go_ok | exact Go_stk | exact Go_er | simp only [Go_ok, Go_stk, Go_er] | (simp only [Go_ok, Go_stk, Go_er]; rfl)
          | some y' =>
            cases h5 : c.val ρ3 with
            | none => first | rfl | exact Go_ok | exact Go_stk | exact Go_er | simp only [Go_ok, Go_stk, Go_er] | (simp only [Go_ok, Go_stk, Go_er]; rfl)
            | some z =>
              show Go (match g' y' z with | some o => Rs.ok o ρ3 | none => .stk) Q = (match g' y' z with | some o => Q o ρ3 | none => False)
              cases g' y' z <;> (first | rfl | exact Go_ok | exact Go_stk | exact Go_er | simp only [Go_ok, Go_stk, Go_er] | (simp only [Go_ok, Go_stk, Go_er]; rfl))
@[simp] theorem g_bl {f : Ev → Rs Bool} {Q : O → Ev → Prop} : Go (bl f ρ) Q = Go (f ρ) (fun b ρ' => Q (.leaf (.bool b)) ρ') := by unfold bl; rw [Go_bnd]; first | rfl | exact Go_ok | exact Go_stk | exact Go_er | simp only [Go_ok, Go_stk, Go_er] | (simp only [Go_ok, Go_stk, Go_er]; rfl)
@[simp] theorem g_asB {f : Ev → Rs O} {Q : Bool → Ev → Prop} : Go (asB f ρ) Q = Go (f ρ) (fun o ρ' => match o with | .leaf (.bool b) => Q b ρ' | _ => False) := by
  unfold asB
  rw [Go_bnd]
  congr 1
  funext o ρ1
  cases o with
  | leaf d => cases d <;> (first | rfl | exact Go_ok | exact Go_stk | exact Go_er | simp only [Go_ok, Go_stk, Go_er] | (simp only [Go_ok, Go_stk, Go_er]; rfl))
  | lst _ => first | rfl | exact Go_ok | exact Go_stk | exact Go_er
  | dic _ => first | rfl | exact Go_ok | exact Go_stk | exact Go_er
@[simp] theorem g_truB {f : Ev → Rs B} {Q : Bool → Ev → Prop} : Go (truB f ρ) Q = Go (f ρ) (fun b ρ' => match (b.val ρ').bind gTru with | some c => Q c ρ' | none => False) := by
  unfold truB
  rw [Go_bnd]
  congr 1
  funext b ρ1
  cases h1 : b.val ρ1 with
  | none => first | rfl | exact Go_ok | exact Go_stk | exact Go_er | simp only [Go_ok, Go_stk, Go_er] | (simp only [Go_ok, Go_stk, Go_er]; rfl)
  | some x =>
    show Go (match gTru x with | some o => Rs.ok o ρ1 | none => .stk) Q = (match gTru x with | some o => Q o ρ1 | none => False)
    cases gTru x <;> (first | rfl | exact Go_ok | exact Go_stk | exact Go_er | simp only [Go_ok, Go_stk, Go_er] | (simp only [Go_ok, Go_stk, Go_er]; rfl))
@[simp] theorem g_andT {f g : Ev → Rs Bool} {Q : Bool → Ev → Prop} : Go (andT f g ρ) Q = Go (f ρ) (fun b ρ' => if b = true then Go (g ρ') Q else Q false ρ') := by
  unfold andT
  rw [Go_bnd]
  congr 1
  funext b ρ1
  cases b <;> (first | rfl | exact Go_ok | exact Go_stk | exact Go_er | simp only [Go_ok, Go_stk, Go_er] | (simp only [Go_ok, Go_stk, Go_er]; rfl))
@[simp] theorem g_orT {f g : Ev → Rs Bool} {Q : Bool → Ev → Prop} : Go (orT f g ρ) Q = Go (f ρ) (fun b ρ' => if b = true then Q true ρ' else Go (g ρ') Q) := by
  unfold orT
  rw [Go_bnd]
  congr 1
  funext b ρ1
  cases b <;> (first | rfl | exact Go_ok | exact Go_stk | exact Go_er | simp only [Go_ok, Go_stk, Go_er] | (simp only [Go_ok, Go_stk, Go_er]; rfl))
@[simp] theorem g_notT {f : Ev → Rs Bool} {Q : Bool → Ev → Prop} : Go (notT f ρ) Q = Go (f ρ) (fun b ρ' => Q (!b) ρ') := by unfold notT; rw [Go_bnd]; first | rfl | exact Go_ok | exact Go_stk | exact Go_er | simp only [Go_ok, Go_stk, Go_er] | (simp only [Go_ok, Go_stk, Go_er]; rfl)
@[simp] theorem g_yesT {Q : Bool → Ev → Prop} : Go (yesT ρ) Q = Q true ρ := by first | rfl | exact Go_ok | exact Go_stk | exact Go_er | simp only [Go_ok, Go_stk, Go_er] | (simp only [Go_ok, Go_stk, Go_er]; rfl)
@[simp] theorem g_ifE {α : Type} {t : Ev → Rs Bool} {f g : Ev → Rs α} {Q : α → Ev → Prop} : Go (ifE t f g ρ) Q = Go (t ρ) (fun b ρ' => if b = true then Go (f ρ') Q else Go (g ρ') Q) := by
  unfold ifE
  rw [Go_bnd]
  congr 1
  funext b ρ1
  cases b <;> (first | rfl | exact Go_ok | exact Go_stk | exact Go_er | simp only [Go_ok, Go_stk, Go_er] | (simp only [Go_ok, Go_stk, Go_er]; rfl))
@[simp] theorem g_callL {g : List D → Option O} {f : Ev → Rs (List B)} {Q : O → Ev → Prop} : Go (callL g f ρ) Q = Go (f ρ) (fun bs ρ' => match (vals ρ' bs).bind g with | some o => Q o ρ' | none => False) := by
  unfold callL
  rw [Go_bnd]
  congr 1
  funext bs ρ1
  cases vals ρ1 bs with
  | none => first | rfl | exact Go_ok | exact Go_stk | exact Go_er | simp only [Go_ok, Go_stk, Go_er] | (simp only [Go_ok, Go_stk, Go_er]; rfl)
  | some x =>
    show Go (match g x with | some o => Rs.ok o ρ1 | none => .stk) Q = (match g x with | some o => Q o ρ1 | none => False)
    cases g x <;> (first | rfl | exact Go_ok | exact Go_stk | exact Go_er | simp only [Go_ok, Go_stk, Go_er] | (simp only [Go_ok, Go_stk, Go_er]; rfl))
@[simp] theorem g_dispL {f : Ev → Rs (List B)} {Q : O → Ev → Prop} : Go (dispL f ρ) Q = Go (f ρ) (fun bs ρ' => match tmpD bs with | some ds => bs.length ≤ 1000 ∧ Q (.lst ds) ρ' | none => False) := by
  unfold dispL
  rw [Go_bnd]
  congr 1
  funext bs ρ1
  cases tmpD bs with
  | none => first | rfl | exact Go_ok | exact Go_stk | exact Go_er | simp only [Go_ok, Go_stk, Go_er] | (simp only [Go_ok, Go_stk, Go_er]; rfl)
  | some x =>
    show Go (if bs.length ≤ 1000 then _ else _) Q = (bs.length ≤ 1000 ∧ Q (.lst x) ρ1)
    by_cases h : bs.length ≤ 1000
    · rw [if_pos h]; simp [h]
    · rw [if_neg h]; simp [h]
@[simp] theorem g_dispT {f : Ev → Rs (List B)} {Q : O → Ev → Prop} : Go (dispT f ρ) Q = Go (f ρ) (fun bs ρ' => match tmpD bs with | some ds => bs.length ≤ 1000 ∧ Q (.leaf (.tuple ds)) ρ' | none => False) := by
  unfold dispT
  rw [Go_bnd]
  congr 1
  funext bs ρ1
  cases tmpD bs with
  | none => first | rfl | exact Go_ok | exact Go_stk | exact Go_er | simp only [Go_ok, Go_stk, Go_er] | (simp only [Go_ok, Go_stk, Go_er]; rfl)
  | some x =>
    show Go (if bs.length ≤ 1000 then _ else _) Q = (bs.length ≤ 1000 ∧ Q (.leaf (.tuple x)) ρ1)
    by_cases h : bs.length ≤ 1000
    · rw [if_pos h]; simp [h]
    · rw [if_neg h]; simp [h]
@[simp] theorem g_newD {Q : O → Ev → Prop} : Go (newD ρ) Q = Q (.dic []) ρ := by first | rfl | exact Go_ok | exact Go_stk | exact Go_er | simp only [Go_ok, Go_stk, Go_er] | (simp only [Go_ok, Go_stk, Go_er]; rfl)
@[simp] theorem g_isiE {t : String} {f : Ev → Rs B} {Q : Bool → Ev → Prop} : Go (isiE t f ρ) Q = Go (f ρ) (fun b ρ' => match (b.val ρ').bind (isT · t) with | some c => Q c ρ' | none => False) := by
  unfold isiE
  rw [Go_bnd]
  congr 1
  funext b ρ1
  cases h1 : b.val ρ1 with
  | none => first | rfl | exact Go_ok | exact Go_stk | exact Go_er | simp only [Go_ok, Go_stk, Go_er] | (simp only [Go_ok, Go_stk, Go_er]; rfl)
  | some x =>
    show Go (match isT x t with | some o => Rs.ok o ρ1 | none => .stk) Q = (match isT x t with | some o => Q o ρ1 | none => False)
    cases isT x t <;> (first | rfl | exact Go_ok | exact Go_stk | exact Go_er | simp only [Go_ok, Go_stk, Go_er] | (simp only [Go_ok, Go_stk, Go_er]; rfl))
@[simp] theorem g_noP {Q : Option Int → Ev → Prop} : Go (noP ρ) Q = Q none ρ := by first | rfl | exact Go_ok | exact Go_stk | exact Go_er | simp only [Go_ok, Go_stk, Go_er] | (simp only [Go_ok, Go_stk, Go_er]; rfl)
@[simp] theorem g_aP {f : Ev → Rs B} {Q : Option Int → Ev → Prop} : Go (aP f ρ) Q = Go (f ρ) (fun b ρ' => match b.val ρ' with | some (.int i) => Q (some i) ρ' | _ => False) := by
  unfold aP
  rw [Go_bnd]
  congr 1
  funext b ρ1
  cases h1 : b.val ρ1 with
  | none => first | rfl | exact Go_ok | exact Go_stk | exact Go_er | simp only [Go_ok, Go_stk, Go_er] | (simp only [Go_ok, Go_stk, Go_er]; rfl)
  | some x => cases x <;> (first | rfl | exact Go_ok | exact Go_stk | exact Go_er | simp only [Go_ok, Go_stk, Go_er] | (simp only [Go_ok, Go_stk, Go_er]; rfl))
@[simp] theorem g_slE {fa : Ev → Rs B} {fl fh : Ev → Rs (Option Int)} {Q : O → Ev → Prop} : Go (slE fa fl fh ρ) Q = Go (fa ρ) (fun a ρ1 => Go (fl ρ1) (fun l ρ2 => Go (fh ρ2) (fun h ρ3 => match (a.val ρ3).bind fun d => gSl d l h with | some o => Q o ρ3 | none => False))) := by
  unfold slE
  rw [Go_bnd]
  congr 1
  funext a ρ1
  rw [Go_bnd]
  congr 1
  funext l ρ2
  rw [Go_bnd]
  congr 1
  funext h ρ3
  cases h1 : a.val ρ3 with
  | none => first | rfl | exact Go_ok | exact Go_stk | exact Go_er | simp only [Go_ok, Go_stk, Go_er] | (simp only [Go_ok, Go_stk, Go_er]; rfl)
  | some x =>
    show Go (match gSl x l h with | some o => Rs.ok o ρ3 | none => .stk) Q = (match gSl x l h with | some o => Q o ρ3 | none => False)
    cases gSl x l h <;> (first | rfl | exact Go_ok | exact Go_stk | exact Go_er | simp only [Go_ok, Go_stk, Go_er] | (simp only [Go_ok, Go_stk, Go_er]; rfl))
@[simp] theorem g_mth {T : String} {g : D → List D → Option O} {fo : Ev → Rs B} {fs : Ev → Rs (List B)} {Q : O → Ev → Prop} : Go (mth T g fo fs ρ) Q = Go (fo ρ) (fun a ρ1 => match a.val ρ1 with
    | some x => tyOk T x = true ∧ Go (fs ρ1) (fun bs ρ2 => match (a.val ρ2).bind fun y => (vals ρ2 bs).bind fun ds => g y ds with | some o => Q o ρ2 | none => False)
    | none => False) := by
  unfold mth
  rw [Go_bnd]
  congr 1
  funext a ρ1
  cases h1 : a.val ρ1 with
  | none => first | rfl | exact Go_ok | exact Go_stk | exact Go_er | simp only [Go_ok, Go_stk, Go_er] | (simp only [Go_ok, Go_stk, Go_er]; rfl)
  | some x =>
    show Go (if tyOk T x = true then _ else _) Q = _
    by_cases ht : tyOk T x = true
    · rw [if_pos ht]
      simp only [ht, true_and]
      rw [Go_bnd]
      congr 1
      funext bs ρ2
      cases h2 : a.val ρ2 with
      | none => first | rfl | exact Go_ok | exact Go_stk | exact Go_er | simp only [Go_ok, Go_stk, Go_er] | (simp only [Go_ok, Go_stk, Go_er]; rfl)
      | some y =>
        cases h3 : vals ρ2 bs with
        | none => first | rfl | exact Go_ok | exact Go_stk | exact Go_er | simp only [Go_ok, Go_stk, Go_er] | (simp only [Go_ok, Go_stk, Go_er]; rfl)
        | some ds =>
          show Go (match g y ds with | some o => Rs.ok o ρ2 | none => .stk) Q = (match g y ds with | some o => Q o ρ2 | none => False)
          cases g y ds <;> (first | rfl | exact Go_ok | exact Go_stk | exact Go_er | simp only [Go_ok, Go_stk, Go_er] | (simp only [Go_ok, Go_stk, Go_er]; rfl))
    · rw [if_neg ht]
      simp [ht]
/-! statements -/
@[simp] theorem g_nxS {Q : Ctl → Ev → Prop} : Go (nxS ρ) Q = Q .nx ρ := by first | rfl | exact Go_ok | exact Go_stk | exact Go_er | simp only [Go_ok, Go_stk, Go_er] | (simp only [Go_ok, Go_stk, Go_er]; rfl)
@[simp] theorem g_bkS {Q : Ctl → Ev → Prop} : Go (bkS ρ) Q = Q .bk ρ := by first | rfl | exact Go_ok | exact Go_stk | exact Go_er | simp only [Go_ok, Go_stk, Go_er] | (simp only [Go_ok, Go_stk, Go_er]; rfl)
@[simp] theorem g_ctS {Q : Ctl → Ev → Prop} : Go (ctS ρ) Q = Q .ct ρ := by first | rfl | exact Go_ok | exact Go_stk | exact Go_er | simp only [Go_ok, Go_stk, Go_er] | (simp only [Go_ok, Go_stk, Go_er]; rfl)
@[simp] theorem g_retN {Q : Ctl → Ev → Prop} : Go (retN ρ) Q = Q (.rt (.leaf .none)) ρ := by first | rfl | exact Go_ok | exact Go_stk | exact Go_er | simp only [Go_ok, Go_stk, Go_er] | (simp only [Go_ok, Go_stk, Go_er]; rfl)
@[simp] theorem g_retS {f : Ev → Rs O} {Q : Ctl → Ev → Prop} : Go (retS f ρ) Q = Go (f ρ) (fun o ρ' => Q (.rt o) ρ') := by unfold retS; rw [Go_bnd]; first | rfl | exact Go_ok | exact Go_stk | exact Go_er | simp only [Go_ok, Go_stk, Go_er] | (simp only [Go_ok, Go_stk, Go_er]; rfl)
@[simp] theorem g_ifS {t : Ev → Rs Bool} {f g : Ev → Rs Ctl} {Q : Ctl → Ev → Prop} : Go (ifS t f g ρ) Q = Go (t ρ) (fun b ρ' => if b = true then Go (f ρ') Q else Go (g ρ') Q) := by
  unfold ifS
  rw [Go_bnd]
  congr 1
  funext b ρ1
  cases b <;> (first | rfl | exact Go_ok | exact Go_stk | exact Go_er | simp only [Go_ok, Go_stk, Go_er] | (simp only [Go_ok, Go_stk, Go_er]; rfl))
@[simp] theorem g_asgS {f : Ev → Rs O} {g : O → Ev → Rs Unit} {Q : Ctl → Ev → Prop} : Go (asgS f g ρ) Q = Go (f ρ) (fun o ρ1 => Go (g o ρ1) (fun _ ρ2 => Q .nx ρ2)) := by
  unfold asgS
  rw [Go_bnd]
  congr 1
  funext o ρ1
  rw [Go_bnd]
  first | rfl | exact Go_ok | exact Go_stk | exact Go_er | simp only [Go_ok, Go_stk, Go_er] | (simp only [Go_ok, Go_stk, Go_er]; rfl)
@[simp] theorem g_expS {f : Ev → Rs Unit} {Q : Ctl → Ev → Prop} : Go (expS f ρ) Q = Go (f ρ) (fun _ ρ1 => Q .nx ρ1) := by unfold expS; rw [Go_bnd]; first | rfl | exact Go_ok | exact Go_stk | exact Go_er | simp only [Go_ok, Go_stk, Go_er] | (simp only [Go_ok, Go_stk, Go_er]; rfl)
@[simp] theorem g_dropE {f : Ev → Rs O} {Q : Unit → Ev → Prop} : Go (dropE f ρ) Q = Go (f ρ) (fun _ ρ1 => Q () ρ1) := by unfold dropE; rw [Go_bnd]; first | rfl | exact Go_ok | exact Go_stk | exact Go_er | simp only [Go_ok, Go_stk, Go_er] | (simp only [Go_ok, Go_stk, Go_er]; rfl)
@[simp] theorem g_gN {i : Nat} {o : O} {Q : Unit → Ev → Prop} : Go (gN i o ρ) Q = (i < ρ.length ∧ Q () (ρ.set i (some (ow o)))) := by
  unfold gN
  by_cases h : i < ρ.length
  · rw [if_pos h]; simp [h]
  · rw [if_neg h]; simp [h]
@[simp] theorem g_gNilS {Q : Unit → Ev → Prop} : Go (gNilS [] ρ) Q = Q () ρ := by first | rfl | exact Go_ok | exact Go_stk | exact Go_er | simp only [Go_ok, Go_stk, Go_er] | (simp only [Go_ok, Go_stk, Go_er]; rfl)
@[simp] theorem g_gConsS {g : O → Ev → Rs Unit} {r : List D → Ev → Rs Unit} {d : D} {ds : List D} {Q : Unit → Ev → Prop} : Go (gConsS g r (d :: ds) ρ) Q = Go (g (.leaf d) ρ) (fun _ ρ1 => Go (r ds ρ1) Q) := by
  show Go (match g (.leaf d) ρ with | .ok _ ρ' => r ds ρ' | .er x ρ' => .er x ρ' | .stk => .stk) Q = _
  cases g (.leaf d) ρ <;> (first | rfl | exact Go_ok | exact Go_stk | exact Go_er | simp only [Go_ok, Go_stk, Go_er] | (simp only [Go_ok, Go_stk, Go_er]; rfl))
def seqD : O → Option (List D)
  | .leaf (.tuple ds) => some ds
  | .leaf (.list ds) => some ds
  | .lst ds => some ds
  | _ => none
@[simp] theorem seqD_t {ds : List D} : seqD (.leaf (.tuple ds)) = some ds := rfl
@[simp] theorem seqD_l {ds : List D} : seqD (.leaf (.list ds)) = some ds := rfl
@[simp] theorem seqD_o {ds : List D} : seqD (.lst ds) = some ds := rfl
@[simp] theorem g_gTupS {n : Nat} {r : List D → Ev → Rs Unit} {o : O} {Q : Unit → Ev → Prop} : Go (gTupS n r o ρ) Q = match seqD o with
    | some ds => ds.length = n ∧ Go (r ds ρ) Q
    | none => False := by
  have key : ∀ ds : List D, Go (if ds.length = n then r ds ρ else .stk) Q = (ds.length = n ∧ Go (r ds ρ) Q) := fun ds => by
    by_cases h : ds.length = n
    · rw [if_pos h]; simp [h]
    · rw [if_neg h]; simp [h]
  cases o with
  | leaf d => cases d <;> first | exact Go_stk | exact key _
  | lst ds => exact key ds
  | dic k => first | rfl | exact Go_ok | exact Go_stk | exact Go_er
@[simp] theorem g_gSubS {j : Nat} {fi : Ev → Rs B} {o : O} {Q : Unit → Ev → Prop} : Go (gSubS j fi o ρ) Q = ((look ρ j).isSome = true ∧ Go (fi ρ) (fun ix ρ1 => match (ix.val ρ1).bind fun k => (look ρ1 j).bind fun ex => (upC ex.o k o.d).map fun c => (⟨ex.io, c⟩ : E) with
    | some e => Q () (ρ1.set j (some e))
    | none => False)) := by
  unfold gSubS
  rw [Go_bnd, g_bv]
  congr 1
  rw [Go_bnd]
  congr 1
  funext ix ρ1
  cases ix.val ρ1 with
  | none => first | rfl | exact Go_ok | exact Go_stk | exact Go_er | simp only [Go_ok, Go_stk, Go_er] | (simp only [Go_ok, Go_stk, Go_er]; rfl)
  | some k =>
    simp only [Option.bind_some]
    unfold look
    cases ρ1[j]? with
    | none => first | rfl | exact Go_ok | exact Go_stk | exact Go_er | simp only [Go_ok, Go_stk, Go_er] | (simp only [Go_ok, Go_stk, Go_er]; rfl)
    | some m =>
      cases m with
      | none => first | rfl | exact Go_ok | exact Go_stk | exact Go_er | simp only [Go_ok, Go_stk, Go_er] | (simp only [Go_ok, Go_stk, Go_er]; rfl)
      | some ex =>
        simp only [Option.bind_some]
        cases upC ex.o k o.d <;> (first | rfl | exact Go_ok | exact Go_stk | exact Go_er | simp only [Go_ok, Go_stk, Go_er] | (simp only [Go_ok, Go_stk, Go_er]; rfl))
def appO : O → D → Option O
  | .lst ds, d => if ds.length < sizeLine then some (.lst (ds ++ [d])) else none
  | _, _ => none
@[simp] theorem g_appS {j : Nat} {fe : Ev → Rs O} {Q : Unit → Ev → Prop} : Go (appS j fe ρ) Q = ((∃ io ds, look ρ j = some ⟨io, .lst ds⟩) ∧ Go (fe ρ) (fun o ρ1 => match (look ρ1 j).bind fun ex => (appO ex.o o.d).map fun c => (⟨ex.io, c⟩ : E) with
    | some e => Q () (ρ1.set j (some e))
    | none => False)) := by
  unfold appS
  rw [Go_bnd, g_bv]
  cases h : ρ[j]? with
  | none => simp [look, h]
  | some m =>
    cases m with
    | none => simp [look, h]
    | some ex =>
      obtain ⟨io, o⟩ := ex
      have hl : look ρ j = some ⟨io, o⟩ := by unfold look; rw [h]
      rw [hl]
      cases o with
      | leaf d => simp
      | dic d => simp
      | lst ds =>
        simp only [Option.isSome_some, true_and]
        rw [Go_bnd]
        have e : (∃ io' ds', some (⟨io, .lst ds⟩ : E) = some ⟨io', .lst ds'⟩) = True := by simp
        rw [e, true_and]
        congr 1
        funext o ρ1
        unfold look
        cases ρ1[j]? with
        | none => first | rfl | exact Go_ok | exact Go_stk | exact Go_er | simp only [Go_ok, Go_stk, Go_er] | (simp only [Go_ok, Go_stk, Go_er]; rfl)
        | some m =>
          cases m with
          | none => first | rfl | exact Go_ok | exact Go_stk | exact Go_er | simp only [Go_ok, Go_stk, Go_er] | (simp only [Go_ok, Go_stk, Go_er]; rfl)
          | some ex1 =>
            obtain ⟨io1, o1⟩ := ex1
            cases o1 with
            | leaf d => first | rfl | exact Go_ok | exact Go_stk | exact Go_er
            | dic d => first | rfl | exact Go_ok | exact Go_stk | exact Go_er
            | lst ds1 =>
              show Go (if ds1.length < sizeLine then _ else _) Q = _
              simp only [Option.bind_some, appO]
              by_cases hs : ds1.length < sizeLine
              · rw [if_pos hs, if_pos hs]; exact Go_ok
              · rw [if_neg hs, if_neg hs]; exact Go_stk
/-! what is walked -/
@[simp] theorem g_seqI {f : Ev → Rs O} {Q : List D → Ev → Prop} : Go (seqI f ρ) Q = Go (f ρ) (fun o ρ' => match o.d with | .list ds => Q ds ρ' | .tuple ds => Q ds ρ' | .str z => Q (chars z) ρ' | _ => False) := by
  unfold seqI
  rw [Go_bnd]
  congr 1
  funext o ρ1
  cases o.d <;> (first | rfl | exact Go_ok | exact Go_stk | exact Go_er | simp only [Go_ok, Go_stk, Go_er] | (simp only [Go_ok, Go_stk, Go_er]; rfl))
@[simp] theorem leafs_nil : leafs [] ρ = some [] := rfl
@[simp] theorem leafs_tmp {o : O} {bs : List B} : leafs (.tmp o :: bs) ρ = (leafs bs ρ).map fun ds => o.d :: ds := by rw [leafs]; cases leafs bs ρ <;> (first | rfl | exact Go_ok | exact Go_stk | exact Go_er | simp only [Go_ok, Go_stk, Go_er] | (simp only [Go_ok, Go_stk, Go_er]; rfl))
@[simp] theorem g_nmI {i : Nat} {Q : List D → Ev → Prop} : Go (nmI i ρ) Q = Go (rv i ρ) (fun o ρ' => match o.d with | .list ds => Q ds ρ' | .tuple ds => Q ds ρ' | .str z => Q (chars z) ρ' | .dict kvs => Q (keyL kvs) ρ' | _ => False) := by
  unfold nmI
  rw [Go_bnd]
  congr 1
  funext o ρ1
  cases o.d <;> (first | rfl | exact Go_ok | exact Go_stk | exact Go_er | simp only [Go_ok, Go_stk, Go_er] | (simp only [Go_ok, Go_stk, Go_er]; rfl))
@[simp] theorem g_rng1 {fs : Ev → Rs (List B)} {Q : List D → Ev → Prop} : Go (rng1 fs ρ) Q = Go (fs ρ) (fun bs ρ' => match vals ρ' bs with | some [.int j] => (-(2 ^ 62) ≤ j ∧ j < 2 ^ 62) ∧ Q (rangeD 0 j) ρ' | _ => False) := by
  unfold rng1
  rw [Go_bnd]
  congr 1
  funext bs ρ1
  split
  · rename_i j hj
    try simp only [hj]
    by_cases h : -(2 ^ 62) ≤ j ∧ j < 2 ^ 62
    · rw [cif_pos h, Go_ok]; exact propext ⟨fun q => ⟨h, q⟩, fun q => q.2⟩
    · rw [cif_neg h, Go_stk]; exact propext ⟨False.elim, fun q => h q.1⟩
  · rename_i h
    first
    | exact Go_stk
    | (split
       · rename_i j hj; exact absurd hj (h j)
       · exact Go_stk)
@[simp] theorem g_rng2 {fs : Ev → Rs (List B)} {Q : List D → Ev → Prop} : Go (rng2 fs ρ) Q = Go (fs ρ) (fun bs ρ' => match vals ρ' bs with | some [.int i, .int j] => (-(2 ^ 62) ≤ i ∧ i < 2 ^ 62 ∧ -(2 ^ 62) ≤ j ∧ j < 2 ^ 62) ∧ Q (rangeD i j) ρ' | _ => False) := by
  unfold rng2
  rw [Go_bnd]
  congr 1
  funext bs ρ1
  split
  · rename_i i j hj
    try simp only [hj]
    by_cases h : -(2 ^ 62) ≤ i ∧ i < 2 ^ 62 ∧ -(2 ^ 62) ≤ j ∧ j < 2 ^ 62
    · rw [cif_pos h, Go_ok]; exact propext ⟨fun q => ⟨h, q⟩, fun q => q.2⟩
    · rw [cif_neg h, Go_stk]; exact propext ⟨False.elim, fun q => h q.1⟩
  · rename_i h
    first
    | exact Go_stk
    | (split
       · rename_i i j hj; exact absurd hj (h i j)
       · exact Go_stk)
@[simp] theorem g_rng3 {fs : Ev → Rs (List B)} {Q : List D → Ev → Prop} : Go (rng3 fs ρ) Q = Go (fs ρ) (fun bs ρ' => match vals ρ' bs with | some [.int i, .int j, .int c] => (c = -1 ∧ -(2 ^ 62) ≤ i ∧ i < 2 ^ 62 ∧ -(2 ^ 62) ≤ j ∧ j < 2 ^ 62) ∧ Q (rangeDown i j) ρ' | _ => False) := by
  unfold rng3
  rw [Go_bnd]
  congr 1
  funext bs ρ1
  split
  · rename_i i j c hj
    try simp only [hj]
    by_cases h : c = -1 ∧ -(2 ^ 62) ≤ i ∧ i < 2 ^ 62 ∧ -(2 ^ 62) ≤ j ∧ j < 2 ^ 62
    · rw [cif_pos h, Go_ok]; exact propext ⟨fun q => ⟨h, q⟩, fun q => q.2⟩
    · rw [cif_neg h, Go_stk]; exact propext ⟨False.elim, fun q => h q.1⟩
  · rename_i h
    first
    | exact Go_stk
    | (split
       · rename_i i j c hj; exact absurd hj (h i j c)
       · exact Go_stk)
@[simp] theorem g_enumI {fs : Ev → Rs (List B)} {Q : List D → Ev → Prop} : Go (enumI fs ρ) Q = Go (fs ρ) (fun bs ρ' => match tmpD bs with | some [.list ds] => Q (enumD 0 ds) ρ' | _ => False) := by
  unfold enumI
  rw [Go_bnd]
  congr 1
  funext bs ρ1
  split
  · rename_i ds hd; first | exact Go_ok | (simp only [hd]; exact Go_ok)
  · rename_i h
    first
    | exact Go_stk
    | (split
       · rename_i ds hd; exact absurd hd (h ds)
       · exact Go_stk)
@[simp] theorem g_zipI {fs : Ev → Rs (List B)} {Q : List D → Ev → Prop} : Go (zipI fs ρ) Q = Go (fs ρ) (fun bs ρ' => match tmpD bs with | some [.list ds, .list es] => Q (zipD ds es) ρ' | _ => False) := by
  unfold zipI
  rw [Go_bnd]
  congr 1
  funext bs ρ1
  split
  · rename_i ds es hd; first | exact Go_ok | (simp only [hd]; exact Go_ok)
  · rename_i h
    first
    | exact Go_stk
    | (split
       · rename_i ds es hd; exact absurd hd (h ds es)
       · exact Go_stk)
@[simp] theorem g_cons {f g : Ev → Rs Ctl} {Q : Ctl → Ev → Prop} : Go (cons f g ρ) Q = Go (f ρ) (fun c ρ' => match c with | .nx => Go (g ρ') Q | c => Q c ρ') := Go_cons
end
end Y
/-! Y: what the operations give, plainly -/
namespace Y
open PySem PySem.Spec PyProof.Rows L2

abbrev St (l : List Nat) : D := .str (SX.S l)
@[simp] theorem gAdd_i {a b : Int} : gAdd (.int a) (.int b) = some (.leaf (.int (a + b))) := rfl
@[simp] theorem gSub_i {a b : Int} : gSub (.int a) (.int b) = some (.leaf (.int (a - b))) := rfl
theorem gMul_i {a b : Int} : gMulI (.int a) (.int b) = if okMul a b = true then some (.leaf (.int (a * b))) else none := rfl
theorem okMul_l {a b : Int} (h1 : -(2 ^ 64) < a) (h2 : a < 2 ^ 64) : okMul a b = true := by
  unfold okMul
  rw [decide_eq_true h1, decide_eq_true h2]
  rfl
theorem okMul_r {a b : Int} (h1 : -(2 ^ 64) < b) (h2 : b < 2 ^ 64) : okMul a b = true := by
  unfold okMul
  rw [decide_eq_true h1, decide_eq_true h2]
  simp
theorem okMul_w {a b : Int} (h : a.natAbs.log2 + b.natAbs.log2 < 1000000) : okMul a b = true := by
  unfold okMul
  rw [decide_eq_true h]
  simp
theorem gMul_l {a b : Int} (h1 : -(2 ^ 64) < a) (h2 : a < 2 ^ 64) : gMulI (.int a) (.int b) = some (.leaf (.int (a * b))) := by rw [gMul_i, if_pos (okMul_l h1 h2)]
theorem gMul_r {a b : Int} (h1 : -(2 ^ 64) < b) (h2 : b < 2 ^ 64) : gMulI (.int a) (.int b) = some (.leaf (.int (a * b))) := by rw [gMul_i, if_pos (okMul_r h1 h2)]
theorem gMul_w {a b : Int} (h : a.natAbs.log2 + b.natAbs.log2 < 1000000) : gMulI (.int a) (.int b) = some (.leaf (.int (a * b))) := by rw [gMul_i, if_pos (okMul_w h)]
theorem gDiv_p {a b : Int} (h : 0 < b) (h2 : b < 2 ^ 62) : gDiv (.int a) (.int b) = some (.leaf (.int (a / b))) := by
  show (if 0 < b ∧ b.natAbs.log2 < 9000 then _ else _) = _
  have hb : b.natAbs < 2 ^ 63 := by omega
  have : b.natAbs.log2 < 63 := by
    rw [Nat.log2_lt (by omega)]
    exact hb
  rw [if_pos ⟨h, by omega⟩]
theorem gMod_p {a b : Int} (h : 0 < b) : gMod (.int a) (.int b) = some (.leaf (.int (a % b))) := by
  show (if 0 < b then _ else _) = _
  rw [if_pos h]
theorem gPow_p {a b : Int} (h : 0 ≤ b ∧ b ≤ 1000000 ∧ a.natAbs < 2 ^ 64) : gPow (.int a) (.int b) = some (.leaf (.int (a ^ b.toNat))) := by
  show (if _ then _ else _) = _
  rw [if_pos h]
@[simp] theorem gNeg_i {a : Int} : gNeg (.int a) = some (.leaf (.int (-a))) := rfl
theorem gAdd_s {a b : List Nat} (h : a.length + b.length ≤ 10000) : gAdd (St a) (St b) = some (.leaf (St (a ++ b))) := by
  show (if (SX.S a).length + (SX.S b).length ≤ sizeLine then _ else _) = _
  rw [SX.S_len, SX.S_len, if_pos (by rw [sizeLine_eq]; omega), SX.S_cat]
theorem gAdd_l {a b : List D} (h : a.length + b.length ≤ 10000) : gAdd (.list a) (.list b) = some (.lst (a ++ b)) := by
  show (if a.length + b.length ≤ sizeLine then _ else _) = _
  rw [if_pos (by rw [sizeLine_eq]; omega)]
/-! comparisons -/
@[simp] theorem gLt_i {a b : Int} : gLt (.int a) (.int b) = some (decide (a < b)) := rfl
@[simp] theorem gLe_i {a b : Int} : gLe (.int a) (.int b) = some (decide (a ≤ b)) := rfl
@[simp] theorem gGt_i {a b : Int} : gGt (.int a) (.int b) = some (decide (b < a)) := rfl
@[simp] theorem gGe_i {a b : Int} : gGe (.int a) (.int b) = some (decide (b ≤ a)) := rfl
@[simp] theorem gEq_i {a b : Int} : gEq (.int a) (.int b) = some (decide (a = b)) := by
  show (if fits 60 (.int a) = true ∧ fits 60 (.int b) = true then some (PyData.eqv (.int a) (.int b)) else none) = _
  rw [if_pos ⟨by simp [fits], by simp [fits]⟩]
  simp only [PyData.eqv]
  congr 1
@[simp] theorem gNe_i {a b : Int} : gNe (.int a) (.int b) = some (!decide (a = b)) := by
  show (if fits 60 (.int a) = true ∧ fits 60 (.int b) = true then some (!PyData.eqv (.int a) (.int b)) else none) = _
  rw [if_pos ⟨by simp [fits], by simp [fits]⟩]
  simp only [PyData.eqv]
  congr 1
theorem eqv_s {a b : List Nat} : PyData.eqv (St a) (St b) = decide (a = b) := by
  simp only [PyData.eqv]
  exact SX.S_beq_eq
@[simp] theorem gEq_s {a b : List Nat} : gEq (St a) (St b) = some (decide (a = b)) := by
  show (if fits 60 (St a) = true ∧ fits 60 (St b) = true then some (PyData.eqv (St a) (St b)) else none) = _
  rw [if_pos ⟨by simp [fits], by simp [fits]⟩, eqv_s]
@[simp] theorem gNe_s {a b : List Nat} : gNe (St a) (St b) = some (!decide (a = b)) := by
  show (if fits 60 (St a) = true ∧ fits 60 (St b) = true then some (!PyData.eqv (St a) (St b)) else none) = _
  rw [if_pos ⟨by simp [fits], by simp [fits]⟩, eqv_s]
@[simp] theorem gEq_b {a b : Bool} : gEq (.bool a) (.bool b) = some (a == b) := by
  show (if fits 60 (.bool a) = true ∧ fits 60 (.bool b) = true then some (PyData.eqv (.bool a) (.bool b)) else none) = _
  rw [if_pos ⟨by simp [fits], by simp [fits]⟩]
  cases a <;> cases b <;> simp [PyData.eqv]
@[simp] theorem gNe_b {a b : Bool} : gNe (.bool a) (.bool b) = some (!(a == b)) := by
  show (if fits 60 (.bool a) = true ∧ fits 60 (.bool b) = true then some (!PyData.eqv (.bool a) (.bool b)) else none) = _
  rw [if_pos ⟨by simp [fits], by simp [fits]⟩]
  cases a <;> cases b <;> simp [PyData.eqv]
@[simp] theorem gNe_ns {b : List Nat} : gNe .none (St b) = some true := by
  show (if fits 60 .none = true ∧ fits 60 (St b) = true then some (!PyData.eqv .none (St b)) else none) = _
  rw [if_pos ⟨by simp [fits], by simp [fits]⟩]
  simp [PyData.eqv]
@[simp] theorem gEq_ns {b : List Nat} : gEq .none (St b) = some false := by
  show (if fits 60 .none = true ∧ fits 60 (St b) = true then some (PyData.eqv .none (St b)) else none) = _
  rw [if_pos ⟨by simp [fits], by simp [fits]⟩]
  simp [PyData.eqv]
/-! built-ins -/
@[simp] theorem gInt_i {a : Int} : gInt [.int a] = some (.leaf (.int a)) := rfl
theorem gLen_s {a : List Nat} (h : a.length ≤ 10000) : gLenA [St a] = some (.leaf (.int a.length)) := by
  show (if (SX.S a).length ≤ sizeLine then some (O.leaf (.int (SX.S a).length)) else none) = _
  rw [SX.S_len, if_pos (by rw [sizeLine_eq]; omega)]
@[simp] theorem gLen_l {a : List D} : gLenA [.list a] = some (.leaf (.int a.length)) := rfl
@[simp] theorem gLen_t {a : List D} : gLenA [.tuple a] = some (.leaf (.int a.length)) := rfl
theorem gLen_d {a : List (D × D)} (h : kkeys a = true) : gLenA [.dict a] = some (.leaf (.int a.length)) := rfl
@[simp] theorem gLen_dA {a : List (D × D)} : gLenA [.dict a] = some (.leaf (.int a.length)) := rfl
@[simp] theorem gMin_2 {a b : Int} : gMinI [.int a, .int b] = some (.leaf (.int (min a b))) := rfl
@[simp] theorem gMax_2 {a b : Int} : gMax [.int a, .int b] = some (.leaf (.int (max a b))) := rfl
theorem gMax_l {ns : List Int} (h : ns ≠ []) : gMax [.list (ns.map .int)] = some (.leaf (.int (maxI ns))) := by
  show (match intsD (ns.map .int) with | some (n :: ns) => some (O.leaf (.int (maxI (n :: ns)))) | _ => none) = _
  rw [intsD_map]
  cases ns with
  | nil => exact absurd rfl h
  | cons a r => rfl
theorem gMin_l {ns : List Int} (h : ns ≠ []) : gMinI [.list (ns.map .int)] = some (.leaf (.int (minI ns))) := by
  show (match intsD (ns.map .int) with | some (n :: ns) => some (O.leaf (.int (minI (n :: ns)))) | _ => none) = _
  rw [intsD_map]
  cases ns with
  | nil => exact absurd rfl h
  | cons a r => rfl
@[simp] theorem gList_l {a : List D} : gList [.list a] = some (.lst a) := rfl
@[simp] theorem gList_t {a : List D} : gList [.tuple a] = some (.lst a) := rfl
@[simp] theorem gTuple_l {a : List D} : gTuple [.list a] = some (.leaf (.tuple a)) := rfl
theorem gAll_l {bs : List Bool} : gAll [.list (bs.map .bool)] = some (.leaf (.bool (bs.all id))) := by
  show (boolsD (bs.map .bool)).map _ = _
  rw [boolsD_map]; rfl
theorem gAny_l {bs : List Bool} : gAny [.list (bs.map .bool)] = some (.leaf (.bool (bs.any id))) := by
  show (boolsD (bs.map .bool)).map _ = _
  rw [boolsD_map]; rfl
/-! subscripts -/
theorem gIx_l {ds : List D} {i : Nat} {d : D} (h : ds[i]? = some d) : gIx (.list ds) (.int i) = some (.leaf d) := by
  show (atI ds (i : Int)).map _ = _
  rw [atI_nat h]; rfl
theorem gIx_t {ds : List D} {i : Nat} {d : D} (h : ds[i]? = some d) : gIx (.tuple ds) (.int i) = some (.leaf d) := by
  show (atI ds (i : Int)).map _ = _
  rw [atI_nat h]; rfl
@[simp] theorem gIx_l0 {a : D} {r : List D} : gIx (.list (a :: r)) (.int 0) = some (.leaf a) := gIx_l (i := 0) rfl
@[simp] theorem gIx_l1 {a b : D} {r : List D} : gIx (.list (a :: b :: r)) (.int 1) = some (.leaf b) := gIx_l (i := 1) rfl
@[simp] theorem gIx_l2 {a b c : D} {r : List D} : gIx (.list (a :: b :: c :: r)) (.int 2) = some (.leaf c) := gIx_l (i := 2) rfl
@[simp] theorem gIx_l3 {a b c d : D} {r : List D} : gIx (.list (a :: b :: c :: d :: r)) (.int 3) = some (.leaf d) := gIx_l (i := 3) rfl
@[simp] theorem gIx_t0 {a : D} {r : List D} : gIx (.tuple (a :: r)) (.int 0) = some (.leaf a) := gIx_t (i := 0) rfl
@[simp] theorem gIx_t1 {a b : D} {r : List D} : gIx (.tuple (a :: b :: r)) (.int 1) = some (.leaf b) := gIx_t (i := 1) rfl
@[simp] theorem gIx_t2 {a b c : D} {r : List D} : gIx (.tuple (a :: b :: c :: r)) (.int 2) = some (.leaf c) := gIx_t (i := 2) rfl
theorem gIx_lI {ds : List D} {i : Int} {d : D} (h0 : 0 ≤ i) (h : ds[i.toNat]? = some d) : gIx (.list ds) (.int i) = some (.leaf d) := by
  have : i = (i.toNat : Nat) := by omega
  rw [this]
  exact gIx_l (by simpa using h)
theorem gIx_s {l : List Nat} {i : Nat} {c : Nat} (hl : l.length ≤ 10000) (h : l[i]? = some c) : gIx (St l) (.int i) = some (.leaf (St [c])) := by
  show (if (SX.S l).length ≤ sizeLine then (atI (SX.S l).cps.toList (i : Int)).map _ else none) = _
  rw [SX.S_len, if_pos (by rw [sizeLine_eq]; omega), show (SX.S l).cps.toList = l from rfl, atI_nat h]
  rfl
theorem gIx_sI {l : List Nat} {i : Int} {c : Nat} (hl : l.length ≤ 10000) (h0 : 0 ≤ i) (h : l[i.toNat]? = some c) : gIx (St l) (.int i) = some (.leaf (St [c])) := by
  have : i = (i.toNat : Nat) := by omega
  rw [this]
  exact gIx_s hl (by simpa using h)
theorem ixN_nat {n i : Nat} (h : i < n) : ixN n (i : Int) = some i := by
  unfold ixN
  rw [if_pos (by omega), if_pos (by omega)]
  simp
theorem upC_l {ds : List D} {i : Nat} {d : D} (h : i < ds.length) : upC (.lst ds) (.int i) d = some (.lst (ds.set i d)) := by
  show (ixN ds.length (i : Int)).map _ = _
  rw [ixN_nat h]
  rfl
@[simp] theorem upC_4_1 {a b c d x : D} : upC (.lst [a, b, c, d]) (.int 1) x = some (.lst [a, x, c, d]) := rfl
@[simp] theorem upC_4_2 {a b c d x : D} : upC (.lst [a, b, c, d]) (.int 2) x = some (.lst [a, b, x, d]) := rfl
@[simp] theorem upC_4_3 {a b c d x : D} : upC (.lst [a, b, c, d]) (.int 3) x = some (.lst [a, b, c, x]) := rfl
/-! slices of texts and lists -/
theorem cut_to {α : Type} {l : List α} {i : Nat} : cutD l none (some (i : Int)) = l.take i := by
  unfold cutD
  rw [HT.sIx_nat, HT.sIx_none, List.drop_zero, Nat.sub_zero, List.take_eq_take_iff]
  omega
theorem cut_from {α : Type} {l : List α} {i : Nat} : cutD l (some (i : Int)) none = l.drop i := by
  unfold cutD
  rw [HT.sIx_nat, HT.sIx_none]
  by_cases h : i ≤ l.length
  · rw [Nat.min_eq_left h, List.take_of_length_le (by rw [List.length_drop]; omega)]
  · have e : min i l.length = l.length := by omega
    rw [e, List.drop_eq_nil_of_le (by omega : l.length ≤ i), List.drop_eq_nil_of_le (Nat.le_refl _)]
    simp
theorem cut_ft {α : Type} {l : List α} {i j : Nat} : cutD l (some (i : Int)) (some (j : Int)) = (l.take j).drop i := by
  unfold cutD
  rw [HT.sIx_nat, HT.sIx_nat, List.drop_take]
  by_cases h : i ≤ l.length
  · rw [Nat.min_eq_left h, List.take_eq_take_iff, List.length_drop]
    omega
  · have e : min i l.length = l.length := by omega
    rw [e, List.drop_eq_nil_of_le (by omega : l.length ≤ i), List.drop_eq_nil_of_le (Nat.le_refl _)]
    simp
theorem gSl_l {ds : List D} {a b : Option Int} : gSl (.list ds) a b = some (.lst (cutD ds a b)) := rfl
theorem gSl_s {l : List Nat} {a b : Option Int} (h : l.length ≤ 10000) : gSl (St l) a b = some (.leaf (St (cutD l a b))) := by
  show (if (SX.S l).length ≤ sizeLine then some (O.leaf (.str (cutS (SX.S l) a b))) else none) = _
  rw [SX.S_len, if_pos (by rw [sizeLine_eq]; omega)]
  have : cutS (SX.S l) a b = SX.S (cutD l a b) := by
    unfold cutS cutD
    rw [SX.S_len]
  rw [this]
end Y
/-! Y: dicts by texts, sorting, comprehensions again -/
namespace Y
open PySem PySem.Spec PyProof.Rows L2

/-! ### dicts whose keys are texts -/
def kvS (f : List Nat → D) (ls : List (List Nat)) : List (D × D) := ls.map fun l => (St l, f l)
theorem kvS_len {f : List Nat → D} {ls : List (List Nat)} : (kvS f ls).length = ls.length := by unfold kvS; rw [List.length_map]
theorem kvS_keys {f : List Nat → D} {ls : List (List Nat)} : keyL (kvS f ls) = ls.map St := by
  unfold keyL kvS
  rw [List.map_map]
  rfl
theorem kvS_kk {f : List Nat → D} {ls : List (List Nat)} : kkeys (kvS f ls) = true := by
  unfold kkeys kvS
  rw [List.all_eq_true]
  intro p hp
  obtain ⟨l, _, e⟩ := List.mem_map.mp hp
  subst e
  rfl
theorem kvS_kind {f : List Nat → D} {ls : List (List Nat)} {l : List Nat} : kindOk (kvS f ls) (St l) = true := by
  cases ls <;> rfl
theorem kvS_look {f : List Nat → D} {l : List Nat} : ∀ {ls : List (List Nat)}, lookD (kvS f ls) (St l) = if l ∈ ls then some (f l) else none
  | [] => by simp [kvS, lookD]
  | a :: ls => by
    show (if PyData.eqv (St a) (St l) = true then some (f a) else lookD (kvS f ls) (St l)) = _
    rw [eqv_s, kvS_look (ls := ls)]
    by_cases e : a = l
    · subst e; simp
    · have : ¬ l = a := fun z => e z.symm
      simp [e, this]
theorem kvS_put {f : List Nat → D} {ls : List (List Nat)} {l : List Nat} (h : l ∉ ls) : putD (kvS f ls) (St l) (f l) = kvS f (ls ++ [l]) := by
  unfold putD
  rw [kvS_look, if_neg h]
  simp [kvS]
theorem upC_s {f : List Nat → D} {ls : List (List Nat)} {l : List Nat} (h : l ∉ ls) (hl : ls.length ≤ 1000) : upC (.dic (kvS f ls)) (St l) (f l) = some (.dic (kvS f (ls ++ [l]))) := by
  show (if kindOk (kvS f ls) (St l) = true ∧ (kvS f ls).length < sizeLine then some (O.dic (putD (kvS f ls) (St l) (f l))) else none) = _
  rw [if_pos ⟨kvS_kind, by rw [kvS_len, sizeLine_eq]; omega⟩, kvS_put h]
theorem gIx_ds {f : List Nat → D} {ls : List (List Nat)} {l : List Nat} (h : l ∈ ls) : gIx (.dict (kvS f ls)) (St l) = some (.leaf (f l)) := by
  show (if kindOk (kvS f ls) (St l) = true then (lookD (kvS f ls) (St l)).map O.leaf else none) = _
  rw [if_pos kvS_kind, kvS_look, if_pos h]
  rfl
theorem gIn_ds {f : List Nat → D} {ls : List (List Nat)} {l : List Nat} : gIn (St l) (.dict (kvS f ls)) = some (decide (l ∈ ls)) := by
  show (if kindOk (kvS f ls) (St l) = true then some (lookD (kvS f ls) (St l)).isSome else none) = _
  rw [if_pos kvS_kind, kvS_look]
  by_cases h : l ∈ ls <;> simp [h]
theorem gNotIn_ds {f : List Nat → D} {ls : List (List Nat)} {l : List Nat} : gNotIn (St l) (.dict (kvS f ls)) = some (!decide (l ∈ ls)) := by
  unfold gNotIn
  rw [gIn_ds]; rfl
/-! ### lists of texts -/
theorem fits_s {n : Nat} {l : List Nat} : fits n (St l) = true := by cases n <;> rfl
theorem any_s {l : List Nat} : ∀ {ls : List (List Nat)}, (ls.map St).any (fun z => PyData.eqv z (St l)) = decide (l ∈ ls)
  | [] => by simp
  | a :: ls => by
    rw [List.map_cons, List.any_cons, any_s (ls := ls), eqv_s]
    by_cases e : a = l
    · subst e; simp
    · have : ¬ l = a := fun z => e z.symm
      simp [e, this]
theorem gIn_ls {ls : List (List Nat)} {l : List Nat} : gIn (St l) (.list (ls.map St)) = some (decide (l ∈ ls)) := by
  show (if fits 59 (St l) = true ∧ (ls.map St).all (fits 59) = true then some ((ls.map St).any fun z => PyData.eqv z (St l)) else none) = _
  rw [if_pos ⟨fits_s, by rw [List.all_eq_true]; intro d hd; obtain ⟨x, _, e⟩ := List.mem_map.mp hd; subst e; exact fits_s⟩, any_s]
theorem gNotIn_ls {ls : List (List Nat)} {l : List Nat} : gNotIn (St l) (.list (ls.map St)) = some (!decide (l ∈ ls)) := by
  unfold gNotIn
  rw [gIn_ls]; rfl
/-! ### sorting texts -/
def sortS (ls : List (List Nat)) : List (List Nat) := ls.mergeSort fun a b => decide (a ≤ b)
theorem sortS_perm (ls : List (List Nat)) : (sortS ls).Perm ls := List.mergeSort_perm ls _
theorem sortS_sorted (ls : List (List Nat)) : (sortS ls).Pairwise (· ≤ ·) := by
  have := List.pairwise_mergeSort (le := fun a b : List Nat => decide (a ≤ b)) (fun a b c h1 h2 => by
    simp only [decide_eq_true_eq] at *
    exact List.le_trans h1 h2) (fun a b => by
    rcases List.le_total a b with h | h
    · simp [h]
    · simp [h]) ls
  refine this.imp fun h => ?_
  simpa using h
theorem gSorted_s {ls : List (List Nat)} : gSorted [.list (ls.map St)] = some (.lst ((sortS ls).map St)) := by
  have hok : sortOk (ls.map St) = true := by
    unfold sortOk
    simp only [Bool.and_eq_true, Bool.or_eq_true, List.all_eq_true]
    refine ⟨⟨fun d hd e he => ?_, fun d hd => ?_⟩, .inr fun d hd => ?_⟩
    · obtain ⟨x, _, rfl⟩ := List.mem_map.mp hd
      obtain ⟨y, _, rfl⟩ := List.mem_map.mp he
      rfl
    · obtain ⟨x, _, rfl⟩ := List.mem_map.mp hd
      exact fits_s
    · obtain ⟨x, _, rfl⟩ := List.mem_map.mp hd
      rfl
  show (if sortOk (ls.map St) = true then some (O.lst (sortD (ls.map St))) else none) = _
  rw [if_pos hok]
  unfold sortD sortS
  rw [List.map_mergeSort (s := PySem.W.dataLe false id)]
  intro a _ b _
  have := congrFun (congrFun (PySem.W.dataLe_str (fun x : List Nat => SX.S x)) a) b
  exact this.symm
/-! ### comprehensions -/
theorem Go_lc2 {it : Ev → Rs (List D)} {vs : List Nat} {tg : O → Ev → Rs Unit} {tt : Ev → Rs Bool} {el : Ev → Rs O} {ρ : Ev} {Q : O → Ev → Prop} (c : D → Bool) (e : D → D)
    (h : Go (it ρ) (fun ds ρ1 => hidable ρ1 vs = true ∧ ds.length ≤ 1000 ∧
      (∀ d ∈ ds, Go (tg (.leaf d) (wipeE ρ1 vs)) (fun _ ρ2 => Go (tt ρ2) (fun b ρ3 => b = c d ∧ if c d = true then Go (el ρ3) (fun o ρ4 => o.d = e d ∧ wipeE ρ4 vs = wipeE ρ1 vs) else wipeE ρ3 vs = wipeE ρ1 vs))) ∧
      Q (.lst ((ds.filter c).map e)) (unhide ρ1 (wipeE ρ1 vs) vs))) : Go (lcE it vs tg tt el ρ) Q := by
  obtain ⟨ds, ρ1, e1, h1, h2, h3, h4⟩ := h.ex
  exact Go_lc c e e1 h1 h2 h3 h4
theorem Go_lcm2 {it : Ev → Rs (List D)} {vs : List Nat} {tg : O → Ev → Rs Unit} {el : Ev → Rs O} {ρ : Ev} {Q : O → Ev → Prop} (e : D → D)
    (h : Go (it ρ) (fun ds ρ1 => hidable ρ1 vs = true ∧ ds.length ≤ 1000 ∧
      (∀ d ∈ ds, Go (tg (.leaf d) (wipeE ρ1 vs)) (fun _ ρ2 => Go (el ρ2) (fun o ρ4 => o.d = e d ∧ wipeE ρ4 vs = wipeE ρ1 vs))) ∧
      Q (.lst (ds.map e)) (unhide ρ1 (wipeE ρ1 vs) vs))) : Go (lcE it vs tg yesT el ρ) Q := by
  obtain ⟨ds, ρ1, e1, h1, h2, h3, h4⟩ := h.ex
  exact Go_lcm e e1 h1 h2 h3 h4
theorem Go_for2 {it : Ev → Rs (List D)} {cl : List Nat} {tg : O → Ev → Rs Unit} {body : Ev → Rs Ctl} {ρ : Ev} {Q : Ctl → Ev → Prop} (h : Go (it ρ) (fun ds ρ0 => ∃ P : Nat → Ev → Prop, P 0 (clrs ρ0 cl) ∧
    (∀ k d ρ, ds[k]? = some d → P k ρ → Go (tg (.leaf d) ρ) (fun _ ρ1 => Go (body ρ1) (fun c ρ2 => c = .nx ∧ P (k + 1) (clrs ρ2 cl)))) ∧ (∀ ρ, P ds.length ρ → Q .nx ρ))) : Go (forS it tg body cl ρ) Q := by
  obtain ⟨ds, ρ0, e, P, h0, hs, hq⟩ := h.ex
  exact Go_for P e h0 hs hq
theorem tmp_leafs {ρ : Ev} : ∀ {bs : List B} {ds : List D}, tmpD bs = some ds → leafs bs ρ = some ds
  | [], _, h => by cases h; rfl
  | .tmp o :: bs, ds, h => by
    rw [tmpD_tmp] at h
    obtain ⟨ds', h', e⟩ := Option.map_eq_some_iff.mp h
    rw [leafs_tmp, tmp_leafs h', ← e]
    rfl
  | .slot _ :: _, _, h => by cases h
/-- a call that is lent the list of ours at slot j, its other arguments whole -/
theorem Go_callJ {F : Fn} {rest : Ev → Rs (List B)} {ρ : Ev} {j : Nat} {Q : O → Ev → Prop} (h : (look ρ j).isSome = true ∧ Go (rest ρ) (fun bs ρ1 => match tmpD bs, look ρ1 j with
    | some ds, some ⟨io, .lst xs⟩ => Go (F (⟨true, .lst xs⟩ :: ds.map lf)) (fun d ρ' => match look ρ' 0 with
      | some ⟨true, .lst ys⟩ => Q d (ρ1.set j (some ⟨io, .lst ys⟩))
      | _ => False)
    | _, _ => False)) : Go (callS F (aCons (bv j) rest) ρ) Q := by
  refine Go_callP ?_
  rw [g_aCons, g_bv]
  refine ⟨h.1, h.2.mono fun bs ρ1 h => ?_⟩
  split at h
  · rename_i ds io xs e1 e2
    refine ⟨j, bs, io, xs, ds, rfl, look_of e2, tmp_leafs e1, tmp_leafs e1, h.mono fun d ρ' h => ?_⟩
    split at h
    · rename_i ys e3
      refine ⟨ys, look_of e3, ?_⟩
      rw [List.set_set]
      exact h
    · exact h.elim
  · exact h.elim
/-- what a name holds is shared already -/
theorem set_same {ρ : Ev} {i : Nat} {e : E} (h : ρ[i]? = some (some e)) : ρ.set i (some e) = ρ := by
  obtain ⟨h1, h2⟩ := List.getElem?_eq_some_iff.mp h
  rw [← h2, List.set_getElem_self]
@[simp] theorem wipe_nil {ρ : Ev} : wipeE ρ [] = ρ := rfl
@[simp] theorem wipe_cons {ρ : Ev} {i : Nat} {is : List Nat} : wipeE ρ (i :: is) = (wipeE ρ is).set i none := rfl
@[simp] theorem unhide_nil {ρ ρ' : Ev} : unhide ρ ρ' [] = ρ' := rfl
@[simp] theorem unhide_cons {ρ ρ' : Ev} {i : Nat} {is : List Nat} : unhide ρ ρ' (i :: is) = (unhide ρ ρ' is).set i ((ρ[i]?).getD none) := rfl
@[simp] theorem clrs_nil {ρ : Ev} : clrs ρ [] = ρ := rfl
@[simp] theorem clrs_cons {ρ : Ev} {i : Nat} {is : List Nat} : clrs ρ (i :: is) = (clrs ρ is).set i none := rfl
def hid1 : Option E → Bool
  | some ⟨false, .leaf _⟩ => true
  | none => true
  | _ => false
@[simp] theorem hid1_none : hid1 none = true := rfl
@[simp] theorem hid1_lf {d : D} : hid1 (some ⟨false, .leaf d⟩) = true := rfl
@[simp] theorem hidable_nil {ρ : Ev} : hidable ρ [] = true := rfl
@[simp] theorem hidable_cons {ρ : Ev} {i : Nat} {is : List Nat} : hidable ρ (i :: is) = (hid1 (look ρ i) && hidable ρ is) := by
  unfold hidable
  rw [List.all_cons]
  congr 1
  unfold look hid1
  cases ρ[i]? with
  | none => rfl
  | some m =>
    cases m with
    | none => rfl
    | some e =>
      obtain ⟨io, o⟩ := e
      cases io <;> cases o <;> rfl
end Y
/-! Y: ints, pairs of ints, lists of them -/
namespace Y
open PySem PySem.Spec PyProof.Rows L2

abbrev I (i : Int) : D := .int i
def P2 (p : Int × Int) : D := .tuple [.int p.1, .int p.2]
abbrev IL (ns : List Int) : D := .list (ns.map .int)
abbrev PL (ps : List (Int × Int)) : D := .list (ps.map P2)
theorem eqv_i {a b : Int} : PyData.eqv (.int a) (.int b) = decide (a = b) := rfl
theorem eqv_p {p q : Int × Int} : PyData.eqv (P2 p) (P2 q) = decide (p = q) := by
  unfold P2
  simp only [PyData.eqv, PyData.eqvAll]
  obtain ⟨a, b⟩ := p
  obtain ⟨c, d⟩ := q
  by_cases h1 : a = c <;> by_cases h2 : b = d <;> simp [h1, h2, PyData.eqv]
theorem eqvAll_map {α : Type} [DecidableEq α] {f : α → D} (h : ∀ a b, PyData.eqv (f a) (f b) = decide (a = b)) : ∀ as bs : List α, PyData.eqvAll (as.map f) (bs.map f) = decide (as = bs)
  | [], [] => by simp [PyData.eqvAll]
  | [], b :: bs => by simp [PyData.eqvAll]
  | a :: as, [] => by simp [PyData.eqvAll]
  | a :: as, b :: bs => by
    simp only [List.map_cons, PyData.eqvAll, h, eqvAll_map h as bs]
    by_cases h1 : a = b <;> by_cases h2 : as = bs <;> simp [h1, h2]
theorem fits_i {n : Nat} {a : Int} : fits n (.int a) = true := by cases n <;> rfl
theorem fits_p {n : Nat} {p : Int × Int} : fits (n + 1) (P2 p) = true := by
  unfold P2
  simp [fits, fits_i]
theorem fits_map {α : Type} {f : α → D} {n : Nat} (h : ∀ a, fits n (f a) = true) (as : List α) : fits (n + 1) (.list (as.map f)) = true := by
  simp [fits, h]
theorem gEq_l {α : Type} [DecidableEq α] {f : α → D} (h : ∀ a b, PyData.eqv (f a) (f b) = decide (a = b)) (hf : ∀ a, fits 59 (f a) = true) (as bs : List α) : gEq (.list (as.map f)) (.list (bs.map f)) = some (decide (as = bs)) := by
  unfold gEq
  rw [if_pos ⟨fits_map hf as, fits_map hf bs⟩]
  show some (PyData.eqvAll _ _) = _
  rw [eqvAll_map h]
theorem gNe_l {α : Type} [DecidableEq α] {f : α → D} (h : ∀ a b, PyData.eqv (f a) (f b) = decide (a = b)) (hf : ∀ a, fits 59 (f a) = true) (as bs : List α) : gNe (.list (as.map f)) (.list (bs.map f)) = some (!decide (as = bs)) := by
  unfold gNe
  rw [if_pos ⟨fits_map hf as, fits_map hf bs⟩]
  show some (!PyData.eqvAll _ _) = _
  rw [eqvAll_map h]
theorem gNe_pl {as bs : List (Int × Int)} : gNe (PL as) (PL bs) = some (!decide (as = bs)) := gNe_l (fun _ _ => eqv_p) (fun _ => fits_p) as bs
theorem gNe_il {as bs : List Int} : gNe (IL as) (IL bs) = some (!decide (as = bs)) := gNe_l (fun _ _ => eqv_i) (fun _ => fits_i) as bs
theorem gEq_pl {as bs : List (Int × Int)} : gEq (PL as) (PL bs) = some (decide (as = bs)) := gEq_l (fun _ _ => eqv_p) (fun _ => fits_p) as bs
theorem gEq_il {as bs : List Int} : gEq (IL as) (IL bs) = some (decide (as = bs)) := gEq_l (fun _ _ => eqv_i) (fun _ => fits_i) as bs
theorem any_map {α : Type} [DecidableEq α] {f : α → D} (h : ∀ a b, PyData.eqv (f a) (f b) = decide (a = b)) (x : α) : ∀ as : List α, (as.map f).any (fun z => PyData.eqv z (f x)) = decide (x ∈ as)
  | [] => by simp
  | a :: as => by
    rw [List.map_cons, List.any_cons, any_map h x as, h]
    by_cases e : a = x
    · subst e; simp
    · have : ¬ x = a := fun z => e z.symm
      simp [e, this]
theorem gIn_l {α : Type} [DecidableEq α] {f : α → D} (h : ∀ a b, PyData.eqv (f a) (f b) = decide (a = b)) (hf : ∀ a, fits 59 (f a) = true) (x : α) (as : List α) : gIn (f x) (.list (as.map f)) = some (decide (x ∈ as)) := by
  show (if fits 59 (f x) = true ∧ (as.map f).all (fits 59) = true then some ((as.map f).any fun z => PyData.eqv z (f x)) else none) = _
  rw [if_pos ⟨hf x, by rw [List.all_eq_true]; intro d hd; obtain ⟨y, _, e⟩ := List.mem_map.mp hd; subst e; exact hf y⟩, any_map h]
theorem gIn_il {x : Int} {as : List Int} : gIn (.int x) (IL as) = some (decide (x ∈ as)) := gIn_l (fun _ _ => eqv_i) (fun _ => fits_i) x as
theorem gIn_pl {x : Int × Int} {as : List (Int × Int)} : gIn (P2 x) (PL as) = some (decide (x ∈ as)) := (gIn_l (fun _ _ => eqv_p) (fun _ => fits_p) x as).trans (by congr)
theorem gNotIn_il {x : Int} {as : List Int} : gNotIn (.int x) (IL as) = some (!decide (x ∈ as)) := by unfold gNotIn; rw [gIn_il]; rfl
theorem gNotIn_pl {x : Int × Int} {as : List (Int × Int)} : gNotIn (P2 x) (PL as) = some (!decide (x ∈ as)) := by unfold gNotIn; rw [gIn_pl]; rfl
/-! sorting pairs, ints -/
def leP (p q : Int × Int) : Bool := decide (p.1 < q.1 ∨ (p.1 = q.1 ∧ p.2 ≤ q.2))
def sortP (ps : List (Int × Int)) : List (Int × Int) := ps.mergeSort leP
theorem sortP_perm (ps : List (Int × Int)) : (sortP ps).Perm ps := List.mergeSort_perm ps _
theorem sortP_sorted (ps : List (Int × Int)) : (sortP ps).Pairwise fun p q => p.1 ≤ q.1 := by
  have := List.pairwise_mergeSort (le := leP) (fun a b c h1 h2 => by
    unfold leP at *
    simp only [decide_eq_true_eq] at *
    omega) (fun a b => by
    unfold leP
    simp only [Bool.or_eq_true, decide_eq_true_eq]
    omega) ps
  refine this.imp fun h => ?_
  unfold leP at h
  simp only [decide_eq_true_eq] at h
  omega
theorem gSorted_p {ps : List (Int × Int)} : gSorted [PL ps] = some (.lst ((sortP ps).map P2)) := by
  have hok : sortOk (ps.map P2) = true := by
    unfold sortOk
    simp only [Bool.and_eq_true, Bool.or_eq_true, List.all_eq_true]
    refine ⟨⟨fun d hd e he => ?_, fun d hd => ?_⟩, .inl fun d hd => ?_⟩
    · obtain ⟨x, _, rfl⟩ := List.mem_map.mp hd
      obtain ⟨y, _, rfl⟩ := List.mem_map.mp he
      rfl
    · obtain ⟨x, _, rfl⟩ := List.mem_map.mp hd
      exact fits_p
    · obtain ⟨x, _, rfl⟩ := List.mem_map.mp hd
      rfl
  show (if sortOk (ps.map P2) = true then some (O.lst (sortD (ps.map P2))) else none) = _
  rw [if_pos hok]
  unfold sortD sortP
  rw [List.map_mergeSort (s := PySem.W.dataLe false id)]
  intro a _ b _
  have := congrFun (congrFun (PySem.W.dataLe_ii (fun p : Int × Int => p.1) (fun p => p.2)) a) b
  exact this.symm
def sortI (ns : List Int) : List Int := ns.mergeSort fun a b => decide (a ≤ b)
theorem gSorted_i {ns : List Int} : gSorted [IL ns] = some (.lst ((sortI ns).map .int)) := by
  have hok : sortOk (ns.map PyData.int) = true := by
    unfold sortOk
    simp only [Bool.and_eq_true, Bool.or_eq_true, List.all_eq_true]
    refine ⟨⟨fun d hd e he => ?_, fun d hd => ?_⟩, .inr fun d hd => ?_⟩
    · obtain ⟨x, _, rfl⟩ := List.mem_map.mp hd
      obtain ⟨y, _, rfl⟩ := List.mem_map.mp he
      rfl
    · obtain ⟨x, _, rfl⟩ := List.mem_map.mp hd
      exact fits_i
    · obtain ⟨x, _, rfl⟩ := List.mem_map.mp hd
      rfl
  show (if sortOk (ns.map PyData.int) = true then some (O.lst (sortD (ns.map PyData.int))) else none) = _
  rw [if_pos hok]
  unfold sortD sortI
  rw [List.map_mergeSort (s := PySem.W.dataLe false id)]
  intro a _ b _
  have := congrFun (congrFun (PySem.W.dataLe_int (fun p : Int => p)) a) b
  exact this.symm
theorem sortI_perm (ns : List Int) : (sortI ns).Perm ns := List.mergeSort_perm ns _
/-! what is of one kind, all, any -/
theorem all_bl {α : Type} {f : α → Bool} (as : List α) : gAll [.list (as.map fun a => .bool (f a))] = some (.leaf (.bool (as.all f))) := by
  have e : (as.map fun a => (PyData.bool (f a))) = (as.map f).map .bool := by rw [List.map_map]; rfl
  rw [e, gAll_l, List.all_map]
  rfl
theorem any_bl {α : Type} {f : α → Bool} (as : List α) : gAny [.list (as.map fun a => .bool (f a))] = some (.leaf (.bool (as.any f))) := by
  have e : (as.map fun a => (PyData.bool (f a))) = (as.map f).map .bool := by rw [List.map_map]; rfl
  rw [e, gAny_l, List.any_map]
  rfl
@[simp] theorem gTru_b {b : Bool} : gTru (.bool b) = some b := rfl
@[simp] theorem gTru_l {ds : List D} : gTru (.list ds) = some (!ds.isEmpty) := rfl
@[simp] theorem gTru_n : gTru .none = some false := rfl
/-! walks over images of a list -/
theorem Go_lcf {α : Type} {it : Ev → Rs (List D)} {vs : List Nat} {tg : O → Ev → Rs Unit} {el : Ev → Rs O} {ρ : Ev} {Q : O → Ev → Prop} {f : α → D} {as : List α} (e : α → D) (ρ1 : Ev)
    (hit : Go (it ρ) (fun ds ρ' => ds = as.map f ∧ ρ' = ρ1)) (hh : hidable ρ1 vs = true) (hl : as.length ≤ 1000)
    (hs : ∀ a ∈ as, Go (tg (.leaf (f a)) (wipeE ρ1 vs)) (fun _ ρ2 => Go (el ρ2) (fun o ρ4 => o.d = e a ∧ wipeE ρ4 vs = wipeE ρ1 vs)))
    (hq : Q (.lst (as.map e)) (unhide ρ1 (wipeE ρ1 vs) vs)) : Go (lcE it vs tg yesT el ρ) Q := by
  obtain ⟨ds, ρ', e1, rfl, rfl⟩ := hit.ex
  have key : ∀ as : List α, (∀ a ∈ as, Go (tg (.leaf (f a)) (wipeE ρ' vs)) (fun _ ρ2 => Go (el ρ2) (fun o ρ4 => o.d = e a ∧ wipeE ρ4 vs = wipeE ρ' vs))) → lcGo vs tg yesT el (as.map f) (wipeE ρ' vs) = .ok (as.map e) (wipeE ρ' vs) := by
    intro as
    induction as with
    | nil => intro _; rfl
    | cons a as ih =>
      intro h
      obtain ⟨u, ρ1, e1, h1⟩ := (h a (by simp)).ex
      obtain ⟨o, ρ3, e3, h3, h4⟩ := h1.ex
      have ih := ih fun x m => h x (by simp [m])
      rw [List.map_cons]
      unfold lcGo
      rw [e1]
      simp only [yesT, e3, h4, ih, List.map_cons, h3]
  unfold lcE
  rw [Go_bnd, e1, Go_ok]
  rw [if_pos ⟨hh, by rw [List.length_map]; exact Nat.le_of_lt (small1000 hl)⟩, key as hs]
  exact Go.okk hq
theorem go_fnS_eq {n N : Nat} {body : Ev → Rs Ctl} {es : List E} {Q : O → Ev → Prop} : Go (fnS n N body es) Q = Go (body (es.map some ++ List.replicate (N - n) none)) (fun c ρ => match c with | .rt d => Q d ρ | .nx => Q (.leaf .none) ρ | _ => False) := by
  unfold fnS
  cases body (es.map some ++ List.replicate (N - n) none) with
  | ok c ρ => rw [Go_ok]; cases c <;> first | exact Go_ok | exact Go_stk
  | er => rw [Go_er, Go_er]
  | stk => rw [Go_stk, Go_stk]
/-- a loop that leaves with False where something is not good -/
theorem go_forB {cl : List Nat} {tg : O → Ev → Rs Unit} {body : Ev → Rs Ctl} {ρh : Ev} (good : Nat → Bool) : ∀ (ds : List D) (i : Nat),
    (∀ k d, ds[k]? = some d → Go (tg (.leaf d) ρh) (fun _ ρ1 => Go (body ρ1) (fun c ρ2 => if good (i + k) = true then c = .nx ∧ clrs ρ2 cl = ρh else c = .rt (.leaf (.bool false))))) →
    Go (forGo cl tg body ds ρh) (fun c ρ' => if (List.range ds.length).all (fun k => good (i + k)) = true then c = .nx ∧ ρ' = ρh else c = .rt (.leaf (.bool false)))
  | [], i, _ => by simp [forGo]
  | d :: ds, i, hs => by
    obtain ⟨u, ρ1, e1, h2⟩ := (hs 0 d rfl).ex
    obtain ⟨c, ρ2, e2, h3⟩ := h2.ex
    have ea : (List.range (d :: ds).length).all (fun k => good (i + k)) = (good i && (List.range ds.length).all (fun k => good (i + 1 + k))) := by
      rw [List.length_cons, List.range_succ_eq_map, List.all_cons, List.all_map, Nat.add_zero]
      congr 1
      congr 1
      funext k
      show good (i + (k + 1)) = good (i + 1 + k)
      rw [show i + (k + 1) = i + 1 + k by omega]
    unfold forGo
    rw [e1]
    simp only
    rw [e2, ea]
    rw [Nat.add_zero] at h3
    cases hg : good i with
    | false =>
      rw [hg] at h3
      simp only [Bool.false_eq_true, if_false] at h3
      subst h3
      simp
    | true =>
      rw [hg] at h3
      simp only [if_true] at h3
      obtain ⟨rfl, h4⟩ := h3
      simp only [Bool.true_and]
      rw [h4]
      exact go_forB good ds (i + 1) fun k d hk => by
        have := hs (k + 1) d (by simpa using hk)
        rw [show i + (k + 1) = i + 1 + k by omega] at this
        exact this
theorem Go_forB {it : Ev → Rs (List D)} {cl : List Nat} {tg : O → Ev → Rs Unit} {body : Ev → Rs Ctl} {ρ : Ev} {Q : Ctl → Ev → Prop} (good : Nat → Bool) (ρh : Ev) (n : Nat) (h : Go (it ρ) (fun ds ρ0 => ds.length = n ∧ clrs ρ0 cl = ρh ∧
    (∀ k d, ds[k]? = some d → Go (tg (.leaf d) ρh) (fun _ ρ1 => Go (body ρ1) (fun c ρ2 => if good k = true then c = .nx ∧ clrs ρ2 cl = ρh else c = .rt (.leaf (.bool false)))))))
    (hq : if (List.range n).all good = true then Q .nx ρh else ∀ ρ', Q (.rt (.leaf (.bool false))) ρ') : Go (forS it tg body cl ρ) Q := by
  obtain ⟨ds, ρ0, e, rfl, h0, hs⟩ := h.ex
  unfold forS
  rw [Go_bnd, e, Go_ok]
  rw [h0]
  have := go_forB (cl := cl) (tg := tg) (body := body) (ρh := ρh) good ds 0 fun k d hk => by
    rw [Nat.zero_add]
    exact hs k d hk
  simp only [Nat.zero_add] at this
  refine this.mono fun c ρ' h => ?_
  split at h
  · rename_i hg
    rw [if_pos hg] at hq
    obtain ⟨rfl, rfl⟩ := h
    exact hq
  · rename_i hg
    rw [if_neg hg] at hq
    subst h
    exact hq _
end Y
/-! Y: calls by their values; one premise for a loop, a comprehension -/
namespace Y
open PySem PySem.Spec PyProof.Rows L2

/-- what comes out of a def -/
def out (r : Rs O) : Option O := match r with
  | .ok d _ => some d
  | _ => none
theorem out_ok {o : O} {ρ : Ev} : out (.ok o ρ) = some o := rfl
theorem out_go {r : Rs O} {o : O} (h : Go r (fun o' _ => o' = o)) : out r = some o := by
  obtain ⟨a, ρ, e, rfl⟩ := h.ex
  rw [e]; rfl
theorem go_out {r : Rs O} {o : O} {Q : O → Ev → Prop} (h : out r = some o) (q : ∀ ρ, Q o ρ) : Go r Q := by
  cases r with
  | ok a ρ => cases h; exact Go.okk (q ρ)
  | er x ρ => cases h
  | stk => cases h
/-- a call, its arguments at hand -/
def callB (F : Fn) (bs : List B) : Ev → Rs O := fun ρ => match lend bs ρ with
  | some (es, ρl) => (match F (es.map ce) with
    | .ok d ρ' => (match unlend ρ' 0 bs es ρl with | some ρ2 => .ok d ρ2 | none => .stk)
    | _ => .stk)
  | none => .stk
section
variable {ρ : Ev}
@[simp] theorem leafs_slot {j : Nat} {bs : List B} : leafs (.slot j :: bs) ρ = match look ρ j with
    | some ⟨_, .leaf d⟩ => (leafs bs ρ).map fun ds => d :: ds
    | _ => none := by
  rw [leafs]
  unfold look
  cases ρ[j]? with
  | none => rfl
  | some m =>
    cases m with
    | none => rfl
    | some e =>
      obtain ⟨io, o⟩ := e
      cases o with
      | leaf d => cases leafs bs ρ <;> rfl
      | lst d => rfl
      | dic d => rfl
theorem go_callB {F : Fn} {bs : List B} {ds : List D} {Q : O → Ev → Prop} (h : leafs bs ρ = some ds) : Go (callB F bs ρ) Q = (match out (F (ds.map lf)) with | some d => Q d ρ | none => False) := by
  unfold callB
  rw [lend_leafs h]
  simp only [ce_lf]
  cases F (ds.map lf) with
  | ok d ρ' =>
    simp only [unlend_leafs (leafs_len h), out]
    exact Go_ok
  | er x ρ' => exact Go_stk
  | stk => exact Go_stk
theorem g_callS {F : Fn} {fs : Ev → Rs (List B)} {Q : O → Ev → Prop} : Go (callS F fs ρ) Q = Go (fs ρ) (fun bs ρ1 => match leafs bs ρ1 with
    | some ds => (match out (F (ds.map lf)) with | some d => Q d ρ1 | none => False)
    | none => Go (callB F bs ρ1) Q) := by
  have e : callS F fs ρ = bnd fs (callB F) ρ := rfl
  rw [e, Go_bnd]
  congr 1
  funext bs ρ1
  cases h : leafs bs ρ1 with
  | none => rfl
  | some ds => exact go_callB h
end
/-- a call that is lent the list of ours at slot j -/
theorem Go_lentB {F : Fn} {ρ : Ev} {j : Nat} {io : Bool} {xs : List D} {bs : List B} {ds : List D} {Q : O → Ev → Prop} (h0 : look ρ j = some ⟨io, .lst xs⟩) (h1 : tmpD bs = some ds)
    (h : Go (F (⟨true, .lst xs⟩ :: ds.map lf)) (fun d ρ' => ∃ ys, look ρ' 0 = some ⟨true, .lst ys⟩ ∧ Q d (ρ.set j (some ⟨io, .lst ys⟩)))) : Go (callB F (.slot j :: bs) ρ) Q := by
  have e : Go (callS F (fun ρ => .ok (.slot j :: bs) ρ) ρ) Q := by
    refine Go_callP ?_
    rw [Go_ok]
    refine ⟨j, bs, io, xs, ds, rfl, look_of h0, tmp_leafs h1, tmp_leafs h1, h.mono fun d ρ' ⟨ys, h2, q⟩ => ⟨ys, look_of h2, ?_⟩⟩
    rw [List.set_set]
    exact q
  have e2 : callS F (fun ρ => .ok (.slot j :: bs) ρ) ρ = callB F (.slot j :: bs) ρ := rfl
  rw [e2] at e
  exact e
/-! ### comprehensions, loops -/
theorem Go_lcA {α : Type} {it : Ev → Rs (List D)} {vs : List Nat} {tg : O → Ev → Rs Unit} {el : Ev → Rs O} {ρ : Ev} {Q : O → Ev → Prop} (f : α → D) (e : α → D) (as : List α)
    (h : Go (it ρ) (fun ds ρ1 => ds = as.map f ∧ hidable ρ1 vs = true ∧ as.length ≤ 1000 ∧
      (∀ a ∈ as, Go (tg (.leaf (f a)) (wipeE ρ1 vs)) (fun _ ρ2 => Go (el ρ2) (fun o ρ4 => o.d = e a ∧ wipeE ρ4 vs = wipeE ρ1 vs))) ∧ Q (.lst (as.map e)) (unhide ρ1 (wipeE ρ1 vs) vs))) : Go (lcE it vs tg yesT el ρ) Q := by
  obtain ⟨ds, ρ1, e1, rfl, h1, h2, h3, h4⟩ := h.ex
  exact Go_lcf (f := f) (as := as) e ρ1 (Go.of e1 ⟨rfl, rfl⟩) h1 h2 h3 h4
theorem lcGo_filter {α : Type} {vs : List Nat} {tg : O → Ev → Rs Unit} {tt : Ev → Rs Bool} {el : Ev → Rs O} {ρw : Ev} (f : α → D) (c : α → Bool) (e : α → D) : ∀ as : List α,
    (∀ a ∈ as, Go (tg (.leaf (f a)) ρw) (fun _ ρ1 => Go (tt ρ1) (fun b ρ2 => b = c a ∧ if c a = true then Go (el ρ2) (fun o ρ3 => o.d = e a ∧ wipeE ρ3 vs = ρw) else wipeE ρ2 vs = ρw))) →
    lcGo vs tg tt el (as.map f) ρw = .ok ((as.filter c).map e) ρw
  | [], _ => rfl
  | a :: as, h => by
    obtain ⟨u, ρ1, e1, h1⟩ := (h a (by simp)).ex
    obtain ⟨b, ρ2, e2, rfl, h2⟩ := h1.ex
    have ih := lcGo_filter (tg := tg) (tt := tt) (el := el) (ρw := ρw) (vs := vs) f c e as fun x m => h x (by simp [m])
    rw [List.map_cons]
    unfold lcGo
    rw [e1]
    simp only
    rw [e2]
    cases hc : c a with
    | false =>
      rw [hc] at h2
      simp only [Bool.false_eq_true, if_false] at h2
      simp only [h2, ih, List.filter_cons, hc, Bool.false_eq_true, if_false]
    | true =>
      rw [hc] at h2
      simp only [if_true] at h2
      obtain ⟨o, ρ3, e3, h3, h4⟩ := h2.ex
      simp only [e3, h4, ih, List.filter_cons, hc, if_true, List.map_cons, h3]
theorem Go_lcF {α : Type} {it : Ev → Rs (List D)} {vs : List Nat} {tg : O → Ev → Rs Unit} {tt : Ev → Rs Bool} {el : Ev → Rs O} {ρ : Ev} {Q : O → Ev → Prop} (f : α → D) (c : α → Bool) (e : α → D) (as : List α)
    (h : Go (it ρ) (fun ds ρ1 => ds = as.map f ∧ hidable ρ1 vs = true ∧ as.length ≤ 1000 ∧
      (∀ a ∈ as, Go (tg (.leaf (f a)) (wipeE ρ1 vs)) (fun _ ρ2 => Go (tt ρ2) (fun b ρ3 => b = c a ∧ if c a = true then Go (el ρ3) (fun o ρ4 => o.d = e a ∧ wipeE ρ4 vs = wipeE ρ1 vs) else wipeE ρ3 vs = wipeE ρ1 vs))) ∧
      Q (.lst ((as.filter c).map e)) (unhide ρ1 (wipeE ρ1 vs) vs))) : Go (lcE it vs tg tt el ρ) Q := by
  obtain ⟨ds, ρ1, e1, rfl, h1, h2, h3, h4⟩ := h.ex
  unfold lcE
  rw [Go_bnd, e1, Go_ok]
  rw [if_pos ⟨h1, by rw [List.length_map]; exact Nat.le_of_lt (small1000 h2)⟩, lcGo_filter f c e as h3]
  exact Go.okk h4
theorem Go_seq {f g : Ev → Rs Ctl} {ρ : Ev} {Q : Ctl → Ev → Prop} (R : Ev → Prop) (h1 : Go (f ρ) (fun c ρ' => c = .nx ∧ R ρ')) (h2 : ∀ ρ', R ρ' → Go (g ρ') Q) : Go (cons f g ρ) Q := by
  rw [Go_cons]
  refine h1.mono fun c ρ' ⟨e, r⟩ => ?_
  subst e
  exact h2 ρ' r
end Y
/-! Y: data by kind; more of running -/
namespace Y
open PySem PySem.Spec PyProof.Rows L2

@[simp] theorem isT_int_int_s {a : Int} : isT (.int a) "int" = some true := rfl
@[simp] theorem isT_int_str_s {a : Int} : isT (.int a) "str" = some false := rfl
@[simp] theorem isT_int_list_s {a : Int} : isT (.int a) "list" = some false := rfl
@[simp] theorem isT_int_tuple_s {a : Int} : isT (.int a) "tuple" = some false := rfl
@[simp] theorem isT_int_dict_s {a : Int} : isT (.int a) "dict" = some false := rfl
@[simp] theorem isT_int_bool_s {a : Int} : isT (.int a) "bool" = some false := rfl
@[simp] theorem gIs_int_none_s {a : Int} : gIs (.int a) .none = some false := rfl
@[simp] theorem gIs_int_bool_s {a : Int} {b : Bool} : gIs (.int a) (.bool b) = some false := rfl
@[simp] theorem gIsNot_int_none_s {a : Int} : gIsNot (.int a) .none = some true := rfl
@[simp] theorem gIsNot_int_bool_s {a : Int} {b : Bool} : gIsNot (.int a) (.bool b) = some true := rfl
@[simp] theorem isT_bool_int_s {a : Bool} : isT (.bool a) "int" = some true := rfl
@[simp] theorem isT_bool_str_s {a : Bool} : isT (.bool a) "str" = some false := rfl
@[simp] theorem isT_bool_list_s {a : Bool} : isT (.bool a) "list" = some false := rfl
@[simp] theorem isT_bool_tuple_s {a : Bool} : isT (.bool a) "tuple" = some false := rfl
@[simp] theorem isT_bool_dict_s {a : Bool} : isT (.bool a) "dict" = some false := rfl
@[simp] theorem isT_bool_bool_s {a : Bool} : isT (.bool a) "bool" = some true := rfl
@[simp] theorem gIs_bool_none_s {a : Bool} : gIs (.bool a) .none = some false := rfl
@[simp] theorem gIsNot_bool_none_s {a : Bool} : gIsNot (.bool a) .none = some true := rfl
@[simp] theorem isT_str_int_s {a : Str} : isT (.str a) "int" = some false := rfl
@[simp] theorem isT_str_str_s {a : Str} : isT (.str a) "str" = some true := rfl
@[simp] theorem isT_str_list_s {a : Str} : isT (.str a) "list" = some false := rfl
@[simp] theorem isT_str_tuple_s {a : Str} : isT (.str a) "tuple" = some false := rfl
@[simp] theorem isT_str_dict_s {a : Str} : isT (.str a) "dict" = some false := rfl
@[simp] theorem isT_str_bool_s {a : Str} : isT (.str a) "bool" = some false := rfl
@[simp] theorem gIs_str_none_s {a : Str} : gIs (.str a) .none = some false := rfl
@[simp] theorem gIs_str_bool_s {a : Str} {b : Bool} : gIs (.str a) (.bool b) = some false := rfl
@[simp] theorem gIsNot_str_none_s {a : Str} : gIsNot (.str a) .none = some true := rfl
@[simp] theorem gIsNot_str_bool_s {a : Str} {b : Bool} : gIsNot (.str a) (.bool b) = some true := rfl
@[simp] theorem isT_none_int_s  : isT .none "int" = some false := rfl
@[simp] theorem isT_none_str_s  : isT .none "str" = some false := rfl
@[simp] theorem isT_none_list_s  : isT .none "list" = some false := rfl
@[simp] theorem isT_none_tuple_s  : isT .none "tuple" = some false := rfl
@[simp] theorem isT_none_dict_s  : isT .none "dict" = some false := rfl
@[simp] theorem isT_none_bool_s  : isT .none "bool" = some false := rfl
@[simp] theorem gIs_none_bool_s  {b : Bool} : gIs .none (.bool b) = some false := rfl
@[simp] theorem gIsNot_none_bool_s  {b : Bool} : gIsNot .none (.bool b) = some true := rfl
@[simp] theorem isT_list_int_s {a : List D} : isT (.list a) "int" = some false := rfl
@[simp] theorem isT_list_str_s {a : List D} : isT (.list a) "str" = some false := rfl
@[simp] theorem isT_list_list_s {a : List D} : isT (.list a) "list" = some true := rfl
@[simp] theorem isT_list_tuple_s {a : List D} : isT (.list a) "tuple" = some false := rfl
@[simp] theorem isT_list_dict_s {a : List D} : isT (.list a) "dict" = some false := rfl
@[simp] theorem isT_list_bool_s {a : List D} : isT (.list a) "bool" = some false := rfl
@[simp] theorem gIs_list_none_s {a : List D} : gIs (.list a) .none = some false := rfl
@[simp] theorem gIs_list_bool_s {a : List D} {b : Bool} : gIs (.list a) (.bool b) = some false := rfl
@[simp] theorem gIsNot_list_none_s {a : List D} : gIsNot (.list a) .none = some true := rfl
@[simp] theorem gIsNot_list_bool_s {a : List D} {b : Bool} : gIsNot (.list a) (.bool b) = some true := rfl
@[simp] theorem isT_tuple_int_s {a : List D} : isT (.tuple a) "int" = some false := rfl
@[simp] theorem isT_tuple_str_s {a : List D} : isT (.tuple a) "str" = some false := rfl
@[simp] theorem isT_tuple_list_s {a : List D} : isT (.tuple a) "list" = some false := rfl
@[simp] theorem isT_tuple_tuple_s {a : List D} : isT (.tuple a) "tuple" = some true := rfl
@[simp] theorem isT_tuple_dict_s {a : List D} : isT (.tuple a) "dict" = some false := rfl
@[simp] theorem isT_tuple_bool_s {a : List D} : isT (.tuple a) "bool" = some false := rfl
@[simp] theorem gIs_tuple_none_s {a : List D} : gIs (.tuple a) .none = some false := rfl
@[simp] theorem gIs_tuple_bool_s {a : List D} {b : Bool} : gIs (.tuple a) (.bool b) = some false := rfl
@[simp] theorem gIsNot_tuple_none_s {a : List D} : gIsNot (.tuple a) .none = some true := rfl
@[simp] theorem gIsNot_tuple_bool_s {a : List D} {b : Bool} : gIsNot (.tuple a) (.bool b) = some true := rfl
@[simp] theorem isT_dict_int_s {a : List (D × D)} : isT (.dict a) "int" = some false := rfl
@[simp] theorem isT_dict_str_s {a : List (D × D)} : isT (.dict a) "str" = some false := rfl
@[simp] theorem isT_dict_list_s {a : List (D × D)} : isT (.dict a) "list" = some false := rfl
@[simp] theorem isT_dict_tuple_s {a : List (D × D)} : isT (.dict a) "tuple" = some false := rfl
@[simp] theorem isT_dict_dict_s {a : List (D × D)} : isT (.dict a) "dict" = some true := rfl
@[simp] theorem isT_dict_bool_s {a : List (D × D)} : isT (.dict a) "bool" = some false := rfl
@[simp] theorem gIs_dict_none_s {a : List (D × D)} : gIs (.dict a) .none = some false := rfl
@[simp] theorem gIs_dict_bool_s {a : List (D × D)} {b : Bool} : gIs (.dict a) (.bool b) = some false := rfl
@[simp] theorem gIsNot_dict_none_s {a : List (D × D)} : gIsNot (.dict a) .none = some true := rfl
@[simp] theorem gIsNot_dict_bool_s {a : List (D × D)} {b : Bool} : gIsNot (.dict a) (.bool b) = some true := rfl
@[simp] theorem gIs_nn_s : gIs .none .none = some true := rfl
@[simp] theorem gIsNot_nn_s : gIsNot .none .none = some false := rfl
@[simp] theorem gIs_bb_s {a b : Bool} : gIs (.bool a) (.bool b) = some (a == b) := rfl
@[simp] theorem gIsNot_bb_s {a b : Bool} : gIsNot (.bool a) (.bool b) = some (!(a == b)) := rfl
@[simp] theorem gTru_i {i : Int} : gTru (.int i) = some (i != 0) := rfl
@[simp] theorem gTru_t {ds : List D} : gTru (.tuple ds) = some (!ds.isEmpty) := rfl
/-! ### running: the newer pieces -/
section
variable {ρ : Ev}
def extO : O → O → Option O
  | .lst ds, .lst es => if ds.length + es.length ≤ sizeLine then some (.lst (ds ++ es)) else none
  | _, _ => none
@[simp] theorem g_extS {j : Nat} {fe : Ev → Rs O} {Q : Unit → Ev → Prop} : Go (extS j fe ρ) Q = ((∃ io ds, look ρ j = some ⟨io, .lst ds⟩) ∧ Go (fe ρ) (fun o ρ1 => match (look ρ1 j).bind fun ex => (extO ex.o o).map fun c => (⟨ex.io, c⟩ : E) with
    | some e => Q () (ρ1.set j (some e))
    | none => False)) := by
  unfold extS
  rw [Go_bnd, g_bv]
  cases h : ρ[j]? with
  | none => simp [look, h]
  | some m =>
    cases m with
    | none => simp [look, h]
    | some ex =>
      obtain ⟨io, o⟩ := ex
      have hl : look ρ j = some ⟨io, o⟩ := by unfold look; rw [h]
      rw [hl]
      cases o with
      | leaf d => simp
      | dic d => simp
      | lst ds =>
        simp only [Option.isSome_some, true_and]
        rw [Go_bnd]
        have e : (∃ io' ds', some (⟨io, .lst ds⟩ : E) = some ⟨io', .lst ds'⟩) = True := by simp
        rw [e, true_and]
        congr 1
        funext o ρ1
        cases o with
        | leaf d =>
          cases hl1 : look ρ1 j with
          | none => simp
          | some ex1 => obtain ⟨io1, o1⟩ := ex1; cases o1 <;> simp [extO]
        | dic d =>
          cases hl1 : look ρ1 j with
          | none => simp
          | some ex1 => obtain ⟨io1, o1⟩ := ex1; cases o1 <;> simp [extO]
        | lst es =>
          simp only
          unfold look
          cases ρ1[j]? with
          | none => simp
          | some m =>
            cases m with
            | none => simp
            | some ex1 =>
              obtain ⟨io1, o1⟩ := ex1
              cases o1 with
              | leaf d => simp [extO]
              | dic d => simp [extO]
              | lst ds1 =>
                simp only [Option.bind_some, extO]
                by_cases hs : ds1.length + es.length ≤ sizeLine
                · rw [if_pos hs, if_pos hs]; simp
                · rw [if_neg hs, if_neg hs]; simp
theorem extO_l {a b : List D} (h : a.length + b.length ≤ 100000) : extO (.lst a) (.lst b) = some (.lst (a ++ b)) := by
  show (if _ then _ else _) = _
  rw [if_pos (by rw [sizeLine_eq]; omega)]
theorem appO_l {a : List D} {d : D} (h : a.length ≤ 100000) : appO (.lst a) d = some (.lst (a ++ [d])) := by
  show (if _ then _ else _) = _
  rw [if_pos (by rw [sizeLine_eq]; omega)]
def popO : O → D → Option O
  | .dic kvs, k => (match asKey k with
    | some k' => if (lookD kvs (keyD k')).isSome = true then some (.dic (dropD kvs (keyD k'))) else none
    | none => none)
  | _, _ => none
@[simp] theorem g_popS {j : Nat} {fk : Ev → Rs B} {Q : Unit → Ev → Prop} : Go (popS j fk ρ) Q = ((∃ io ds, look ρ j = some ⟨io, .dic ds⟩) ∧ Go (fk ρ) (fun b ρ1 => match (b.val ρ1).bind fun k => (look ρ1 j).bind fun ex => (popO ex.o k).map fun c => (⟨ex.io, c⟩ : E) with
    | some e => Q () (ρ1.set j (some e))
    | none => False)) := by
  unfold popS
  rw [Go_bnd, g_bv]
  cases h : ρ[j]? with
  | none => simp [look, h]
  | some m =>
    cases m with
    | none => simp [look, h]
    | some ex =>
      obtain ⟨io, o⟩ := ex
      have hl : look ρ j = some ⟨io, o⟩ := by unfold look; rw [h]
      rw [hl]
      cases o with
      | leaf d => simp
      | lst d => simp
      | dic ds =>
        simp only [Option.isSome_some, true_and]
        rw [Go_bnd]
        have e : (∃ io' ds', some (⟨io, .dic ds⟩ : E) = some ⟨io', .dic ds'⟩) = True := by simp
        rw [e, true_and]
        congr 1
        funext b ρ1
        cases b.val ρ1 with
        | none => simp
        | some k =>
          simp only [Option.bind_some]
          unfold look
          cases ρ1[j]? with
          | none => simp
          | some m =>
            cases m with
            | none => simp
            | some ex1 =>
              obtain ⟨io1, o1⟩ := ex1
              cases o1 with
              | leaf d => simp [popO]
              | lst d => simp [popO]
              | dic ds1 =>
                simp only [Option.bind_some, popO]
                cases asKey k with
                | none => simp
                | some k' =>
                  simp only
                  by_cases hs : (lookD ds1 (keyD k')).isSome = true
                  · rw [if_pos hs, if_pos hs]; simp
                  · rw [if_neg hs, if_neg hs]; simp
@[simp] theorem g_lrg1 {fa : Ev → Rs B} {Q : O → Ev → Prop} : Go (lrg1 fa ρ) Q = Go (fa ρ) (fun b ρ1 => match b.val ρ1 with | some (.int j) => (-(2 ^ 62) ≤ j ∧ j ≤ 1000) ∧ Q (.lst (rangeD 0 j)) ρ1 | _ => False) := by
  unfold lrg1
  rw [Go_bnd]
  congr 1
  funext b ρ1
  cases b.val ρ1 with
  | none => exact Go_stk
  | some d =>
    cases d with
    | int j =>
      by_cases h : -(2 ^ 62) ≤ j ∧ j ≤ 1000
      · simp only [cif_pos h, Go_ok]; exact propext ⟨fun q => ⟨h, q⟩, fun q => q.2⟩
      · simp only [cif_neg h, Go_stk]; exact propext ⟨False.elim, fun q => h q.1⟩
    | _ => exact Go_stk
@[simp] theorem g_lrg2 {fa fb : Ev → Rs B} {Q : O → Ev → Prop} : Go (lrg2 fa fb ρ) Q = Go (fa ρ) (fun a ρ1 => Go (fb ρ1) (fun b ρ2 => match a.val ρ2, b.val ρ2 with | some (.int i), some (.int j) => ((-(2 ^ 62) ≤ i ∧ i ≤ 1000) ∧ (-(2 ^ 62) ≤ j ∧ j ≤ 1000) ∧ j - i ≤ 1000) ∧ Q (.lst (rangeD i j)) ρ2 | _, _ => False)) := by
  unfold lrg2
  rw [Go_bnd]
  congr 1
  funext a ρ1
  rw [Go_bnd]
  congr 1
  funext b ρ2
  cases a.val ρ2 with
  | none => cases b.val ρ2 <;> simp
  | some d =>
    cases d with
    | int i =>
      cases b.val ρ2 with
      | none => simp
      | some d =>
        cases d with
        | int j =>
          by_cases h : (-(2 ^ 62) ≤ i ∧ i ≤ 1000) ∧ (-(2 ^ 62) ≤ j ∧ j ≤ 1000) ∧ j - i ≤ 1000
          · simp only [cif_pos h, Go_ok]; exact propext ⟨fun q => ⟨h, q⟩, fun q => q.2⟩
          · simp only [cif_neg h, Go_stk]; exact propext ⟨False.elim, fun q => h q.1⟩
        | _ => simp
    | _ => simp
end
@[simp] theorem g_nsI {ρ : Ev} {i c : Nat} {Q : List D → Ev → Prop} : Go (nsI i c ρ) Q = (match look ρ i with
    | some ⟨_, .leaf (.tuple ds)⟩ => (match ds[c]? with
      | some (.dict kvs) => Q (keyL kvs) ρ
      | _ => Go (seqI (op2 gIx (bv i) (tm (kD (.int (c : Int))))) ρ) Q)
    | _ => Go (seqI (op2 gIx (bv i) (tm (kD (.int (c : Int))))) ρ) Q) := by
  unfold nsI look
  cases ρ[i]? with
  | none => rfl
  | some m =>
    cases m with
    | none => rfl
    | some e =>
      obtain ⟨io, o⟩ := e
      cases o with
      | lst _ => rfl
      | dic _ => rfl
      | leaf d =>
        cases d with
        | tuple ds =>
          simp only
          cases ds[c]? with
          | none => rfl
          | some d => cases d <;> first | rfl | exact Go_ok
        | _ => rfl
@[simp] theorem gRev_l {ds : List D} : gRev (.list ds) = some (.lst ds.reverse) := rfl
@[simp] theorem gBool_l {ds : List D} : gBool [.list ds] = some (.leaf (.bool (!ds.isEmpty))) := rfl
@[simp] theorem gListA_l {a : List D} : gListA [.list a] = some (.lst a) := rfl
@[simp] theorem gListA_t {a : List D} : gListA [.tuple a] = some (.lst a) := rfl
@[simp] theorem gMinA_2 {a b : Int} : gMinA [.int a, .int b] = some (.leaf (.int (min a b))) := rfl
@[simp] theorem gMaxA_2 {a b : Int} : gMaxA [.int a, .int b] = some (.leaf (.int (max a b))) := rfl
theorem gMinA_il {ns : List Int} (h : ns ≠ []) : gMinA [.list (ns.map .int)] = some (.leaf (.int (minI ns))) := by
  show (match intsD (ns.map .int) with | some _ => gMinI [.list (ns.map .int)] | none => _) = _
  rw [intsD_map]
  exact gMin_l h
theorem gMaxA_il {ns : List Int} (h : ns ≠ []) : gMaxA [.list (ns.map .int)] = some (.leaf (.int (maxI ns))) := by
  show (match intsD (ns.map .int) with | some _ => gMax [.list (ns.map .int)] | none => _) = _
  rw [intsD_map]
  exact gMax_l h
theorem gSortedA_il {ns : List Int} : gSortedA [.list (ns.map .int)] = some (.lst ((sortI ns).map .int)) := gSorted_i
theorem gSortedA_pl {ps : List (Int × Int)} : gSortedA [.list (ps.map P2)] = some (.lst ((sortP ps).map P2)) := gSorted_p
theorem sortI_Z (ns : List Int) : sortI ns = sortZ ns := rfl
@[simp] theorem seqD_P2 {p : Int × Int} : seqD (.leaf (P2 p)) = some [.int p.1, .int p.2] := rfl
theorem tup_P2 {a b : Int} : PyData.tuple [.int a, .int b] = P2 (a, b) := rfl
@[simp] theorem gIx_P0 {p : Int × Int} : gIx (P2 p) (.int 0) = some (.leaf (.int p.1)) := rfl
@[simp] theorem gIx_P1 {p : Int × Int} : gIx (P2 p) (.int 1) = some (.leaf (.int p.2)) := rfl
@[simp] theorem gIx_last {ds : List D} {d : D} : gIx (.list (ds ++ [d])) (.int (-1)) = some (.leaf d) := by
  show (atI _ (-1 : Int)).map _ = _
  rw [atI_last]
  rfl
theorem gNe_str {a b : Str} : gNe (.str a) (.str b) = some (!(a == b)) := rfl
theorem gEq_str {a b : Str} : gEq (.str a) (.str b) = some (a == b) := rfl
/-! min of pairs -/
def bestP (p : Int × Int) (ps : List (Int × Int)) : Int × Int := ps.foldl (fun a y => if decide (y.1 < a.1 ∨ (y.1 = a.1 ∧ y.2 < a.2)) then y else a) p
theorem bestP_spec : ∀ (ps : List (Int × Int)) (p : Int × Int), bestP p ps ∈ p :: ps ∧ ∀ q ∈ p :: ps, (bestP p ps).1 ≤ q.1
  | [], p => by simp [bestP]
  | y :: ps, p => by
    have e : bestP p (y :: ps) = bestP (if decide (y.1 < p.1 ∨ (y.1 = p.1 ∧ y.2 < p.2)) then y else p) ps := rfl
    rw [e]
    obtain ⟨h1, h2⟩ := bestP_spec ps (if decide (y.1 < p.1 ∨ (y.1 = p.1 ∧ y.2 < p.2)) then y else p)
    have h3 := h2 _ List.mem_cons_self
    refine ⟨?_, fun q hq => ?_⟩
    · rcases List.mem_cons.mp h1 with h | h
      · rw [h]; split <;> simp
      · exact List.mem_cons_of_mem _ (List.mem_cons_of_mem _ h)
    · rcases List.mem_cons.mp hq with rfl | hq
      · refine Int.le_trans h3 ?_
        split
        · rename_i h; simp at h; omega
        · exact Int.le_refl _
      · rcases List.mem_cons.mp hq with rfl | hq
        · refine Int.le_trans h3 ?_
          split
          · exact Int.le_refl _
          · rename_i h; simp at h; omega
        · exact h2 q (by simp [hq])
theorem dataLt_p (p q : Int × Int) : PySem.W.dataLt (P2 p) (P2 q) = decide (p.1 < q.1 ∨ (p.1 = q.1 ∧ p.2 < q.2)) := PySem.W.dataLt_ii _ _ _ _
theorem minD_p : ∀ (ps : List (Int × Int)) (p : Int × Int), PySem.W.minD (P2 p) (ps.map P2) = P2 (bestP p ps)
  | [], p => rfl
  | y :: ps, p => by
    have e : PySem.W.minD (P2 p) ((y :: ps).map P2) = PySem.W.minD (if PySem.W.dataLt (P2 y) (P2 p) then P2 y else P2 p) (ps.map P2) := rfl
    have e2 : bestP p (y :: ps) = bestP (if decide (y.1 < p.1 ∨ (y.1 = p.1 ∧ y.2 < p.2)) then y else p) ps := rfl
    rw [e, e2, dataLt_p]
    have : (if decide (y.1 < p.1 ∨ y.1 = p.1 ∧ y.2 < p.2) = true then P2 y else P2 p) = P2 (if decide (y.1 < p.1 ∨ y.1 = p.1 ∧ y.2 < p.2) = true then y else p) := by split <;> rfl
    rw [this]
    exact minD_p ps _
theorem gMinA_pl (p : Int × Int) (ps : List (Int × Int)) : gMinA [.list ((p :: ps).map P2)] = some (.leaf (P2 (bestP p ps))) := by
  have hok : minOk ((p :: ps).map P2) = true := by
    unfold minOk
    simp only [Bool.and_eq_true, List.all_eq_true]
    refine ⟨⟨fun d hd e he => ?_, fun d hd => ?_⟩, fun d hd => ?_⟩
    · obtain ⟨x, _, rfl⟩ := List.mem_map.mp hd
      obtain ⟨y, _, rfl⟩ := List.mem_map.mp he
      rfl
    · obtain ⟨x, _, rfl⟩ := List.mem_map.mp hd
      exact fits_p
    · obtain ⟨x, _, rfl⟩ := List.mem_map.mp hd
      rfl
  show (if minOk (P2 p :: ps.map P2) = true then some (O.leaf (PySem.W.minD (P2 p) (ps.map P2))) else none) = _
  rw [List.map_cons] at hok
  rw [if_pos hok, minD_p]
/-! ### dicts by kind -/
class KeyF {κ : Type} [DecidableEq κ] (fk : κ → D) : Prop where
  eqv : ∀ a b, PyData.eqv (fk a) (fk b) = decide (a = b)
  kind : ∀ (l : List κ) (k : κ) (f : κ → D), kindOk (l.map fun a => (fk a, f a)) (fk k) = true
instance : KeyF PyData.int := ⟨fun _ _ => rfl, fun l k f => by cases l <;> rfl⟩
instance : KeyF St := ⟨fun _ _ => eqv_s, fun l k f => by cases l <;> rfl⟩
instance : KeyF P2 := ⟨fun _ _ => eqv_p, fun l k f => by cases l <;> rfl⟩
def md {κ α : Type} (fk : κ → D) (fv : α → D) (l : List (κ × α)) : List (D × D) := l.map fun p => (fk p.1, fv p.2)
def lk {κ α : Type} [DecidableEq κ] (l : List (κ × α)) (k : κ) : Option α := match l with
  | [] => none
  | p :: r => if p.1 = k then some p.2 else lk r k
def pt {κ α : Type} [DecidableEq κ] (l : List (κ × α)) (k : κ) (v : α) : List (κ × α) := if (lk l k).isSome = true then l.map (fun p => if p.1 = k then (p.1, v) else p) else l ++ [(k, v)]
def dp {κ α : Type} [DecidableEq κ] (l : List (κ × α)) (k : κ) : List (κ × α) := l.filter fun p => !decide (p.1 = k)
section
variable {κ α : Type} [DecidableEq κ] {fk : κ → D} [KF : KeyF fk] {fv : α → D} {l : List (κ × α)} {k : κ} {v : α}
omit KF in
theorem md_len : (md fk fv l).length = l.length := by unfold md; rw [List.length_map]
theorem md_kind : kindOk (md fk fv l) (fk k) = true := by
  cases l with
  | nil => exact KF.kind [] k fk
  | cons p r =>
    have := KF.kind [p.1] k (fun _ => fv p.2)
    have e : kindOk (md fk fv (p :: r)) (fk k) = kindOk [(fk p.1, fv p.2)] (fk k) := by
      show kindOk ((fk p.1, fv p.2) :: _) (fk k) = _
      unfold kindOk
      cases fk k <;> cases fk p.1 <;> rfl
    rw [e]
    exact this
theorem md_look : ∀ {l : List (κ × α)}, lookD (md fk fv l) (fk k) = (lk l k).map fv
  | [] => rfl
  | p :: r => by
    show (if PyData.eqv (fk p.1) (fk k) = true then some (fv p.2) else lookD (md fk fv r) (fk k)) = _
    rw [KF.eqv, md_look (l := r), lk]
    by_cases e : p.1 = k
    · simp [e]
    · simp [e]
theorem md_put : putD (md fk fv l) (fk k) (fv v) = md fk fv (pt l k v) := by
  unfold putD pt
  rw [md_look]
  have e : ((lk l k).map fv).isSome = (lk l k).isSome := by cases lk l k <;> rfl
  rw [e]
  split
  · unfold md
    rw [List.map_map, List.map_map]
    refine List.map_congr_left fun p _ => ?_
    simp only [Function.comp_apply, KF.eqv, decide_eq_true_eq]
    split <;> rfl
  · simp [md]
theorem gIx_md (h : lk l k = some v) : gIx (.dict (md fk fv l)) (fk k) = some (.leaf (fv v)) := by
  have : gIx (.dict (md fk fv l)) (fk k) = if kindOk (md fk fv l) (fk k) = true then (lookD (md fk fv l) (fk k)).map O.leaf else none := by
    cases fk k <;> rfl
  rw [this, if_pos md_kind, md_look, h]
  rfl
theorem gIn_md : gIn (fk k) (.dict (md fk fv l)) = some (lk l k).isSome := by
  show (if kindOk (md fk fv l) (fk k) = true then some (lookD (md fk fv l) (fk k)).isSome else none) = _
  rw [if_pos md_kind, md_look]
  cases lk l k <;> rfl
theorem gNotIn_md : gNotIn (fk k) (.dict (md fk fv l)) = some (!(lk l k).isSome) := by
  unfold gNotIn
  rw [gIn_md]; rfl
theorem upC_md (hl : l.length ≤ 100000) : upC (.dic (md fk fv l)) (fk k) (fv v) = some (.dic (md fk fv (pt l k v))) := by
  have : upC (.dic (md fk fv l)) (fk k) (fv v) = if kindOk (md fk fv l) (fk k) = true ∧ (md fk fv l).length < sizeLine then some (.dic (putD (md fk fv l) (fk k) (fv v))) else none := by
    cases fk k <;> rfl
  rw [this, if_pos ⟨md_kind, by rw [md_len, sizeLine_eq]; omega⟩, md_put]
omit KF in
theorem keyL_md : keyL (md fk fv l) = (l.map (·.1)).map fk := by
  unfold keyL md
  rw [List.map_map, List.map_map]
  rfl
end
theorem lk_mem {κ α : Type} [DecidableEq κ] : ∀ {l : List (κ × α)} {k : κ} {v : α}, lk l k = some v → (k, v) ∈ l
  | p :: r, k, v, h => by
    rw [lk] at h
    split at h
    · rename_i e
      cases h
      subst e
      simp
    · exact List.mem_cons_of_mem _ (lk_mem h)
theorem lk_some {κ α : Type} [DecidableEq κ] : ∀ {l : List (κ × α)} {k : κ}, (lk l k).isSome = true ↔ k ∈ l.map (·.1)
  | [], k => by simp [lk]
  | p :: r, k => by
    rw [lk, List.map_cons, List.mem_cons]
    by_cases e : p.1 = k
    · simp [e]
    · simp only [e, if_false, lk_some (l := r)]
      constructor
      · exact .inr
      · rintro (h | h)
        · exact absurd h.symm e
        · exact h
theorem lk_none {κ α : Type} [DecidableEq κ] {l : List (κ × α)} {k : κ} : lk l k = none ↔ k ∉ l.map (·.1) := by
  rw [← lk_some]
  cases lk l k <;> simp
theorem lk_append {κ α : Type} [DecidableEq κ] {l r : List (κ × α)} {k : κ} : lk (l ++ r) k = (lk l k).or (lk r k) := by
  induction l with
  | nil => simp [lk]
  | cons p l ih =>
    rw [List.cons_append, lk, lk]
    split
    · simp
    · exact ih
theorem pt_new {κ α : Type} [DecidableEq κ] {l : List (κ × α)} {k : κ} {v : α} (h : lk l k = none) : pt l k v = l ++ [(k, v)] := by
  unfold pt
  rw [h]; rfl
/-- different keys -/
abbrev KNd {κ α : Type} (l : List (κ × α)) : Prop := (l.map (·.1)).Nodup
theorem lk_of {κ α : Type} [DecidableEq κ] : ∀ {l : List (κ × α)} {k : κ} {v : α}, KNd l → (k, v) ∈ l → lk l k = some v
  | p :: r, k, v, hn, h => by
    obtain ⟨h1, h2⟩ := List.nodup_cons.mp (show ((p :: r).map (·.1)).Nodup from hn)
    rw [lk]
    rcases List.mem_cons.mp h with e | h
    · subst e; simp
    · have : p.1 ≠ k := fun e => h1 (List.mem_map.mpr ⟨(k, v), h, e.symm⟩)
      rw [if_neg this]
      exact lk_of h2 h
theorem pt_nd {κ α : Type} [DecidableEq κ] {l : List (κ × α)} {k : κ} {v : α} (h : KNd l) : KNd (pt l k v) := by
  unfold KNd pt
  split
  · rw [List.map_map]
    have : (l.map ((fun p : κ × α => p.1) ∘ fun p => if p.1 = k then (p.1, v) else p)) = l.map (·.1) := List.map_congr_left fun p _ => by
      simp only [Function.comp_apply]
      split <;> rfl
    rw [this]
    exact h
  · rename_i hn
    have hk : k ∉ l.map (·.1) := lk_none.mp (by simpa using hn)
    rw [List.map_append, List.nodup_append]
    refine ⟨h, by simp, fun a ha b hb => ?_⟩
    simp at hb
    subst hb
    exact fun e => hk (e ▸ ha)
theorem md_drop {κ α : Type} [DecidableEq κ] {fk : κ → D} [KF : KeyF fk] {fv : α → D} {l : List (κ × α)} {k : κ} : dropD (md fk fv l) (fk k) = md fk fv (dp l k) := by
  unfold dropD md dp
  rw [List.filter_map]
  congr 1
  refine List.filter_congr fun p _ => ?_
  simp only [Function.comp_apply, KF.eqv]
theorem popO_i {α : Type} {fv : α → D} {l : List (Int × α)} {k : Int} (h : (lk l k).isSome = true) : popO (.dic (md .int fv l)) (.int k) = some (.dic (md .int fv (dp l k))) := by
  show (if (lookD (md .int fv l) (.int k)).isSome = true then some (O.dic (dropD (md .int fv l) (.int k))) else none) = _
  rw [md_look (fk := PyData.int), md_drop (fk := PyData.int), if_pos (by revert h; cases lk l k <;> simp)]
theorem kk_md_i {α : Type} {fv : α → D} {l : List (Int × α)} : kkeys (md .int fv l) = true := by
  unfold kkeys md
  rw [List.all_eq_true]
  intro p hp
  obtain ⟨q, _, e⟩ := List.mem_map.mp hp
  subst e
  rfl
theorem kk_md_s {α : Type} {fv : α → D} {l : List (List Nat × α)} : kkeys (md St fv l) = true := by
  unfold kkeys md
  rw [List.all_eq_true]
  intro p hp
  obtain ⟨q, _, e⟩ := List.mem_map.mp hp
  subst e
  rfl
theorem gDict_k {kvs : List (D × D)} (h : kkeys kvs = true) : gDict [.dict kvs] = some (.dic kvs) := by
  show (if kkeys kvs = true then some (O.dic kvs) else none) = _
  rw [if_pos h]
theorem gListA_k {kvs : List (D × D)} (h : kkeys kvs = true) : gListA [.dict kvs] = some (.lst (kvs.map (·.1))) := by
  show (if kkeys kvs = true then some (O.lst (kvs.map (·.1))) else none) = _
  rw [if_pos h]
theorem gSortedA_mi {α : Type} {fv : α → D} {l : List (Int × α)} (h : l.length < 64) : gSortedA [.dict (md .int fv l)] = some (.lst ((sortZ (l.map (·.1))).map .int)) := by
  show (match intsD ((md .int fv l).map (·.1)) with | some ns => if ns.length < 64 then some (O.lst ((sortZ ns).map .int)) else none | none => none) = _
  have : (md .int fv l).map (·.1) = (l.map (·.1)).map .int := keyL_md
  rw [this, intsD_map]
  simp only [List.length_map]
  rw [if_pos h]
/-! ### dict comprehensions -/
theorem dcGo_filter {α κ ν : Type} [DecidableEq κ] {fk : κ → D} [KF : KeyF fk] {fv : ν → D} (hk : ∀ k, ∃ k', asKey (fk k) = some k') {vs : List Nat} {tg : O → Ev → Rs Unit} {tt : Ev → Rs Bool} {ek el : Ev → Rs O} {ρw : Ev} (f : α → D) (c : α → Bool) (k : α → κ) (e : α → ν) : ∀ (as : List α) (acc : List (κ × ν)),
    (∀ a ∈ as, Go (tg (.leaf (f a)) ρw) (fun _ ρ1 => Go (tt ρ1) (fun b ρ2 => b = c a ∧ if c a = true then Go (ek ρ2) (fun ok ρ3 => ok.d = fk (k a) ∧ Go (el ρ3) (fun o ρ4 => o.d = fv (e a) ∧ wipeE ρ4 vs = ρw)) else wipeE ρ2 vs = ρw))) →
    dcGo vs tg tt ek el (as.map f) (md fk fv acc) ρw = .ok (md fk fv ((as.filter c).foldl (fun l a => pt l (k a) (e a)) acc)) ρw
  | [], acc, _ => rfl
  | a :: as, acc, h => by
    obtain ⟨u, ρ1, e1, h1⟩ := (h a (by simp)).ex
    obtain ⟨b, ρ2, e2, rfl, h2⟩ := h1.ex
    have ih := fun acc => dcGo_filter (KF := KF) (fv := fv) hk (tg := tg) (tt := tt) (ek := ek) (el := el) (ρw := ρw) (vs := vs) f c k e as acc fun x m => h x (by simp [m])
    rw [List.map_cons]
    unfold dcGo
    rw [e1]
    simp only
    rw [e2]
    cases hc : c a with
    | false =>
      rw [hc] at h2
      simp only [Bool.false_eq_true, if_false] at h2
      simp only [h2, ih, List.filter_cons, hc, Bool.false_eq_true, if_false]
    | true =>
      rw [hc] at h2
      simp only [if_true] at h2
      obtain ⟨ok, ρ3, e3, h3, h4⟩ := h2.ex
      obtain ⟨o, ρ4, e4, h5, h6⟩ := h4.ex
      obtain ⟨k', hk'⟩ := hk (k a)
      have ek' := asKey_eq hk'
      simp only [e3, h3, hk', e4, h6, h5]
      rw [← ek', md_put, ih, List.filter_cons, hc, if_pos rfl, List.foldl_cons]
theorem Go_dcF {α κ ν : Type} [DecidableEq κ] {fk : κ → D} [KF : KeyF fk] {fv : ν → D} (hk : ∀ k, ∃ k', asKey (fk k) = some k') {it : Ev → Rs (List D)} {vs : List Nat} {tg : O → Ev → Rs Unit} {tt : Ev → Rs Bool} {ek el : Ev → Rs O} {ρ : Ev} {Q : O → Ev → Prop} (f : α → D) (c : α → Bool) (k : α → κ) (e : α → ν) (as : List α)
    (h : Go (it ρ) (fun ds ρ1 => ds = as.map f ∧ hidable ρ1 vs = true ∧ as.length ≤ 1000 ∧
      (∀ a ∈ as, Go (tg (.leaf (f a)) (wipeE ρ1 vs)) (fun _ ρ2 => Go (tt ρ2) (fun b ρ3 => b = c a ∧ if c a = true then Go (ek ρ3) (fun ok ρ4 => ok.d = fk (k a) ∧ Go (el ρ4) (fun o ρ5 => o.d = fv (e a) ∧ wipeE ρ5 vs = wipeE ρ1 vs)) else wipeE ρ3 vs = wipeE ρ1 vs))) ∧
      Q (.dic (md fk fv ((as.filter c).foldl (fun l a => pt l (k a) (e a)) []))) (unhide ρ1 (wipeE ρ1 vs) vs))) : Go (dcE it vs tg tt ek el ρ) Q := by
  obtain ⟨ds, ρ1, e1, rfl, h1, h2, h3, h4⟩ := h.ex
  unfold dcE
  rw [Go_bnd, e1, Go_ok]
  have := dcGo_filter (KF := KF) (fv := fv) hk f c k e as [] h3
  rw [if_pos ⟨h1, by rw [List.length_map]; exact Nat.le_of_lt (small1000 h2)⟩, show (dcGo vs tg tt ek el (List.map f as) [] (wipeE ρ1 vs)) = _ from this]
  exact Go.okk h4
theorem Go_dcA {α κ ν : Type} [DecidableEq κ] {fk : κ → D} [KF : KeyF fk] {fv : ν → D} (hk : ∀ k, ∃ k', asKey (fk k) = some k') {it : Ev → Rs (List D)} {vs : List Nat} {tg : O → Ev → Rs Unit} {ek el : Ev → Rs O} {ρ : Ev} {Q : O → Ev → Prop} (f : α → D) (k : α → κ) (e : α → ν) (as : List α)
    (h : Go (it ρ) (fun ds ρ1 => ds = as.map f ∧ hidable ρ1 vs = true ∧ as.length ≤ 1000 ∧
      (∀ a ∈ as, Go (tg (.leaf (f a)) (wipeE ρ1 vs)) (fun _ ρ2 => Go (ek ρ2) (fun ok ρ4 => ok.d = fk (k a) ∧ Go (el ρ4) (fun o ρ5 => o.d = fv (e a) ∧ wipeE ρ5 vs = wipeE ρ1 vs)))) ∧
      Q (.dic (md fk fv (as.foldl (fun l a => pt l (k a) (e a)) []))) (unhide ρ1 (wipeE ρ1 vs) vs))) : Go (dcE it vs tg yesT ek el ρ) Q := by
  refine Go_dcF (KF := KF) (fv := fv) hk f (fun _ => true) k e as (h.mono fun ds ρ1 ⟨h1, h2, h3, h4, h5⟩ => ⟨h1, h2, h3, fun a ha => (h4 a ha).mono fun _ ρ2 z => ?_, ?_⟩)
  · unfold yesT
    rw [Go_ok]
    exact ⟨rfl, by rw [if_pos rfl]; exact z⟩
  · rw [List.filter_eq_self.mpr fun _ _ => rfl]
    exact h5
theorem intKey : ∀ k : Int, ∃ k', asKey (PyData.int k) = some k' := fun k => ⟨_, rfl⟩
theorem strKey : ∀ k : List Nat, ∃ k', asKey (St k) = some k' := fun k => ⟨_, rfl⟩
/-- different keys, all of them -/
theorem fold_pt {α κ ν : Type} [DecidableEq κ] (k : α → κ) (e : α → ν) : ∀ (as : List α) (acc : List (κ × ν)), (as.map k).Nodup → (∀ a ∈ as, k a ∉ acc.map (·.1)) → as.foldl (fun l a => pt l (k a) (e a)) acc = acc ++ as.map fun a => (k a, e a)
  | [], acc, _, _ => by simp
  | a :: as, acc, h, hn => by
    rw [List.map_cons, List.nodup_cons] at h
    rw [List.foldl_cons, pt_new (lk_none.mpr (hn a (by simp))), fold_pt k e as _ h.2]
    · simp
    · intro b hb
      rw [List.map_append, List.mem_append]
      rintro (q | q)
      · exact hn b (by simp [hb]) q
      · simp at q
        exact h.1 (q ▸ List.mem_map.mpr ⟨b, hb, rfl⟩)
end Y
/-! what all laws' pools compute (printed), and its lemmas -/
namespace Y
open PySem PySem.Spec PyProof.Rows L2
noncomputable def f__law_mixed : Ev → Rs Ctl := cons (asgS (op2 gMod (tm (callL gInt (aCons (tm (op2 gAdd (tm (op2 gAdd (tm (op2 gMulI (bv 0) (tm (kD (.int 48271))))) (tm (op2 gMulI (bv 1) (tm (kD (.int 69621))))))) (tm (kD (.int 11))))) (aNil)))) (tm (kD (.int 618970019642690137449562111)))) (gN 2))
         (cons (asgS (op2 gMod (tm (callL gInt (aCons (tm (op2 gAdd (tm (op2 gAdd (tm (op2 gMulI (bv 2) (bv 2))) (tm (op2 gMulI (tm (kD (.int 7))) (bv 2))))) (bv 1))) (aNil)))) (tm (kD (.int 162259276829213363391578010288127)))) (gN 3))
         (cons (asgS (op2 gMod (tm (callL gInt (aCons (tm (op2 gAdd (tm (op2 gMulI (bv 3) (bv 3))) (bv 2))) (aNil)))) (tm (kD (.int 618970019642690137449562111)))) (gN 4))
         (retS (op2 gAdd (tm (op2 gMulI (bv 3) (tm (kD (.int 618970019642690137449562111))))) (bv 4)))))
noncomputable def F__law_mixed : Fn := fnS 2 5 f__law_mixed
noncomputable def f__law_rest : Ev → Rs Ctl := cons (asgS (kD (.int 0)) (gN 3))
         (cons (ifS (cmp2 gGt (tm (callL gLenA (aCons (bv 0) (aNil)))) (tm (kD (.int 0)))) (asgS (callL gInt (aCons (tm (op2 gIx (bv 0) (tm (op2 gMod (tm (callL gInt (aCons (bv 1) (aNil)))) (tm (callL gLenA (aCons (bv 0) (aNil)))))))) (aNil))) (gN 3)) (nxS))
         (cons (ifS (cmp2 gLt (bv 3) (tm (kD (.int 0)))) (asgS (op2 gSub (tm (kD (.int 1))) (tm (op2 gMulI (tm (kD (.int 2))) (bv 3)))) (gN 3)) (nxS))
         (cons (ifS (andT (cmp2 gEq (bv 2) (tm (kD (.int 0)))) (andT (cmp2 gLt (bv 1) (tm (callL gLenA (aCons (bv 0) (aNil))))) (cmp2 gGe (bv 3) (tm (op2 gPow (tm (kD (.int 10))) (tm (kD (.int 18)))))))) (retS (op2 gSub (bv 3) (tm (op2 gPow (tm (kD (.int 10))) (tm (kD (.int 18))))))) (nxS))
         (retS (callS F__law_mixed (aCons (tm (op2 gAdd (bv 3) (tm (op2 gMulI (bv 2) (tm (kD (.int 1000003))))))) (aCons (tm (rv 1)) (aNil))))))))
noncomputable def F__law_rest : Fn := fnS 3 4 f__law_rest
noncomputable def f__law_pool : Ev → Rs Ctl := retS (dispL (aCons (tm (rv 0)) (aCons (tm (kD (.int 0))) (aCons (tm (callS F__law_rest (aCons (tm (rv 0)) (aCons (tm (kD (.int 0))) (aCons (tm (kD (.int 0))) (aNil)))))) (aCons (tm (kD (.int 0))) (aNil))))))
noncomputable def F__law_pool : Fn := fnS 1 1 f__law_pool
noncomputable def f__law_next : Ev → Rs Ctl := cons (asgS (op2 gAdd (tm (op2 gIx (bv 0) (tm (kD (.int 1))))) (tm (kD (.int 1)))) (gSubS 0 (tm (kD (.int 1)))))
         (cons (asgS (callS F__law_rest (aCons (tm (op2 gIx (bv 0) (tm (kD (.int 0))))) (aCons (tm (op2 gIx (bv 0) (tm (kD (.int 1))))) (aCons (tm (kD (.int 0))) (aNil))))) (gSubS 0 (tm (kD (.int 2)))))
         (asgS (kD (.int 0)) (gSubS 0 (tm (kD (.int 3))))))
noncomputable def F__law_next : Fn := fnS 1 1 f__law_next
noncomputable def f__law_draw : Ev → Rs Ctl := cons (ifS (cmp2 gLe (tm (op2 gIx (bv 0) (tm (kD (.int 2))))) (tm (kD (.int 1)))) (cons (asgS (op2 gAdd (tm (op2 gIx (bv 0) (tm (kD (.int 3))))) (tm (kD (.int 1)))) (gSubS 0 (tm (kD (.int 3)))))
          (asgS (callS F__law_rest (aCons (tm (op2 gIx (bv 0) (tm (kD (.int 0))))) (aCons (tm (op2 gIx (bv 0) (tm (kD (.int 1))))) (aCons (tm (op2 gIx (bv 0) (tm (kD (.int 3))))) (aNil))))) (gSubS 0 (tm (kD (.int 2)))))) (nxS))
         (cons (asgS (op2 gMod (tm (callL gInt (aCons (tm (op2 gIx (bv 0) (tm (kD (.int 2))))) (aNil)))) (bv 1)) (gN 2))
         (cons (asgS (op2 gDiv (tm (callL gInt (aCons (tm (op2 gIx (bv 0) (tm (kD (.int 2))))) (aNil)))) (bv 1)) (gSubS 0 (tm (kD (.int 2)))))
         (retS (mv 2))))
noncomputable def F__law_draw : Fn := fnS 2 3 f__law_draw
noncomputable def f__law_pick : Ev → Rs Ctl := retS (op2 gIx (bv 1) (tm (callS F__law_draw (aCons (bv 0) (aCons (tm (callL gLenA (aCons (bv 1) (aNil)))) (aNil))))))
noncomputable def F__law_pick : Fn := fnS 2 2 f__law_pick
theorem mixed_go (n p : Int) : Go (F__law_mixed [lf (.int n), lf (.int p)]) (fun o _ => ∃ r : Int, 0 ≤ r ∧ o = .leaf (.int r)) := by
  have hA : (0 : Int) < 618970019642690137449562111 := by decide
  have hB : (0 : Int) < 162259276829213363391578010288127 := by decide
  let f1 : Int := (n * 48271 + p * 69621 + 11) % 618970019642690137449562111
  let s1 : Int := (f1 * f1 + 7 * f1 + p) % 162259276829213363391578010288127
  let t1 : Int := (s1 * s1 + f1) % 618970019642690137449562111
  have hf0 : 0 ≤ f1 := Int.emod_nonneg _ (by decide)
  have hf1 : f1 < 618970019642690137449562111 := Int.emod_lt_of_pos _ hA
  have hs0 : 0 ≤ s1 := Int.emod_nonneg _ (by decide)
  have hs1 : s1 < 162259276829213363391578010288127 := Int.emod_lt_of_pos _ hB
  have ht0 : 0 ≤ t1 := Int.emod_nonneg _ (by decide)
  have lg : ∀ x : Int, 0 ≤ x → x < 2 ^ 120 → x.natAbs.log2 < 1000 := fun x h0 h1 => by
    rcases Nat.eq_zero_or_pos x.natAbs with e | e
    · rw [e]; decide
    · have : x.natAbs.log2 < 120 := by
        rw [Nat.log2_lt (by omega)]
        omega
      omega
  have lf1 := lg f1 hf0 (by omega)
  have ls1 := lg s1 hs0 (by omega)
  have e1 : gMulI (.int f1) (.int f1) = some (.leaf (.int (f1 * f1))) := gMul_w (by omega)
  have e2 : gMulI (.int s1) (.int s1) = some (.leaf (.int (s1 * s1))) := gMul_w (by omega)
  have e3 : gMulI (.int s1) (.int 618970019642690137449562111) = some (.leaf (.int (s1 * 618970019642690137449562111))) := gMul_w (by
    have : (618970019642690137449562111 : Int).natAbs.log2 < 1000 := by decide +kernel
    omega)
  have e4 : gMod (.int (n * 48271 + p * 69621 + 11)) (.int 618970019642690137449562111) = some (.leaf (.int f1)) := gMod_p hA
  have e5 : gMod (.int (f1 * f1 + 7 * f1 + p)) (.int 162259276829213363391578010288127) = some (.leaf (.int s1)) := gMod_p hB
  have e6 : gMod (.int (s1 * s1 + f1)) (.int 618970019642690137449562111) = some (.leaf (.int t1)) := gMod_p hA
  unfold F__law_mixed
  refine go_fnS ?_
  unfold f__law_mixed
  simp [gMul_r, gMul_l, e1, e2, e3, e4, e5, e6]
  have := Int.mul_nonneg hs0 (Int.le_of_lt hA)
  omega
theorem rest_go (ns : List Int) (p f : Int) (hp : 0 ≤ p) : Go (F__law_rest [lf (scr ns), lf (.int p), lf (.int f)]) (fun o _ => ∃ r : Int, 0 ≤ r ∧ o = .leaf (.int r)) := by
  have e10 : gPow (.int 10) (.int 18) = some (.leaf (.int 1000000000000000000)) := gPow_p (by decide)
  have tail : ∀ z : Int, Go (callS F__law_mixed (aCons (tm (op2 gAdd (bv 3) (tm (op2 gMulI (bv 2) (tm (kD (.int 1000003))))))) (aCons (tm (rv 1)) aNil)) [some (lf (scr ns)), some (lf (.int p)), some (lf (.int f)), some (lf (.int z))]) (fun o _ => ∃ r : Int, 0 ≤ r ∧ o = .leaf (.int r)) := fun z => by
    refine Go_callG ?_
    simp [gMul_r]
    exact mixed_go _ _
  unfold F__law_rest
  refine go_fnS ?_
  unfold f__law_rest
  rw [Go_cons]
  simp only [g_asgS, g_kD, g_gN]
  by_cases hn : 0 < ns.length
  · have e1 : gMod (.int p) (.int (ns.length : Int)) = some (.leaf (.int (p % (ns.length : Int)))) := gMod_p (by omega)
    have h0 : 0 ≤ p % (ns.length : Int) := Int.emod_nonneg _ (by omega)
    have h1 : p % (ns.length : Int) < ns.length := Int.emod_lt_of_pos _ (by omega)
    have e2 : gIx (.list (ns.map .int)) (.int (p % (ns.length : Int))) = some (.leaf (.int (ns[(p % (ns.length : Int)).toNat]'(by omega)))) := gIx_lI h0 (by rw [List.getElem?_map, List.getElem?_eq_getElem (by omega)]; rfl)
    generalize ns[(p % (ns.length : Int)).toNat]'(by omega) = z at e2
    have t1 := tail z
    have t2 := tail (1 - 2 * z)
    simp only [scr] at t1 t2
    simp [scr, e10, hn, e1, e2, gMul_l]
    repeat' split
    all_goals first | exact t1 | exact t2 | exact fun _ => t1 | exact fun _ => t2 | omega
  · have t1 := tail 0
    simp only [scr] at t1
    simp [scr, e10, hn]
    repeat' split
    all_goals first | exact t1 | exact fun _ => t1 | omega
def PoolOk (xs : List D) : Prop := ∃ (ns : List Int) (a b c : Int), xs = [scr ns, .int a, .int b, .int c] ∧ 0 ≤ a ∧ 0 ≤ b
theorem pool_go (ns : List Int) : Go (F__law_pool [lf (scr ns)]) (fun o _ => ∃ xs, o = .lst xs ∧ PoolOk xs) := by
  unfold F__law_pool
  refine go_fnS ?_
  unfold f__law_pool
  have t : Go (callS F__law_rest (aCons (tm (rv 0)) (aCons (tm (kD (.int 0))) (aCons (tm (kD (.int 0))) aNil))) [some (lf (scr ns))]) (fun o ρ => ρ = [some (lf (scr ns))] ∧ ∃ r : Int, 0 ≤ r ∧ o = .leaf (.int r)) := by
    refine Go_callG ?_
    simp
    exact rest_go ns 0 0 (by omega)
  simp
  refine t.mono fun o ρ ⟨e, r, h, e2⟩ => ?_
  subst e e2
  simp
  exact ⟨ns, 0, r, 0, rfl, by omega, h⟩
/-- the rest is read anew -/
theorem rest_at {i : Nat} {ns : List Int} {a b c : Int} {io : Bool} {r : Ev} {q : Ev → Rs B} {e : Int} (h0 : 0 ≤ a) : Go (callS F__law_rest (aCons (tm (op2 gIx (bv 0) (tm (kD (.int 0))))) (aCons (tm (op2 gIx (bv 0) (tm (kD (.int 1))))) (aCons (tm (kD (.int e))) aNil))) (some ⟨io, .lst [scr ns, .int a, .int b, .int c]⟩ :: r)) (fun o ρ => ρ = some ⟨io, .lst [scr ns, .int a, .int b, .int c]⟩ :: r ∧ ∃ z : Int, 0 ≤ z ∧ o = .leaf (.int z)) := by
  refine Go_callG ?_
  simp
  exact rest_go ns a e h0
theorem draw_go (xs : List D) (n : Int) (h : PoolOk xs) (h1 : 0 < n) (h2 : n < 2 ^ 62) : Go (F__law_draw [⟨true, .lst xs⟩, lf (.int n)]) (fun o ρ => ∃ v ys, o = .leaf (.int v) ∧ 0 ≤ v ∧ v < n ∧ look ρ 0 = some ⟨true, .lst ys⟩ ∧ PoolOk ys) := by
  obtain ⟨ns, a, b, c, rfl, ha, hb⟩ := h
  have fin : ∀ b c : Int, 0 ≤ b → Go (cons (asgS (op2 gMod (tm (callL gInt (aCons (tm (op2 gIx (bv 0) (tm (kD (.int 2))))) (aNil)))) (bv 1)) (gN 2))
      (cons (asgS (op2 gDiv (tm (callL gInt (aCons (tm (op2 gIx (bv 0) (tm (kD (.int 2))))) (aNil)))) (bv 1)) (gSubS 0 (tm (kD (.int 2)))))
      (retS (mv 2))) [some ⟨true, .lst [scr ns, .int a, .int b, .int c]⟩, some (lf (.int n)), none]) (fun c ρ => ∃ v : Int, c = .rt (.leaf (.int v)) ∧ 0 ≤ v ∧ v < n ∧ ∃ ys, look ρ 0 = some ⟨true, .lst ys⟩ ∧ PoolOk ys) := fun b c hb => by
    have e1 : gMod (.int b) (.int n) = some (.leaf (.int (b % n))) := gMod_p h1
    have e2 : gDiv (.int b) (.int n) = some (.leaf (.int (b / n))) := gDiv_p h1 h2
    simp [e1, e2]
    exact ⟨Int.emod_nonneg _ (by omega), Int.emod_lt_of_pos _ h1, ns, a, b / n, c, rfl, ha, Int.ediv_nonneg hb (by omega)⟩
  unfold F__law_draw
  refine go_fnS ?_
  unfold f__law_draw
  rw [Go_cons]
  have out : ∀ {r : Rs Ctl}, Go r (fun c ρ => ∃ v : Int, c = .rt (.leaf (.int v)) ∧ 0 ≤ v ∧ v < n ∧ ∃ ys, look ρ 0 = some ⟨true, .lst ys⟩ ∧ PoolOk ys) → Go r (fun c ρ => match c with
      | .rt d => ∃ v ys, d = .leaf (.int v) ∧ 0 ≤ v ∧ v < n ∧ look ρ 0 = some ⟨true, .lst ys⟩ ∧ PoolOk ys
      | .nx => ∃ v ys, O.leaf .none = .leaf (.int v) ∧ 0 ≤ v ∧ v < n ∧ look ρ 0 = some ⟨true, .lst ys⟩ ∧ PoolOk ys
      | _ => False) := fun h => h.mono fun c ρ ⟨v, e, h1, h2, ys, h3, h4⟩ => by subst e; exact ⟨v, ys, rfl, h1, h2, h3, h4⟩
  have pre : Go (ifS (cmp2 gLe (tm (op2 gIx (bv 0) (tm (kD (.int 2))))) (tm (kD (.int 1)))) (cons (asgS (op2 gAdd (tm (op2 gIx (bv 0) (tm (kD (.int 3))))) (tm (kD (.int 1)))) (gSubS 0 (tm (kD (.int 3)))))
          (asgS (callS F__law_rest (aCons (tm (op2 gIx (bv 0) (tm (kD (.int 0))))) (aCons (tm (op2 gIx (bv 0) (tm (kD (.int 1))))) (aCons (tm (op2 gIx (bv 0) (tm (kD (.int 3))))) (aNil))))) (gSubS 0 (tm (kD (.int 2)))))) (nxS) [some ⟨true, .lst [scr ns, .int a, .int b, .int c]⟩, some (lf (.int n)), none])
      (fun k ρ => k = .nx ∧ ∃ b c : Int, 0 ≤ b ∧ ρ = [some ⟨true, .lst [scr ns, .int a, .int b, .int c]⟩, some (lf (.int n)), none]) := by
    have t : Go (callS F__law_rest (aCons (tm (op2 gIx (bv 0) (tm (kD (.int 0))))) (aCons (tm (op2 gIx (bv 0) (tm (kD (.int 1))))) (aCons (tm (op2 gIx (bv 0) (tm (kD (.int 3))))) aNil))) [some ⟨true, .lst [scr ns, .int a, .int b, .int (c + 1)]⟩, some (lf (.int n)), none])
        (fun o ρ => ρ = [some ⟨true, .lst [scr ns, .int a, .int b, .int (c + 1)]⟩, some (lf (.int n)), none] ∧ ∃ z : Int, 0 ≤ z ∧ o = .leaf (.int z)) := by
      refine Go_callG ?_
      simp
      exact rest_go ns a (c + 1) ha
    simp
    split
    · refine t.mono fun o ρ ⟨e, z, hz, e2⟩ => ?_
      subst e e2
      simp
      exact hz
    · simp
      exact hb
  refine pre.mono fun k ρ ⟨e, b', c', hb', e2⟩ => ?_
  subst e e2
  exact out (fin b' c' hb')

theorem next_go (xs : List D) (h : PoolOk xs) : Go (F__law_next [⟨true, .lst xs⟩]) (fun o ρ => ∃ ys, look ρ 0 = some ⟨true, .lst ys⟩ ∧ PoolOk ys) := by
  obtain ⟨ns, a, b, c, rfl, ha, hb⟩ := h
  unfold F__law_next
  rw [go_fnS_eq]
  unfold f__law_next
  have t : Go (callS F__law_rest (aCons (tm (op2 gIx (bv 0) (tm (kD (.int 0))))) (aCons (tm (op2 gIx (bv 0) (tm (kD (.int 1))))) (aCons (tm (kD (.int 0))) aNil))) [some ⟨true, .lst [scr ns, .int (a + 1), .int b, .int c]⟩])
      (fun o ρ => ρ = [some ⟨true, .lst [scr ns, .int (a + 1), .int b, .int c]⟩] ∧ ∃ z : Int, 0 ≤ z ∧ o = .leaf (.int z)) := by
    refine Go_callG ?_
    simp
    exact rest_go ns (a + 1) 0 (by omega)
  simp
  refine t.mono fun o ρ ⟨e, z, hz, e2⟩ => ?_
  subst e e2
  simp
  exact ⟨ns, a + 1, z, 0, rfl, by omega, hz⟩
/-! the same as steps of a run -/
theorem Go_drawB {ρ : Ev} {j : Nat} {io : Bool} {xs : List D} {n : Int} {Q : O → Ev → Prop} (h0 : look ρ j = some ⟨io, .lst xs⟩) (hp : PoolOk xs) (h1 : 0 < n) (h2 : n < 2 ^ 62)
    (h : ∀ v ys, 0 ≤ v → v < n → PoolOk ys → Q (.leaf (.int v)) (ρ.set j (some ⟨io, .lst ys⟩))) : Go (callB F__law_draw [.slot j, .tmp (.leaf (.int n))] ρ) Q :=
  Go_lentB h0 rfl ((draw_go xs n hp h1 h2).mono fun o ρ ⟨v, ys, e, h3, h4, h5, h6⟩ => ⟨ys, h5, by subst e; exact h v ys h3 h4 h6⟩)
theorem pick_at (xs : List D) (opts : List D) (h : PoolOk xs) (h1 : opts ≠ []) (h2 : opts.length ≤ 100000) : Go (F__law_pick [⟨true, .lst xs⟩, lf (.list opts)]) (fun o ρ => (∃ d ∈ opts, o = .leaf d) ∧ ∃ ys, look ρ 0 = some ⟨true, .lst ys⟩ ∧ PoolOk ys) := by
  have hpos : 0 < opts.length := List.length_pos_iff.mpr h1
  unfold F__law_pick
  rw [go_fnS_eq]
  unfold f__law_pick
  rw [g_retS, g_op2, g_bv]
  refine ⟨rfl, ?_⟩
  rw [g_tm]
  refine Go_callJ ?_
  simp
  refine (draw_go xs opts.length h (by omega) (by omega)).mono fun o ρ ⟨v, ys, e, h3, h4, h5, h6⟩ => ?_
  subst e
  rw [h5]
  have e2 : gIx (.list opts) (.int v) = some (.leaf (opts[v.toNat]'(by omega))) := gIx_lI h3 (List.getElem?_eq_getElem (by omega))
  simp [e2]
  exact h6
theorem Go_pickB {ρ : Ev} {j : Nat} {io : Bool} {xs : List D} {o : O} {opts : List D} {Q : O → Ev → Prop} (h0 : look ρ j = some ⟨io, .lst xs⟩) (ho : o.d = .list opts) (hp : PoolOk xs) (h1 : opts ≠ []) (h2 : opts.length ≤ 100000)
    (h : ∀ d ys, d ∈ opts → PoolOk ys → Q (.leaf d) (ρ.set j (some ⟨io, .lst ys⟩))) : Go (callB F__law_pick [.slot j, .tmp o] ρ) Q :=
  Go_lentB (ds := [.list opts]) h0 (by rw [tmpD_tmp, tmpD_nil, ho]; rfl) ((pick_at xs opts hp h1 h2).mono fun o ρ ⟨⟨d, hd, e⟩, ys, h5, h6⟩ => ⟨ys, h5, by subst e; exact h d ys hd h6⟩)
theorem Go_nextB {ρ : Ev} {j : Nat} {io : Bool} {xs : List D} {Q : O → Ev → Prop} (h0 : look ρ j = some ⟨io, .lst xs⟩) (hp : PoolOk xs)
    (h : ∀ o ys, PoolOk ys → Q o (ρ.set j (some ⟨io, .lst ys⟩))) : Go (callB F__law_next [.slot j] ρ) Q :=
  Go_lentB h0 rfl ((next_go xs hp).mono fun o ρ ⟨ys, h5, h6⟩ => ⟨ys, h5, h o ys h6⟩)
end Y
/-! _law_same (printed) -/
namespace Y
open PySem PySem.Spec PyProof.Rows L2
noncomputable def f__law_same (R : Fn) : Ev → Rs Ctl := cons (ifS (isiE "dict" (bv 1)) (cons (ifS (orT (notT (isiE "dict" (bv 0))) (cmp2 gNe (tm (callL gLenA (aCons (bv 0) (aNil)))) (tm (callL gLenA (aCons (bv 1) (aNil)))))) (retS (kD (.bool false))) (nxS))
          (retS (callL gAll (aCons (tm (lcE (nmI 1) [2] (gN 2) (yesT) (bl (andT (cmp2 gIn (bv 2) (bv 0)) (asB (callS R (aCons (tm (op2 gIx (bv 0) (bv 2))) (aCons (tm (op2 gIx (bv 1) (bv 2))) (aNil))))))))) (aNil))))) (nxS))
         (cons (ifS (orT (isiE "list" (bv 1)) (isiE "tuple" (bv 1))) (cons (ifS (orT (cmp2 gNe (tm (bl (isiE "list" (bv 1)))) (tm (bl (isiE "list" (bv 0))))) (cmp2 gNe (tm (bl (isiE "tuple" (bv 1)))) (tm (bl (isiE "tuple" (bv 0)))))) (retS (kD (.bool false))) (nxS))
          (retS (bl (andT (cmp2 gEq (tm (callL gLenA (aCons (bv 0) (aNil)))) (tm (callL gLenA (aCons (bv 1) (aNil))))) (asB (callL gAll (aCons (tm (lcE (rng1 (aCons (tm (callL gLenA (aCons (bv 1) (aNil)))) (aNil))) [3] (gN 3) (yesT) (callS R (aCons (tm (op2 gIx (bv 0) (bv 3))) (aCons (tm (op2 gIx (bv 1) (bv 3))) (aNil)))))) (aNil)))))))) (nxS))
         (cons (ifS (isiE "str" (bv 1)) (retS (bl (andT (isiE "str" (bv 0)) (cmp2 gEq (bv 0) (bv 1))))) (nxS))
         (cons (ifS (orT (cmp2 gIs (bv 1) (tm (kD .none))) (orT (cmp2 gIs (bv 1) (tm (kD (.bool true)))) (cmp2 gIs (bv 1) (tm (kD (.bool false)))))) (retS (bl (orT (andT (cmp2 gIs (bv 1) (tm (kD .none))) (cmp2 gIs (bv 0) (tm (kD .none)))) (orT (andT (cmp2 gIs (bv 1) (tm (kD (.bool true)))) (cmp2 gIs (bv 0) (tm (kD (.bool true))))) (andT (cmp2 gIs (bv 1) (tm (kD (.bool false)))) (cmp2 gIs (bv 0) (tm (kD (.bool false))))))))) (nxS))
         (retS (bl (andT (isiE "int" (bv 0)) (andT (notT (isiE "bool" (bv 0))) (cmp2 gEq (bv 0) (bv 1)))))))))
noncomputable def N__law_same : Nat → Fn
  | 0 => fun _ => .stk
  | k + 1 => fnS 2 4 (f__law_same (N__law_same k))
noncomputable def F__law_same : Fn := N__law_same 6
/-! _law_same lemmas -/
def SameAt (k : Nat) (d : D) : Prop := out (N__law_same k [lf d, lf d]) = some (.leaf (.bool true))
theorem rangeD_nat {n : Nat} : rangeD 0 (n : Int) = (List.range n).map fun i => .int ((i : Nat) : Int) := by
  unfold rangeD
  rw [show ((n : Int) - 0).toNat = n by omega]
  refine List.map_congr_left fun i _ => ?_
  rw [Int.zero_add]
theorem sameAt_go {k : Nat} {d : D} (h : Go (f__law_same (N__law_same k) [some (lf d), some (lf d), none, none]) (fun c ρ => c = .rt (.leaf (.bool true)))) : SameAt (k + 1) d := by
  refine out_go ?_
  show Go (fnS 2 4 (f__law_same (N__law_same k)) _) _
  rw [go_fnS_eq]
  exact h.mono fun c ρ e => by subst e; rfl
theorem same_int (k : Nat) (i : Int) : SameAt (k + 1) (.int i) := sameAt_go (by unfold f__law_same; simp)
theorem same_bool (k : Nat) (b : Bool) : SameAt (k + 1) (.bool b) := sameAt_go (by unfold f__law_same; cases b <;> simp)
theorem same_none (k : Nat) : SameAt (k + 1) .none := sameAt_go (by unfold f__law_same; simp)
theorem same_str (k : Nat) (l : List Nat) : SameAt (k + 1) (St l) := sameAt_go (by unfold f__law_same; simp)
theorem same_seq (k : Nat) (ds : List D) (h1 : ds.length ≤ 1000) (h2 : ∀ d ∈ ds, SameAt k d) (w : D) (hw : w = .list ds ∨ w = .tuple ds) : SameAt (k + 1) w := by
  have key : ∀ (w : D), (∀ (i : Nat) (d : D), ds[i]? = some d → gIx w (.int (i : Int)) = some (.leaf d)) → gLenA [w] = some (.leaf (.int ds.length)) →
      Go (lcE (rng1 (aCons (tm (callL gLenA (aCons (bv 1) aNil))) aNil)) [3] (gN 3) yesT (callS (N__law_same k) (aCons (tm (op2 gIx (bv 0) (bv 3))) (aCons (tm (op2 gIx (bv 1) (bv 3))) aNil))) [some (lf w), some (lf w), none, none])
        (fun o ρ => o = .lst ((List.range ds.length).map fun _ => .bool true) ∧ ρ = [some (lf w), some (lf w), none, none]) := fun w hx hl => by
    refine Go_lcA (fun i : Nat => PyData.int (i : Int)) (fun _ => .bool true) (List.range ds.length) ?_
    simp [hl]
    refine ⟨by omega, rangeD_nat, h1, fun i hi => ?_⟩
    have hd : ds[i]? = some ds[i] := List.getElem?_eq_getElem hi
    have e := h2 ds[i] (List.getElem_mem hi)
    unfold SameAt at e
    simp [hx i _ hd, g_callS, e]
  have hall : gAll [.list ((List.range ds.length).map fun _ => PyData.bool true)] = some (.leaf (.bool true)) := by
    rw [all_bl (f := fun _ => true)]
    simp
  refine sameAt_go ?_
  unfold f__law_same
  rcases hw with rfl | rfl
  · simp
    refine (key (.list ds) (fun i d h => gIx_l h) rfl).mono fun o ρ ⟨e1, e2⟩ => ?_
    subst e1 e2
    simp [hall]
  · simp
    refine (key (.tuple ds) (fun i d h => gIx_t h) rfl).mono fun o ρ ⟨e1, e2⟩ => ?_
    subst e1 e2
    simp [hall]
theorem same_list (k : Nat) (ds : List D) (h1 : ds.length ≤ 1000) (h2 : ∀ d ∈ ds, SameAt k d) : SameAt (k + 1) (.list ds) := same_seq k ds h1 h2 _ (.inl rfl)
theorem same_tuple (k : Nat) (ds : List D) (h1 : ds.length ≤ 1000) (h2 : ∀ d ∈ ds, SameAt k d) : SameAt (k + 1) (.tuple ds) := same_seq k ds h1 h2 _ (.inr rfl)
theorem same_map {α : Type} (k : Nat) (f : α → D) (as : List α) (h1 : as.length ≤ 1000) (h2 : ∀ a ∈ as, SameAt k (f a)) : SameAt (k + 1) (.list (as.map f)) := same_list k _ (by rw [List.length_map]; exact h1) fun d hd => by
  obtain ⟨a, ha, rfl⟩ := List.mem_map.mp hd
  exact h2 a ha
theorem gLenA_k {kvs : List (D × D)} (h : kkeys kvs = true) : gLenA [.dict kvs] = some (.leaf (.int kvs.length)) := gLen_d h
theorem same_md {κ α : Type} [DecidableEq κ] (fk : κ → D) [KeyF fk] (fv : α → D) (k : Nat) (l : List (κ × α)) (hk : kkeys (md fk fv l) = true) (hn : KNd l) (h1 : l.length ≤ 1000) (h2 : ∀ p ∈ l, SameAt k (fv p.2)) : SameAt (k + 1) (.dict (md fk fv l)) := by
  have hall : gAll [.list (l.map fun _ => PyData.bool true)] = some (.leaf (.bool true)) := by
    rw [all_bl (f := fun _ => true)]
    simp
  refine sameAt_go ?_
  unfold f__law_same
  simp [gLenA_k hk]
  refine Go_lcA (fun p : κ × α => fk p.1) (fun _ => .bool true) l ?_
  have hkk : keyL (md fk fv l) = l.map fun p => fk p.1 := by rw [keyL_md, List.map_map]; rfl
  have el : ∀ p ∈ l, lk l p.1 = some p.2 := fun p hp => lk_of hn hp
  simp [hkk, h1, hall]
  intro a b hp
  have e := h2 _ hp
  unfold SameAt at e
  have e1 := gIx_md (fk := fk) (fv := fv) (el _ hp)
  have e2 : gIn (fk a) (.dict (md fk fv l)) = some true := by rw [gIn_md, el _ hp]; rfl
  simp only at e1 e
  simp [e1, e2, g_callS, e]
theorem same_v {d : D} (h : SameAt 6 d) : out (F__law_same [lf d, lf d]) = some (.leaf (.bool true)) := h
end Y
/-! Y: running two fors, pop, sorted and copies of dicts with tuple keys, join -/
namespace Y
open PySem PySem.Spec PyProof.Rows L2
section
variable {ρ : Ev}
def popO2 : O → D → Option O
  | .dic kvs, k => if isKey k = true ∧ (lookD kvs k).isSome = true then some (.dic (dropD kvs k)) else none
  | _, _ => none
@[simp] theorem g_popA {j : Nat} {fk : Ev → Rs B} {Q : Unit → Ev → Prop} : Go (popA j fk ρ) Q = ((∃ io ds, look ρ j = some ⟨io, .dic ds⟩) ∧ Go (fk ρ) (fun b ρ1 => match (b.val ρ1).bind fun k => (look ρ1 j).bind fun ex => (popO2 ex.o k).map fun c => (⟨ex.io, c⟩ : E) with
    | some e => Q () (ρ1.set j (some e))
    | none => False)) := by
  unfold popA
  rw [Go_bnd, g_bv]
  cases h : ρ[j]? with
  | none => simp [look, h]
  | some m =>
    cases m with
    | none => simp [look, h]
    | some ex =>
      obtain ⟨io, o⟩ := ex
      have hl : look ρ j = some ⟨io, o⟩ := by unfold look; rw [h]
      rw [hl]
      cases o with
      | leaf d => simp
      | lst d => simp
      | dic ds =>
        simp only [Option.isSome_some, true_and]
        rw [Go_bnd]
        have e : (∃ io' ds', some (⟨io, .dic ds⟩ : E) = some ⟨io', .dic ds'⟩) = True := by simp
        rw [e, true_and]
        congr 1
        funext b ρ1
        cases b.val ρ1 with
        | none => simp
        | some k =>
          simp only [Option.bind_some]
          unfold look
          cases ρ1[j]? with
          | none => simp
          | some m =>
            cases m with
            | none => simp
            | some ex1 =>
              obtain ⟨io1, o1⟩ := ex1
              cases o1 with
              | leaf d => simp [popO2]
              | lst d => simp [popO2]
              | dic ds1 =>
                simp only [Option.bind_some, popO2]
                by_cases hs : isKey k = true ∧ (lookD ds1 k).isSome = true
                · rw [if_pos hs, if_pos hs]; simp
                · rw [if_neg hs, if_neg hs]; simp
@[simp] theorem g_m1E {g : D → D → Option O} {fa fb : Ev → Rs B} {Q : O → Ev → Prop} : Go (m1E g fa fb ρ) Q = Go (fa ρ) (fun a ρ1 => match a.val ρ1 with
    | some (.str _) => Go (fb ρ1) (fun b ρ2 => match (a.val ρ2).bind fun x => (b.val ρ2).bind fun y => g x y with | some o => Q o ρ2 | none => False)
    | _ => False) := by
  unfold m1E
  rw [Go_bnd]
  congr 1
  funext a ρ1
  cases h1 : a.val ρ1 with
  | none => simp only [Go_stk]
  | some d =>
    cases d with
    | str z =>
      simp only
      rw [Go_bnd]
      congr 1
      funext b ρ2
      cases a.val ρ2 with
      | none => simp
      | some x =>
        cases b.val ρ2 with
        | none => simp
        | some y =>
          simp only [Option.bind_some]
          cases g x y <;> simp
    | _ => simp only [Go_stk]
@[simp] theorem g_m0E {g : D → Option O} {fa : Ev → Rs B} {Q : O → Ev → Prop} : Go (m0E g fa ρ) Q = Go (fa ρ) (fun a ρ1 => match a.val ρ1 with
    | some (.str z) => (match g (.str z) with | some o => Q o ρ1 | none => False)
    | _ => False) := by
  unfold m0E
  rw [Go_bnd]
  congr 1
  funext a ρ1
  cases h1 : a.val ρ1 with
  | none => simp only [Go_stk]
  | some d =>
    cases d with
    | str z =>
      simp only
      cases g (.str z) <;> simp
    | _ => simp only [Go_stk]
end
theorem isKey_P2 {p : Int × Int} : isKey (P2 p) = true := rfl
theorem popO2_p {α : Type} {fv : α → D} {l : List ((Int × Int) × α)} {k : Int × Int} (h : (lk l k).isSome = true) : popO2 (.dic (md P2 fv l)) (P2 k) = some (.dic (md P2 fv (dp l k))) := by
  show (if isKey (P2 k) = true ∧ (lookD (md P2 fv l) (P2 k)).isSome = true then some (O.dic (dropD (md P2 fv l) (P2 k))) else none) = _
  rw [md_look (fk := P2), md_drop (fk := P2), if_pos ⟨rfl, by revert h; cases lk l k <;> simp⟩]
theorem gSortedB_l {ds : List D} : gSortedB [.list ds] = gSortedA [.list ds] := rfl
theorem gSortedB_pl {ps : List (Int × Int)} : gSortedB [PL ps] = some (.lst ((sortP ps).map P2)) := gSortedA_pl
theorem gSortedB_il {ns : List Int} : gSortedB [IL ns] = some (.lst ((sortI ns).map .int)) := gSortedA_il
theorem gSortedB_md {α : Type} {fv : α → D} {l : List ((Int × Int) × α)} (h : l.length ≤ 1000) : gSortedB [.dict (md P2 fv l)] = some (.lst ((sortP (l.map (·.1))).map P2)) := by
  cases l with
  | nil =>
    have e1 : sortP [] = [] := by unfold sortP; simp
    have e2 : sortZ [] = [] := by unfold sortZ; simp
    show some (O.lst ((sortZ []).map .int)) = some (O.lst ((sortP []).map P2))
    rw [e1, e2]
    rfl
  | cons p l =>
    have e : (md P2 fv (p :: l)).map (·.1) = ((p :: l).map (·.1)).map P2 := by unfold md; rw [List.map_map, List.map_map]; rfl
    show (if tupKeys (md P2 fv (p :: l)) = true then (if sortOk ((md P2 fv (p :: l)).map (·.1)) = true ∧ (md P2 fv (p :: l)).length ≤ 1000 then some (O.lst (sortD ((md P2 fv (p :: l)).map (·.1)))) else none) else gSortedA [.dict (md P2 fv (p :: l))]) = _
    rw [if_pos (show tupKeys (md P2 fv (p :: l)) = true from rfl), e, md_len]
    have h2 := gSorted_p (ps := (p :: l).map (·.1))
    have h3 : gSorted [PL ((p :: l).map (·.1))] = if sortOk (((p :: l).map (·.1)).map P2) = true then some (O.lst (sortD (((p :: l).map (·.1)).map P2))) else none := rfl
    rw [h3] at h2
    by_cases hs : sortOk (((p :: l).map (·.1)).map P2) = true
    · rw [if_pos hs] at h2
      rw [if_pos ⟨hs, h⟩, h2]
    · rw [if_neg hs] at h2; cases h2
theorem gDictB_k {kvs : List (D × D)} (h : kkeys kvs = true) : gDictB [.dict kvs] = some (.dic kvs) := by
  show (if kkeys kvs = true then some (O.dic kvs) else if smallT kvs = true then some (O.dic kvs) else none) = _
  rw [if_pos h]
theorem gDictB_t {α : Type} {fv : α → D} {l : List ((Int × Int) × α)} (h : ∀ p ∈ l, 0 ≤ p.1.1 ∧ p.1.1 < 10 ∧ 0 ≤ p.1.2 ∧ p.1.2 < 6) : gDictB [.dict (md P2 fv l)] = some (.dic (md P2 fv l)) := by
  show (if kkeys (md P2 fv l) = true then some (O.dic (md P2 fv l)) else if smallT (md P2 fv l) = true then some (O.dic (md P2 fv l)) else none) = _
  have : smallT (md P2 fv l) = true := by
    unfold smallT md
    rw [List.all_map, List.all_eq_true]
    intro p hp
    have := h p hp
    show decide _ = true
    exact decide_eq_true this
  rw [this]
  split <;> rfl
theorem sortP_uniq {a b : List (Int × Int)} (h : a.Perm b) : sortP a = sortP b := by
  have pw : ∀ l, (sortP l).Pairwise fun p q => leP p q = true := fun l => List.pairwise_mergeSort (le := leP) (fun a b c h1 h2 => by
    unfold leP at *
    simp only [decide_eq_true_eq] at *
    omega) (fun a b => by
    unfold leP
    simp only [Bool.or_eq_true, decide_eq_true_eq]
    omega) l
  have key : ∀ {l1 l2 : List (Int × Int)}, l1.Perm l2 → l1.Pairwise (fun p q => leP p q = true) → l2.Pairwise (fun p q => leP p q = true) → l1 = l2 := by
    intro l1
    induction l1 with
    | nil => intro l2 p _ _; exact List.Perm.nil_eq p
    | cons x l1 ih =>
      intro l2 p h1 h2
      cases l2 with
      | nil => exact absurd p.length_eq (by simp)
      | cons y l2 =>
        have exy : x = y := by
          have m1 : x ∈ y :: l2 := p.subset (by simp)
          have m2 : y ∈ x :: l1 := p.symm.subset (by simp)
          rcases List.mem_cons.mp m1 with q | q
          · exact q
          · rcases List.mem_cons.mp m2 with q2 | q2
            · exact q2.symm
            · have k1 := (List.pairwise_cons.mp h2).1 x q
              have k2 := (List.pairwise_cons.mp h1).1 y q2
              unfold leP at k1 k2
              simp only [decide_eq_true_eq] at k1 k2
              obtain ⟨x1, x2⟩ := x
              obtain ⟨y1, y2⟩ := y
              simp only at k1 k2
              have : x1 = y1 ∧ x2 = y2 := by omega
              rw [this.1, this.2]
        subst exy
        rw [ih (List.Perm.cons_inv p) (List.pairwise_cons.mp h1).2 (List.pairwise_cons.mp h2).2]
  exact key ((sortP_perm a).trans (h.trans (sortP_perm b).symm)) (pw a) (pw b)
theorem gSortSet_il {ns : List Int} (h : ns.length < 64) : gSortSet (IL ns) = some (.lst ((sset ns).map .int)) := by
  show (match intsD (ns.map .int) with | some ns => if ns.length < 64 then some (O.lst ((sset ns).map .int)) else none | none => none) = _
  rw [intsD_map]
  simp only
  rw [if_pos h]
theorem same_mdA {κ α : Type} [DecidableEq κ] (fk : κ → D) [KeyF fk] (fv : α → D) (k : Nat) (l : List (κ × α)) (hn : KNd l) (h1 : l.length ≤ 1000) (h2 : ∀ p ∈ l, SameAt k (fv p.2)) : SameAt (k + 1) (.dict (md fk fv l)) := by
  have hall : gAll [.list (l.map fun _ => PyData.bool true)] = some (.leaf (.bool true)) := by
    rw [all_bl (f := fun _ => true)]
    simp
  refine sameAt_go ?_
  unfold f__law_same
  simp
  refine Go_lcA (fun p : κ × α => fk p.1) (fun _ => .bool true) l ?_
  have hkk : keyL (md fk fv l) = l.map fun p => fk p.1 := by rw [keyL_md, List.map_map]; rfl
  have el : ∀ p ∈ l, lk l p.1 = some p.2 := fun p hp => lk_of hn hp
  simp [hkk, h1, hall]
  intro a b hp
  have e := h2 _ hp
  unfold SameAt at e
  have e1 := gIx_md (fk := fk) (fv := fv) (el _ hp)
  have e2 : gIn (fk a) (.dict (md fk fv l)) = some true := by rw [gIn_md, el _ hp]; rfl
  simp only at e1 e
  simp [e1, e2, g_callS, e]
/-- a loop over keys that leaves with False -/
theorem Go_forBm {α : Type} {it : Ev → Rs (List D)} {cl : List Nat} {tg : O → Ev → Rs Unit} {body : Ev → Rs Ctl} {ρ : Ev} {Q : Ctl → Ev → Prop} (f : α → D) (good : α → Bool) (ρh : Ev) (as : List α) (h : Go (it ρ) (fun ds ρ0 => ds = as.map f ∧ clrs ρ0 cl = ρh ∧
    (∀ a ∈ as, Go (tg (.leaf (f a)) ρh) (fun _ ρ1 => Go (body ρ1) (fun c ρ2 => if good a = true then c = .nx ∧ clrs ρ2 cl = ρh else c = .rt (.leaf (.bool false)))))))
    (hq : if as.all good = true then Q .nx ρh else ∀ ρ', Q (.rt (.leaf (.bool false))) ρ') : Go (forS it tg body cl ρ) Q := by
  cases as with
  | nil =>
    refine Go_forB (fun _ => true) ρh 0 (h.mono fun ds ρ0 ⟨h1, h2, h3⟩ => ⟨by rw [h1]; rfl, h2, fun k d hk => by rw [h1] at hk; simp at hk⟩) ?_
    simp at hq ⊢
    exact hq
  | cons a0 r =>
    refine Go_forB (fun k => good ((a0 :: r).getD k a0)) ρh (a0 :: r).length (h.mono fun ds ρ0 ⟨h1, h2, h3⟩ => ⟨by rw [h1, List.length_map], h2, fun k d hk => ?_⟩) ?_
    · rw [h1, List.getElem?_map] at hk
      obtain ⟨a, ha, rfl⟩ := Option.map_eq_some_iff.mp hk
      have := h3 a (List.mem_iff_getElem?.mpr ⟨k, ha⟩)
      have e : (a0 :: r).getD k a0 = a := by rw [List.getD, ha]; rfl
      rw [e]
      exact this
    · have e : (List.range (a0 :: r).length).all (fun k => good ((a0 :: r).getD k a0)) = (a0 :: r).all good := by
        rw [Bool.eq_iff_iff, List.all_eq_true, List.all_eq_true]
        constructor
        · intro z a ha
          obtain ⟨k, hk⟩ := List.mem_iff_getElem?.mp ha
          have := z k (by simpa using (List.getElem?_eq_some_iff.mp hk).1)
          have e : (a0 :: r).getD k a0 = a := by rw [List.getD, hk]; rfl
          rw [e] at this
          exact this
        · intro z k hk
          have hk : k < (a0 :: r).length := by simpa using hk
          have e : (a0 :: r).getD k a0 = (a0 :: r)[k] := by rw [List.getD, List.getElem?_eq_getElem hk]; rfl
          rw [e]
          exact z _ (List.getElem_mem hk)
      rw [e]
      exact hq
/-! two fors -/
theorem lcGo_all {α : Type} {vs : List Nat} {tg : O → Ev → Rs Unit} {el : Ev → Rs O} {ρw : Ev} (f : α → D) (e : α → D) (as : List α)
    (h : ∀ a ∈ as, Go (tg (.leaf (f a)) ρw) (fun _ ρ1 => Go (el ρ1) (fun o ρ3 => o.d = e a ∧ wipeE ρ3 vs = ρw))) : lcGo vs tg yesT el (as.map f) ρw = .ok (as.map e) ρw := by
  have := lcGo_filter (tg := tg) (tt := yesT) (el := el) (ρw := ρw) (vs := vs) f (fun _ => true) e as fun a ha => (h a ha).mono fun _ ρ1 h1 => by
    unfold yesT
    rw [Go_ok]
    refine ⟨rfl, ?_⟩
    rw [if_pos rfl]
    exact h1
  rw [this, List.filter_eq_self.mpr (fun _ _ => rfl)]
theorem Go_lc22 {α β : Type} {it it1 : Ev → Rs (List D)} {vs vs1 : List Nat} {tg tg1 : O → Ev → Rs Unit} {el : Ev → Rs O} {ρ : Ev} {Q : O → Ev → Prop} (f : α → D) (g : α → β → D) (as : List α) (bs : α → List β) (e : α → β → D)
    (h : Go (it ρ) (fun ds ρ1 => ds = as.map f ∧ hidable ρ1 vs = true ∧ (as.flatMap fun a => (bs a).map (e a)).length ≤ 1000 ∧
      (∀ a ∈ as, Go (tg (.leaf (f a)) (wipeE ρ1 vs)) (fun _ ρ2 => Go (it1 ρ2) (fun es ρ3 => es = (bs a).map (g a) ∧
        (∀ b ∈ bs a, Go (tg1 (.leaf (g a b)) (wipeE ρ3 vs1)) (fun _ ρ4 => Go (el ρ4) (fun o ρ5 => o.d = e a b ∧ wipeE ρ5 vs1 = wipeE ρ3 vs1))) ∧ wipeE (wipeE ρ3 vs1) vs = wipeE ρ1 vs))) ∧
      Q (.lst (as.flatMap fun a => (bs a).map (e a))) (unhide ρ1 (wipeE ρ1 vs) vs))) : Go (lc2E it vs vs1 tg yesT it1 tg1 yesT el ρ) Q := by
  obtain ⟨ds, ρ1, e1, rfl, h1, h2, h3, h4⟩ := h.ex
  have key : ∀ as : List α, (∀ a ∈ as, Go (tg (.leaf (f a)) (wipeE ρ1 vs)) (fun _ ρ2 => Go (it1 ρ2) (fun es ρ3 => es = (bs a).map (g a) ∧
        (∀ b ∈ bs a, Go (tg1 (.leaf (g a b)) (wipeE ρ3 vs1)) (fun _ ρ4 => Go (el ρ4) (fun o ρ5 => o.d = e a b ∧ wipeE ρ5 vs1 = wipeE ρ3 vs1))) ∧ wipeE (wipeE ρ3 vs1) vs = wipeE ρ1 vs))) →
      lc2Go vs vs1 tg yesT it1 tg1 yesT el (as.map f) (wipeE ρ1 vs) = .ok (as.flatMap fun a => (bs a).map (e a)) (wipeE ρ1 vs) := by
    intro as
    induction as with
    | nil => intro _; rfl
    | cons a as ih =>
      intro h
      obtain ⟨u, ρ2, e2, h5⟩ := (h a (by simp)).ex
      obtain ⟨es, ρ3, e3, rfl, h6, h7⟩ := h5.ex
      have ih := ih fun x m => h x (by simp [m])
      rw [List.map_cons]
      unfold lc2Go
      have l1 := lcGo_all (vs := vs1) (tg := tg1) (el := el) (ρw := wipeE ρ3 vs1) (g a) (e a) (bs a) h6
      have ey : yesT ρ2 = .ok true ρ2 := rfl
      simp only [e2, ey, e3, l1, h7, ih, List.flatMap_cons]
  unfold lc2E
  rw [Go_bnd, e1, Go_ok]
  rw [if_pos h1, key as h3]
  simp only
  rw [if_pos (Nat.le_of_lt (small1000 h2))]
  exact Go.okk h4
/-! a call that is lent a dict of ours between arguments at hand -/
theorem tmpD_cons {o : O} {bs : List B} {ds : List D} (h : tmpD (.tmp o :: bs) = some ds) : ∃ ds', tmpD bs = some ds' ∧ ds = o.d :: ds' := by
  rw [tmpD_tmp] at h
  obtain ⟨ds', h', e⟩ := Option.map_eq_some_iff.mp h
  exact ⟨ds', h', e.symm⟩
theorem lend_tmps {ρ : Ev} : ∀ {bs : List B} {ds : List D}, tmpD bs = some ds → lend bs ρ = some (ds.map lf, ρ)
  | [], _, h => by cases h; rfl
  | .tmp o :: bs, ds, h => by
    obtain ⟨ds', h', rfl⟩ := tmpD_cons h
    rw [lend, lend_tmps h']
    rfl
  | .slot j :: bs, ds, h => by simp [tmpD] at h
theorem unlend_tmps {ρ' ρ : Ev} : ∀ {bs : List B} {ds : List D} {i : Nat}, tmpD bs = some ds → unlend ρ' i bs (ds.map lf) ρ = some ρ
  | [], _, i, h => by cases h; rfl
  | .tmp o :: bs, ds, i, h => by
    obtain ⟨ds', h', rfl⟩ := tmpD_cons h
    rw [List.map_cons, unlend, unlend_tmps h']
  | .slot j :: bs, ds, i, h => by simp [tmpD] at h
theorem lend_mid {ρ : Ev} {j : Nat} {io : Bool} {kvs : List (D × D)} {post : List B} {dq : List D} (h0 : look ρ j = some ⟨io, .dic kvs⟩) (h2 : tmpD post = some dq) : ∀ {pre : List B} {dp : List D}, tmpD pre = some dp →
    lend (pre ++ .slot j :: post) ρ = some (dp.map lf ++ ⟨io, .dic kvs⟩ :: dq.map lf, ρ.set j none)
  | [], _, h => by
    cases h
    rw [List.nil_append, lend, look_of h0]
    simp only
    rw [lend_tmps h2]
    rfl
  | .tmp o :: bs, ds, h => by
    obtain ⟨ds', h', rfl⟩ := tmpD_cons h
    rw [List.cons_append, lend, lend_mid h0 h2 h']
    rfl
  | .slot j :: bs, ds, h => by simp [tmpD] at h
theorem unlend_mid {ρ ρ' : Ev} {j : Nat} {io : Bool} {kvs kvs' : List (D × D)} {post : List B} {dq : List D} (h2 : tmpD post = some dq) : ∀ {pre : List B} {dp : List D} {i : Nat}, tmpD pre = some dp → look ρ' (i + dp.length) = some ⟨true, .dic kvs'⟩ →
    unlend ρ' i (pre ++ .slot j :: post) (dp.map lf ++ ⟨io, .dic kvs⟩ :: dq.map lf) ρ = some (ρ.set j (some ⟨io, .dic kvs'⟩))
  | [], _, i, h, hl => by
    cases h
    have hl : look ρ' i = some ⟨true, .dic kvs'⟩ := by simpa using hl
    rw [List.nil_append, List.map_nil, List.nil_append, unlend]
    simp only [look_of hl]
    exact unlend_tmps h2
  | .tmp o :: bs, ds, i, h, hl => by
    obtain ⟨ds', h', rfl⟩ := tmpD_cons h
    rw [List.cons_append, List.map_cons, List.cons_append, unlend]
    exact unlend_mid h2 h' (by rw [List.length_cons] at hl; rw [show i + 1 + ds'.length = i + (ds'.length + 1) by omega]; exact hl)
  | .slot j :: bs, ds, i, h, hl => by simp [tmpD] at h
theorem Go_lentD {F : Fn} {ρ : Ev} {j : Nat} {io : Bool} {kvs : List (D × D)} {pre post : List B} {dp dq : List D} {Q : O → Ev → Prop} (h0 : look ρ j = some ⟨io, .dic kvs⟩) (h1 : tmpD pre = some dp) (h2 : tmpD post = some dq)
    (h : Go (F (dp.map lf ++ ⟨true, .dic kvs⟩ :: dq.map lf)) (fun o ρ' => ∃ kvs', look ρ' dp.length = some ⟨true, .dic kvs'⟩ ∧ Q o (ρ.set j (some ⟨io, .dic kvs'⟩)))) : Go (callB F (pre ++ .slot j :: post) ρ) Q := by
  unfold callB
  rw [lend_mid h0 h2 h1]
  simp only
  have e : (dp.map lf ++ (⟨io, .dic kvs⟩ : E) :: dq.map lf).map ce = dp.map lf ++ ⟨true, .dic kvs⟩ :: dq.map lf := by
    rw [List.map_append, List.map_cons, List.map_map, List.map_map]
    rfl
  rw [e]
  obtain ⟨o, ρ', e2, kvs', hl, q⟩ := h.ex
  rw [e2]
  simp only
  rw [unlend_mid (kvs' := kvs') h2 h1 (by rw [Nat.zero_add]; exact hl)]
  simp only
  rw [List.set_set]
  exact Go.okk q
end Y
/-! Y: running zip strict, max with a default, a display -/
namespace Y
open PySem PySem.Spec PyProof.Rows L2
variable {ρ : Ev}
@[simp] theorem g_zipSI {fs : Ev → Rs (List B)} {Q : List D → Ev → Prop} : Go (zipSI fs ρ) Q = Go (fs ρ) (fun bs ρ' => match tmpD bs with | some [.list ds, .list es] => ds.length = es.length ∧ Q (zipD ds es) ρ' | _ => False) := by
  unfold zipSI
  rw [Go_bnd]
  congr 1
  funext bs ρ1
  split
  · rename_i ds es hd
    by_cases hl : ds.length = es.length
    · first | (simp [hd, if_pos hl, Go_ok, hl]; done) | (simp [if_pos hl, Go_ok, hl]; done)
    · first | (simp [hd, if_neg hl, Go_stk, hl]; done) | (simp [if_neg hl, Go_stk, hl]; done)
  · rename_i h
    first
    | exact Go_stk
    | (split
       · rename_i ds es hd; exact absurd hd (h ds es)
       · exact Go_stk)
@[simp] theorem gMaxDf_nil (n : Int) : gMaxDf (.list []) (.int n) = some (.leaf (.int n)) := rfl
theorem Go_dispE {ek el : Ev → Rs O} {Q : O → Ev → Prop} : Go (dispE ek el ρ) Q = Go (ek ρ) (fun k ρ1 => ∃ k', asKey k.d = some k' ∧ Go (el ρ1) (fun o ρ2 => Q (.dic [(keyD k', o.d)]) ρ2)) := by
  unfold dispE
  cases e : ek ρ with
  | stk => simp only [Go_stk]
  | er x ρ' => simp only [Go_er, Go_stk]
  | ok k ρ1 =>
    simp only [Go_ok]
    cases e1 : asKey k.d with
    | none => simp [Go_stk]
    | some k' =>
      cases e2 : el ρ1 with
      | stk => simp [Go_stk]
      | er x ρ' => simp [Go_stk, Go_er]
      | ok o ρ2 => simp [Go_ok]
end Y
/-! lists of places; comprehensions that draw; words -/
namespace Y
open PySem PySem.Spec PyProof.Rows L2
abbrev cz (l : List Nat) : List Int := l.map fun k : Nat => (k : Int)
abbrev NL (l : List Nat) : D := .list (l.map fun k : Nat => .int (k : Int))
theorem nl_il (l : List Nat) : (l.map fun k : Nat => PyData.int (k : Int)) = (cz l).map .int := by rw [cz, List.map_map]; rfl
theorem cz_inj : ∀ {a b : List Nat}, cz a = cz b → a = b
  | [], [], _ => rfl
  | [], _ :: _, h => by simp at h
  | _ :: _, [], h => by simp at h
  | x :: a, y :: b, h => by
    simp only [cz, List.map_cons, List.cons.injEq] at h
    have h1 : x = y := by omega
    rw [h1, cz_inj h.2]
theorem cz_dec {a b : List Nat} : decide (cz a = cz b) = decide (a = b) := by
  by_cases h : a = b
  · subst h; simp
  · rw [decide_eq_false h, decide_eq_false fun e => h (cz_inj e)]
theorem eqv_nat (a b : Nat) : PyData.eqv (.int (a : Int)) (.int (b : Int)) = decide (a = b) := by
  rw [eqv_i]
  by_cases h : a = b
  · subst h; simp
  · rw [decide_eq_false h, decide_eq_false (by omega)]
theorem gNe_nl {a b : List Nat} : gNe (.list (a.map fun k : Nat => .int (k : Int))) (.list (b.map fun k : Nat => .int (k : Int))) = some (!decide (a = b)) := gNe_l eqv_nat (fun _ => fits_i) a b
theorem gEq_nl {a b : List Nat} : gEq (.list (a.map fun k : Nat => .int (k : Int))) (.list (b.map fun k : Nat => .int (k : Int))) = some (decide (a = b)) := gEq_l eqv_nat (fun _ => fits_i) a b
theorem eqv_NL (a b : List Nat) : PyData.eqv (NL a) (NL b) = decide (a = b) := eqvAll_map eqv_nat a b
theorem fits_NL {n : Nat} (a : List Nat) : fits (n + 2) (NL a) = true := fits_map (n := n + 1) (fun _ => fits_i) a
theorem gIn_NL {l : List Nat} {ls : List (List Nat)} : gIn (NL l) (.list (ls.map NL)) = some (decide (l ∈ ls)) := (gIn_l eqv_NL (fun a => fits_NL a) l ls).trans (by congr)
theorem gNotIn_NL {l : List Nat} {ls : List (List Nat)} : gNotIn (NL l) (.list (ls.map NL)) = some (!decide (l ∈ ls)) := by unfold gNotIn; rw [gIn_NL]; rfl
theorem take0_ne {l : List Nat} : gNe (.list ((l.map fun k : Nat => PyData.int (k : Int)).take 1)) (.list [.int 0]) = some (!decide (l.take 1 = [0])) := by
  have := gNe_nl (a := l.take 1) (b := [0])
  rw [List.map_take] at this
  exact this
theorem cut1 {α : Type} {l : List α} : cutD l none (some 1) = l.take 1 := cut_to (i := 1)
theorem cut1f {α : Type} {l : List α} : cutD l (some 1) none = l.drop 1 := cut_from (i := 1)
theorem cut_neg1 {α : Type} {l : List α} : cutD l none (some (-1)) = l.take (l.length - 1) := by
  unfold cutD
  rw [HT.sIx_none, List.drop_zero, Nat.sub_zero]
  congr 1
  show (if (-1 : Int) < 0 then ((-1 : Int) + (l.length : Int)).toNat else min (-1 : Int).toNat l.length) = _
  rw [if_pos (by omega)]
  omega
theorem gLast {l : List Nat} (h : l ≠ []) : gIx (.list (l.map fun k : Nat => PyData.int (k : Int))) (.int (-1)) = some (.leaf (.int (l.getLast h : Nat))) := by
  have e : l.map (fun k : Nat => PyData.int (k : Int)) = (l.dropLast.map fun k : Nat => PyData.int (k : Int)) ++ [.int (l.getLast h : Nat)] := by
    conv => lhs; rw [← List.dropLast_concat_getLast h]
    simp
  rw [e, gIx_last]
theorem ixNL {l : List Nat} {k : Nat} (h : k < l.length) : gIx (.list (l.map fun k : Nat => PyData.int (k : Int))) (.int (k : Int)) = some (.leaf (.int (l.getD k 0 : Nat))) := by
  refine gIx_l ?_
  rw [List.getElem?_map, List.getElem?_eq_getElem h]
  simp [List.getD, h]
theorem sset_inc {ms : List Nat} : decide (sset (cz ms) = cz ms) = decide (ms.Pairwise (· < ·)) := by
  have pw : (cz ms).Pairwise (· < ·) ↔ ms.Pairwise (· < ·) := by
    rw [List.pairwise_map]
    constructor
    · exact fun h => h.imp fun h => by omega
    · exact fun h => h.imp fun h => by omega
  rw [decide_eq_decide, ← pw]
  constructor
  · intro h
    rw [← h]
    have h1 := sortZ_le (cz ms).eraseDups
    have h2 : (sortZ (cz ms).eraseDups).Nodup := (sortZ_perm _).nodup_iff.mpr (eraseDups_nodup _)
    exact (h1.and h2).imp fun ⟨a, b⟩ => by omega
  · intro h
    exact (sset_of h fun k => Iff.rfl).symm
theorem sset_g {l : List Nat} (h : l.length < 64) : gSortSet (.list (l.map fun k : Nat => PyData.int (k : Int))) = some (.lst ((sset (cz l)).map .int)) := by
  rw [nl_il]
  exact gSortSet_il (by rw [List.length_map]; exact h)
theorem sset_ne {l : List Nat} : gNe (.list ((sset (cz l)).map .int)) (.list (l.map fun k : Nat => PyData.int (k : Int))) = some (!decide (l.Pairwise (· < ·))) := by
  rw [← sset_inc, nl_il]
  exact gNe_il
theorem inc_adj : ∀ (ms : List Nat), (List.range (ms.length - 1)).all (fun i => decide (ms.getD i 0 < ms.getD (i + 1) 0)) = decide (ms.Pairwise (· < ·)) := by
  intro ms
  rw [Bool.eq_iff_iff, List.all_eq_true, decide_eq_true_eq]
  constructor
  · intro h
    have adj : ∀ i, i + 1 < ms.length → ms.getD i 0 < ms.getD (i + 1) 0 := fun i hi => by
      have := h i (by rw [List.mem_range]; omega)
      exact of_decide_eq_true this
    have step : ∀ d i, i + d + 1 < ms.length → ms.getD i 0 < ms.getD (i + d + 1) 0 := by
      intro d
      induction d with
      | zero => intro i hi; exact adj i hi
      | succ d ih =>
        intro i hi
        have a := ih i (by omega)
        have b := adj (i + d + 1) (by omega)
        rw [show i + (d + 1) + 1 = i + d + 1 + 1 by omega]
        omega
    rw [List.pairwise_iff_getElem]
    intro i j hi hj hij
    have := step (j - i - 1) i (by omega)
    rw [show i + (j - i - 1) + 1 = j by omega] at this
    simpa [List.getD, List.getElem?_eq_getElem hi, List.getElem?_eq_getElem hj] using this
  · intro h i hi
    rw [List.mem_range] at hi
    rw [List.pairwise_iff_getElem] at h
    have := h i (i + 1) (by omega) (by omega) (by omega)
    refine decide_eq_true ?_
    simpa [List.getD, List.getElem?_eq_getElem (show i < ms.length by omega), List.getElem?_eq_getElem (show i + 1 < ms.length by omega)] using this
def lastLt (n : Nat) (ms : List Nat) : Bool := match ms.getLast? with
  | some x => decide (x < n)
  | none => false
/-- begins with 0, grows, ends below n -/
def arB (n : Nat) (ms : List Nat) : Bool := decide (ms.take 1 = [0]) && (decide (ms.Pairwise (· < ·)) && lastLt n ms)
theorem lastLt_e {n : Nat} {l : List Nat} (h : l ≠ []) : lastLt n l = decide (l.getLast h < n) := by
  unfold lastLt
  rw [List.getLast?_eq_some_getLast h]
theorem arB_cons {n : Nat} {l : List Nat} (h : arB n l = true) : ∃ r, l = 0 :: r := by
  unfold arB at h
  rw [Bool.and_eq_true] at h
  have h := of_decide_eq_true h.1
  cases l with
  | nil => simp at h
  | cons x r => simp at h; exact ⟨r, by rw [h]⟩
theorem rangeD_ab {a b : Nat} : rangeD (a : Int) (b : Int) = (List.range' a (b - a)).map fun k => .int ((k : Nat) : Int) := by
  unfold rangeD
  have : ((b : Int) - a).toNat = b - a := by omega
  rw [this, List.range'_eq_map_range, List.map_map]
  refine List.map_congr_left fun i _ => ?_
  simp
theorem range_at {a b i : Nat} {d : D} (h : (rangeD (a : Int) (b : Int))[i]? = some d) : d = .int ((a + i : Nat) : Int) ∧ a + i < b := by
  rw [rangeD_ab, List.getElem?_map] at h
  obtain ⟨r, h1, h2⟩ := Option.map_eq_some_iff.mp h
  rw [List.getElem?_eq_some_iff] at h1
  obtain ⟨h3, h4⟩ := h1
  rw [List.getElem_range'] at h4
  rw [List.length_range'] at h3
  exact ⟨by rw [← h2, ← h4, Nat.one_mul], by omega⟩
theorem rangeD_len {a b : Nat} : (rangeD (a : Int) (b : Int)).length = b - a := by rw [rangeD_ab, List.length_map, List.length_range']
theorem sum_il {ns : List Int} : gSum [.list (ns.map .int)] = some (.leaf (.int ns.sum)) := by
  show (intsD _).map _ = _
  rw [intsD_map]
  rfl
theorem gSum_f {α : Type} {f : α → Int} {as : List α} : gSum [.list (as.map fun a => .int (f a))] = some (.leaf (.int (as.map f).sum)) := by
  have := sum_il (ns := as.map f)
  rw [List.map_map] at this
  exact this
/-- a comprehension that draws -/
theorem Go_lcP {it : Ev → Rs (List D)} {vs : List Nat} {tg : O → Ev → Rs Unit} {el : Ev → Rs O} {ρ : Ev} {Q : O → Ev → Prop} (h : Go (it ρ) (fun ds ρ1 => hidable ρ1 vs = true ∧ ds.length ≤ 1000 ∧ ∃ P : Nat → List D → Ev → Prop, P 0 [] (wipeE ρ1 vs) ∧
    (∀ k ys d ρk, ds[k]? = some d → P k ys ρk → Go (tg (.leaf d) ρk) (fun _ ρ2 => Go (el ρ2) (fun o ρ4 => P (k + 1) (ys ++ [o.d]) (wipeE ρ4 vs)))) ∧ ∀ ys ρe, P ds.length ys ρe → Q (.lst ys) (unhide ρ1 ρe vs))) : Go (lcE it vs tg yesT el ρ) Q := by
  obtain ⟨ds, ρ1, e1, h1, h2, P, p0, hs, hq⟩ := h.ex
  have key : ∀ (r : List D) (k : Nat) (ys : List D) (ρk : Ev), k ≤ ds.length → ds.drop k = r → P k ys ρk → ∃ zs ρe, lcGo vs tg yesT el r ρk = .ok zs ρe ∧ P ds.length (ys ++ zs) ρe := by
    intro r
    induction r with
    | nil =>
      intro k ys ρk hkl hd hp
      have := congrArg List.length hd
      simp at this
      have e : k = ds.length := by omega
      subst e
      exact ⟨[], ρk, rfl, by rw [List.append_nil]; exact hp⟩
    | cons d r ih =>
      intro k ys ρk hkl hd hp
      have hk : ds[k]? = some d := by
        have := congrArg (·[0]?) hd
        simpa using this
      obtain ⟨u, ρ2, e2, g1⟩ := (hs k ys d ρk hk hp).ex
      obtain ⟨o, ρ4, e3, g2⟩ := g1.ex
      have hd' : ds.drop (k + 1) = r := by
        have := congrArg (List.drop 1) hd
        rw [List.drop_drop] at this
        simpa using this
      obtain ⟨zs, ρe, e4, g3⟩ := ih (k + 1) (ys ++ [o.d]) _ ((List.getElem?_eq_some_iff.mp hk).1) hd' g2
      refine ⟨o.d :: zs, ρe, ?_, by rw [List.append_assoc] at g3; exact g3⟩
      unfold lcGo
      have ey : yesT ρ2 = .ok true ρ2 := rfl
      simp only [e2, ey, e3, e4]
  obtain ⟨zs, ρe, e, g⟩ := key ds 0 [] _ (Nat.zero_le _) rfl p0
  unfold lcE
  rw [Go_bnd, e1, Go_ok]
  rw [if_pos ⟨h1, Nat.le_of_lt (small1000 h2)⟩, e]
  exact Go.okk (hq zs ρe g)
/-- a call that is lent the pool -/
theorem Go_poolB {A : O → Prop} {F : Fn} {ρ : Ev} {j : Nat} {io : Bool} {xs : List D} {bs : List B} {ds : List D} {Q : O → Ev → Prop} (h0 : look ρ j = some ⟨io, .lst xs⟩) (h1 : tmpD bs = some ds)
    (hF : Go (F (⟨true, .lst xs⟩ :: ds.map lf)) (fun o ρ => A o ∧ ∃ ys, look ρ 0 = some ⟨true, .lst ys⟩ ∧ PoolOk ys))
    (h : ∀ o ys, A o → PoolOk ys → Q o (ρ.set j (some ⟨io, .lst ys⟩))) : Go (callB F (.slot j :: bs) ρ) Q :=
  Go_lentB h0 h1 (hF.mono fun o ρ ⟨ha, ys, hl, hy⟩ => ⟨ys, hl, h o ys ha hy⟩)
/-! joined texts -/
theorem joinL_mem {S : List Nat} {c : Nat} : ∀ {ls : List (List Nat)}, c ∈ TL.joinL S ls → c ∈ S ∨ ∃ l ∈ ls, c ∈ l
  | [], h => by cases h
  | [a], h => .inr ⟨a, by simp, h⟩
  | a :: b :: r, h => by
    have h : c ∈ a ++ (S ++ TL.joinL S (b :: r)) := h
    rcases List.mem_append.mp h with h | h
    · exact .inr ⟨a, by simp, h⟩
    · rcases List.mem_append.mp h with h | h
      · exact .inl h
      · rcases joinL_mem h with h | ⟨l, hl, h⟩
        · exact .inl h
        · exact .inr ⟨l, List.mem_cons_of_mem _ hl, h⟩
theorem joinL_sing : ∀ w : List Nat, TL.joinL [] (w.map fun c => [c]) = w
  | [] => rfl
  | [c] => rfl
  | c :: d :: r => by
    have := joinL_sing (d :: r)
    show [c] ++ ([] ++ TL.joinL [] ((d :: r).map fun c => [c])) = _
    rw [this]
    rfl
theorem gJoin_S {a : List Nat} {ls : List (List Nat)} (h1 : ∀ c ∈ a, c < 0x110000) (h2 : ∀ l ∈ ls, ∀ c ∈ l, c < 0x110000) (h3 : (ls.map (·.length)).sum + ls.length * a.length ≤ 16777216) :
    gJoin (St a) (.list (ls.map St)) = some (.leaf (St (TL.joinL a ls))) := by
  have hs : strsD (ls.map St) = some (ls.map SX.S) := by
    have := strsD_map (ls.map SX.S)
    rw [List.map_map] at this
    exact this
  show (match strsD (ls.map St) with | some (ys : List Str) => if (ys.map fun z : Str => z.length).sum + ys.length * (SX.S a).length ≤ 16777216 ∧ okS (Txt.join (SX.S a) ys) = true then some (O.leaf (.str (Txt.join (SX.S a) ys))) else none | none => none) = _
  rw [hs]
  simp only
  rw [if_pos]
  · rw [SX.join_S]
  · refine ⟨?_, ?_⟩
    · rw [SX.lens, List.length_map, SX.S_len]; exact h3
    · rw [SX.join_S, okS_iff]
      intro c hc
      rcases joinL_mem hc with h | ⟨l, hl, h⟩
      · exact h1 c h
      · exact h2 l hl c h
end Y
namespace Y
open PySem PySem.Spec PyProof.Rows L2
/-! the given program: what its defs compute (printed) -/
noncomputable def f_wide : Ev → Rs Ctl := retS (bl (cmp2 gIn (bv 0) (tm (kD (.str "ABCDEFGHIJKLMNOPQRSTUVWXYZ")))))
noncomputable def F_wide : Fn := fnS 1 1 f_wide
noncomputable def f_width : Ev → Rs Ctl := retS (op2 gAdd (tm (callL gLenA (aCons (bv 0) (aNil)))) (tm (callL gLenA (aCons (tm (lcE (nmI 0) [1] (gN 1) (truB (tm (callS F_wide (aCons (tm (rv 1)) (aNil))))) (rv 1))) (aNil)))))
noncomputable def F_width : Fn := fnS 1 2 f_width
noncomputable def f_room : Ev → Rs Ctl := cons (ifS (cmp2 gLe (bv 3) (bv 2)) (retS (kD .none)) (nxS))
         (cons (asgS (op2 gSub (tm (op2 gSub (bv 1) (tm (callL gSum (aCons (tm (lcE (seqI (slE (bv 0) (aP (bv 2)) (aP (bv 3)))) [5] (gN 5) (yesT) (callS F_width (aCons (tm (rv 5)) (aNil))))) (aNil)))))) (tm (op2 gSub (tm (op2 gSub (bv 3) (bv 2))) (tm (kD (.int 1)))))) (gN 4))
         (retS (ifE (cmp2 gGe (bv 4) (tm (kD (.int 0)))) (rv 4) (kD .none))))
noncomputable def F_room : Fn := fnS 4 6 f_room
noncomputable def f_rooms : Ev → Rs Ctl := cons (asgS (op2 gAdd (tm (slE (bv 2) (aP (tm (kD (.int 1)))) (noP))) (tm (dispL (aCons (tm (callL gLenA (aCons (bv 0) (aNil)))) (aNil))))) (gN 3))
         (retS (lcE (zipSI (aCons (tm (rv 2)) (aCons (tm (rv 3)) (aNil)))) [4, 5] (gTupS 2 (gConsS (gN 4) (gConsS (gN 5) (gNilS)))) (yesT) (callS F_room (aCons (tm (rv 0)) (aCons (tm (rv 1)) (aCons (tm (rv 4)) (aCons (tm (rv 5)) (aNil))))))))
noncomputable def F_rooms : Fn := fnS 3 6 f_rooms
noncomputable def f_are_breaks : Ev → Rs Ctl := cons (ifS (orT (cmp2 gNe (tm (slE (bv 2) (noP) (aP (tm (kD (.int 1)))))) (tm (dispL (aCons (tm (kD (.int 0))) (aNil))))) (orT (cmp2 gNe (tm (op1 gSortSet (bv 2))) (bv 2)) (cmp2 gGe (tm (op2 gIx (bv 2) (tm (op1 gNeg (tm (kD (.int 1))))))) (tm (callL gLenA (aCons (bv 0) (aNil))))))) (retS (kD (.bool false))) (nxS))
         (retS (callL gAll (aCons (tm (lcE (seqI (callS F_rooms (aCons (tm (rv 0)) (aCons (tm (rv 1)) (aCons (tm (rv 2)) (aNil)))))) [3] (gN 3) (yesT) (bl (cmp2 gIsNot (bv 3) (tm (kD .none)))))) (aNil))))
noncomputable def F_are_breaks : Fn := fnS 3 4 f_are_breaks
noncomputable def f_lines_of : Ev → Rs Ctl := cons (asgS (op2 gAdd (tm (slE (bv 1) (aP (tm (kD (.int 1)))) (noP))) (tm (dispL (aCons (tm (callL gLenA (aCons (bv 0) (aNil)))) (aNil))))) (gN 2))
         (retS (lcE (zipSI (aCons (tm (rv 1)) (aCons (tm (rv 2)) (aNil)))) [3, 4] (gTupS 2 (gConsS (gN 3) (gConsS (gN 4) (gNilS)))) (yesT) (m1E gJoin (tm (kD (.str " "))) (tm (slE (bv 0) (aP (bv 3)) (aP (bv 4)))))))
noncomputable def F_lines_of : Fn := fnS 2 5 f_lines_of
noncomputable def f_loss : Ev → Rs Ctl := retS (callL gSum (aCons (tm (lcE (seqI (slE (tm (callS F_rooms (aCons (tm (rv 0)) (aCons (tm (rv 1)) (aCons (tm (rv 2)) (aNil)))))) (noP) (aP (tm (op1 gNeg (tm (kD (.int 1)))))))) [3] (gN 3) (yesT) (op2 gMulI (bv 3) (bv 3)))) (aNil)))
noncomputable def F_loss : Fn := fnS 3 4 f_loss
noncomputable def f_worst : Ev → Rs Ctl := retS (op2 gMaxDf (tm (slE (tm (callS F_rooms (aCons (tm (rv 0)) (aCons (tm (rv 1)) (aCons (tm (rv 2)) (aNil)))))) (noP) (aP (tm (op1 gNeg (tm (kD (.int 1)))))))) (tm (kD (.int 0))))
noncomputable def F_worst : Fn := fnS 3 3 f_worst
noncomputable def f_filled : Ev → Rs Ctl := cons (asgS (dispL (aCons (tm (kD (.int 0))) (aNil))) (gN 2))
         (cons (forS (rng2 (aCons (tm (kD (.int 1))) (aCons (tm (op2 gAdd (tm (callL gLenA (aCons (bv 0) (aNil)))) (tm (kD (.int 1))))) (aNil)))) (gN 3) (ifS (cmp2 gIs (tm (callS F_room (aCons (tm (rv 0)) (aCons (tm (rv 1)) (aCons (tm (op2 gIx (bv 2) (tm (op1 gNeg (tm (kD (.int 1))))))) (aCons (tm (rv 3)) (aNil))))))) (tm (kD .none))) (expS (appS 2 (op2 gSub (bv 3) (tm (kD (.int 1)))))) (nxS)) [3])
         (retS (mv 2)))
noncomputable def F_filled : Fn := fnS 2 4 f_filled
noncomputable def q_ways_on_0i_0 : Ev → Rs Ctl := retS (dispL (aCons (tm (dispT (aCons (tm (kD (.int 0))) (aCons (tm (callL gLenA (aCons (bv 0) (aNil)))) (aNil))))) (aNil)))
noncomputable def q_ways_on_0 : Ev → Rs Ctl := ifS (cmp2 gIsNot (tm (callS F_room (aCons (tm (rv 0)) (aCons (tm (rv 1)) (aCons (tm (rv 3)) (aCons (tm (callL gLenA (aCons (bv 0) (aNil)))) (aNil))))))) (tm (kD .none))) (q_ways_on_0i_0) (nxS)
noncomputable def q_ways_on_1 : Ev → Rs Ctl := asgS (dispL (aNil)) (gN 4)
noncomputable def q_ways_on_2b_0 : Ev → Rs Ctl := asgS (callS F_room (aCons (tm (rv 0)) (aCons (tm (rv 1)) (aCons (tm (rv 3)) (aCons (tm (rv 5)) (aNil)))))) (gN 6)
noncomputable def q_ways_on_2b_1i_0 : Ev → Rs Ctl := expS (appS 4 (dispT (aCons (tm (op2 gAdd (tm (op2 gMulI (bv 6) (bv 6))) (tm (op2 gIx (bv 2) (bv 5))))) (aCons (tm (rv 5)) (aNil)))))
noncomputable def q_ways_on_2b_1 : Ev → Rs Ctl := ifS (cmp2 gIsNot (bv 6) (tm (kD .none))) (q_ways_on_2b_1i_0) (nxS)
noncomputable def t_ways_on_2b_0 : Ev → Rs Ctl := cons (q_ways_on_2b_0) (q_ways_on_2b_1)
noncomputable def q_ways_on_2 : Ev → Rs Ctl := forS (rng2 (aCons (tm (op2 gAdd (bv 3) (tm (kD (.int 1))))) (aCons (tm (callL gLenA (aCons (bv 0) (aNil)))) (aNil)))) (gN 5) (t_ways_on_2b_0) [5, 6]
noncomputable def q_ways_on_3 : Ev → Rs Ctl := retS (mv 4)
noncomputable def t_ways_on_2 : Ev → Rs Ctl := cons (q_ways_on_2) (q_ways_on_3)
noncomputable def t_ways_on_1 : Ev → Rs Ctl := cons (q_ways_on_1) (t_ways_on_2)
noncomputable def t_ways_on_0 : Ev → Rs Ctl := cons (q_ways_on_0) (t_ways_on_1)
noncomputable def f_ways_on : Ev → Rs Ctl := t_ways_on_0
noncomputable def F_ways_on : Fn := fnS 4 7 f_ways_on
noncomputable def q_least_loss_0 : Ev → Rs Ctl := asgS (dispE (callL gLenA (aCons (bv 0) (aNil))) (kD (.int 0))) (gN 2)
noncomputable def q_least_loss_1 : Ev → Rs Ctl := asgS (newD) (gN 3)
noncomputable def q_least_loss_2b_0 : Ev → Rs Ctl := asgS (callL gMinA (aCons (tm (callS F_ways_on (aCons (tm (rv 0)) (aCons (tm (rv 1)) (aCons (bv 2) (aCons (tm (rv 4)) (aNil))))))) (aNil))) (gTupS 2 (gConsS (gSubS 2 (bv 4)) (gConsS (gSubS 3 (bv 4)) (gNilS))))
noncomputable def q_least_loss_2 : Ev → Rs Ctl := forS (rng3 (aCons (tm (op2 gSub (tm (callL gLenA (aCons (bv 0) (aNil)))) (tm (kD (.int 1))))) (aCons (tm (op1 gNeg (tm (kD (.int 1))))) (aCons (tm (op1 gNeg (tm (kD (.int 1))))) (aNil))))) (gN 4) (q_least_loss_2b_0) [4]
noncomputable def q_least_loss_3 : Ev → Rs Ctl := asgS (dispL (aCons (tm (kD (.int 0))) (aNil))) (gN 5)
noncomputable def q_least_loss_4b_0 : Ev → Rs Ctl := expS (appS 5 (op2 gIx (bv 3) (tm (op2 gIx (bv 5) (tm (op1 gNeg (tm (kD (.int 1)))))))))
noncomputable def q_least_loss_4 : Ev → Rs Ctl := whS [] (cmp2 gLt (tm (op2 gIx (bv 3) (tm (op2 gIx (bv 5) (tm (op1 gNeg (tm (kD (.int 1))))))))) (tm (callL gLenA (aCons (bv 0) (aNil))))) (q_least_loss_4b_0)
noncomputable def q_least_loss_5 : Ev → Rs Ctl := retS (dispT (aCons (tm (op2 gIx (bv 2) (tm (kD (.int 0))))) (aCons (tm (rv 5)) (aCons (tm (rv 2)) (aNil)))))
noncomputable def t_least_loss_4 : Ev → Rs Ctl := cons (q_least_loss_4) (q_least_loss_5)
noncomputable def t_least_loss_3 : Ev → Rs Ctl := cons (q_least_loss_3) (t_least_loss_4)
noncomputable def t_least_loss_2 : Ev → Rs Ctl := cons (q_least_loss_2) (t_least_loss_3)
noncomputable def t_least_loss_1 : Ev → Rs Ctl := cons (q_least_loss_1) (t_least_loss_2)
noncomputable def t_least_loss_0 : Ev → Rs Ctl := cons (q_least_loss_0) (t_least_loss_1)
noncomputable def f_least_loss : Ev → Rs Ctl := t_least_loss_0
noncomputable def F_least_loss : Fn := fnS 2 6 f_least_loss
noncomputable def q_judge_loss_0 : Ev → Rs Ctl := asgS (callL gLenA (aCons (bv 0) (aNil))) (gN 4)
noncomputable def q_judge_loss_1i_0 : Ev → Rs Ctl := retS (kD (.bool false))
noncomputable def q_judge_loss_1 : Ev → Rs Ctl := ifS (orT (notT (truB (tm (callS F_are_breaks (aCons (tm (rv 0)) (aCons (tm (rv 1)) (aCons (tm (rv 2)) (aNil)))))))) (orT (cmp2 gNe (tm (callL gSortedA (aCons (bv 3) (aNil)))) (tm (lrg1 (tm (op2 gAdd (bv 4) (tm (kD (.int 1)))))))) (cmp2 gGt (tm (op2 gIx (bv 3) (bv 4))) (tm (kD (.int 0)))))) (q_judge_loss_1i_0) (nxS)
noncomputable def q_judge_loss_2b_0i_0 : Ev → Rs Ctl := retS (kD (.bool false))
noncomputable def q_judge_loss_2b_0 : Ev → Rs Ctl := ifS (truB (tm (callL gAny (aCons (tm (lcE (seqI (callS F_ways_on (aCons (tm (rv 0)) (aCons (tm (rv 1)) (aCons (bv 3) (aCons (tm (rv 5)) (aNil))))))) [6, 7] (gTupS 2 (gConsS (gN 6) (gConsS (gN 7) (gNilS)))) (yesT) (bl (cmp2 gGt (tm (op2 gIx (bv 3) (bv 5))) (bv 6))))) (aNil))))) (q_judge_loss_2b_0i_0) (nxS)
noncomputable def q_judge_loss_2 : Ev → Rs Ctl := forS (rng1 (aCons (bv 4) (aNil))) (gN 5) (q_judge_loss_2b_0) [5]
noncomputable def q_judge_loss_3 : Ev → Rs Ctl := retS (bl (cmp2 gEq (tm (op2 gIx (bv 3) (tm (kD (.int 0))))) (tm (callS F_loss (aCons (tm (rv 0)) (aCons (tm (rv 1)) (aCons (tm (rv 2)) (aNil))))))))
noncomputable def t_judge_loss_2 : Ev → Rs Ctl := cons (q_judge_loss_2) (q_judge_loss_3)
noncomputable def t_judge_loss_1 : Ev → Rs Ctl := cons (q_judge_loss_1) (t_judge_loss_2)
noncomputable def t_judge_loss_0 : Ev → Rs Ctl := cons (q_judge_loss_0) (t_judge_loss_1)
noncomputable def f_judge_loss : Ev → Rs Ctl := t_judge_loss_0
noncomputable def F_judge_loss : Fn := fnS 4 8 f_judge_loss
noncomputable def q__law_words_drawn_0 : Ev → Rs Ctl := asgS (kD (.str "abcxyz019.,AB")) (gN 2)
noncomputable def q__law_words_drawn_1 : Ev → Rs Ctl := asgS (dispL (aNil)) (gN 3)
noncomputable def q__law_words_drawn_2b_0i_0 : Ev → Rs Ctl := expS (dropE (callS F__law_next (aCons (bv 0) (aNil))))
noncomputable def q__law_words_drawn_2b_0 : Ev → Rs Ctl := ifS (cmp2 gEq (tm (op2 gMod (tm (callL gInt (aCons (bv 4) (aNil)))) (tm (kD (.int 4))))) (tm (kD (.int 0)))) (q__law_words_drawn_2b_0i_0) (nxS)
noncomputable def q__law_words_drawn_2b_1 : Ev → Rs Ctl := expS (appS 3 (m1E gJoin (tm (kD (.str ""))) (tm (lcE (rng1 (aCons (tm (op2 gAdd (tm (kD (.int 1))) (tm (callS F__law_draw (aCons (bv 0) (aCons (tm (callS F__law_pick (aCons (bv 0) (aCons (tm (dispL (aCons (tm (kD (.int 2))) (aCons (tm (kD (.int 5))) (aNil))))) (aNil))))) (aNil))))))) (aNil))) [5] (gN 5) (yesT) (op2 gIx (bv 2) (tm (callS F__law_draw (aCons (bv 0) (aCons (tm (kD (.int 13))) (aNil))))))))))
noncomputable def t__law_words_drawn_2b_0 : Ev → Rs Ctl := cons (q__law_words_drawn_2b_0) (q__law_words_drawn_2b_1)
noncomputable def q__law_words_drawn_2 : Ev → Rs Ctl := forS (rng1 (aCons (tm (op2 gAdd (tm (kD (.int 1))) (tm (callS F__law_draw (aCons (bv 0) (aCons (tm (rv 1)) (aNil))))))) (aNil))) (gN 4) (t__law_words_drawn_2b_0) [4]
noncomputable def q__law_words_drawn_3 : Ev → Rs Ctl := retS (mv 3)
noncomputable def t__law_words_drawn_2 : Ev → Rs Ctl := cons (q__law_words_drawn_2) (q__law_words_drawn_3)
noncomputable def t__law_words_drawn_1 : Ev → Rs Ctl := cons (q__law_words_drawn_1) (t__law_words_drawn_2)
noncomputable def t__law_words_drawn_0 : Ev → Rs Ctl := cons (q__law_words_drawn_0) (t__law_words_drawn_1)
noncomputable def f__law_words_drawn : Ev → Rs Ctl := t__law_words_drawn_0
noncomputable def F__law_words_drawn : Fn := fnS 2 6 f__law_words_drawn
noncomputable def f__law_wide : Ev → Rs Ctl := retS (callL gSum (aCons (tm (lcE (nmI 0) [1] (gN 1) (yesT) (ifE (cmp2 gIn (bv 1) (tm (kD (.str "AB")))) (kD (.int 2)) (kD (.int 1))))) (aNil)))
noncomputable def F__law_wide : Fn := fnS 1 2 f__law_wide
noncomputable def f__law_room : Ev → Rs Ctl := cons (ifS (cmp2 gLe (bv 3) (bv 2)) (retS (kD .none)) (nxS))
         (cons (asgS (op2 gSub (tm (op2 gSub (bv 1) (tm (callL gSum (aCons (tm (lcE (seqI (slE (bv 0) (aP (bv 2)) (aP (bv 3)))) [5] (gN 5) (yesT) (callS F__law_wide (aCons (tm (rv 5)) (aNil))))) (aNil)))))) (tm (op2 gSub (tm (op2 gSub (bv 3) (bv 2))) (tm (kD (.int 1)))))) (gN 4))
         (retS (ifE (cmp2 gGe (bv 4) (tm (kD (.int 0)))) (rv 4) (kD .none))))
noncomputable def F__law_room : Fn := fnS 4 6 f__law_room
noncomputable def f__law_rooms : Ev → Rs Ctl := cons (asgS (op2 gAdd (tm (slE (bv 2) (aP (tm (kD (.int 1)))) (noP))) (tm (dispL (aCons (tm (callL gLenA (aCons (bv 0) (aNil)))) (aNil))))) (gN 3))
         (retS (lcE (rng1 (aCons (tm (callL gLenA (aCons (bv 2) (aNil)))) (aNil))) [4] (gN 4) (yesT) (callS F__law_room (aCons (tm (rv 0)) (aCons (tm (rv 1)) (aCons (tm (op2 gIx (bv 2) (bv 4))) (aCons (tm (op2 gIx (bv 3) (bv 4))) (aNil))))))))
noncomputable def F__law_rooms : Fn := fnS 3 5 f__law_rooms
noncomputable def f__law_are_breaks : Ev → Rs Ctl := cons (ifS (orT (cmp2 gNe (tm (slE (bv 2) (noP) (aP (tm (kD (.int 1)))))) (tm (dispL (aCons (tm (kD (.int 0))) (aNil))))) (orT (notT (truB (tm (callL gAll (aCons (tm (lcE (rng2 (aCons (tm (kD (.int 1))) (aCons (tm (callL gLenA (aCons (bv 2) (aNil)))) (aNil)))) [3] (gN 3) (yesT) (bl (cmp2 gLt (tm (op2 gIx (bv 2) (tm (op2 gSub (bv 3) (tm (kD (.int 1))))))) (tm (op2 gIx (bv 2) (bv 3))))))) (aNil)))))) (cmp2 gGe (tm (op2 gIx (bv 2) (tm (op1 gNeg (tm (kD (.int 1))))))) (tm (callL gLenA (aCons (bv 0) (aNil))))))) (retS (kD (.bool false))) (nxS))
         (retS (callL gAll (aCons (tm (lcE (seqI (callS F__law_rooms (aCons (tm (rv 0)) (aCons (tm (rv 1)) (aCons (tm (rv 2)) (aNil)))))) [4] (gN 4) (yesT) (bl (cmp2 gIsNot (bv 4) (tm (kD .none)))))) (aNil))))
noncomputable def F__law_are_breaks : Fn := fnS 3 5 f__law_are_breaks
noncomputable def q__law_all_breaks_0 : Ev → Rs Ctl := asgS (dispL (aCons (tm (dispL (aCons (tm (kD (.int 0))) (aNil)))) (aNil))) (gN 2)
noncomputable def q__law_all_breaks_1 : Ev → Rs Ctl := asgS (dispL (aNil)) (gN 3)
noncomputable def q__law_all_breaks_2b_0 : Ev → Rs Ctl := asgS (dispL (aNil)) (gN 5)
noncomputable def q__law_all_breaks_2b_1b_0i_0 : Ev → Rs Ctl := expS (appS 3 (rv 6))
noncomputable def q__law_all_breaks_2b_1b_0 : Ev → Rs Ctl := ifS (cmp2 gIsNot (tm (callS F__law_room (aCons (tm (rv 0)) (aCons (tm (rv 1)) (aCons (tm (op2 gIx (bv 6) (tm (op1 gNeg (tm (kD (.int 1))))))) (aCons (tm (callL gLenA (aCons (bv 0) (aNil)))) (aNil))))))) (tm (kD .none))) (q__law_all_breaks_2b_1b_0i_0) (nxS)
noncomputable def q__law_all_breaks_2b_1b_1b_0i_0 : Ev → Rs Ctl := expS (appS 5 (op2 gAdd (bv 6) (tm (dispL (aCons (tm (rv 7)) (aNil))))))
noncomputable def q__law_all_breaks_2b_1b_1b_0 : Ev → Rs Ctl := ifS (cmp2 gIsNot (tm (callS F__law_room (aCons (tm (rv 0)) (aCons (tm (rv 1)) (aCons (tm (op2 gIx (bv 6) (tm (op1 gNeg (tm (kD (.int 1))))))) (aCons (tm (rv 7)) (aNil))))))) (tm (kD .none))) (q__law_all_breaks_2b_1b_1b_0i_0) (nxS)
noncomputable def q__law_all_breaks_2b_1b_1 : Ev → Rs Ctl := forS (rng2 (aCons (tm (op2 gAdd (tm (op2 gIx (bv 6) (tm (op1 gNeg (tm (kD (.int 1))))))) (tm (kD (.int 1))))) (aCons (tm (callL gLenA (aCons (bv 0) (aNil)))) (aNil)))) (gN 7) (q__law_all_breaks_2b_1b_1b_0) [7]
noncomputable def t__law_all_breaks_2b_1b_0 : Ev → Rs Ctl := cons (q__law_all_breaks_2b_1b_0) (q__law_all_breaks_2b_1b_1)
noncomputable def q__law_all_breaks_2b_1 : Ev → Rs Ctl := forS (nmI 2) (gN 6) (t__law_all_breaks_2b_1b_0) [6, 7]
noncomputable def q__law_all_breaks_2b_2 : Ev → Rs Ctl := asgS (rv 5) (gN 2)
noncomputable def t__law_all_breaks_2b_1 : Ev → Rs Ctl := cons (q__law_all_breaks_2b_1) (q__law_all_breaks_2b_2)
noncomputable def t__law_all_breaks_2b_0 : Ev → Rs Ctl := cons (q__law_all_breaks_2b_0) (t__law_all_breaks_2b_1)
noncomputable def q__law_all_breaks_2 : Ev → Rs Ctl := forS (rng1 (aCons (tm (op2 gAdd (tm (callL gLenA (aCons (bv 0) (aNil)))) (tm (kD (.int 1))))) (aNil))) (gN 4) (t__law_all_breaks_2b_0) [4, 5, 6, 7]
noncomputable def q__law_all_breaks_3 : Ev → Rs Ctl := retS (mv 3)
noncomputable def t__law_all_breaks_2 : Ev → Rs Ctl := cons (q__law_all_breaks_2) (q__law_all_breaks_3)
noncomputable def t__law_all_breaks_1 : Ev → Rs Ctl := cons (q__law_all_breaks_1) (t__law_all_breaks_2)
noncomputable def t__law_all_breaks_0 : Ev → Rs Ctl := cons (q__law_all_breaks_0) (t__law_all_breaks_1)
noncomputable def f__law_all_breaks : Ev → Rs Ctl := t__law_all_breaks_0
noncomputable def F__law_all_breaks : Fn := fnS 2 8 f__law_all_breaks
noncomputable def f__law_loss : Ev → Rs Ctl := retS (callL gSum (aCons (tm (lcE (seqI (slE (tm (callS F__law_rooms (aCons (tm (rv 0)) (aCons (tm (rv 1)) (aCons (tm (rv 2)) (aNil)))))) (noP) (aP (tm (op1 gNeg (tm (kD (.int 1)))))))) [3] (gN 3) (yesT) (op2 gMulI (bv 3) (bv 3)))) (aNil)))
noncomputable def F__law_loss : Fn := fnS 3 4 f__law_loss
noncomputable def q__law_numbers_0i_0 : Ev → Rs Ctl := retS (dispL (aCons (tm (kD (.int 0))) (aNil)))
noncomputable def q__law_numbers_0 : Ev → Rs Ctl := ifS (cmp2 gIsNot (tm (callS F__law_room (aCons (tm (rv 0)) (aCons (tm (rv 1)) (aCons (tm (rv 3)) (aCons (tm (callL gLenA (aCons (bv 0) (aNil)))) (aNil))))))) (tm (kD .none))) (q__law_numbers_0i_0) (nxS)
noncomputable def q__law_numbers_1 : Ev → Rs Ctl := asgS (dispL (aNil)) (gN 4)
noncomputable def q__law_numbers_2b_0 : Ev → Rs Ctl := asgS (callS F__law_room (aCons (tm (rv 0)) (aCons (tm (rv 1)) (aCons (tm (rv 3)) (aCons (tm (rv 5)) (aNil)))))) (gN 6)
noncomputable def q__law_numbers_2b_1i_0 : Ev → Rs Ctl := expS (appS 4 (op2 gAdd (tm (op2 gMulI (bv 6) (bv 6))) (tm (op2 gIx (bv 2) (bv 5)))))
noncomputable def q__law_numbers_2b_1 : Ev → Rs Ctl := ifS (cmp2 gIsNot (bv 6) (tm (kD .none))) (q__law_numbers_2b_1i_0) (nxS)
noncomputable def t__law_numbers_2b_0 : Ev → Rs Ctl := cons (q__law_numbers_2b_0) (q__law_numbers_2b_1)
noncomputable def q__law_numbers_2 : Ev → Rs Ctl := forS (rng2 (aCons (tm (op2 gAdd (bv 3) (tm (kD (.int 1))))) (aCons (tm (callL gLenA (aCons (bv 0) (aNil)))) (aNil)))) (gN 5) (t__law_numbers_2b_0) [5, 6]
noncomputable def q__law_numbers_3 : Ev → Rs Ctl := retS (mv 4)
noncomputable def t__law_numbers_2 : Ev → Rs Ctl := cons (q__law_numbers_2) (q__law_numbers_3)
noncomputable def t__law_numbers_1 : Ev → Rs Ctl := cons (q__law_numbers_1) (t__law_numbers_2)
noncomputable def t__law_numbers_0 : Ev → Rs Ctl := cons (q__law_numbers_0) (t__law_numbers_1)
noncomputable def f__law_numbers : Ev → Rs Ctl := t__law_numbers_0
noncomputable def F__law_numbers : Fn := fnS 4 7 f__law_numbers
noncomputable def f__law_right : Ev → Rs Ctl := cons (ifS (orT (notT (truB (tm (callS F__law_are_breaks (aCons (tm (rv 0)) (aCons (tm (rv 1)) (aCons (tm (rv 2)) (aNil)))))))) (orT (cmp2 gNe (tm (callL gSortedA (aCons (bv 3) (aNil)))) (tm (lrg1 (tm (op2 gAdd (tm (callL gLenA (aCons (bv 0) (aNil)))) (tm (kD (.int 1)))))))) (cmp2 gGt (tm (op2 gIx (bv 3) (tm (callL gLenA (aCons (bv 0) (aNil)))))) (tm (kD (.int 0)))))) (retS (kD (.bool false))) (nxS))
         (cons (forS (rng1 (aCons (tm (callL gLenA (aCons (bv 0) (aNil)))) (aNil))) (gN 4) (ifS (truB (tm (callL gAny (aCons (tm (lcE (seqI (callS F__law_numbers (aCons (tm (rv 0)) (aCons (tm (rv 1)) (aCons (bv 3) (aCons (tm (rv 4)) (aNil))))))) [5] (gN 5) (yesT) (bl (cmp2 gGt (tm (op2 gIx (bv 3) (bv 4))) (bv 5))))) (aNil))))) (retS (kD (.bool false))) (nxS)) [4])
         (retS (bl (cmp2 gEq (tm (op2 gIx (bv 3) (tm (kD (.int 0))))) (tm (callS F__law_loss (aCons (tm (rv 0)) (aCons (tm (rv 1)) (aCons (tm (rv 2)) (aNil))))))))))
noncomputable def F__law_right : Fn := fnS 4 6 f__law_right
noncomputable def q__law_bent_0 : Ev → Rs Ctl := asgS (callL gListA (aCons (bv 2) (aNil))) (gN 2)
noncomputable def q__law_bent_1 : Ev → Rs Ctl := asgS (callL gDict (aCons (bv 3) (aNil))) (gN 3)
noncomputable def q__law_bent_2 : Ev → Rs Ctl := asgS (callS F__law_draw (aCons (bv 0) (aCons (tm (kD (.int 6))) (aNil)))) (gN 4)
noncomputable def q__law_bent_3 : Ev → Rs Ctl := asgS (callS F__law_pick (aCons (bv 0) (aCons (tm (callL gSortedA (aCons (bv 3) (aNil)))) (aNil)))) (gN 5)
noncomputable def q__law_bent_4i_0 : Ev → Rs Ctl := asgS (slE (bv 2) (noP) (aP (tm (op1 gNeg (tm (kD (.int 1))))))) (gN 2)
noncomputable def q__law_bent_4e_0i_0 : Ev → Rs Ctl := asgS (callL gSortedA (aCons (tm (op2 gAdd (bv 2) (tm (dispL (aCons (tm (callS F__law_draw (aCons (bv 0) (aCons (tm (op2 gAdd (tm (callL gLenA (aCons (bv 1) (aNil)))) (tm (kD (.int 1))))) (aNil))))) (aNil)))))) (aNil))) (gN 2)
noncomputable def q__law_bent_4e_0e_0i_0 : Ev → Rs Ctl := asgS (op2 gAdd (tm (op2 gIx (bv 3) (bv 5))) (tm (callS F__law_pick (aCons (bv 0) (aCons (tm (dispL (aCons (tm (kD (.int 1))) (aCons (tm (op1 gNeg (tm (kD (.int 1))))) (aCons (tm (op1 gNeg (tm (kD (.int 9))))) (aNil)))))) (aNil)))))) (gSubS 3 (bv 5))
noncomputable def q__law_bent_4e_0e_0e_0i_0 : Ev → Rs Ctl := expS (popS 3 (bv 5))
noncomputable def q__law_bent_4e_0e_0e_0e_0i_0 : Ev → Rs Ctl := asgS (slE (bv 2) (aP (tm (kD (.int 1)))) (noP)) (gN 2)
noncomputable def q__law_bent_4e_0e_0e_0e_0e_0 : Ev → Rs Ctl := asgS (op2 gSub (tm (op2 gIx (bv 3) (tm (kD (.int 0))))) (tm (kD (.int 1)))) (gSubS 3 (tm (kD (.int 0))))
noncomputable def q__law_bent_4e_0e_0e_0e_0 : Ev → Rs Ctl := ifS (cmp2 gEq (bv 4) (tm (kD (.int 4)))) (q__law_bent_4e_0e_0e_0e_0i_0) (q__law_bent_4e_0e_0e_0e_0e_0)
noncomputable def q__law_bent_4e_0e_0e_0 : Ev → Rs Ctl := ifS (cmp2 gEq (bv 4) (tm (kD (.int 3)))) (q__law_bent_4e_0e_0e_0i_0) (q__law_bent_4e_0e_0e_0e_0)
noncomputable def q__law_bent_4e_0e_0 : Ev → Rs Ctl := ifS (cmp2 gEq (bv 4) (tm (kD (.int 2)))) (q__law_bent_4e_0e_0i_0) (q__law_bent_4e_0e_0e_0)
noncomputable def q__law_bent_4e_0 : Ev → Rs Ctl := ifS (cmp2 gEq (bv 4) (tm (kD (.int 1)))) (q__law_bent_4e_0i_0) (q__law_bent_4e_0e_0)
noncomputable def q__law_bent_4 : Ev → Rs Ctl := ifS (cmp2 gEq (bv 4) (tm (kD (.int 0)))) (q__law_bent_4i_0) (q__law_bent_4e_0)
noncomputable def q__law_bent_5 : Ev → Rs Ctl := retS (dispL (aCons (tm (rv 2)) (aCons (tm (rv 3)) (aNil))))
noncomputable def t__law_bent_4 : Ev → Rs Ctl := cons (q__law_bent_4) (q__law_bent_5)
noncomputable def t__law_bent_3 : Ev → Rs Ctl := cons (q__law_bent_3) (t__law_bent_4)
noncomputable def t__law_bent_2 : Ev → Rs Ctl := cons (q__law_bent_2) (t__law_bent_3)
noncomputable def t__law_bent_1 : Ev → Rs Ctl := cons (q__law_bent_1) (t__law_bent_2)
noncomputable def t__law_bent_0 : Ev → Rs Ctl := cons (q__law_bent_0) (t__law_bent_1)
noncomputable def f__law_bent : Ev → Rs Ctl := t__law_bent_0
noncomputable def F__law_bent : Fn := fnS 4 6 f__law_bent
noncomputable def f__law_filled : Ev → Rs Ctl := cons (asgS (dispL (aCons (tm (kD (.int 0))) (aNil))) (gN 2))
         (cons (forS (rng2 (aCons (tm (kD (.int 1))) (aCons (tm (op2 gAdd (tm (callL gLenA (aCons (bv 0) (aNil)))) (tm (kD (.int 1))))) (aNil)))) (gN 3) (ifS (cmp2 gIs (tm (callS F__law_room (aCons (tm (rv 0)) (aCons (tm (rv 1)) (aCons (tm (op2 gIx (bv 2) (tm (op1 gNeg (tm (kD (.int 1))))))) (aCons (tm (rv 3)) (aNil))))))) (tm (kD .none))) (expS (appS 2 (op2 gSub (bv 3) (tm (kD (.int 1)))))) (nxS)) [3])
         (retS (mv 2)))
noncomputable def F__law_filled : Fn := fnS 2 4 f__law_filled
noncomputable def q_law_0 : Ev → Rs Ctl := asgS (callS F__law_pool (aCons (tm (rv 0)) (aNil))) (gN 1)
noncomputable def q_law_1 : Ev → Rs Ctl := asgS (callS F__law_words_drawn (aCons (bv 1) (aCons (tm (kD (.int 9))) (aNil)))) (gN 2)
noncomputable def q_law_2 : Ev → Rs Ctl := asgS (op2 gAdd (tm (callL gMaxA (aCons (tm (lcE (nmI 2) [4] (gN 4) (yesT) (callS F__law_wide (aCons (tm (rv 4)) (aNil))))) (aNil)))) (tm (callS F__law_draw (aCons (bv 1) (aCons (tm (kD (.int 12))) (aNil)))))) (gN 3)
noncomputable def q_law_3 : Ev → Rs Ctl := asgS (callS F__law_all_breaks (aCons (tm (rv 2)) (aCons (tm (rv 3)) (aNil)))) (gN 5)
noncomputable def q_law_4 : Ev → Rs Ctl := asgS (callS F_least_loss (aCons (tm (callL gListA (aCons (bv 2) (aNil)))) (aCons (tm (rv 3)) (aNil)))) (gN 6)
noncomputable def q_law_5i_0 : Ev → Rs Ctl := retS (kD (.bool false))
noncomputable def q_law_5 : Ev → Rs Ctl := ifS (orT (cmp2 gNe (tm (op2 gIx (bv 6) (tm (kD (.int 0))))) (tm (callL gMinA (aCons (tm (lcE (nmI 5) [7] (gN 7) (yesT) (callS F__law_loss (aCons (tm (rv 2)) (aCons (tm (rv 3)) (aCons (tm (rv 7)) (aNil))))))) (aNil))))) (cmp2 gNotIn (tm (op2 gIx (bv 6) (tm (kD (.int 1))))) (bv 5))) (q_law_5i_0) (nxS)
noncomputable def q_law_6 : Ev → Rs Ctl := asgS (dispE (callL gLenA (aCons (bv 2) (aNil))) (kD (.int 0))) (gN 8)
noncomputable def q_law_7b_0 : Ev → Rs Ctl := asgS (callL gMinA (aCons (tm (callS F__law_numbers (aCons (tm (rv 2)) (aCons (tm (rv 3)) (aCons (bv 8) (aCons (tm (rv 9)) (aNil))))))) (aNil))) (gSubS 8 (bv 9))
noncomputable def q_law_7 : Ev → Rs Ctl := forS (rng3 (aCons (tm (op2 gSub (tm (callL gLenA (aCons (bv 2) (aNil)))) (tm (kD (.int 1))))) (aCons (tm (op1 gNeg (tm (kD (.int 1))))) (aCons (tm (op1 gNeg (tm (kD (.int 1))))) (aNil))))) (gN 9) (q_law_7b_0) [9]
noncomputable def q_law_8i_0 : Ev → Rs Ctl := retS (kD (.bool false))
noncomputable def q_law_8 : Ev → Rs Ctl := ifS (orT (cmp2 gNe (tm (callS F__law_loss (aCons (tm (rv 2)) (aCons (tm (rv 3)) (aCons (tm (op2 gIx (bv 6) (tm (kD (.int 1))))) (aNil)))))) (tm (op2 gIx (bv 6) (tm (kD (.int 0)))))) (notT (truB (tm (callS F__law_same (aCons (tm (op2 gIx (bv 6) (tm (kD (.int 2))))) (aCons (tm (rv 8)) (aNil)))))))) (q_law_8i_0) (nxS)
noncomputable def q_law_9b_0 : Ev → Rs Ctl := asgS (ifE (cmp2 gEq (bv 10) (tm (kD (.int 0)))) (dispL (aCons (tm (op2 gIx (bv 6) (tm (kD (.int 1))))) (aCons (tm (op2 gIx (bv 6) (tm (kD (.int 2))))) (aNil)))) (callS F__law_bent (aCons (bv 1) (aCons (tm (rv 2)) (aCons (tm (op2 gIx (bv 6) (tm (kD (.int 1))))) (aCons (tm (op2 gIx (bv 6) (tm (kD (.int 2))))) (aNil))))))) (gTupS 2 (gConsS (gN 7) (gConsS (gN 11) (gNilS))))
noncomputable def q_law_9b_1i_0 : Ev → Rs Ctl := retS (kD (.bool false))
noncomputable def q_law_9b_1 : Ev → Rs Ctl := ifS (notT (truB (tm (callS F__law_same (aCons (tm (callS F_judge_loss (aCons (tm (rv 2)) (aCons (tm (rv 3)) (aCons (tm (callL gListA (aCons (bv 7) (aNil)))) (aCons (tm (callL gDict (aCons (bv 11) (aNil)))) (aNil))))))) (aCons (tm (callS F__law_right (aCons (tm (rv 2)) (aCons (tm (rv 3)) (aCons (tm (rv 7)) (aCons (tm (rv 11)) (aNil))))))) (aNil))))))) (q_law_9b_1i_0) (nxS)
noncomputable def q_law_9b_2i_0 : Ev → Rs Ctl := retS (kD (.bool false))
noncomputable def q_law_9b_2 : Ev → Rs Ctl := ifS (notT (truB (tm (callS F__law_same (aCons (tm (callS F_are_breaks (aCons (tm (rv 2)) (aCons (tm (rv 3)) (aCons (tm (callL gListA (aCons (bv 7) (aNil)))) (aNil)))))) (aCons (tm (callS F__law_are_breaks (aCons (tm (rv 2)) (aCons (tm (rv 3)) (aCons (tm (rv 7)) (aNil)))))) (aNil))))))) (q_law_9b_2i_0) (nxS)
noncomputable def t_law_9b_1 : Ev → Rs Ctl := cons (q_law_9b_1) (q_law_9b_2)
noncomputable def t_law_9b_0 : Ev → Rs Ctl := cons (q_law_9b_0) (t_law_9b_1)
noncomputable def q_law_9 : Ev → Rs Ctl := forS (rng1 (aCons (tm (kD (.int 5))) (aNil))) (gN 10) (t_law_9b_0) [7, 10, 11]
noncomputable def q_law_10 : Ev → Rs Ctl := asgS (callS F_filled (aCons (tm (callL gListA (aCons (bv 2) (aNil)))) (aCons (tm (rv 3)) (aNil)))) (gN 12)
noncomputable def q_law_11i_0 : Ev → Rs Ctl := retS (kD (.bool false))
noncomputable def q_law_11 : Ev → Rs Ctl := ifS (orT (cmp2 gNe (bv 12) (tm (callS F__law_filled (aCons (tm (rv 2)) (aCons (tm (rv 3)) (aNil)))))) (orT (cmp2 gNotIn (bv 12) (bv 5)) (cmp2 gNe (tm (callL gLenA (aCons (bv 12) (aNil)))) (tm (callL gMinA (aCons (tm (lcE (nmI 5) [7] (gN 7) (yesT) (callL gLenA (aCons (bv 7) (aNil))))) (aNil))))))) (q_law_11i_0) (nxS)
noncomputable def q_law_12 : Ev → Rs Ctl := asgS (callS F__law_pick (aCons (bv 1) (aCons (tm (rv 5)) (aNil)))) (gN 7)
noncomputable def q_law_13 : Ev → Rs Ctl := asgS (callS F__law_rooms (aCons (tm (rv 2)) (aCons (tm (rv 3)) (aCons (tm (rv 7)) (aNil))))) (gN 13)
noncomputable def q_law_14 : Ev → Rs Ctl := asgS (op2 gAdd (tm (slE (bv 7) (aP (tm (kD (.int 1)))) (noP))) (tm (dispL (aCons (tm (callL gLenA (aCons (bv 2) (aNil)))) (aNil))))) (gN 14)
noncomputable def q_law_15i_0 : Ev → Rs Ctl := retS (kD (.bool false))
noncomputable def q_law_15 : Ev → Rs Ctl := ifS (notT (truB (tm (callS F__law_same (aCons (tm (callS F_lines_of (aCons (tm (rv 2)) (aCons (tm (rv 7)) (aNil))))) (aCons (tm (lcE (rng1 (aCons (tm (callL gLenA (aCons (bv 7) (aNil)))) (aNil))) [10] (gN 10) (yesT) (m1E gJoin (tm (kD (.str " "))) (tm (slE (bv 2) (aP (tm (op2 gIx (bv 7) (bv 10)))) (aP (tm (op2 gIx (bv 14) (bv 10))))))))) (aNil))))))) (q_law_15i_0) (nxS)
noncomputable def q_law_16i_0 : Ev → Rs Ctl := retS (kD (.bool false))
noncomputable def q_law_16 : Ev → Rs Ctl := ifS (notT (truB (tm (callS F__law_same (aCons (tm (dispL (aCons (tm (callS F_loss (aCons (tm (rv 2)) (aCons (tm (rv 3)) (aCons (tm (rv 7)) (aNil)))))) (aCons (tm (callS F_worst (aCons (tm (rv 2)) (aCons (tm (rv 3)) (aCons (tm (rv 7)) (aNil)))))) (aNil))))) (aCons (tm (dispL (aCons (tm (callS F__law_loss (aCons (tm (rv 2)) (aCons (tm (rv 3)) (aCons (tm (rv 7)) (aNil)))))) (aCons (tm (callL gMaxA (aCons (tm (op2 gAdd (tm (slE (bv 13) (noP) (aP (tm (op1 gNeg (tm (kD (.int 1)))))))) (tm (dispL (aCons (tm (kD (.int 0))) (aNil)))))) (aNil)))) (aNil))))) (aNil))))))) (q_law_16i_0) (nxS)
noncomputable def q_law_17 : Ev → Rs Ctl := asgS (callS F__law_draw (aCons (bv 1) (aCons (tm (callL gLenA (aCons (bv 2) (aNil)))) (aNil)))) (gN 9)
noncomputable def q_law_18 : Ev → Rs Ctl := asgS (callS F__law_draw (aCons (bv 1) (aCons (tm (op2 gAdd (tm (callL gLenA (aCons (bv 2) (aNil)))) (tm (kD (.int 1))))) (aNil)))) (gN 15)
noncomputable def q_law_19 : Ev → Rs Ctl := retS (callS F__law_same (aCons (tm (callS F_room (aCons (tm (rv 2)) (aCons (tm (rv 3)) (aCons (tm (rv 9)) (aCons (tm (rv 15)) (aNil))))))) (aCons (tm (callS F__law_room (aCons (tm (rv 2)) (aCons (tm (rv 3)) (aCons (tm (rv 9)) (aCons (tm (rv 15)) (aNil))))))) (aNil))))
noncomputable def t_law_18 : Ev → Rs Ctl := cons (q_law_18) (q_law_19)
noncomputable def t_law_17 : Ev → Rs Ctl := cons (q_law_17) (t_law_18)
noncomputable def t_law_16 : Ev → Rs Ctl := cons (q_law_16) (t_law_17)
noncomputable def t_law_15 : Ev → Rs Ctl := cons (q_law_15) (t_law_16)
noncomputable def t_law_14 : Ev → Rs Ctl := cons (q_law_14) (t_law_15)
noncomputable def t_law_13 : Ev → Rs Ctl := cons (q_law_13) (t_law_14)
noncomputable def t_law_12 : Ev → Rs Ctl := cons (q_law_12) (t_law_13)
noncomputable def t_law_11 : Ev → Rs Ctl := cons (q_law_11) (t_law_12)
noncomputable def t_law_10 : Ev → Rs Ctl := cons (q_law_10) (t_law_11)
noncomputable def t_law_9 : Ev → Rs Ctl := cons (q_law_9) (t_law_10)
noncomputable def t_law_8 : Ev → Rs Ctl := cons (q_law_8) (t_law_9)
noncomputable def t_law_7 : Ev → Rs Ctl := cons (q_law_7) (t_law_8)
noncomputable def t_law_6 : Ev → Rs Ctl := cons (q_law_6) (t_law_7)
noncomputable def t_law_5 : Ev → Rs Ctl := cons (q_law_5) (t_law_6)
noncomputable def t_law_4 : Ev → Rs Ctl := cons (q_law_4) (t_law_5)
noncomputable def t_law_3 : Ev → Rs Ctl := cons (q_law_3) (t_law_4)
noncomputable def t_law_2 : Ev → Rs Ctl := cons (q_law_2) (t_law_3)
noncomputable def t_law_1 : Ev → Rs Ctl := cons (q_law_1) (t_law_2)
noncomputable def t_law_0 : Ev → Rs Ctl := cons (q_law_0) (t_law_1)
noncomputable def f_law : Ev → Rs Ctl := t_law_0
noncomputable def F_law : Fn := fnS 1 16 f_law
end Y
/-! paragraphs with least loss, plainly -/
namespace Y
namespace A84
def seg (W : List Int) (a b : Nat) : Int := ((W.take b).drop a).sum
/-- the free signs of a line -/
def fr (W : List Int) (v : Int) (a b : Nat) : Int := v - seg W a b - ((b : Int) - a - 1)
def rm (W : List Int) (v : Int) (a b : Nat) : Option Int := if b ≤ a then none else if 0 ≤ fr W v a b then some (fr W v a b) else none
theorem filterMap_cong {α β : Type} {f g : α → Option β} : ∀ {l : List α}, (∀ x ∈ l, f x = g x) → l.filterMap f = l.filterMap g
  | [], _ => rfl
  | x :: l, h => by rw [List.filterMap_cons, List.filterMap_cons, h x (by simp), filterMap_cong fun y hy => h y (by simp [hy])]
section
variable (W : List Int) (v : Int) (n : Nat)
/-- the ways on from q, told the numbers -/
def ways (T : Nat → Int) (q : Nat) : List (Int × Int) := if (rm W v q n).isSome then [(0, (n : Int))] else (List.range' (q + 1) (n - (q + 1))).filterMap fun r => (rm W v q r).map fun f => (f * f + T r, (r : Int))
/-- the least number and where it goes on -/
def bw : Nat → Nat → Int × Int
  | 0, _ => (0, n)
  | m + 1, q => if n ≤ q then (0, n) else match ways W v n (fun r => (bw m r).1) q with
    | [] => (0, n)
    | x :: r => bestP x r
variable {W v n}
theorem ways_congr {T U : Nat → Int} {q : Nat} (h : ∀ r, q < r → r < n → T r = U r) : ways W v n T q = ways W v n U q := by
  unfold ways
  split
  · rfl
  · refine filterMap_cong fun r hr => ?_
    rw [List.mem_range'_1] at hr
    rw [h r (by omega) (by omega)]
theorem bw_fuel : ∀ (m k q : Nat), n - q ≤ m → n - q ≤ k → bw W v n m q = bw W v n k q
  | 0, 0, q, _, _ => rfl
  | 0, k + 1, q, h, _ => by rw [bw, bw, if_pos (by omega)]
  | m + 1, 0, q, _, h => by rw [bw, bw, if_pos (by omega)]
  | m + 1, k + 1, q, h1, h2 => by
    rw [bw, bw]
    by_cases hq : n ≤ q
    · rw [if_pos hq, if_pos hq]
    · rw [if_neg hq, if_neg hq, ways_congr (T := fun r => (bw W v n m r).1) (U := fun r => (bw W v n k r).1) fun r _ _ => by
        show (bw W v n m r).1 = (bw W v n k r).1
        rw [bw_fuel m k r (by omega) (by omega)]]
/-- the least number from q on -/
def T (W : List Int) (v : Int) (n q : Nat) : Int := (bw W v n (n - q) q).1
def Nx (W : List Int) (v : Int) (n q : Nat) : Int := (bw W v n (n - q) q).2
theorem T_n : T W v n n = 0 := by unfold T; rw [Nat.sub_self]; rfl
theorem bw_at {q : Nat} (hq : q < n) {x : Int × Int} {r : List (Int × Int)} (h : ways W v n (T W v n) q = x :: r) : bw W v n (n - q) q = bestP x r := by
  obtain ⟨m, hm⟩ : ∃ m, n - q = m + 1 := ⟨n - q - 1, by omega⟩
  rw [hm, bw, if_neg (by omega), ways_congr (U := T W v n) fun r h1 h2 => by
    show (bw W v n m r).1 = (bw W v n (n - r) r).1
    rw [bw_fuel m (n - r) r (by omega) (by omega)], h]
theorem rm_lt {a b : Nat} {f : Int} (h : rm W v a b = some f) : a < b ∧ 0 ≤ f ∧ f = fr W v a b := by
  unfold rm at h
  split at h
  · cases h
  · split at h
    · cases h; exact ⟨by omega, by assumption, rfl⟩
    · cases h
/-- every word has room on a line -/
def Fits (W : List Int) (v : Int) (n : Nat) : Prop := ∀ k, k < n → (rm W v k (k + 1)).isSome = true
theorem ways_ne (F : Fits W v n) {U : Nat → Int} {q : Nat} (hq : q < n) : ∃ x r, ways W v n U q = x :: r := by
  unfold ways
  split
  · exact ⟨_, _, rfl⟩
  · rename_i h
    have h1 : q + 1 < n := by
      rcases Nat.lt_or_ge (q + 1) n with h2 | h2
      · exact h2
      · have e : n = q + 1 := by omega
        have := F q hq
        rw [← e] at this
        exact absurd this h
    obtain ⟨f, hf⟩ := Option.isSome_iff_exists.mp (F q hq)
    have e : List.range' (q + 1) (n - (q + 1)) = (q + 1) :: List.range' (q + 2) (n - (q + 2)) := by
      rw [show n - (q + 1) = (n - (q + 2)) + 1 by omega]
      rfl
    rw [e, List.filterMap_cons, hf]
    exact ⟨_, _, rfl⟩
theorem mem_ways {U : Nat → Int} {q : Nat} {p : Int × Int} : p ∈ ways W v n U q ↔ ((rm W v q n).isSome = true ∧ p = (0, (n : Int))) ∨ (¬ (rm W v q n).isSome = true ∧ ∃ r f, q < r ∧ r < n ∧ rm W v q r = some f ∧ p = (f * f + U r, (r : Int))) := by
  unfold ways
  split
  · rename_i h; simp [h]
  · rename_i h
    rw [List.mem_filterMap]
    constructor
    · rintro ⟨r, h1, h2⟩
      rw [List.mem_range'_1] at h1
      obtain ⟨f, h3, rfl⟩ := Option.map_eq_some_iff.mp h2
      exact .inr ⟨h, r, f, by omega, by omega, h3, rfl⟩
    · rintro (⟨h1, _⟩ | ⟨_, r, f, h1, h2, h3, rfl⟩)
      · exact absurd h1 h
      · exact ⟨r, List.mem_range'_1.mpr (by omega), by rw [h3]; rfl⟩
theorem T_spec (F : Fits W v n) {q : Nat} (hq : q < n) : (T W v n q, Nx W v n q) ∈ ways W v n (T W v n) q ∧ ∀ p ∈ ways W v n (T W v n) q, T W v n q ≤ p.1 := by
  obtain ⟨x, r, e⟩ := ways_ne F (U := T W v n) hq
  obtain ⟨h1, h2⟩ := bestP_spec r x
  have h := bw_at hq e
  refine ⟨?_, fun p hp => ?_⟩
  · show bw W v n (n - q) q ∈ _
    rw [h, e]; exact h1
  · show (bw W v n (n - q) q).1 ≤ _
    rw [h]; rw [e] at hp; exact h2 p hp
/-! ### breaks -/
def sq : Option Int → Int
  | some f => f * f
  | none => 0
theorem sq_nn : ∀ o : Option Int, 0 ≤ sq o
  | some f => by
    show 0 ≤ f * f
    rcases Int.le_total 0 f with h | h
    · exact Int.mul_nonneg h h
    · exact Int.mul_nonneg_of_nonpos_of_nonpos h h
  | none => Int.le_refl 0
def okB (W : List Int) (v : Int) (n : Nat) : List Nat → Bool
  | [] => false
  | [q] => (rm W v q n).isSome
  | q :: r :: rest => (rm W v q r).isSome && decide (r < n) && okB W v n (r :: rest)
def cost (W : List Int) (v : Int) : List Nat → Int
  | [] => 0
  | [_] => 0
  | q :: r :: rest => sq (rm W v q r) + cost W v (r :: rest)
theorem cost_nn : ∀ l : List Nat, 0 ≤ cost W v l
  | [] => Int.le_refl 0
  | [_] => Int.le_refl 0
  | q :: r :: rest => by
    have h1 := cost_nn (r :: rest)
    have h2 := sq_nn (rm W v q r)
    show 0 ≤ sq (rm W v q r) + cost W v (r :: rest)
    omega
theorem T_lower (F : Fits W v n) : ∀ (rest : List Nat) (q : Nat), q < n → okB W v n (q :: rest) = true → T W v n q ≤ cost W v (q :: rest)
  | [], q, hq, h => by
    have h : (rm W v q n).isSome = true := h
    exact (T_spec F hq).2 (0, n) (mem_ways.mpr (.inl ⟨h, rfl⟩))
  | r :: rest, q, hq, h => by
    have h : ((rm W v q r).isSome && decide (r < n) && okB W v n (r :: rest)) = true := h
    rw [Bool.and_eq_true, Bool.and_eq_true, decide_eq_true_eq] at h
    obtain ⟨⟨h1, h2⟩, h3⟩ := h
    obtain ⟨f, hf⟩ := Option.isSome_iff_exists.mp h1
    by_cases hn : (rm W v q n).isSome = true
    · have := (T_spec F hq).2 (0, n) (mem_ways.mpr (.inl ⟨hn, rfl⟩))
      exact Int.le_trans this (cost_nn _)
    · have h4 := (T_spec F hq).2 (f * f + T W v n r, (r : Int)) (mem_ways.mpr (.inr ⟨hn, r, f, (rm_lt hf).1, h2, hf, rfl⟩))
      have h5 := T_lower F rest r h2 h3
      show _ ≤ sq (rm W v q r) + cost W v (r :: rest)
      rw [hf]
      show _ ≤ f * f + _
      exact Int.le_trans h4 (Int.add_le_add_left h5 _)
def path (W : List Int) (v : Int) (n : Nat) : Nat → Nat → List Nat
  | 0, q => [q]
  | m + 1, q => if Nx W v n q = n then [q] else q :: path W v n m (Nx W v n q).toNat
theorem path_ne : ∀ (m q : Nat), ∃ rest, path W v n m q = q :: rest
  | 0, q => ⟨[], rfl⟩
  | m + 1, q => by
    rw [path]
    split
    · exact ⟨[], rfl⟩
    · exact ⟨_, rfl⟩
theorem path_ok (F : Fits W v n) : ∀ (m q : Nat), q < n → n - q ≤ m → okB W v n (path W v n m q) = true ∧ cost W v (path W v n m q) = T W v n q
  | 0, q, hq, h => by omega
  | m + 1, q, hq, h => by
    rcases mem_ways.mp (T_spec F hq).1 with ⟨h1, h2⟩ | ⟨h1, r, f, h2, h3, h4, h5⟩
    · injection h2 with e1 e2
      rw [path, if_pos e2, e1]
      exact ⟨h1, rfl⟩
    · injection h5 with e1 e2
      rw [path, if_neg (by rw [e2]; omega), e2, Int.toNat_natCast, e1]
      obtain ⟨i1, i2⟩ := path_ok F m r h3 (by omega)
      obtain ⟨rest, e⟩ := path_ne (W := W) (v := v) (n := n) m r
      rw [e] at i1 i2 ⊢
      refine ⟨?_, ?_⟩
      · show ((rm W v q r).isSome && decide (r < n) && okB W v n (r :: rest)) = true
        rw [h4, i1]
        simp [h3]
      · show sq (rm W v q r) + cost W v (r :: rest) = _
        rw [h4, i2]
        rfl
end
end A84
end Y
/-! paragraphs with least loss, plainly: all breaks -/
namespace Y
namespace A84
/-- lines that fit, up to the last break -/
def ch (W : List Int) (v : Int) (n : Nat) : List Nat → Bool
  | [] => false
  | [q] => decide (q < n)
  | q :: r :: rest => (rm W v q r).isSome && ch W v n (r :: rest)
def la (l : List Nat) : Nat := l.getLastD 0
section
variable {W : List Int} {v : Int} {n : Nat}
theorem ch_snoc : ∀ (l : List Nat) (b : Nat), l ≠ [] → ch W v n (l ++ [b]) = (ch W v n l && (rm W v (la l) b).isSome && decide (b < n)) 
  | [], b, h => absurd rfl h
  | [q], b, _ => by
    show ((rm W v q b).isSome && decide (b < n)) = (decide (q < n) && (rm W v q b).isSome && decide (b < n))
    cases h : rm W v q b with
    | none => simp
    | some f =>
      have := (rm_lt h).1
      by_cases hb : b < n
      · have : q < n := by omega
        simp [hb, this]
      · simp [hb]
  | q :: r :: rest, b, _ => by
    show ((rm W v q r).isSome && ch W v n ((r :: rest) ++ [b])) = ((rm W v q r).isSome && ch W v n (r :: rest) && (rm W v (la (q :: r :: rest)) b).isSome && decide (b < n))
    rw [ch_snoc (r :: rest) b (by simp)]
    have e : la (q :: r :: rest) = la (r :: rest) := by simp [la, List.getLastD]
    rw [e]
    cases (rm W v q r).isSome <;> simp
theorem ch_lt : ∀ (l : List Nat), ch W v n l = true → ∀ x ∈ l, x < n
  | [], h => by simp [ch] at h
  | [q], h => by
    have h : decide (q < n) = true := h
    simpa using h
  | q :: r :: rest, h => by
    have h : ((rm W v q r).isSome && ch W v n (r :: rest)) = true := h
    rw [Bool.and_eq_true] at h
    obtain ⟨f, hf⟩ := Option.isSome_iff_exists.mp h.1
    intro x hx
    rcases List.mem_cons.mp hx with rfl | hx
    · have := ch_lt _ h.2 r (by simp)
      have := (rm_lt hf).1
      omega
    · exact ch_lt _ h.2 x hx
theorem okB_ch : ∀ (l : List Nat), okB W v n l = (ch W v n l && (rm W v (la l) n).isSome)
  | [] => rfl
  | [q] => by
    show (rm W v q n).isSome = (decide (q < n) && (rm W v q n).isSome)
    cases h : rm W v q n with
    | none => simp
    | some f => have := (rm_lt h).1; simp [this]
  | q :: r :: rest => by
    show ((rm W v q r).isSome && decide (r < n) && okB W v n (r :: rest)) = ((rm W v q r).isSome && ch W v n (r :: rest) && (rm W v (la (q :: r :: rest)) n).isSome)
    have e : la (q :: r :: rest) = la (r :: rest) := by simp [la, List.getLastD]
    rw [okB_ch (r :: rest), e]
    cases h : rm W v q r with
    | none => simp
    | some f =>
      by_cases hr : r < n
      · simp [hr]
      · have : ch W v n (r :: rest) = false := by
          rw [Bool.eq_false_iff]
          exact fun hc => hr (ch_lt _ hc r (by simp))
        simp [this]
/-- the breaks with k + 1 lines begun -/
def nxt (W : List Int) (v : Int) (n : Nat) (l : List Nat) : List (List Nat) := ((List.range' (la l + 1) (n - (la l + 1))).filter fun b => (rm W v (la l) b).isSome).map fun b => l ++ [b]
def lv (W : List Int) (v : Int) (n : Nat) : Nat → List (List Nat)
  | 0 => [[0]]
  | k + 1 => (lv W v n k).flatMap (nxt W v n)
def all (W : List Int) (v : Int) (n k : Nat) : List (List Nat) := (List.range k).flatMap fun i => (lv W v n i).filter fun l => (rm W v (la l) n).isSome
theorem mem_lv (h0 : 0 < n) : ∀ (k : Nat) (l : List Nat), l ∈ lv W v n k ↔ (∃ r, l = 0 :: r) ∧ l.length = k + 1 ∧ ch W v n l = true
  | 0, l => by
    show l ∈ [[0]] ↔ _
    rw [List.mem_singleton]
    constructor
    · rintro rfl
      exact ⟨⟨[], rfl⟩, rfl, by simp [ch, h0]⟩
    · rintro ⟨⟨r, rfl⟩, h, _⟩
      cases r with
      | nil => rfl
      | cons _ _ => simp at h
  | k + 1, l => by
    show l ∈ (lv W v n k).flatMap (nxt W v n) ↔ _
    rw [List.mem_flatMap]
    constructor
    · rintro ⟨x, hx, hl⟩
      obtain ⟨⟨r, rfl⟩, h2, h3⟩ := (mem_lv h0 k x).mp hx
      unfold nxt at hl
      obtain ⟨b, hb, rfl⟩ := List.mem_map.mp hl
      rw [List.mem_filter, List.mem_range'_1] at hb
      refine ⟨⟨r ++ [b], rfl⟩, by simp at h2 ⊢; omega, ?_⟩
      rw [ch_snoc _ _ (by simp), h3, hb.2]
      simp
      omega
    · rintro ⟨⟨r, rfl⟩, h2, h3⟩
      have hr : r ≠ [] := by rintro rfl; simp at h2
      obtain ⟨r', b, rfl⟩ : ∃ r' b, r = r' ++ [b] := ⟨_, _, (List.dropLast_concat_getLast hr).symm⟩
      have h3 : ch W v n ((0 :: r') ++ [b]) = true := h3
      rw [ch_snoc _ _ (by simp), Bool.and_eq_true, Bool.and_eq_true, decide_eq_true_eq] at h3
      refine ⟨0 :: r', (mem_lv h0 k _).mpr ⟨⟨r', rfl⟩, by simp at h2 ⊢; omega, h3.1.1⟩, ?_⟩
      unfold nxt
      refine List.mem_map.mpr ⟨b, List.mem_filter.mpr ⟨?_, h3.1.2⟩, rfl⟩
      obtain ⟨f, hf⟩ := Option.isSome_iff_exists.mp h3.1.2
      have := (rm_lt hf).1
      rw [List.mem_range'_1]
      omega
theorem ch_inc : ∀ (q : Nat) (rest : List Nat), ch W v n (q :: rest) = true → (q :: rest).Pairwise (· < ·)
  | q, [], _ => by simp
  | q, r :: rest, h => by
    have h : ((rm W v q r).isSome && ch W v n (r :: rest)) = true := h
    rw [Bool.and_eq_true] at h
    obtain ⟨f, hf⟩ := Option.isSome_iff_exists.mp h.1
    have := (rm_lt hf).1
    have ih := ch_inc r rest h.2
    refine List.pairwise_cons.mpr ⟨fun x hx => ?_, ih⟩
    rcases List.mem_cons.mp hx with rfl | hx
    · exact this
    · exact Nat.lt_trans this ((List.pairwise_cons.mp ih).1 x hx)
theorem inc_len : ∀ (l : List Nat) (a : Nat), l.Pairwise (· < ·) → (∀ x ∈ l, a ≤ x ∧ x < n) → a ≤ n → l.length + a ≤ n
  | [], a, _, _, h => by simpa using h
  | x :: l, a, hp, hr, _ => by
    obtain ⟨h1, h2⟩ := List.pairwise_cons.mp hp
    have hx := hr x (by simp)
    have := inc_len l (x + 1) h2 (fun y hy => ⟨h1 y hy, (hr y (by simp [hy])).2⟩) (by omega)
    simp
    omega
theorem ch_len {l : List Nat} (h : ch W v n l = true) : l.length ≤ n := by
  cases l with
  | nil => simp
  | cons q rest =>
    have := inc_len (q :: rest) 0 (ch_inc q rest h) (fun x hx => ⟨Nat.zero_le _, ch_lt _ h x hx⟩) (Nat.zero_le _)
    omega
theorem mem_all (h0 : 0 < n) {k : Nat} (hk : n ≤ k) {l : List Nat} : l ∈ all W v n k ↔ (∃ r, l = 0 :: r) ∧ okB W v n l = true := by
  unfold all
  rw [List.mem_flatMap, okB_ch, Bool.and_eq_true]
  constructor
  · rintro ⟨i, _, h⟩
    rw [List.mem_filter, mem_lv h0] at h
    exact ⟨h.1.1, h.1.2.2, h.2⟩
  · rintro ⟨h1, h2, h3⟩
    have hl := ch_len h2
    have : l ≠ [] := by obtain ⟨r, rfl⟩ := h1; simp
    have : 0 < l.length := List.length_pos_iff.mpr this
    exact ⟨l.length - 1, List.mem_range.mpr (by omega), List.mem_filter.mpr ⟨(mem_lv h0 _ _).mpr ⟨h1, by omega, h2⟩, h3⟩⟩
/-! ### filled lines -/
/-- the greedy breaks, after the words up to b -/
def fl (W : List Int) (v : Int) : Nat → List Nat
  | 0 => [0]
  | b + 1 => if (rm W v (la (fl W v b)) (b + 1)).isSome then fl W v b else fl W v b ++ [b]
/-- a line within a line that fits fits -/
def Mono (W : List Int) (v : Int) : Prop := ∀ a b c d : Nat, a ≤ c → c < d → d ≤ b → (rm W v a b).isSome = true → (rm W v c d).isSome = true
theorem la_snoc {l : List Nat} {b : Nat} : la (l ++ [b]) = b := by simp [la]
theorem fl_ok (F : Fits W v n) : ∀ b, b < n → (∃ r, fl W v (b + 1) = 0 :: r) ∧ ch W v n (fl W v (b + 1)) = true ∧ la (fl W v (b + 1)) ≤ b ∧ (rm W v (la (fl W v (b + 1))) (b + 1)).isSome = true
  | 0, hb => by
    have h : (rm W v 0 1).isSome = true := F 0 hb
    have e : fl W v 1 = [0] := by
      show (if (rm W v 0 1).isSome then [0] else _) = _
      rw [if_pos h]
    rw [e]
    exact ⟨⟨[], rfl⟩, by simp [ch, hb], Nat.le_refl _, h⟩
  | b + 1, hb => by
    obtain ⟨⟨r, h1⟩, h2, h3, h4⟩ := fl_ok F b (by omega)
    by_cases h : (rm W v (la (fl W v (b + 1))) (b + 2)).isSome = true
    · have e : fl W v (b + 2) = fl W v (b + 1) := by rw [fl, if_pos h]
      rw [e]
      exact ⟨⟨r, h1⟩, h2, by omega, h⟩
    · have e : fl W v (b + 2) = fl W v (b + 1) ++ [b + 1] := by rw [fl, if_neg h]
      rw [e, la_snoc]
      refine ⟨⟨r ++ [b + 1], by rw [h1]; rfl⟩, ?_, Nat.le_refl _, F (b + 1) hb⟩
      rw [ch_snoc _ _ (by rw [h1]; simp), h2, h4]
      simp [hb]
theorem fl_min (M : Mono W v) (F : Fits W v n) : ∀ (b : Nat) (x : List Nat), b < n → ch W v n x = true → (∃ r, x = 0 :: r) → (rm W v (la x) (b + 1)).isSome = true → (fl W v (b + 1)).length < x.length ∨ ((fl W v (b + 1)).length = x.length ∧ la x ≤ la (fl W v (b + 1)))
  | 0, x, hb, hc, ⟨r, hx⟩, h => by
    obtain ⟨f, hf⟩ := Option.isSome_iff_exists.mp h
    have h1 := (rm_lt hf).1
    have h2 : (rm W v 0 1).isSome = true := F 0 hb
    have e : fl W v 1 = [0] := by
      show (if (rm W v 0 1).isSome then [0] else _) = _
      rw [if_pos h2]
    rw [e, hx] at *
    simp
    rcases r with _ | ⟨y, r⟩
    · right; exact ⟨rfl, by simp [la]⟩
    · left; simp
  | b + 1, x, hb, hc, ⟨r, hx⟩, h => by
    obtain ⟨f, hf⟩ := Option.isSome_iff_exists.mp h
    have h1 := (rm_lt hf).1
    have key : (la x ≤ b ∧ ((fl W v (b + 1)).length < x.length ∨ ((fl W v (b + 1)).length = x.length ∧ la x ≤ la (fl W v (b + 1))))) ∨ (la x = b + 1 ∧ (fl W v (b + 1)).length < x.length) := by
      by_cases hl : la x ≤ b
      · exact .inl ⟨hl, fl_min M F b x (by omega) hc ⟨r, hx⟩ (M _ _ _ _ (Nat.le_refl _) (by omega) (by omega) h)⟩
      · right
        have hl : la x = b + 1 := by omega
        have hr : r ≠ [] := by rintro rfl; rw [hx] at hl; simp [la] at hl
        obtain ⟨r', c, rfl⟩ : ∃ r' c, r = r' ++ [c] := ⟨_, _, (List.dropLast_concat_getLast hr).symm⟩
        have hx' : x = (0 :: r') ++ [c] := hx
        rw [hx', la_snoc] at hl
        subst hl
        rw [hx', ch_snoc _ _ (by simp), Bool.and_eq_true, Bool.and_eq_true] at hc
        have := fl_min M F b (0 :: r') (by omega) hc.1.1 ⟨r', rfl⟩ hc.1.2
        refine ⟨by rw [hx', la_snoc], ?_⟩
        rw [hx', List.length_append]
        simp at this ⊢
        omega
    by_cases hs : (rm W v (la (fl W v (b + 1))) (b + 2)).isSome = true
    · have e : fl W v (b + 2) = fl W v (b + 1) := by rw [fl, if_pos hs]
      rw [e]
      rcases key with ⟨_, k⟩ | ⟨_, k⟩
      · exact k
      · exact .inl k
    · have e : fl W v (b + 2) = fl W v (b + 1) ++ [b + 1] := by rw [fl, if_neg hs]
      rw [e, la_snoc, List.length_append]
      have : (fl W v (b + 1)).length < x.length := by
        rcases key with ⟨k1, k | ⟨_, k⟩⟩ | ⟨_, k⟩
        · exact k
        · have := (fl_ok F b (by omega)).2.2.1
          exact absurd (M _ _ _ _ k (by omega) (Nat.le_refl _) h) hs
        · exact k
      simp
      omega
end
end A84
end Y
/-! paragraphs with least loss: the words -/
namespace Y
open PySem PySem.Spec PyProof.Rows L2
open A84
abbrev alpha : List Nat := [97, 98, 99, 120, 121, 122, 48, 49, 57, 46, 44, 65, 66]
theorem wide_in : ∀ c ∈ alpha, gIn (.str ⟨#[c]⟩) (.str "ABCDEFGHIJKLMNOPQRSTUVWXYZ") = some (decide (c = 65 ∨ c = 66)) := by decide +kernel
theorem wide_g {c : Nat} (h : c ∈ alpha) : out (F_wide [lf (.str ⟨#[c]⟩)]) = some (.leaf (.bool (decide (c = 65 ∨ c = 66)))) := by
  refine out_go ?_
  unfold F_wide
  rw [go_fnS_eq]
  unfold f_wide
  simp [wide_in c h]
/-- signs of a word -/
def Wd (w : List Nat) : Prop := (∀ c ∈ w, c ∈ alpha) ∧ w.length ≤ 10 ∧ w ≠ []
abbrev tx (w : List Nat) : D := .str ⟨w.toArray⟩
def caps (w : List Nat) : List Nat := w.filter fun c => decide (c = 65) || decide (c = 66)
def wd (w : List Nat) : Int := w.length + (caps w).length
theorem width_g {w : List Nat} (h : Wd w) : out (F_width [lf (tx w)]) = some (.leaf (.int (wd w))) := by
  refine out_go ?_
  unfold F_width
  rw [go_fnS_eq]
  unfold f_width
  simp
  have e1 : gLenA [tx w] = some (.leaf (.int w.length)) := by
    have hl : (⟨w.toArray⟩ : Str).length = w.length := by simp [Str.length]
    simp [gLenA, gLen, hl]
    exact Nat.le_of_lt (small1000 (by have := h.2.1; omega))
  simp [e1]
  refine Go_lcF (fun c : Nat => .str ⟨#[c]⟩) (fun c => decide (c = 65 ∨ c = 66)) (fun c => .str ⟨#[c]⟩) w ?_
  have hl := h.2.1
  simp [chars]
  refine ⟨by omega, fun c hc => ?_, rfl⟩
  simp [g_callS, wide_g (h.1 c hc)]
theorem ab_in : ∀ c ∈ alpha, gIn (.str ⟨#[c]⟩) (.str "AB") = some (decide (c = 65 ∨ c = 66)) := by decide +kernel
theorem wd_sum : ∀ w : List Nat, (w.map fun c => if c = 65 ∨ c = 66 then (2 : Int) else 1).sum = wd w
  | [] => rfl
  | c :: w => by
    rw [List.map_cons, List.sum_cons, wd_sum w]
    unfold wd caps
    by_cases h : c = 65 ∨ c = 66
    · have : (decide (c = 65) || decide (c = 66)) = true := by simpa using h
      rw [if_pos h, List.filter_cons, if_pos this]
      simp
      omega
    · have : ¬ (decide (c = 65) || decide (c = 66)) = true := by simpa using h
      rw [if_neg h, List.filter_cons, if_neg this]
      simp
      omega
theorem lwide_g {w : List Nat} (h : Wd w) : out (F__law_wide [lf (tx w)]) = some (.leaf (.int (wd w))) := by
  refine out_go ?_
  unfold F__law_wide
  rw [go_fnS_eq]
  unfold f__law_wide
  simp
  refine Go_lcA (fun c : Nat => .str ⟨#[c]⟩) (fun c => .int (if c = 65 ∨ c = 66 then 2 else 1)) w ?_
  have hl := h.2.1
  have e : gSum [.list (w.map fun c => .int (if c = 65 ∨ c = 66 then 2 else 1))] = some (.leaf (.int (wd w))) := by
    have := sum_il (ns := w.map fun c => if c = 65 ∨ c = 66 then (2 : Int) else 1)
    rw [List.map_map, wd_sum] at this
    exact this
  simp [chars, e]
  refine ⟨by omega, fun c hc => ?_⟩
  simp [ab_in c (h.1 c hc)]
  by_cases q : c = 65 ∨ c = 66 <;> simp [q] <;> omega
end Y
/-! paragraphs with least loss: rooms -/
namespace Y
open PySem PySem.Spec PyProof.Rows L2
open A84
abbrev WsD (ws : List (List Nat)) : D := .list (ws.map tx)
def oD : Option Int → D
  | none => .none
  | some i => .int i
structure Wds (ws : List (List Nat)) : Prop where
  ok : ∀ w ∈ ws, Wd w
  len : ws.length ≤ 9
  ne : ws ≠ []
abbrev wz (ws : List (List Nat)) : List Int := ws.map wd
theorem room_g {ws : List (List Nat)} {v : Int} {a b : Nat} (h : Wds ws) : out (F_room [lf (WsD ws), lf (.int v), lf (.int a), lf (.int b)]) = some (.leaf (oD (rm (wz ws) v a b))) := by
  refine out_go ?_
  unfold F_room
  rw [go_fnS_eq]
  unfold f_room
  by_cases hab : b ≤ a
  · simp [hab, rm, oD]
  · simp [hab]
    refine Go_lcA tx (fun w => .int (wd w)) ((ws.take b).drop a) ?_
    have hl := h.len
    have e : gSum [.list (((ws.take b).drop a).map fun w => .int (wd w))] = some (.leaf (.int (seg (wz ws) a b))) := by
      have := sum_il (ns := ((ws.take b).drop a).map wd)
      rw [List.map_map] at this
      rw [show seg (wz ws) a b = (((ws.take b).drop a).map wd).sum by unfold seg wz; rw [List.map_drop, List.map_take]]
      exact this
    simp [gSl_l, cut_ft, e, -List.map_take, -List.map_drop]
    refine ⟨by rw [List.map_drop, List.map_take], by omega, fun w hw => ?_, ?_⟩
    · have hm : w ∈ ws := List.mem_of_mem_take (List.mem_of_mem_drop hw)
      simp [g_callS, width_g (h.ok w hm)]
    · unfold rm fr
      rw [if_neg hab]
      by_cases q : (b : Int) - a - 1 ≤ v - seg (wz ws) a b
      · rw [if_pos q, if_pos (by omega)]; rfl
      · rw [if_neg q, if_neg (by omega)]; rfl
theorem lroom_g {ws : List (List Nat)} {v : Int} {a b : Nat} (h : Wds ws) : out (F__law_room [lf (WsD ws), lf (.int v), lf (.int a), lf (.int b)]) = some (.leaf (oD (rm (wz ws) v a b))) := by
  refine out_go ?_
  unfold F__law_room
  rw [go_fnS_eq]
  unfold f__law_room
  by_cases hab : b ≤ a
  · simp [hab, rm, oD]
  · simp [hab]
    refine Go_lcA tx (fun w => .int (wd w)) ((ws.take b).drop a) ?_
    have hl := h.len
    have e : gSum [.list (((ws.take b).drop a).map fun w => .int (wd w))] = some (.leaf (.int (seg (wz ws) a b))) := by
      have := sum_il (ns := ((ws.take b).drop a).map wd)
      rw [List.map_map] at this
      rw [show seg (wz ws) a b = (((ws.take b).drop a).map wd).sum by unfold seg wz; rw [List.map_drop, List.map_take]]
      exact this
    simp [gSl_l, cut_ft, e, -List.map_take, -List.map_drop]
    refine ⟨by rw [List.map_drop, List.map_take], by omega, fun w hw => ?_, ?_⟩
    · have hm : w ∈ ws := List.mem_of_mem_take (List.mem_of_mem_drop hw)
      simp [g_callS, lwide_g (h.ok w hm)]
    · unfold rm fr
      rw [if_neg hab]
      by_cases q : (b : Int) - a - 1 ≤ v - seg (wz ws) a b
      · rw [if_pos q, if_pos (by omega)]; rfl
      · rw [if_neg q, if_neg (by omega)]; rfl
end Y
/-! paragraphs with least loss: rooms of breaks -/
namespace Y
open PySem PySem.Spec PyProof.Rows L2
open A84
namespace A84
def prs (n : Nat) : List Nat → List (Nat × Nat)
  | [] => []
  | [q] => [(q, n)]
  | q :: r :: rest => (q, r) :: prs n (r :: rest)
def rms (W : List Int) (v : Int) (n : Nat) (l : List Nat) : List (Option Int) := (prs n l).map fun p => rm W v p.1 p.2
theorem prs_len (n : Nat) : ∀ l : List Nat, (prs n l).length = l.length
  | [] => rfl
  | [q] => rfl
  | q :: r :: rest => by
    show (prs n (r :: rest)).length + 1 = _
    rw [prs_len n (r :: rest)]
    rfl
end A84
def nD (p : Nat × Nat) : D := .tuple [.int (p.1 : Int), .int (p.2 : Int)]
theorem zip_prs (n : Nat) : ∀ l : List Nat, zipD (l.map fun k : Nat => .int (k : Int)) ((l.tail.map fun k : Nat => .int (k : Int)) ++ [.int (n : Int)]) = (prs n l).map nD
  | [] => rfl
  | [q] => rfl
  | q :: r :: rest => by
    have := zip_prs n (r :: rest)
    show PyData.tuple [.int (q : Int), .int (r : Int)] :: zipD ((r :: rest).map fun k : Nat => .int (k : Int)) ((rest.map fun k : Nat => .int (k : Int)) ++ [.int (n : Int)]) = _
    rw [show (rest.map fun k : Nat => PyData.int (k : Int)) = ((r :: rest).tail.map fun k : Nat => PyData.int (k : Int)) from rfl, this]
    rfl
theorem rooms_g {ws : List (List Nat)} {v : Int} {l : List Nat} (h : Wds ws) (hne : l ≠ []) (hl : l.length ≤ 20) : out (F_rooms [lf (WsD ws), lf (.int v), lf (NL l)]) = some (.lst ((rms (wz ws) v ws.length l).map oD)) := by
  refine out_go ?_
  unfold F_rooms
  rw [go_fnS_eq]
  unfold f_rooms
  have e1 : gSl (NL l) (some 1) none = some (.lst (l.tail.map fun k : Nat => .int (k : Int))) := by
    rw [gSl_l, show (1 : Int) = ((1 : Nat) : Int) from rfl, cut_from, ← List.map_drop, List.drop_one]
  have e2 : gAdd (.list (l.tail.map fun k : Nat => .int (k : Int))) (.list [.int (ws.length : Int)]) = some (.lst ((l.tail.map fun k : Nat => .int (k : Int)) ++ [.int (ws.length : Int)])) := gAdd_l (by simp; omega)
  have e3 := zip_prs ws.length l
  have hl1 : 0 < l.length := List.length_pos_iff.mpr hne
  simp [e1, e2, -List.map_tail]
  refine Go_lcA nD (fun p => oD (rm (wz ws) v p.1 p.2)) (prs ws.length l) ?_
  simp [e3, nD, -List.map_tail]
  refine ⟨by omega, by rw [prs_len]; omega, fun a b _ => ?_, ?_⟩
  · simp [g_callS, room_g h]
  · unfold rms; rw [List.map_map]; rfl
end Y
/-! paragraphs with least loss: breaks, loss, worst -/
namespace Y
open PySem PySem.Spec PyProof.Rows L2
open A84
namespace A84
theorem prs_get (n : Nat) : ∀ (l : List Nat) (k : Nat), k < l.length → (prs n l)[k]? = some (l.getD k 0, (l.tail ++ [n]).getD k 0)
  | [], k, h => by simp at h
  | [q], k, h => by
    have : k = 0 := by simpa using h
    subst this; rfl
  | q :: r :: rest, 0, h => rfl
  | q :: r :: rest, k + 1, h => by
    have := prs_get n (r :: rest) k (by simpa using h)
    show (prs n (r :: rest))[k]? = _
    rw [this]
    rfl
theorem prs_range (n : Nat) (l : List Nat) : prs n l = (List.range l.length).map fun k => (l.getD k 0, (l.tail ++ [n]).getD k 0) := by
  refine List.ext_getElem? fun k => ?_
  by_cases h : k < l.length
  · rw [prs_get n l k h, List.getElem?_map, List.getElem?_range h]; rfl
  · rw [List.getElem?_eq_none (by rw [prs_len]; omega), List.getElem?_eq_none (by simp; omega)]
theorem rms_len (W : List Int) (v : Int) (n : Nat) (l : List Nat) : (rms W v n l).length = l.length := by unfold rms; rw [List.length_map, prs_len]
/-- breaks that fit -/
def AB (W : List Int) (v : Int) (n : Nat) (l : List Nat) : Bool := arB n l && (rms W v n l).all Option.isSome
theorem rms_cost (W : List Int) (v : Int) (n : Nat) : ∀ l : List Nat, (((rms W v n l).take (l.length - 1)).map sq).sum = cost W v l
  | [] => rfl
  | [q] => rfl
  | q :: r :: rest => by
    have := rms_cost W v n (r :: rest)
    show ((((rm W v q r) :: rms W v n (r :: rest)).take (rest.length + 1)).map sq).sum = sq (rm W v q r) + cost W v (r :: rest)
    rw [List.take_succ_cons, List.map_cons, List.sum_cons, ← this]
    rfl
theorem rm_mem {W : List Int} {v : Int} {n : Nat} {l : List Nat} {o : Option Int} (h : o ∈ rms W v n l) : ∃ a b, o = rm W v a b := by
  unfold rms at h
  obtain ⟨p, _, rfl⟩ := List.mem_map.mp h
  exact ⟨_, _, rfl⟩
theorem seg_nn {W : List Int} (hW : ∀ x ∈ W, 0 ≤ x) (a b : Nat) : 0 ≤ seg W a b := by
  unfold seg
  have : ∀ l : List Int, (∀ x ∈ l, 0 ≤ x) → 0 ≤ l.sum := by
    intro l
    induction l with
    | nil => intro _; simp
    | cons x l ih => intro h; rw [List.sum_cons]; have := h x (by simp); have := ih fun y hy => h y (by simp [hy]); omega
  exact this _ fun x hx => hW x (List.mem_of_mem_take (List.mem_of_mem_drop hx))
theorem rm_le {W : List Int} (hW : ∀ x ∈ W, 0 ≤ x) {v : Int} {a b : Nat} {f : Int} (h : rm W v a b = some f) : 0 ≤ f ∧ f ≤ v := by
  obtain ⟨h1, h2, h3⟩ := rm_lt h
  have := seg_nn hW a b
  unfold fr at h3
  omega
theorem okB_some {W : List Int} {v : Int} {n : Nat} : ∀ l : List Nat, okB W v n l = true → (rms W v n l).all Option.isSome = true
  | [], h => by cases h
  | [q], h => by
    have h : (rm W v q n).isSome = true := h
    show ((rm W v q n).isSome && true) = true
    rw [h]; rfl
  | q :: r :: rest, h => by
    have h : ((rm W v q r).isSome && decide (r < n) && okB W v n (r :: rest)) = true := h
    rw [Bool.and_eq_true, Bool.and_eq_true] at h
    have := okB_some (r :: rest) h.2
    show ((rm W v q r).isSome && (rms W v n (r :: rest)).all Option.isSome) = true
    rw [h.1.1, this]; rfl
theorem okB_ne {W : List Int} {v : Int} {n : Nat} {l : List Nat} (h : okB W v n l = true) : l ≠ [] := by rintro rfl; cases h
/-- the greatest -/
def mxr (os : List (Option Int)) : Int := maxI (os.map (fun o => o.getD 0) ++ [0])
end A84
theorem maxI_mv (x y : Int) : ∀ r : List Int, maxI (max x y :: r) = maxI (x :: y :: r)
  | [] => rfl
  | z :: r => by
    show max (max x y) (maxI (z :: r)) = max x (max y (maxI (z :: r)))
    omega
theorem maxD_i : ∀ (xs : List Int) (x : Int), PySem.W.maxD (.int x) (xs.map .int) = .int (maxI (x :: xs))
  | [], x => rfl
  | y :: r, x => by
    have e : PySem.W.maxD (.int x) ((y :: r).map .int) = PySem.W.maxD (if PySem.W.dataLt (.int x) (.int y) then .int y else .int x) (r.map .int) := rfl
    have e2 : (if PySem.W.dataLt (.int x) (.int y) = true then PyData.int y else PyData.int x) = .int (max x y) := by
      have : PySem.W.dataLt (.int x) (.int y) = decide (x < y) := PySem.W.dataLt_int _ _
      rw [this]
      by_cases h : x < y
      · rw [decide_eq_true h, if_pos rfl]; congr 1; omega
      · rw [decide_eq_false h, if_neg (by simp)]; congr 1; omega
    rw [e, e2, maxD_i r, maxI_mv]
theorem maxI_snoc0 : ∀ (xs : List Int), xs ≠ [] → (∀ x ∈ xs, 0 ≤ x) → maxI (xs ++ [0]) = maxI xs
  | [], h, _ => absurd rfl h
  | [a], _, h => by
    have := h a (by simp)
    show max a 0 = a
    omega
  | a :: b :: r, _, h => by
    have := maxI_snoc0 (b :: r) (by simp) fun x hx => h x (List.mem_cons_of_mem _ hx)
    show max a (maxI ((b :: r) ++ [0])) = max a (maxI (b :: r))
    rw [this]
theorem gMaxDf_il {ns : List Int} (h : ∀ x ∈ ns, 0 ≤ x) : gMaxDf (.list (ns.map .int)) (.int 0) = some (.leaf (.int (maxI (ns ++ [0])))) := by
  cases ns with
  | nil => rfl
  | cons x r =>
    have hok : minOk ((x :: r).map PyData.int) = true := by
      unfold minOk
      simp only [Bool.and_eq_true, List.all_eq_true]
      refine ⟨⟨fun d hd e he => ?_, fun d hd => ?_⟩, fun d hd => ?_⟩
      · obtain ⟨x, _, rfl⟩ := List.mem_map.mp hd
        obtain ⟨y, _, rfl⟩ := List.mem_map.mp he
        rfl
      · obtain ⟨x, _, rfl⟩ := List.mem_map.mp hd
        exact fits_i
      · obtain ⟨x, _, rfl⟩ := List.mem_map.mp hd
        rfl
    show (if minOk (PyData.int x :: r.map PyData.int) = true then some (O.leaf (PySem.W.maxD (.int x) (r.map PyData.int))) else none) = _
    rw [List.map_cons] at hok
    rw [if_pos hok, maxD_i, maxI_snoc0 _ (by simp) h]
section
variable {ws : List (List Nat)} {v : Int} {l : List Nat}
theorem lrooms_g (h : Wds ws) (hl : l.length ≤ 20) : out (F__law_rooms [lf (WsD ws), lf (.int v), lf (NL l)]) = some (.lst ((rms (wz ws) v ws.length l).map oD)) := by
  refine out_go ?_
  unfold F__law_rooms
  rw [go_fnS_eq]
  unfold f__law_rooms
  have e1 : gSl (NL l) (some 1) none = some (.lst (l.tail.map fun k : Nat => .int (k : Int))) := by
    rw [gSl_l, show (1 : Int) = ((1 : Nat) : Int) from rfl, cut_from, ← List.map_drop, List.drop_one]
  have e2 : gAdd (.list (l.tail.map fun k : Nat => .int (k : Int))) (.list [.int (ws.length : Int)]) = some (.lst ((l.tail.map fun k : Nat => .int (k : Int)) ++ [.int (ws.length : Int)])) := gAdd_l (by simp; omega)
  have ix2 : ∀ k, k < l.length → gIx (.list ((l.tail.map fun k : Nat => .int (k : Int)) ++ [.int (ws.length : Int)])) (.int (k : Int)) = some (.leaf (.int ((l.tail ++ [ws.length]).getD k 0 : Nat))) := fun k hk => by
    have := ixNL (l := l.tail ++ [ws.length]) (k := k) (by simp; omega)
    rw [List.map_append] at this
    exact this
  simp [e1, e2, -List.map_tail]
  refine Go_lcA (fun k : Nat => .int (k : Int)) (fun k => oD (rm (wz ws) v (l.getD k 0) ((l.tail ++ [ws.length]).getD k 0))) (List.range l.length) ?_
  simp [rangeD_nat, -List.map_tail, -List.getD_eq_getElem?_getD]
  refine ⟨by omega, by omega, fun k hk => ?_, ?_⟩
  · simp [ixNL hk, ix2 k hk, g_callS, lroom_g h, -List.getD_eq_getElem?_getD, -List.map_tail]
  · unfold rms
    rw [prs_range, List.map_map, List.map_map]
    rfl
theorem are_breaks_g (h : Wds ws) (hl : l.length ≤ 20) : out (F_are_breaks [lf (WsD ws), lf (.int v), lf (NL l)]) = some (.leaf (.bool (AB (wz ws) v ws.length l))) := by
  refine out_go ?_
  unfold F_are_breaks
  rw [go_fnS_eq]
  unfold f_are_breaks
  by_cases h1 : l.take 1 = [0]
  case neg => simp [gSl_l, cut1, take0_ne, h1, AB, arB]
  have hne : l ≠ [] := by rintro rfl; simp at h1
  have eL := gLast hne
  have eS := sset_g (l := l) (by omega)
  by_cases h2 : l.Pairwise (· < ·)
  case neg => simp [gSl_l, cut1, take0_ne, h1, eS, sset_ne, h2, AB, arB]
  by_cases h3 : l.getLast hne < ws.length
  case neg =>
    have h3' : ws.length ≤ l.getLast hne := by omega
    simp [gSl_l, cut1, take0_ne, h1, eS, sset_ne, h2, eL, h3', AB, arB, lastLt_e hne, h3]
  have h3' : ¬ ws.length ≤ l.getLast hne := by omega
  simp [gSl_l, cut1, take0_ne, h1, eS, sset_ne, h2, eL, h3']
  refine Go_lcA oD (fun o => .bool o.isSome) (rms (wz ws) v ws.length l) ?_
  have hr := rooms_g (v := v) h hne hl
  have hi : ∀ o : Option Int, gIsNot (oD o) .none = some o.isSome := fun o => by cases o <;> rfl
  simp [g_callS, hr, hi, all_bl, rms_len]
  refine ⟨by omega, ?_⟩
  simp [AB, arB, h1, h2, lastLt_e hne, h3]
theorem lare_breaks_g (h : Wds ws) (hl : l.length ≤ 20) : out (F__law_are_breaks [lf (WsD ws), lf (.int v), lf (NL l)]) = some (.leaf (.bool (AB (wz ws) v ws.length l))) := by
  refine out_go ?_
  unfold F__law_are_breaks
  rw [go_fnS_eq]
  unfold f__law_are_breaks
  by_cases h1 : l.take 1 = [0]
  case neg => simp [gSl_l, cut1, take0_ne, h1, AB, arB]
  have hne : l ≠ [] := by rintro rfl; simp at h1
  have hl1 : 0 < l.length := List.length_pos_iff.mpr hne
  have eL := gLast hne
  have er : rangeD 1 (l.length : Int) = (List.range (l.length - 1)).map fun i => .int ((i : Int) + 1) := by
    have := rangeD_ab (a := 1) (b := l.length)
    rw [List.range'_eq_map_range, List.map_map] at this
    refine this.trans (List.map_congr_left fun i _ => ?_)
    simp
    omega
  have q : ∀ Q : Bool → Ev → Prop, Q (decide (l.Pairwise (· < ·))) [some (lf (WsD ws)), some (lf (.int v)), some (lf (NL l)), none, none] →
      Go (truB (tm (callL gAll (aCons (tm (lcE (rng2 (aCons (tm (kD (.int 1))) (aCons (tm (callL gLenA (aCons (bv 2) (aNil)))) (aNil)))) [3] (gN 3) (yesT) (bl (cmp2 gLt (tm (op2 gIx (bv 2) (tm (op2 gSub (bv 3) (tm (kD (.int 1))))))) (tm (op2 gIx (bv 2) (bv 3))))))) (aNil)))) [some (lf (WsD ws)), some (lf (.int v)), some (lf (NL l)), none, none]) Q := by
    intro Q hQ
    simp
    refine Go_lcA (fun i : Nat => .int ((i : Int) + 1)) (fun i => .bool (decide (l.getD i 0 < l.getD (i + 1) 0))) (List.range (l.length - 1)) ?_
    simp [er, all_bl, inc_adj, -List.getD_eq_getElem?_getD]
    refine ⟨by omega, by omega, fun i hi => ?_, hQ⟩
    have a1 := ixNL (l := l) (k := i) (by omega)
    have a2 := ixNL (l := l) (k := i + 1) (by omega)
    rw [show ((i + 1 : Nat) : Int) = (i : Int) + 1 by omega] at a2
    simp [a1, a2, -List.getD_eq_getElem?_getD]
  rw [Go_cons, g_ifS, g_orT]
  simp [gSl_l, cut1, take0_ne, h1]
  simp at q
  refine q _ ?_
  by_cases h2 : l.Pairwise (· < ·)
  case neg => simp [h2, AB, arB]
  by_cases h3 : l.getLast hne < ws.length
  case neg =>
    have h3' : ws.length ≤ l.getLast hne := by omega
    simp [h2, eL, h3', AB, arB, lastLt_e hne, h3]
  have h3' : ¬ ws.length ≤ l.getLast hne := by omega
  simp [h2, eL, h3']
  refine Go_lcA oD (fun o => .bool o.isSome) (rms (wz ws) v ws.length l) ?_
  have hr := lrooms_g (v := v) (l := l) h hl
  have hi : ∀ o : Option Int, gIsNot (oD o) .none = some o.isSome := fun o => by cases o <;> rfl
  simp [g_callS, hr, hi, all_bl, rms_len]
  refine ⟨by omega, ?_⟩
  simp [AB, arB, h1, h2, lastLt_e hne, h3]
theorem wz_nn (ws : List (List Nat)) : ∀ x ∈ wz ws, 0 ≤ x := fun x hx => by
  obtain ⟨w, _, rfl⟩ := List.mem_map.mp hx
  unfold wd
  omega
theorem sq_g (hv : v ≤ 1000) {o : Option Int} (ho : o.isSome = true) (hm : o ∈ rms (wz ws) v ws.length l) : gMulI (oD o) (oD o) = some (.leaf (.int (sq o))) := by
  obtain ⟨a, b, e⟩ := rm_mem hm
  obtain ⟨f, rfl⟩ := Option.isSome_iff_exists.mp ho
  have := rm_le (wz_nn ws) e.symm
  exact gMul_l (by omega) (by omega)
theorem loss_g (h : Wds ws) (hv : v ≤ 1000) (hne : l ≠ []) (hl : l.length ≤ 20) (hs : (rms (wz ws) v ws.length l).all Option.isSome = true) : out (F_loss [lf (WsD ws), lf (.int v), lf (NL l)]) = some (.leaf (.int (cost (wz ws) v l))) := by
  refine out_go ?_
  unfold F_loss
  rw [go_fnS_eq]
  unfold f_loss
  have hr := rooms_g (v := v) h hne hl
  rw [List.all_eq_true] at hs
  simp
  refine Go_lcA oD (fun o => .int (sq o)) ((rms (wz ws) v ws.length l).take (l.length - 1)) ?_
  have hg := gSum_f (f := sq) (as := (rms (wz ws) v ws.length l).take (l.length - 1))
  rw [rms_cost] at hg
  rw [List.map_take] at hg
  simp [g_callS, hr, gSl_l, cut_neg1, rms_len, hg]
  refine ⟨by omega, fun o ho => ?_⟩
  have hm := List.mem_of_mem_take ho
  simp [sq_g hv (hs o hm) hm]
theorem lloss_g (h : Wds ws) (hv : v ≤ 1000) (hl : l.length ≤ 20) (hs : (rms (wz ws) v ws.length l).all Option.isSome = true) : out (F__law_loss [lf (WsD ws), lf (.int v), lf (NL l)]) = some (.leaf (.int (cost (wz ws) v l))) := by
  refine out_go ?_
  unfold F__law_loss
  rw [go_fnS_eq]
  unfold f__law_loss
  have hr := lrooms_g (v := v) (l := l) h hl
  rw [List.all_eq_true] at hs
  simp
  refine Go_lcA oD (fun o => .int (sq o)) ((rms (wz ws) v ws.length l).take (l.length - 1)) ?_
  have hg := gSum_f (f := sq) (as := (rms (wz ws) v ws.length l).take (l.length - 1))
  rw [rms_cost] at hg
  rw [List.map_take] at hg
  simp [g_callS, hr, gSl_l, cut_neg1, rms_len, hg]
  refine ⟨by omega, fun o ho => ?_⟩
  have hm := List.mem_of_mem_take ho
  simp [sq_g hv (hs o hm) hm]
/-- the rooms but the last, as numbers -/
theorem rms_ints (hs : (rms (wz ws) v ws.length l).all Option.isSome = true) : ((rms (wz ws) v ws.length l).map oD).take (l.length - 1) = (((rms (wz ws) v ws.length l).take (l.length - 1)).map fun o => o.getD 0).map .int ∧ ∀ x ∈ ((rms (wz ws) v ws.length l).take (l.length - 1)).map (fun o => o.getD 0), 0 ≤ x := by
  rw [List.all_eq_true] at hs
  refine ⟨?_, fun x hx => ?_⟩
  · rw [← List.map_take, List.map_map]
    refine List.map_congr_left fun o ho => ?_
    obtain ⟨f, rfl⟩ := Option.isSome_iff_exists.mp (hs o (List.mem_of_mem_take ho))
    rfl
  · obtain ⟨o, ho, rfl⟩ := List.mem_map.mp hx
    have hm := List.mem_of_mem_take ho
    obtain ⟨f, rfl⟩ := Option.isSome_iff_exists.mp (hs o hm)
    obtain ⟨a, b, e⟩ := rm_mem hm
    exact (rm_le (wz_nn ws) e.symm).1
theorem worst_g (h : Wds ws) (hne : l ≠ []) (hl : l.length ≤ 20) (hs : (rms (wz ws) v ws.length l).all Option.isSome = true) : out (F_worst [lf (WsD ws), lf (.int v), lf (NL l)]) = some (.leaf (.int (mxr ((rms (wz ws) v ws.length l).take (l.length - 1))))) := by
  refine out_go ?_
  unfold F_worst
  rw [go_fnS_eq]
  unfold f_worst
  have hr := rooms_g (v := v) h hne hl
  obtain ⟨e1, e2⟩ := rms_ints hs
  have hg := gMaxDf_il e2
  rw [← e1] at hg
  simp [g_callS, hr, gSl_l, cut_neg1, rms_len, hg]
  unfold mxr
  rw [List.map_take]
end
end Y
/-! paragraphs with least loss: filled lines, ways on, the table -/
namespace Y
open PySem PySem.Spec PyProof.Rows L2
open A84
theorem la_e {l : List Nat} (h : l ≠ []) : la l = l.getLast h := by
  unfold la
  rw [List.getLastD_eq_getLast?, List.getLast?_eq_some_getLast h]
  rfl
theorem gLa {l : List Nat} (h : l ≠ []) : gIx (.list (l.map fun k : Nat => PyData.int (k : Int))) (.int (-1)) = some (.leaf (.int (la l : Nat))) := by
  rw [gLast h, la_e h]
theorem fl_ne {W : List Int} {v : Int} : ∀ b, fl W v b ≠ []
  | 0 => by simp [fl]
  | b + 1 => by
    rw [fl]
    split
    · exact fl_ne b
    · simp
theorem fl_len {W : List Int} {v : Int} : ∀ b, (fl W v b).length ≤ b + 1
  | 0 => by simp [fl]
  | b + 1 => by
    have := fl_len (W := W) (v := v) b
    rw [fl]
    split
    · omega
    · simp; omega
theorem app_nl {l : List Nat} {x : Nat} {i : Int} (hi : i = (x : Int)) (h : l.length ≤ 1000) : appO (.lst (l.map fun k : Nat => PyData.int (k : Int))) (.int i) = some (.lst ((l ++ [x]).map fun k : Nat => PyData.int (k : Int))) := by
  subst hi
  rw [appO_l (by simp; omega)]
  simp
section
variable {ws : List (List Nat)} {v : Int}
theorem filled_g (h : Wds ws) : out (F_filled [lf (WsD ws), lf (.int v)]) = some (.lst ((fl (wz ws) v ws.length).map fun k : Nat => .int (k : Int))) := by
  refine out_go ?_
  unfold F_filled
  rw [go_fnS_eq]
  unfold f_filled
  have hl := h.len
  refine Go_seq (fun ρ => ρ = [some (lf (WsD ws)), some (lf (.int v)), some (ow (.lst ((fl (wz ws) v 0).map fun k : Nat => .int (k : Int)))), none]) (by simp [fl]) ?_
  rintro ρ rfl
  refine Go_seq (fun ρ => ρ = [some (lf (WsD ws)), some (lf (.int v)), some (ow (.lst ((fl (wz ws) v ws.length).map fun k : Nat => .int (k : Int)))), none]) ?_ (by rintro ρ rfl; simp)
  refine Go_for2 ?_
  simp
  refine ⟨by omega, fun k ρ => ρ = [some (lf (WsD ws)), some (lf (.int v)), some (ow (.lst ((fl (wz ws) v k).map fun k : Nat => .int (k : Int)))), none], rfl, ?_, ?_⟩
  · rintro k d ρ hk rfl
    obtain ⟨rfl, hk2⟩ := range_at (a := 1) (b := ws.length + 1) (i := k) (by exact_mod_cast hk)
    have hr := room_g (v := v) (a := la (fl (wz ws) v k)) (b := k + 1) h
    rw [show ((k + 1 : Nat) : Int) = 1 + (k : Int) by omega] at hr
    have ap := app_nl (l := fl (wz ws) v k) (x := k) (i := 1 + (k : Int) - 1) (by omega) (by have := fl_len (W := wz ws) (v := v) k; omega)
    have gl := gLa (fl_ne (W := wz ws) (v := v) k)
    have hf : fl (wz ws) v (k + 1) = if (rm (wz ws) v (la (fl (wz ws) v k)) (k + 1)).isSome then fl (wz ws) v k else fl (wz ws) v k ++ [k] := rfl
    simp only [hf]
    cases e : rm (wz ws) v (la (fl (wz ws) v k)) (k + 1) with
    | none =>
      rw [e] at hr
      simp [g_callS, gl, hr, oD, ap]
    | some f =>
      rw [e] at hr
      simp [g_callS, gl, hr, oD]
  · rintro ρ rfl
    have e : (rangeD 1 ((ws.length : Int) + 1)).length = ws.length := by
      have := rangeD_len (a := 1) (b := ws.length + 1)
      simpa using this
    rw [e]
theorem lfilled_g (h : Wds ws) : out (F__law_filled [lf (WsD ws), lf (.int v)]) = some (.lst ((fl (wz ws) v ws.length).map fun k : Nat => .int (k : Int))) := by
  refine out_go ?_
  unfold F__law_filled
  rw [go_fnS_eq]
  unfold f__law_filled
  have hl := h.len
  refine Go_seq (fun ρ => ρ = [some (lf (WsD ws)), some (lf (.int v)), some (ow (.lst ((fl (wz ws) v 0).map fun k : Nat => .int (k : Int)))), none]) (by simp [fl]) ?_
  rintro ρ rfl
  refine Go_seq (fun ρ => ρ = [some (lf (WsD ws)), some (lf (.int v)), some (ow (.lst ((fl (wz ws) v ws.length).map fun k : Nat => .int (k : Int)))), none]) ?_ (by rintro ρ rfl; simp)
  refine Go_for2 ?_
  simp
  refine ⟨by omega, fun k ρ => ρ = [some (lf (WsD ws)), some (lf (.int v)), some (ow (.lst ((fl (wz ws) v k).map fun k : Nat => .int (k : Int)))), none], rfl, ?_, ?_⟩
  · rintro k d ρ hk rfl
    obtain ⟨rfl, hk2⟩ := range_at (a := 1) (b := ws.length + 1) (i := k) (by exact_mod_cast hk)
    have hr := lroom_g (v := v) (a := la (fl (wz ws) v k)) (b := k + 1) h
    rw [show ((k + 1 : Nat) : Int) = 1 + (k : Int) by omega] at hr
    have ap := app_nl (l := fl (wz ws) v k) (x := k) (i := 1 + (k : Int) - 1) (by omega) (by have := fl_len (W := wz ws) (v := v) k; omega)
    have gl := gLa (fl_ne (W := wz ws) (v := v) k)
    have hf : fl (wz ws) v (k + 1) = if (rm (wz ws) v (la (fl (wz ws) v k)) (k + 1)).isSome then fl (wz ws) v k else fl (wz ws) v k ++ [k] := rfl
    simp only [hf]
    cases e : rm (wz ws) v (la (fl (wz ws) v k)) (k + 1) with
    | none =>
      rw [e] at hr
      simp [g_callS, gl, hr, oD, ap]
    | some f =>
      rw [e] at hr
      simp [g_callS, gl, hr, oD]
  · rintro ρ rfl
    have e : (rangeD 1 ((ws.length : Int) + 1)).length = ws.length := by
      have := rangeD_len (a := 1) (b := ws.length + 1)
      simpa using this
    rw [e]
abbrev TbI := List (Int × Int)
abbrev TDI (R : TbI) : D := .dict (md PyData.int PyData.int R)
/-- the ways on, as far as looked at -/
def wk (W : List Int) (v : Int) (T : Nat → Int) (q k : Nat) : List (Int × Int) := (List.range' (q + 1) k).filterMap fun r => (rm W v q r).map fun f => (f * f + T r, (r : Int))
theorem wk_succ {W : List Int} {T : Nat → Int} {q k : Nat} : wk W v T q (k + 1) = wk W v T q k ++ (((rm W v q (q + 1 + k)).map fun f => (f * f + T (q + 1 + k), ((q + 1 + k : Nat) : Int))).toList) := by
  unfold wk
  rw [List.range'_concat, List.filterMap_append]
  congr 1
  rw [List.filterMap_cons]
  simp
  cases rm W v q (q + 1 + k) <;> rfl
theorem wk_len {W : List Int} {T : Nat → Int} {q k : Nat} : (wk W v T q k).length ≤ k := by
  unfold wk
  exact Nat.le_trans (List.length_filterMap_le _ _) (by simp)
theorem ways_g {q : Nat} {R : TbI} {T : Nat → Int} {e2 : E} (he : e2.o.d = TDI R) (h : Wds ws) (hv : v ≤ 1000) (hq : q ≤ 1000) (hR : ∀ r : Nat, q < r → r < ws.length → lk R (r : Int) = some (T r)) :
    Go (F_ways_on [lf (WsD ws), lf (.int v), e2, lf (.int q)]) (fun o ρ => o = .lst ((ways (wz ws) v ws.length T q).map P2) ∧ look ρ 2 = some e2) := by
  unfold F_ways_on
  rw [go_fnS_eq]
  unfold f_ways_on t_ways_on_0
  have hl := h.len
  have hr := fun b => room_g (v := v) (a := q) (b := b) h
  cases hm : (rm (wz ws) v q ws.length).isSome with
  | true =>
    obtain ⟨f, hf⟩ := Option.isSome_iff_exists.mp hm
    have h1 := hr ws.length
    rw [hf] at h1
    rw [Go_cons]
    unfold q_ways_on_0 q_ways_on_0i_0
    simp [g_callS, h1, oD, ways, hm, P2]
  | false =>
    have hf : rm (wz ws) v q ws.length = none := by
      cases e : rm (wz ws) v q ws.length with
      | none => rfl
      | some f => rw [e] at hm; cases hm
    have h1 := hr ws.length
    rw [hf] at h1
    refine Go_seq (fun ρ => ρ = [some (lf (WsD ws)), some (lf (.int v)), some e2, some (lf (.int q)), none, none, none]) (by unfold q_ways_on_0; simp [g_callS, h1, oD]) ?_
    rintro ρ rfl
    unfold t_ways_on_1
    refine Go_seq (fun ρ => ρ = [some (lf (WsD ws)), some (lf (.int v)), some e2, some (lf (.int q)), some (ow (.lst [])), none, none]) (by unfold q_ways_on_1; simp) ?_
    rintro ρ rfl
    unfold t_ways_on_2
    refine Go_seq (fun ρ => ρ = [some (lf (WsD ws)), some (lf (.int v)), some e2, some (lf (.int q)), some (ow (.lst ((ways (wz ws) v ws.length T q).map P2))), none, none]) ?_ (by rintro ρ rfl; unfold q_ways_on_3; simp)
    unfold q_ways_on_2
    refine Go_for2 ?_
    simp
    have er : rangeD ((q : Int) + 1) (ws.length : Int) = rangeD ((q + 1 : Nat) : Int) (ws.length : Int) := by congr 1
    refine ⟨by omega, fun k ρ => ρ = [some (lf (WsD ws)), some (lf (.int v)), some e2, some (lf (.int q)), some (ow (.lst ((wk (wz ws) v T q k).map P2))), none, none], rfl, ?_, ?_⟩
    · rintro k d ρ hk rfl
      rw [er] at hk
      obtain ⟨rfl, hk2⟩ := range_at hk
      have h2 := hr (q + 1 + k)
      have e1 := gIx_md (fk := PyData.int) (fv := PyData.int) (hR (q + 1 + k) (by omega) hk2)
      rw [show PyData.dict (md PyData.int PyData.int R) = e2.o.d from he.symm] at e1
      simp only [wk_succ]
      have hlen := wk_len (W := wz ws) (v := v) (T := T) (q := q) (k := k)
      unfold t_ways_on_2b_0 q_ways_on_2b_0 q_ways_on_2b_1 q_ways_on_2b_1i_0
      cases e : rm (wz ws) v q (q + 1 + k) with
      | none =>
        rw [e] at h2
        simp only [Int.natCast_add, Int.cast_ofNat_Int] at h2
        simp [g_callS, h2, oD]
      | some f =>
        rw [e] at h2
        have hb := rm_le (wz_nn ws) e
        have em : gMulI (.int f) (.int f) = some (.leaf (.int (f * f))) := gMul_l (by omega) (by omega)
        have ap : appO (.lst ((wk (wz ws) v T q k).map P2)) (P2 (f * f + T (q + 1 + k), ((q + 1 + k : Nat) : Int))) = some (.lst (((wk (wz ws) v T q k) ++ [(f * f + T (q + 1 + k), ((q + 1 + k : Nat) : Int))]).map P2)) := by
          rw [appO_l (by simp; omega)]
          simp
        simp only [Int.natCast_add, Int.cast_ofNat_Int] at h2 e1 ap
        simp [g_callS, h2, oD, em, e1, tup_P2, ap]
    · rintro ρ rfl
      rw [er, rangeD_len]
      unfold ways wk
      rw [if_neg (by rw [hm]; simp)]
theorem ways_v {q : Nat} {R : TbI} {T : Nat → Int} (h : Wds ws) (hv : v ≤ 1000) (hq : q ≤ 1000) (hR : ∀ r : Nat, q < r → r < ws.length → lk R (r : Int) = some (T r)) :
    out (F_ways_on [lf (WsD ws), lf (.int v), lf (TDI R), lf (.int q)]) = some (.lst ((ways (wz ws) v ws.length T q).map P2)) := out_go ((ways_g (e2 := lf (TDI R)) rfl h hv hq hR).mono fun o ρ h => h.1)
theorem numbers_g {q : Nat} {R : TbI} {T : Nat → Int} {e2 : E} (he : e2.o.d = TDI R) (h : Wds ws) (hv : v ≤ 1000) (hq : q ≤ 1000) (hR : ∀ r : Nat, q < r → r < ws.length → lk R (r : Int) = some (T r)) :
    Go (F__law_numbers [lf (WsD ws), lf (.int v), e2, lf (.int q)]) (fun o ρ => o = .lst (((ways (wz ws) v ws.length T q).map (·.1)).map .int) ∧ look ρ 2 = some e2) := by
  unfold F__law_numbers
  rw [go_fnS_eq]
  unfold f__law_numbers t__law_numbers_0
  have hl := h.len
  have hr := fun b => lroom_g (v := v) (a := q) (b := b) h
  cases hm : (rm (wz ws) v q ws.length).isSome with
  | true =>
    obtain ⟨f, hf⟩ := Option.isSome_iff_exists.mp hm
    have h1 := hr ws.length
    rw [hf] at h1
    rw [Go_cons]
    unfold q__law_numbers_0 q__law_numbers_0i_0
    simp [g_callS, h1, oD, ways, hm]
  | false =>
    have hf : rm (wz ws) v q ws.length = none := by
      cases e : rm (wz ws) v q ws.length with
      | none => rfl
      | some f => rw [e] at hm; cases hm
    have h1 := hr ws.length
    rw [hf] at h1
    refine Go_seq (fun ρ => ρ = [some (lf (WsD ws)), some (lf (.int v)), some e2, some (lf (.int q)), none, none, none]) (by unfold q__law_numbers_0; simp [g_callS, h1, oD]) ?_
    rintro ρ rfl
    unfold t__law_numbers_1
    refine Go_seq (fun ρ => ρ = [some (lf (WsD ws)), some (lf (.int v)), some e2, some (lf (.int q)), some (ow (.lst [])), none, none]) (by unfold q__law_numbers_1; simp) ?_
    rintro ρ rfl
    unfold t__law_numbers_2
    refine Go_seq (fun ρ => ρ = [some (lf (WsD ws)), some (lf (.int v)), some e2, some (lf (.int q)), some (ow (.lst (((ways (wz ws) v ws.length T q).map (·.1)).map .int))), none, none]) ?_ (by rintro ρ rfl; unfold q__law_numbers_3; simp)
    unfold q__law_numbers_2
    refine Go_for2 ?_
    simp
    have er : rangeD ((q : Int) + 1) (ws.length : Int) = rangeD ((q + 1 : Nat) : Int) (ws.length : Int) := by congr 1
    refine ⟨by omega, fun k ρ => ρ = [some (lf (WsD ws)), some (lf (.int v)), some e2, some (lf (.int q)), some (ow (.lst ((wk (wz ws) v T q k).map fun p => .int p.1))), none, none], rfl, ?_, ?_⟩
    · rintro k d ρ hk rfl
      rw [er] at hk
      obtain ⟨rfl, hk2⟩ := range_at hk
      have h2 := hr (q + 1 + k)
      have e1 := gIx_md (fk := PyData.int) (fv := PyData.int) (hR (q + 1 + k) (by omega) hk2)
      rw [show PyData.dict (md PyData.int PyData.int R) = e2.o.d from he.symm] at e1
      simp only [wk_succ]
      have hlen := wk_len (W := wz ws) (v := v) (T := T) (q := q) (k := k)
      unfold t__law_numbers_2b_0 q__law_numbers_2b_0 q__law_numbers_2b_1 q__law_numbers_2b_1i_0
      cases e : rm (wz ws) v q (q + 1 + k) with
      | none =>
        rw [e] at h2
        simp only [Int.natCast_add, Int.cast_ofNat_Int] at h2
        simp [g_callS, h2, oD]
      | some f =>
        rw [e] at h2
        have hb := rm_le (wz_nn ws) e
        have em : gMulI (.int f) (.int f) = some (.leaf (.int (f * f))) := gMul_l (by omega) (by omega)
        have ap : appO (.lst ((wk (wz ws) v T q k).map fun p => .int p.1)) (.int (f * f + T (q + 1 + k))) = some (.lst (((wk (wz ws) v T q k) ++ [(f * f + T (q + 1 + k), ((q + 1 + k : Nat) : Int))]).map fun p => .int p.1)) := by
          rw [appO_l (by simp; omega)]
          simp
        simp only [Int.natCast_add, Int.cast_ofNat_Int] at h2 e1 ap
        simp [g_callS, h2, oD, em, e1, ap]
    · rintro ρ rfl
      rw [er, rangeD_len]
      unfold ways wk
      rw [if_neg (by rw [hm]; simp)]
      rfl
theorem numbers_v {q : Nat} {R : TbI} {T : Nat → Int} (h : Wds ws) (hv : v ≤ 1000) (hq : q ≤ 1000) (hR : ∀ r : Nat, q < r → r < ws.length → lk R (r : Int) = some (T r)) :
    out (F__law_numbers [lf (WsD ws), lf (.int v), lf (TDI R), lf (.int q)]) = some (.lst (((ways (wz ws) v ws.length T q).map (·.1)).map .int)) := out_go ((numbers_g (e2 := lf (TDI R)) rfl h hv hq hR).mono fun o ρ h => h.1)
end
end Y
/-! paragraphs with least loss: least loss, all breaks -/
namespace Y
open PySem PySem.Spec PyProof.Rows L2
open A84
namespace A84
section
variable {W : List Int} {v : Int} {n : Nat}
def tabs (W : List Int) (v : Int) (n k : Nat) : TbI := (List.range (k + 1)).map fun i => (((n - i : Nat) : Int), T W v n (n - i))
def fols (W : List Int) (v : Int) (n k : Nat) : TbI := (List.range k).map fun i => (((n - 1 - i : Nat) : Int), Nx W v n (n - 1 - i))
theorem tabs_nd {k : Nat} (h : k ≤ n) : KNd (tabs W v n k) := by
  unfold KNd tabs List.Nodup
  rw [List.map_map, List.pairwise_map]
  refine List.Pairwise.imp_of_mem (fun {a b} ha hb hne => ?_) (List.nodup_range (n := k + 1))
  simp at ha hb ⊢
  omega
theorem fols_nd {k : Nat} (h : k ≤ n) : KNd (fols W v n k) := by
  unfold KNd fols List.Nodup
  rw [List.map_map, List.pairwise_map]
  refine List.Pairwise.imp_of_mem (fun {a b} ha hb hne => ?_) (List.nodup_range (n := k))
  simp at ha hb ⊢
  omega
theorem tabs_lk {k r : Nat} (h : k ≤ n) (h1 : n - k ≤ r) (h2 : r ≤ n) : lk (tabs W v n k) (r : Int) = some (T W v n r) := by
  refine lk_of (tabs_nd h) ?_
  unfold tabs
  refine List.mem_map.mpr ⟨n - r, List.mem_range.mpr (by omega), ?_⟩
  rw [show n - (n - r) = r by omega]
theorem fols_lk {k r : Nat} (h : k ≤ n) (h1 : n - k ≤ r) (h2 : r < n) : lk (fols W v n k) (r : Int) = some (Nx W v n r) := by
  refine lk_of (fols_nd h) ?_
  unfold fols
  refine List.mem_map.mpr ⟨n - 1 - r, List.mem_range.mpr (by omega), ?_⟩
  rw [show n - 1 - (n - 1 - r) = r by omega]
theorem tabs_pt {k : Nat} (h : k < n) : pt (tabs W v n k) ((n - 1 - k : Nat) : Int) (T W v n (n - 1 - k)) = tabs W v n (k + 1) := by
  rw [pt_new]
  · unfold tabs
    rw [List.range_succ (n := k + 1), List.map_append]
    simp
    rw [show n - 1 - k = n - (k + 1) by omega]
    simp
  · refine lk_none.mpr ?_
    unfold tabs
    rw [List.map_map]
    simp
    intro i hi
    omega
theorem fols_pt {k : Nat} (h : k < n) : pt (fols W v n k) ((n - 1 - k : Nat) : Int) (Nx W v n (n - 1 - k)) = fols W v n (k + 1) := by
  rw [pt_new]
  · unfold fols
    rw [List.range_succ (n := k), List.map_append]
    simp
  · refine lk_none.mpr ?_
    unfold fols
    rw [List.map_map]
    simp
    intro i hi
    omega
theorem nx_cases (F : Fits W v n) {q : Nat} (hq : q < n) : Nx W v n q = (n : Int) ∨ ∃ r : Nat, q < r ∧ r < n ∧ Nx W v n q = (r : Int) := by
  rcases mem_ways.mp (T_spec F hq).1 with ⟨_, h2⟩ | ⟨_, r, f, h2, h3, _, h5⟩
  · injection h2 with e1 e2
    exact .inl e2
  · injection h5 with e1 e2
    exact .inr ⟨r, h2, h3, e2⟩
/-! how many breaks there are -/
theorem geo : ∀ (m s : Nat), s + m = n → ((List.range' s m).map fun b => 2 ^ (n - 1 - b)).sum + 1 = 2 ^ m
  | 0, s, _ => rfl
  | m + 1, s, h => by
    have ih := geo m (s + 1) (by omega)
    show ((s :: List.range' (s + 1) m).map fun b => 2 ^ (n - 1 - b)).sum + 1 = 2 ^ (m + 1)
    rw [List.map_cons, List.sum_cons, show n - 1 - s = m by omega, Nat.pow_succ]
    omega
theorem sum_filter {α : Type} (f : α → Nat) (p : α → Bool) : ∀ l : List α, ((l.filter p).map f).sum ≤ (l.map f).sum
  | [] => by simp
  | a :: l => by
    have := sum_filter f p l
    rw [List.filter_cons]
    split
    · simp; omega
    · simp; omega
def pot (n : Nat) (l : List Nat) : Nat := 2 ^ (n - 1 - la l)
theorem nxt_pot {l : List Nat} (h : la l < n) : ((nxt W v n l).map (pot n)).sum + 1 ≤ pot n l := by
  have h1 : (nxt W v n l).map (pot n) = ((List.range' (la l + 1) (n - (la l + 1))).filter fun b => (rm W v (la l) b).isSome).map fun b => 2 ^ (n - 1 - b) := by
    unfold nxt
    rw [List.map_map]
    refine List.map_congr_left fun b _ => ?_
    show 2 ^ (n - 1 - la (l ++ [b])) = _
    rw [la_snoc]
  have h2 := sum_filter (fun b => 2 ^ (n - 1 - b)) (fun b => (rm W v (la l) b).isSome) (List.range' (la l + 1) (n - (la l + 1)))
  have h3 := geo (n := n) (n - (la l + 1)) (la l + 1) (by omega)
  rw [h1]
  unfold pot
  rw [show n - 1 - la l = n - (la l + 1) by omega]
  omega
theorem flat_pot {f : List Nat → Nat} {g : List Nat → List (List Nat)} : ∀ L : List (List Nat), (∀ l ∈ L, ((g l).map f).sum + 1 ≤ f l) → ((L.flatMap g).map f).sum + L.length ≤ (L.map f).sum
  | [], _ => by simp
  | l :: L, h => by
    have h1 := h l (by simp)
    have h2 := flat_pot (f := f) (g := g) L fun x hx => h x (by simp [hx])
    rw [List.flatMap_cons, List.map_append, List.sum_append, List.map_cons, List.sum_cons, List.length_cons]
    omega
theorem la_mem {l : List Nat} (h : l ≠ []) : la l ∈ l := by
  unfold la
  rw [List.getLastD_eq_getLast?, List.getLast?_eq_some_getLast h]
  exact List.getLast_mem h
theorem lv_pot (h0 : 0 < n) : ∀ k, ((lv W v n k).map (pot n)).sum + ((List.range k).map fun i => (lv W v n i).length).sum ≤ 2 ^ (n - 1)
  | 0 => by
    show (([[0]] : List (List Nat)).map (pot n)).sum + 0 ≤ _
    simp [pot, la]
  | k + 1 => by
    have ih := lv_pot h0 k
    have hs := flat_pot (f := pot n) (g := nxt W v n) (lv W v n k) fun l hl => by
      obtain ⟨⟨r, e⟩, _, hc⟩ := (mem_lv h0 k l).mp hl
      exact nxt_pot (ch_lt _ hc _ (la_mem (by rw [e]; simp)))
    rw [List.range_succ, List.map_append, List.sum_append]
    show (((lv W v n k).flatMap (nxt W v n)).map (pot n)).sum + _ ≤ _
    simp only [List.map_cons, List.map_nil, List.sum_cons, List.sum_nil]
    omega
theorem all_succ {k : Nat} : all W v n (k + 1) = all W v n k ++ (lv W v n k).filter fun l => (rm W v (la l) n).isSome := by
  unfold all
  rw [List.range_succ, List.flatMap_append]
  simp
theorem all_len' : ∀ k, (all W v n k).length ≤ ((List.range k).map fun i => (lv W v n i).length).sum
  | 0 => by simp [all]
  | k + 1 => by
    have ih := all_len' k
    have := List.length_filter_le (fun l => (rm W v (la l) n).isSome) (lv W v n k)
    rw [all_succ, List.length_append, List.range_succ, List.map_append, List.sum_append]
    simp only [List.map_cons, List.map_nil, List.sum_cons, List.sum_nil]
    omega
theorem len_pot : ∀ L : List (List Nat), L.length ≤ (L.map (pot n)).sum
  | [] => by simp
  | l :: L => by
    have := len_pot L
    have : 1 ≤ pot n l := Nat.one_le_two_pow
    rw [List.length_cons, List.map_cons, List.sum_cons]
    omega
theorem pow9 (h : n ≤ 9) : 2 ^ (n - 1) ≤ 256 := Nat.pow_le_pow_right (n := 2) (by omega) (show n - 1 ≤ 8 by omega)
theorem all_len (h0 : 0 < n) (h : n ≤ 9) (k : Nat) : (all W v n k).length ≤ 256 := by
  have := all_len' (W := W) (v := v) (n := n) k
  have := lv_pot (W := W) (v := v) h0 k
  have := pow9 h
  omega
theorem lv_len (h0 : 0 < n) (h : n ≤ 9) (k : Nat) : (lv W v n k).length ≤ 256 := by
  have := len_pot (n := n) (lv W v n k)
  have := lv_pot (W := W) (v := v) h0 k
  have := pow9 h
  omega
end
end A84
section
variable {ws : List (List Nat)} {v : Int}
def WI84 (ws : List (List Nat)) (v : Int) (m : Nat) (ρ : Ev) : Prop := ∃ pre b, b < ws.length ∧ ws.length - b ≤ m + 1 ∧ path (wz ws) v ws.length ws.length 0 = pre ++ path (wz ws) v ws.length (m + 1) b ∧ pre.length ≤ b ∧
  ρ = [some (lf (WsD ws)), some (lf (.int v)), some (ow (.dic (md .int .int (tabs (wz ws) v ws.length ws.length)))), some (ow (.dic (md .int .int (fols (wz ws) v ws.length ws.length)))), none, some (ow (.lst ((pre ++ [b]).map fun k : Nat => .int (k : Int))))]
theorem least_loss_g (h : Wds ws) (hv : v ≤ 1000) (F : Fits (wz ws) v ws.length) : out (F_least_loss [lf (WsD ws), lf (.int v)]) = some (.leaf (.tuple [.int (T (wz ws) v ws.length 0), NL (path (wz ws) v ws.length ws.length 0), TDI (tabs (wz ws) v ws.length ws.length)])) := by
  have hl := h.len
  have h0 : 0 < ws.length := List.length_pos_iff.mpr h.ne
  refine out_go ?_
  unfold F_least_loss
  rw [go_fnS_eq]
  unfold f_least_loss t_least_loss_0
  refine Go_seq (fun ρ => ρ = [some (lf (WsD ws)), some (lf (.int v)), some (ow (.dic (md .int .int (tabs (wz ws) v ws.length 0)))), none, none, none]) ?_ ?_
  · unfold q_least_loss_0
    simp
    refine Go_dispE.mpr ?_
    simp [asKey, keyD, md, tabs, T_n]
  rintro ρ rfl
  unfold t_least_loss_1
  refine Go_seq (fun ρ => ρ = [some (lf (WsD ws)), some (lf (.int v)), some (ow (.dic (md .int .int (tabs (wz ws) v ws.length 0)))), some (ow (.dic (md .int .int (fols (wz ws) v ws.length 0)))), none, none]) (by unfold q_least_loss_1; simp [md, fols]) ?_
  rintro ρ rfl
  unfold t_least_loss_2
  refine Go_seq (fun ρ => ρ = [some (lf (WsD ws)), some (lf (.int v)), some (ow (.dic (md .int .int (tabs (wz ws) v ws.length ws.length)))), some (ow (.dic (md .int .int (fols (wz ws) v ws.length ws.length)))), none, none]) ?_ ?_
  · unfold q_least_loss_2
    refine Go_for2 ?_
    simp
    refine ⟨by omega, fun k ρ => ρ = [some (lf (WsD ws)), some (lf (.int v)), some (ow (.dic (md .int .int (tabs (wz ws) v ws.length k)))), some (ow (.dic (md .int .int (fols (wz ws) v ws.length k)))), none, none], rfl, ?_, ?_⟩
    · rintro k d ρ hk rfl
      obtain ⟨rfl, hk2⟩ : d = .int ((ws.length - 1 - k : Nat) : Int) ∧ k < ws.length := by
        unfold rangeDown at hk
        rw [List.getElem?_map] at hk
        obtain ⟨r, h1, h2⟩ := Option.map_eq_some_iff.mp hk
        rw [List.getElem?_eq_some_iff] at h1
        obtain ⟨h3, h4⟩ := h1
        simp at h3 h4
        subst h4
        exact ⟨by rw [← h2]; congr 1; omega, by omega⟩
      have hq : ws.length - 1 - k < ws.length := by omega
      obtain ⟨x, r, hx⟩ := ways_ne F (U := T (wz ws) v ws.length) hq
      have hb := bw_at hq hx
      have wv := ways_g (v := v) (q := ws.length - 1 - k) (R := tabs (wz ws) v ws.length k) (T := T (wz ws) v ws.length) (e2 := ⟨true, .dic (md .int .int (tabs (wz ws) v ws.length k))⟩) rfl h hv (by omega) (fun r h1 h2 => tabs_lk (by omega) (by omega) (by omega))
      rw [hx] at wv
      have gm := gMinA_pl x r
      have hp : bestP x r = (T (wz ws) v ws.length (ws.length - 1 - k), Nx (wz ws) v ws.length (ws.length - 1 - k)) := by rw [← hb]; rfl
      rw [hp] at gm
      have u1 := upC_md (fk := PyData.int) (fv := PyData.int) (l := tabs (wz ws) v ws.length k) (k := ((ws.length - 1 - k : Nat) : Int)) (v := T (wz ws) v ws.length (ws.length - 1 - k)) (by unfold tabs; simp; omega)
      have u2 := upC_md (fk := PyData.int) (fv := PyData.int) (l := fols (wz ws) v ws.length k) (k := ((ws.length - 1 - k : Nat) : Int)) (v := Nx (wz ws) v ws.length (ws.length - 1 - k)) (by unfold fols; simp; omega)
      rw [tabs_pt hk2] at u1
      rw [fols_pt hk2] at u2
      unfold q_least_loss_2b_0
      simp [g_callS]
      refine Go_lentD (pre := [_, _]) (dp := [WsD ws, .int v]) (dq := [.int ((ws.length - 1 - k : Nat) : Int)]) rfl rfl rfl ?_
      refine wv.mono ?_
      rintro o ρ' ⟨rfl, hl⟩
      refine ⟨_, hl, ?_⟩
      rw [List.map_cons] at gm
      simp [gm, u1, u2]
    · rintro ρ rfl
      have e : (rangeDown ((ws.length : Int) - 1) (-1)).length = ws.length := by unfold rangeDown; simp
      rw [e]
  rintro ρ rfl
  unfold t_least_loss_3
  refine Go_seq (fun ρ => ρ = [some (lf (WsD ws)), some (lf (.int v)), some (ow (.dic (md .int .int (tabs (wz ws) v ws.length ws.length)))), some (ow (.dic (md .int .int (fols (wz ws) v ws.length ws.length)))), none, some (ow (.lst [.int 0]))]) (by unfold q_least_loss_3; simp) ?_
  rintro ρ rfl
  unfold t_least_loss_4
  refine Go_seq (fun ρ => ρ = [some (lf (WsD ws)), some (lf (.int v)), some (ow (.dic (md .int .int (tabs (wz ws) v ws.length ws.length)))), some (ow (.dic (md .int .int (fols (wz ws) v ws.length ws.length)))), none, some (ow (.lst ((path (wz ws) v ws.length ws.length 0).map fun k : Nat => .int (k : Int))))]) ?_ ?_
  · unfold q_least_loss_4
    refine Go_wh (WI84 ws v) (ws.length - 1) ?_ ?_
    · refine ⟨[], 0, h0, by omega, ?_, by simp, rfl⟩
      rw [show ws.length - 1 + 1 = ws.length by omega]
      rfl
    · rintro m ρ ⟨pre, b, h1, h2, h3, h4, rfl⟩
      have e1 := gLast (l := pre ++ [b]) (by simp)
      simp only [List.getLast_concat] at e1
      have e2 := gIx_md (fk := PyData.int) (fv := PyData.int) (fols_lk (W := wz ws) (v := v) (n := ws.length) (k := ws.length) (r := b) (by omega) (by omega) h1)
      rcases nx_cases F h1 with hx | ⟨r, g1, g2, hx⟩
      · rw [hx] at e2
        have hp : path (wz ws) v ws.length (m + 1) b = [b] := by rw [path, if_pos hx]
        rw [hp] at h3
        rw [← h3] at e1
        simp [e1, e2, ← h3, -List.map_append]
      · rw [hx] at e2
        have hp : path (wz ws) v ws.length (m + 1) b = b :: path (wz ws) v ws.length m r := by
          rw [path, if_neg (by rw [hx]; omega), hx]
          rfl
        rw [hp] at h3
        have ap := app_nl (l := pre ++ [b]) (x := r) (i := (r : Int)) rfl (by simp; omega)
        unfold q_least_loss_4b_0
        simp [e1, e2, g2, ap, -List.map_append]
        obtain ⟨m', rfl⟩ : ∃ m', m = m' + 1 := ⟨m - 1, by omega⟩
        refine ⟨m', by omega, pre ++ [b], r, g2, by omega, by simpa using h3, by simp; omega, by simp⟩
  rintro ρ rfl
  have e3 := gIx_md (fk := PyData.int) (fv := PyData.int) (tabs_lk (W := wz ws) (v := v) (n := ws.length) (k := ws.length) (r := 0) (by omega) (by omega) (by omega))
  simp only [Int.natCast_zero, Int.cast_ofNat_Int] at e3
  unfold q_least_loss_5
  simp [e3]
end
end Y
/-! paragraphs with least loss: all breaks -/
namespace Y
open PySem PySem.Spec PyProof.Rows L2
open A84
section
variable {ws : List (List Nat)} {v : Int}
abbrev NLs (ls : List (List Nat)) : List D := ls.map NL
def EL (e : E) (ds : List D) : Prop := e = ow (.lst ds) ∨ e = lf (.list ds)
theorem app_ls {l : List (List Nat)} {x : List Nat} (h : l.length ≤ 1000) : appO (.lst (l.map NL)) (NL x) = some (.lst ((l ++ [x]).map NL)) := by
  rw [appO_l (by simp; omega)]
  simp
def AP (ws : List (List Nat)) (v : Int) (k : Nat) (ρ : Ev) : Prop := ∃ e, EL e (NLs (lv (wz ws) v ws.length k)) ∧ ρ = [some (lf (WsD ws)), some (lf (.int v)), some e, some (ow (.lst (NLs (all (wz ws) v ws.length k)))), none, none, none, none]
/-- the lists after some of the shorter breaks -/
def ld (W : List Int) (v : Int) (n : Nat) (L : List (List Nat)) : List (List Nat) := L.filter fun l => (rm W v (la l) n).isSome
def ln (W : List Int) (v : Int) (n : Nat) (L : List (List Nat)) : List (List Nat) := L.flatMap (nxt W v n)
theorem inner_g {l : List Nat} {base : List (List Nat)} {e2 e3 : Option E} {e4 : Option E} (h : Wds ws) (hne : l ≠ []) (hlt : la l < ws.length) (hl : l.length ≤ 100) (hb : (base ++ nxt (wz ws) v ws.length l).length ≤ 500) :
    Go (q__law_all_breaks_2b_1b_1 [some (lf (WsD ws)), some (lf (.int v)), e2, e3, e4, some (ow (.lst (NLs base))), some (lf (NL l)), none]) (fun c ρ => c = .nx ∧ ρ = [some (lf (WsD ws)), some (lf (.int v)), e2, e3, e4, some (ow (.lst (NLs (base ++ nxt (wz ws) v ws.length l)))), some (lf (NL l)), none]) := by
  have hwl := h.len
  have gl := gLa hne
  unfold q__law_all_breaks_2b_1b_1
  refine Go_for2 ?_
  simp [gl]
  have er : rangeD ((la l : Int) + 1) (ws.length : Int) = rangeD ((la l + 1 : Nat) : Int) (ws.length : Int) := by congr 1
  let pk : Nat → List (List Nat) := fun k => ((List.range' (la l + 1) k).filter fun b => (rm (wz ws) v (la l) b).isSome).map fun b => l ++ [b]
  have pks : ∀ k, pk (k + 1) = pk k ++ if (rm (wz ws) v (la l) (la l + 1 + k)).isSome then [l ++ [la l + 1 + k]] else [] := fun k => by
    show List.map _ (List.filter _ (List.range' (la l + 1) (k + 1))) = _
    rw [List.range'_concat, List.filter_append, List.map_append]
    congr 1
    rw [List.filter_cons, Nat.one_mul]
    split <;> rfl
  have pkl : ∀ k, k ≤ ws.length → (pk k).length ≤ 9 := fun k hk => by
    show (List.map _ (List.filter _ (List.range' (la l + 1) k))).length ≤ 9
    rw [List.length_map]
    exact Nat.le_trans (List.length_filter_le _ _) (by rw [List.length_range']; omega)
  refine ⟨by omega, fun k ρ => ρ = [some (lf (WsD ws)), some (lf (.int v)), e2, e3, e4, some (ow (.lst (NLs (base ++ pk k)))), some (lf (NL l)), none], by simp [pk], ?_, ?_⟩
  · rintro k d ρ hk rfl
    rw [er] at hk
    obtain ⟨rfl, hk2⟩ := range_at hk
    have hr := lroom_g (v := v) (a := la l) (b := la l + 1 + k) h
    have hpl := pkl k (by omega)
    rw [List.length_append] at hb
    have ap := app_ls (l := base ++ pk k) (x := l ++ [la l + 1 + k]) (by rw [List.length_append]; omega)
    have ad : gAdd (NL l) (.list [.int ((la l + 1 + k : Nat) : Int)]) = some (.lst ((l ++ [la l + 1 + k]).map fun k : Nat => .int (k : Int))) := by
      rw [gAdd_l (by simp; omega)]
      simp
    have hp := pks k
    unfold q__law_all_breaks_2b_1b_1b_0 q__law_all_breaks_2b_1b_1b_0i_0
    cases e : rm (wz ws) v (la l) (la l + 1 + k) with
    | none =>
      rw [e] at hr hp
      simp only [Option.isSome_none, Bool.false_eq_true, if_false, List.append_nil] at hp
      simp only [Int.natCast_add, Int.cast_ofNat_Int] at hr
      simp [g_callS, gl, hr, oD, hp, -List.map_append]
    | some f =>
      rw [e] at hr hp
      simp only [Option.isSome_some, if_true] at hp
      simp only [Int.natCast_add, Int.cast_ofNat_Int] at hr ap ad
      rw [List.append_assoc, ← hp] at ap
      simp [g_callS, gl, hr, oD, ad, ap, -List.map_append]
  · rintro ρ rfl
    rw [er, rangeD_len, ← List.map_append]
    rfl
theorem all_breaks_g (h : Wds ws) : out (F__law_all_breaks [lf (WsD ws), lf (.int v)]) = some (.lst (NLs (all (wz ws) v ws.length (ws.length + 1)))) := by
  have hl := h.len
  have h0 : 0 < ws.length := List.length_pos_iff.mpr h.ne
  refine out_go ?_
  unfold F__law_all_breaks
  rw [go_fnS_eq]
  unfold f__law_all_breaks t__law_all_breaks_0
  refine Go_seq (fun ρ => ρ = [some (lf (WsD ws)), some (lf (.int v)), some (ow (.lst (NLs [[0]]))), none, none, none, none, none]) (by unfold q__law_all_breaks_0; simp) ?_
  rintro ρ rfl
  unfold t__law_all_breaks_1
  refine Go_seq (AP ws v 0) (by unfold q__law_all_breaks_1; simp [AP, EL, lv, all]) ?_
  intro ρ hρ
  unfold t__law_all_breaks_2
  refine Go_seq (AP ws v (ws.length + 1)) ?_ (by rintro ρ ⟨e, _, rfl⟩; unfold q__law_all_breaks_3; simp)
  obtain ⟨e, he, rfl⟩ := hρ
  unfold q__law_all_breaks_2
  refine Go_for2 ?_
  simp
  refine ⟨by omega, AP ws v, ⟨e, he, rfl⟩, ?_, ?_⟩
  · rintro k d ρ hk ⟨e, he, rfl⟩
    have hlv := lv_len (W := wz ws) (v := v) h0 hl k
    have hal := all_len (W := wz ws) (v := v) h0 hl (k + 1)
    rw [all_succ, List.length_append] at hal
    have hlv1 := lv_len (W := wz ws) (v := v) h0 hl (k + 1)
    obtain ⟨i, hi⟩ : ∃ i : Int, d = .int i := by
      unfold rangeD at hk
      rw [List.getElem?_map] at hk
      obtain ⟨r, _, e⟩ := Option.map_eq_some_iff.mp hk
      exact ⟨_, e.symm⟩
    subst hi
    unfold t__law_all_breaks_2b_0
    refine ⟨by simp, ?_⟩
    refine Go_seq (fun ρ => ρ = [some (lf (WsD ws)), some (lf (.int v)), some e, some (ow (.lst (NLs (all (wz ws) v ws.length k)))), some (lf (.int i)), some (ow (.lst [])), none, none]) (by unfold q__law_all_breaks_2b_0; simp) ?_
    rintro ρ rfl
    unfold t__law_all_breaks_2b_1
    refine Go_seq (fun ρ => ρ = [some (lf (WsD ws)), some (lf (.int v)), some (lf (.list (NLs (lv (wz ws) v ws.length k)))), some (ow (.lst (NLs (all (wz ws) v ws.length (k + 1))))), some (lf (.int i)), some (ow (.lst (NLs (lv (wz ws) v ws.length (k + 1))))), none, none]) ?_ ?_
    · unfold q__law_all_breaks_2b_1
      refine Go_for2 ?_
      have look2 : (look [some (lf (WsD ws)), some (lf (.int v)), some e, some (ow (.lst (NLs (all (wz ws) v ws.length k)))), some (lf (.int i)), some (ow (.lst [])), none, none] 2).bind shr = some (.leaf (.list (NLs (lv (wz ws) v ws.length k))), lf (.list (NLs (lv (wz ws) v ws.length k)))) := by
        rcases he with rfl | rfl <;> rfl
      rw [g_nmI, g_rv, look2]
      simp
      refine ⟨fun j ρ => ρ = [some (lf (WsD ws)), some (lf (.int v)), some (lf (.list (NLs (lv (wz ws) v ws.length k)))), some (ow (.lst (NLs (all (wz ws) v ws.length k ++ ld (wz ws) v ws.length ((lv (wz ws) v ws.length k).take j))))), some (lf (.int i)), some (ow (.lst (NLs (ln (wz ws) v ws.length ((lv (wz ws) v ws.length k).take j))))), none, none], by simp [ld, ln], ?_, ?_⟩
      · rintro j d ρ l hj rfl rfl
        have hm := List.mem_of_getElem? hj
        obtain ⟨⟨r, hr⟩, hlen, hc⟩ := (mem_lv h0 k l).mp hm
        have hne : l ≠ [] := by rw [hr]; simp
        have hlt := ch_lt _ hc _ (la_mem hne)
        have hll := ch_len hc
        have tk : (lv (wz ws) v ws.length k).take (j + 1) = (lv (wz ws) v ws.length k).take j ++ [l] := by
          rw [List.take_add_one, hj]; rfl
        have t1 : ld (wz ws) v ws.length ((lv (wz ws) v ws.length k).take (j + 1)) = ld (wz ws) v ws.length ((lv (wz ws) v ws.length k).take j) ++ if (rm (wz ws) v (la l) ws.length).isSome then [l] else [] := by
          rw [tk]; unfold ld
          rw [List.filter_append, List.filter_cons]
          congr 1
        have t2 : ln (wz ws) v ws.length ((lv (wz ws) v ws.length k).take (j + 1)) = ln (wz ws) v ws.length ((lv (wz ws) v ws.length k).take j) ++ nxt (wz ws) v ws.length l := by
          rw [tk]; unfold ln
          rw [List.flatMap_append]
          simp
        have s1 : (ld (wz ws) v ws.length ((lv (wz ws) v ws.length k).take j)).length ≤ 256 := by
          have a := List.length_filter_le (fun l => (rm (wz ws) v (la l) ws.length).isSome) ((lv (wz ws) v ws.length k).take j)
          have b : ((lv (wz ws) v ws.length k).take j).length ≤ (lv (wz ws) v ws.length k).length := by rw [List.length_take]; omega
          unfold ld
          omega
        have s2 : (ln (wz ws) v ws.length ((lv (wz ws) v ws.length k).take (j + 1))).length ≤ 256 := by
          refine Nat.le_trans ?_ hlv1
          show _ ≤ ((lv (wz ws) v ws.length k).flatMap (nxt (wz ws) v ws.length)).length
          unfold ln
          conv => rhs; rw [← List.take_append_drop (j + 1) (lv (wz ws) v ws.length k), List.flatMap_append, List.length_append]
          omega
        rw [t2] at s2
        have gl := gLa hne
        have hrm := lroom_g (v := v) (a := la l) (b := ws.length) h
        simp
        unfold t__law_all_breaks_2b_1b_0
        refine Go_seq (fun ρ => ρ = [some (lf (WsD ws)), some (lf (.int v)), some (lf (.list (NLs (lv (wz ws) v ws.length k)))), some (ow (.lst (NLs (all (wz ws) v ws.length k ++ ld (wz ws) v ws.length ((lv (wz ws) v ws.length k).take (j + 1)))))), some (lf (.int i)), some (ow (.lst (NLs (ln (wz ws) v ws.length ((lv (wz ws) v ws.length k).take j))))), some (lf (NL l)), none]) ?_ ?_
        · unfold q__law_all_breaks_2b_1b_0 q__law_all_breaks_2b_1b_0i_0
          cases e : rm (wz ws) v (la l) ws.length with
          | none =>
            rw [e] at hrm t1
            simp only [Option.isSome_none, Bool.false_eq_true, if_false, List.append_nil] at t1
            simp [g_callS, gl, hrm, oD, t1]
          | some f =>
            rw [e] at hrm t1
            simp only [Option.isSome_some, if_true] at t1
            have ap := app_ls (l := all (wz ws) v ws.length k ++ ld (wz ws) v ws.length ((lv (wz ws) v ws.length k).take j)) (x := l) (by rw [List.length_append]; omega)
            rw [List.append_assoc, ← t1] at ap
            rw [List.map_append] at ap
            simp [g_callS, gl, hrm, oD, ap]
        rintro ρ rfl
        refine (inner_g h hne hlt (by omega) (by omega)).mono ?_
        rintro c ρ ⟨rfl, rfl⟩
        rw [t2]
        simp
      · rintro ρ rfl
        have e1 : (lv (wz ws) v ws.length k).take (lv (wz ws) v ws.length k).length = lv (wz ws) v ws.length k := List.take_length
        simp [all_succ, ld, ln, e1]
        rfl
    rintro ρ rfl
    unfold q__law_all_breaks_2b_2
    simp
    exact ⟨_, .inr rfl, rfl⟩
  · rintro ρ h
    have e : (rangeD 0 ((ws.length : Int) + 1)).length = ws.length + 1 := by
      have := rangeD_len (a := 0) (b := ws.length + 1)
      simpa using this
    rw [e] at h
    exact h
end
end Y
/-! paragraphs with least loss: the judge, what is bent -/
namespace Y
open PySem PySem.Spec PyProof.Rows L2
open A84
namespace A84
def val (R : TbI) (k : Nat) : Int := (lk R (k : Int)).getD 0
def fullT (n : Nat) (R : TbI) : Bool := decide (sortZ (R.map (·.1)) = cz (List.range (n + 1)))
def goodQ (W : List Int) (v : Int) (n : Nat) (R : TbI) (q : Nat) : Bool := !((ways W v n (fun r => val R r) q).any fun p => decide (p.1 < val R q))
def JB (W : List Int) (v : Int) (n : Nat) (l : List Nat) (R : TbI) : Bool := AB W v n l && (fullT n R && (decide (val R n ≤ 0) && ((List.range n).all (goodQ W v n R) && decide (val R 0 = cost W v l))))
theorem fullT_lk {n : Nat} {R : TbI} (h : fullT n R = true) {k : Nat} (hk : k ≤ n) : lk R (k : Int) = some (val R k) := by
  unfold fullT at h
  have h := of_decide_eq_true h
  have hm : (k : Int) ∈ sortZ (R.map (·.1)) := by
    rw [h]
    exact List.mem_map.mpr ⟨k, List.mem_range.mpr (by omega), rfl⟩
  have := lk_some.mpr ((sortZ_perm _).mem_iff.mp hm)
  unfold val
  cases e : lk R (k : Int) with
  | none => rw [e] at this; cases this
  | some x => rfl
theorem ways_len {W : List Int} {v : Int} {n : Nat} {T : Nat → Int} {q : Nat} : (ways W v n T q).length ≤ n + 1 := by
  unfold ways
  split
  · simp
  · exact Nat.le_trans (List.length_filterMap_le _ _) (by simp; omega)
end A84
section
variable {ws : List (List Nat)} {v : Int} {l : List Nat} {R : TbI}
theorem keys_ne {n : Nat} : gNe (.list ((sortZ (R.map (·.1))).map .int)) (.list (rangeD 0 ((n : Int) + 1))) = some (!fullT n R) := by
  rw [show (n : Int) + 1 = ((n + 1 : Nat) : Int) by omega, rangeD_nat, nl_il]
  exact gNe_il
theorem judge_g (h : Wds ws) (hv : v ≤ 1000) (hl : l.length ≤ 20) (hR : R.length < 64) : out (F_judge_loss [lf (WsD ws), lf (.int v), lf (NL l), lf (TDI R)]) = some (.leaf (.bool (JB (wz ws) v ws.length l R))) := by
  have hn := h.len
  have h0 : 0 < ws.length := List.length_pos_iff.mpr h.ne
  refine out_go ?_
  unfold F_judge_loss
  rw [go_fnS_eq]
  unfold f_judge_loss t_judge_loss_0
  refine Go_seq (fun ρ => ρ = [some (lf (WsD ws)), some (lf (.int v)), some (lf (NL l)), some (lf (TDI R)), some (lf (.int (ws.length : Int))), none, none, none]) (by unfold q_judge_loss_0; simp) ?_
  rintro ρ rfl
  unfold t_judge_loss_1
  have av := are_breaks_g (v := v) h hl
  have hsort := gSortedA_mi (fv := PyData.int) hR
  have hne := keys_ne (R := R) (n := ws.length)
  have key : ∀ {Q : Ctl → Ev → Prop}, (if (AB (wz ws) v ws.length l && (fullT ws.length R && decide (val R ws.length ≤ 0))) = true then Q .nx [some (lf (WsD ws)), some (lf (.int v)), some (lf (NL l)), some (lf (TDI R)), some (lf (.int (ws.length : Int))), none, none, none] else ∀ ρ, Q (.rt (.leaf (.bool false))) ρ) →
      Go (q_judge_loss_1 [some (lf (WsD ws)), some (lf (.int v)), some (lf (NL l)), some (lf (TDI R)), some (lf (.int (ws.length : Int))), none, none, none]) Q := by
    intro Q hQ
    unfold q_judge_loss_1 q_judge_loss_1i_0
    cases h1 : AB (wz ws) v ws.length l with
    | false =>
      rw [h1] at hQ av
      simp at hQ
      simp [g_callS, av]
      exact hQ _
    | true =>
      rw [h1] at hQ av
      have l1 : (ws.length : Int) + 1 ≤ 1000 := by omega
      cases h2 : fullT ws.length R with
      | false =>
        rw [h2] at hQ hne
        simp at hQ
        simp [g_callS, av, hsort, hne]
        exact ⟨by omega, hQ _⟩
      | true =>
        rw [h2] at hQ hne
        have e1 := gIx_md (fk := PyData.int) (fv := PyData.int) (fullT_lk h2 (Nat.le_refl _))
        by_cases h3 : val R ws.length ≤ 0
        · have h3' : ¬ 0 < val R ws.length := by omega
          simp [h3] at hQ
          simp [g_callS, av, hsort, hne, e1, h3']
          exact ⟨by omega, hQ⟩
        · have h3' : 0 < val R ws.length := by omega
          simp [h3] at hQ
          simp [g_callS, av, hsort, hne, e1, h3']
          exact ⟨by omega, hQ _⟩
  cases hA : (AB (wz ws) v ws.length l && (fullT ws.length R && decide (val R ws.length ≤ 0))) with
  | false =>
    have hJ : JB (wz ws) v ws.length l R = false := by
      unfold JB
      revert hA
      cases AB (wz ws) v ws.length l <;> cases fullT ws.length R <;> cases decide (val R ws.length ≤ 0) <;> simp
    rw [hJ, Go_cons]
    refine key ?_
    rw [hA]
    simp
  | true =>
  refine Go_seq _ (key (Q := fun c ρ => c = .nx ∧ ρ = [some (lf (WsD ws)), some (lf (.int v)), some (lf (NL l)), some (lf (TDI R)), some (lf (.int (ws.length : Int))), none, none, none]) (by rw [hA]; simp)) ?_
  rintro ρ rfl
  rw [Bool.and_eq_true, Bool.and_eq_true] at hA
  obtain ⟨hA1, hA2, hA3⟩ := hA
  have lks : ∀ k, k ≤ ws.length → lk R (k : Int) = some (val R k) := fun k hk => fullT_lk hA2 hk
  unfold t_judge_loss_2
  rw [Go_cons]
  unfold q_judge_loss_2 q_judge_loss_2b_0 q_judge_loss_2b_0i_0
  refine Go_forBm (fun q : Nat => .int (q : Int)) (goodQ (wz ws) v ws.length R) [some (lf (WsD ws)), some (lf (.int v)), some (lf (NL l)), some (lf (TDI R)), some (lf (.int (ws.length : Int))), none, none, none] (List.range ws.length) ?_ ?_
  · simp [rangeD_nat]
    refine ⟨by omega, fun q hq => ?_⟩
    have wv := ways_v (v := v) (q := q) (R := R) (T := fun r => val R r) h hv (by omega) (fun r h1 h2 => lks r (by omega))
    have e1 := gIx_md (fk := PyData.int) (fv := PyData.int) (lks q (by omega))
    have hwl := ways_len (W := wz ws) (v := v) (n := ws.length) (T := fun r => val R r) (q := q)
    refine Go_lcA P2 (fun w => .bool (decide (val R q > w.1))) (ways (wz ws) v ws.length (fun r => val R r) q) ?_
    have hg : (ways (wz ws) v ws.length (fun r => val R r) q).any (fun w => decide (w.1 < val R q)) = !goodQ (wz ws) v ws.length R q := by unfold goodQ; simp
    simp [g_callS, wv, e1, any_bl, hg]
    omega
  · cases hg : (List.range ws.length).all (goodQ (wz ws) v ws.length R) with
    | false =>
      have hJ : JB (wz ws) v ws.length l R = false := by unfold JB; rw [hg]; simp
      simp [hJ]
    | true =>
      have hJ : JB (wz ws) v ws.length l R = decide (val R 0 = cost (wz ws) v l) := by unfold JB; rw [hA1, hA2, hA3, hg]; rfl
      have hA1' := hA1
      unfold AB at hA1'
      rw [Bool.and_eq_true] at hA1'
      obtain ⟨r, hr⟩ := arB_cons hA1'.1
      have lv := loss_g (v := v) h hv (l := l) (by rw [hr]; simp) hl hA1'.2
      have e1 := gIx_md (fk := PyData.int) (fv := PyData.int) (lks 0 (by omega))
      simp only [Int.natCast_zero, Int.cast_ofNat_Int] at e1
      unfold q_judge_loss_3
      simp [g_callS, lv, e1, hJ]
theorem right_g (h : Wds ws) (hv : v ≤ 1000) (hl : l.length ≤ 20) (hR : R.length < 64) : out (F__law_right [lf (WsD ws), lf (.int v), lf (NL l), lf (TDI R)]) = some (.leaf (.bool (JB (wz ws) v ws.length l R))) := by
  have hn := h.len
  have h0 : 0 < ws.length := List.length_pos_iff.mpr h.ne
  refine out_go ?_
  unfold F__law_right
  rw [go_fnS_eq]
  unfold f__law_right
  have av := lare_breaks_g (v := v) h hl
  have hsort := gSortedA_mi (fv := PyData.int) hR
  have hne := keys_ne (R := R) (n := ws.length)
  cases hA : (AB (wz ws) v ws.length l && (fullT ws.length R && decide (val R ws.length ≤ 0))) with
  | false =>
    have hJ : JB (wz ws) v ws.length l R = false := by
      unfold JB
      revert hA
      cases AB (wz ws) v ws.length l <;> cases fullT ws.length R <;> cases decide (val R ws.length ≤ 0) <;> simp
    rw [hJ, Go_cons]
    cases h1 : AB (wz ws) v ws.length l with
    | false =>
      rw [h1] at av
      simp [g_callS, av]
    | true =>
      rw [h1] at av hA
      cases h2 : fullT ws.length R with
      | false =>
        rw [h2] at hne
        simp [g_callS, av, hsort, hne]
        omega
      | true =>
        rw [h2] at hne hA
        have e1 := gIx_md (fk := PyData.int) (fv := PyData.int) (fullT_lk h2 (Nat.le_refl _))
        have h3' : 0 < val R ws.length := by simp at hA; omega
        simp [g_callS, av, hsort, hne, e1, h3']
        omega
  | true =>
  rw [Bool.and_eq_true, Bool.and_eq_true] at hA
  obtain ⟨hA1, hA2, hA3⟩ := hA
  have lks : ∀ k, k ≤ ws.length → lk R (k : Int) = some (val R k) := fun k hk => fullT_lk hA2 hk
  refine Go_seq (fun ρ => ρ = [some (lf (WsD ws)), some (lf (.int v)), some (lf (NL l)), some (lf (TDI R)), none, none]) ?_ ?_
  · rw [hA1] at av
    rw [hA2] at hne
    have e1 := gIx_md (fk := PyData.int) (fv := PyData.int) (lks ws.length (Nat.le_refl _))
    have h3' : ¬ 0 < val R ws.length := by simp at hA3; omega
    simp [g_callS, av, hsort, hne, e1, h3']
    omega
  rintro ρ rfl
  rw [Go_cons]
  refine Go_forBm (fun q : Nat => .int (q : Int)) (goodQ (wz ws) v ws.length R) [some (lf (WsD ws)), some (lf (.int v)), some (lf (NL l)), some (lf (TDI R)), none, none] (List.range ws.length) ?_ ?_
  · simp [rangeD_nat]
    refine ⟨by omega, fun q hq => ?_⟩
    have wv := numbers_v (v := v) (q := q) (R := R) (T := fun r => val R r) h hv (by omega) (fun r h1 h2 => lks r (by omega))
    have e1 := gIx_md (fk := PyData.int) (fv := PyData.int) (lks q (by omega))
    have hwl := ways_len (W := wz ws) (v := v) (n := ws.length) (T := fun r => val R r) (q := q)
    refine Go_lcA (fun w : Int × Int => .int w.1) (fun w => .bool (decide (val R q > w.1))) (ways (wz ws) v ws.length (fun r => val R r) q) ?_
    have hg : (ways (wz ws) v ws.length (fun r => val R r) q).any (fun w => decide (w.1 < val R q)) = !goodQ (wz ws) v ws.length R q := by unfold goodQ; simp
    simp [g_callS, wv, e1, any_bl, hg]
    omega
  · cases hg : (List.range ws.length).all (goodQ (wz ws) v ws.length R) with
    | false =>
      have hJ : JB (wz ws) v ws.length l R = false := by unfold JB; rw [hg]; simp
      simp [hJ]
    | true =>
      have hJ : JB (wz ws) v ws.length l R = decide (val R 0 = cost (wz ws) v l) := by unfold JB; rw [hA1, hA2, hA3, hg]; rfl
      have hA1' := hA1
      unfold AB at hA1'
      rw [Bool.and_eq_true] at hA1'
      have lv := lloss_g (v := v) h hv (l := l) hl hA1'.2
      have e1 := gIx_md (fk := PyData.int) (fv := PyData.int) (lks 0 (by omega))
      simp only [Int.natCast_zero, Int.cast_ofNat_Int] at e1
      simp [g_callS, lv, e1, hJ]
end
end Y
/-! paragraphs with least loss: what is bent, words that are drawn -/
namespace Y
open PySem PySem.Spec PyProof.Rows L2
open A84
theorem cz_toNat : ∀ l : List Int, (∀ x ∈ l, 0 ≤ x) → cz (l.map Int.toNat) = l
  | [], _ => rfl
  | x :: l, h => by
    have := h x (by simp)
    have ih := cz_toNat l fun y hy => h y (by simp [hy])
    show ((x.toNat : Nat) : Int) :: cz (l.map Int.toNat) = x :: l
    rw [ih]
    congr 1
    omega
theorem pt_len {κ α : Type} [DecidableEq κ] {l : List (κ × α)} {k : κ} {v : α} : (pt l k v).length ≤ l.length + 1 := by
  unfold pt
  split
  · rw [List.length_map]; omega
  · simp
theorem dp_len {κ α : Type} [DecidableEq κ] {l : List (κ × α)} {k : κ} : (dp l k).length ≤ l.length := List.length_filter_le _ _
def BentOut84 (o : O) : Prop := ∃ (ms : List Nat) (R : TbI), ms.length ≤ 20 ∧ R.length ≤ 30 ∧ o = .lst [NL ms, TDI R]
def BIn84 (ws : List (List Nat)) (w k : Int) (ρ : Ev) : Prop := ∃ (us : List D) (ms : List Nat) (R : TbI), PoolOk us ∧ ms.length ≤ 20 ∧ R.length ≤ 30 ∧ ρ = [some ⟨true, .lst us⟩, some (lf (WsD ws)), some (ow (.lst (ms.map fun k : Nat => .int (k : Int)))), some (ow (.dic (md .int .int R))), some (lf (.int w)), some (lf (.int k))]
theorem bent84_go {xs : List D} {ws : List (List Nat)} {ms : List Nat} {R : TbI} (hx : PoolOk xs) (hn : ws.length ≤ 9) (hm : ms.length ≤ 15) (hRl : R.length ≤ 20) (h0 : (lk R 0).isSome = true) :
    Go (F__law_bent [⟨true, .lst xs⟩, lf (WsD ws), lf (NL ms), lf (TDI R)]) (fun o ρ => BentOut84 o ∧ ∃ ys, look ρ 0 = some ⟨true, .lst ys⟩ ∧ PoolOk ys) := by
  have hRne : R ≠ [] := by rintro rfl; cases h0
  unfold F__law_bent
  rw [go_fnS_eq]
  unfold f__law_bent t__law_bent_0
  refine Go_seq (fun ρ => ρ = [some ⟨true, .lst xs⟩, some (lf (WsD ws)), some (ow (.lst (ms.map fun k : Nat => .int (k : Int)))), some (lf (TDI R)), none, none]) (by unfold q__law_bent_0; simp) ?_
  rintro ρ rfl
  unfold t__law_bent_1
  refine Go_seq (fun ρ => ρ = [some ⟨true, .lst xs⟩, some (lf (WsD ws)), some (ow (.lst (ms.map fun k : Nat => .int (k : Int)))), some (ow (.dic (md .int .int R))), none, none]) ?_ ?_
  · unfold q__law_bent_1
    have := gDict_k (kk_md_i (fv := PyData.int) (l := R))
    simp [this]
  rintro ρ rfl
  unfold t__law_bent_2
  refine Go_seq (fun ρ => ∃ w ys, PoolOk ys ∧ ρ = [some ⟨true, .lst ys⟩, some (lf (WsD ws)), some (ow (.lst (ms.map fun k : Nat => .int (k : Int)))), some (ow (.dic (md .int .int R))), some (lf (.int w)), none]) ?_ ?_
  · unfold q__law_bent_2
    simp [g_callS]
    refine Go_drawB rfl hx (by omega) (by omega) fun w ys w0 w1 hy => ?_
    simp
    exact ⟨w, ys, hy, rfl, rfl⟩
  rintro ρ ⟨w, ys, hy, rfl⟩
  unfold t__law_bent_3
  have hsort := gSortedA_mi (fv := PyData.int) (l := R) (by omega)
  have hsl : (sortZ (R.map (·.1))).length = R.length := by rw [(sortZ_perm _).length_eq, List.length_map]
  refine Go_seq (fun ρ => ∃ (k : Int) (zs : List D), k ∈ R.map (·.1) ∧ PoolOk zs ∧ ρ = [some ⟨true, .lst zs⟩, some (lf (WsD ws)), some (ow (.lst (ms.map fun k : Nat => .int (k : Int)))), some (ow (.dic (md .int .int R))), some (lf (.int w)), some (lf (.int k))]) ?_ ?_
  · unfold q__law_bent_3
    simp [g_callS, hsort]
    refine Go_pickB rfl rfl hy (by simp; intro e; have := congrArg List.length e; rw [hsl] at this; exact hRne (List.length_eq_zero_iff.mp this)) (by rw [List.length_map, hsl]; omega) fun d zs hd hz => ?_
    obtain ⟨k, hk, rfl⟩ := List.mem_map.mp hd
    rw [(sortZ_perm _).mem_iff] at hk
    simp
    obtain ⟨p, hp, e⟩ := List.mem_map.mp hk
    exact ⟨k, ⟨p.2, by rw [← e]; exact hp⟩, zs, hz, rfl, rfl⟩
  rintro ρ ⟨k, zs, hk, hz, rfl⟩
  have hks := lk_some.mpr hk
  obtain ⟨x, hx⟩ : ∃ x, lk R k = some x := by
    cases e : lk R k with
    | none => rw [e] at hks; cases hks
    | some x => exact ⟨x, rfl⟩
  unfold t__law_bent_4
  refine Go_seq (BIn84 ws w k) ?_ ?_
  · unfold q__law_bent_4 q__law_bent_4i_0 q__law_bent_4e_0 q__law_bent_4e_0i_0 q__law_bent_4e_0e_0 q__law_bent_4e_0e_0i_0 q__law_bent_4e_0e_0e_0 q__law_bent_4e_0e_0e_0i_0 q__law_bent_4e_0e_0e_0e_0 q__law_bent_4e_0e_0e_0e_0i_0 q__law_bent_4e_0e_0e_0e_0e_0
    by_cases w0 : w = 0
    · subst w0
      simp [gSl_l, cut_neg1]
      refine ⟨zs, ms.take (ms.length - 1), R, hz, by rw [List.length_take]; omega, by omega, ?_⟩
      rw [List.map_take]
    by_cases w1 : w = 1
    · subst w1
      simp [g_callS]
      refine Go_drawB rfl hz (by omega) (by omega) fun d us d0 d1 hu => ?_
      have ad : gAdd (.list (ms.map fun k : Nat => .int (k : Int))) (.list [.int d]) = some (.lst ((cz ms ++ [d]).map .int)) := by
        rw [gAdd_l (by simp; omega), nl_il]
        simp
      have nn : ∀ x ∈ sortI (cz ms ++ [d]), 0 ≤ x := fun x hx => by
        rw [sortI_Z, (sortZ_perm _).mem_iff] at hx
        rcases List.mem_append.mp hx with hx | hx
        · obtain ⟨y, _, rfl⟩ := List.mem_map.mp hx
          omega
        · simp at hx; omega
      have hs := gSortedA_il (ns := cz ms ++ [d])
      have hl : (sortI (cz ms ++ [d])).length = ms.length + 1 := by rw [sortI_Z, (sortZ_perm _).length_eq]; simp
      have hf : (sortI (cz ms ++ [d])).map PyData.int = ((sortI (cz ms ++ [d])).map Int.toNat).map fun k : Nat => .int (k : Int) := by rw [nl_il, cz_toNat _ nn]
      rw [hf] at hs
      simp [ad, hs, -List.map_map, -List.map_append]
      exact ⟨us, (sortI (cz ms ++ [d])).map Int.toNat, R, hu, by rw [List.length_map, hl]; omega, by omega, rfl⟩
    by_cases w2 : w = 2
    · subst w2
      have e1 := gIx_md (fk := PyData.int) (fv := PyData.int) hx
      simp [g_callS, e1]
      refine Go_pickB rfl rfl hz (by simp) (by simp) fun d us hd hu => ?_
      have hd : ∃ i : Int, d = .int i := by
        simp at hd
        rcases hd with rfl | rfl | rfl <;> exact ⟨_, rfl⟩
      obtain ⟨i, rfl⟩ := hd
      have u1 := upC_md (fk := PyData.int) (fv := PyData.int) (l := R) (k := k) (v := x + i) (by omega)
      simp [u1]
      exact ⟨us, ms, pt R k (x + i), hu, by omega, Nat.le_trans pt_len (by omega), rfl⟩
    by_cases w3 : w = 3
    · subst w3
      have u1 := popO_i (fv := PyData.int) hks
      simp [u1]
      exact ⟨zs, ms, dp R k, hz, by omega, Nat.le_trans dp_len (by omega), rfl⟩
    by_cases w4 : w = 4
    · subst w4
      simp [gSl_l, cut1f]
      refine ⟨zs, ms.drop 1, R, hz, by rw [List.length_drop]; omega, by omega, ?_⟩
      simp
    obtain ⟨y, hy0⟩ : ∃ y, lk R 0 = some y := by
      cases e : lk R 0 with
      | none => rw [e] at h0; cases h0
      | some x => exact ⟨x, rfl⟩
    have e1 := gIx_md (fk := PyData.int) (fv := PyData.int) hy0
    have u1 := upC_md (fk := PyData.int) (fv := PyData.int) (l := R) (k := 0) (v := y - 1) (by omega)
    simp [w0, w1, w2, w3, w4, e1, u1]
    exact ⟨zs, ms, pt R 0 (y - 1), hz, by omega, Nat.le_trans pt_len (by omega), rfl⟩
  rintro ρ ⟨us, ms', R', hu, hm', hR', rfl⟩
  unfold q__law_bent_5
  simp
  exact ⟨⟨ms', R', hm', hR', rfl⟩, hu⟩
/-! words -/
def WIn84 (many : Int) (sg : List Nat) (k : Nat) (ρ : Ev) : Prop := ∃ (us : List D) (ws : List (List Nat)), PoolOk us ∧ ws.length = k ∧ (∀ w ∈ ws, Wd w) ∧ ρ = [some ⟨true, .lst us⟩, some (lf (.int many)), some (lf (St sg)), some (ow (.lst (ws.map tx))), none, none]
def WTx (many i : Int) (W : List D) (k : Nat) (ys : List D) (ρ : Ev) : Prop := ∃ (us : List D) (w : List Nat), PoolOk us ∧ w.length = k ∧ (∀ c ∈ w, c ∈ alpha) ∧ ys = (w.map fun c => [c]).map St ∧ ρ = [some ⟨true, .lst us⟩, some (lf (.int many)), some (lf (St alpha)), some (ow (.lst W)), some (lf (.int i)), none]
theorem sgE84 : (PyData.str "abcxyz019.,AB") = St alpha := congrArg PyData.str (by decide +kernel)
def WOut84 (many : Int) (o : O) : Prop := ∃ ws : List (List Nat), Wds ws ∧ o = .lst (ws.map tx)
theorem words_go {xs : List D} (hx : PoolOk xs) : Go (F__law_words_drawn [⟨true, .lst xs⟩, lf (.int 9)]) (fun o ρ => WOut84 9 o ∧ ∃ ys, look ρ 0 = some ⟨true, .lst ys⟩ ∧ PoolOk ys) := by
  unfold F__law_words_drawn
  rw [go_fnS_eq]
  unfold f__law_words_drawn t__law_words_drawn_0
  refine Go_seq (fun ρ => ρ = [some ⟨true, .lst xs⟩, some (lf (.int 9)), some (lf (St alpha)), none, none, none]) (by unfold q__law_words_drawn_0; simp [sgE84]) ?_
  rintro ρ rfl
  unfold t__law_words_drawn_1
  refine Go_seq (fun ρ => ρ = [some ⟨true, .lst xs⟩, some (lf (.int 9)), some (lf (St alpha)), some (ow (.lst [])), none, none]) (by unfold q__law_words_drawn_1; simp) ?_
  rintro ρ rfl
  unfold t__law_words_drawn_2
  refine Go_seq (fun ρ => ∃ n, 1 ≤ n ∧ n ≤ 9 ∧ WIn84 9 alpha n ρ) ?_ ?_
  · unfold q__law_words_drawn_2
    refine Go_for2 ?_
    simp [g_callS]
    refine Go_drawB rfl hx (by omega) (by omega) fun n us n0 n1 hu => ?_
    simp
    refine ⟨by omega, WIn84 9 alpha, ⟨us, [], hu, rfl, by simp, rfl⟩, ?_, ?_⟩
    · rintro k d ρ hk ⟨us, ws, hu, hwl, hw, rfl⟩
      have hk2 : k < (rangeD 0 (1 + n)).length := (List.getElem?_eq_some_iff.mp hk).1
      have hk3 : k < 9 := by unfold rangeD at hk2; simp at hk2; omega
      obtain ⟨i, rfl⟩ : ∃ i : Int, d = .int i := by
        unfold rangeD at hk
        rw [List.getElem?_map] at hk
        obtain ⟨r, _, e⟩ := Option.map_eq_some_iff.mp hk
        exact ⟨_, e.symm⟩
      refine ⟨by simp, ?_⟩
      unfold t__law_words_drawn_2b_0
      refine Go_seq (fun ρ => ∃ us, PoolOk us ∧ ρ = [some ⟨true, .lst us⟩, some (lf (.int 9)), some (lf (St alpha)), some (ow (.lst (ws.map tx))), some (lf (.int i)), none]) ?_ ?_
      · unfold q__law_words_drawn_2b_0 q__law_words_drawn_2b_0i_0
        have e4 : gMod (.int i) (.int 4) = some (.leaf (.int (i % 4))) := gMod_p (by omega)
        simp [e4]
        by_cases h4 : i % 4 = 0
        · simp [h4, g_callS]
          refine Go_nextB rfl hu fun o ys hy => ?_
          simp
          exact hy
        · simp [h4]
          exact hu
      rintro ρ ⟨us, hu, rfl⟩
      unfold q__law_words_drawn_2b_1
      simp
      refine Go_lcP ?_
      simp [g_callS]
      refine Go_pickB rfl rfl hu (by simp) (by simp) fun d us hd hu => ?_
      obtain ⟨j, rfl, j0, j1⟩ : ∃ j : Int, d = .int j ∧ 0 < j ∧ j ≤ 5 := by
        simp at hd
        rcases hd with rfl | rfl
        · exact ⟨2, rfl, by omega, by omega⟩
        · exact ⟨5, rfl, by omega, by omega⟩
      simp
      refine Go_drawB rfl hu (by omega) (by omega) fun m us m0 m1 hu => ?_
      have hml : (rangeD 0 (1 + m)).length = (1 + m).toNat := by unfold rangeD; simp
      simp
      refine ⟨by omega, by rw [hml]; omega, WTx 9 i (ws.map tx), ⟨us, [], hu, rfl, by simp, rfl, rfl⟩, ?_, ?_⟩
      · rintro q ys d ρ hq ⟨us, w, hu, hwq, hwa, rfl, rfl⟩
        refine ⟨by simp, ?_⟩
        simp
        refine Go_drawB rfl hu (by omega) (by omega) fun z us z0 z1 hu => ?_
        obtain ⟨c, hc1⟩ : ∃ c, alpha[z.toNat]? = some c := by
          have : z.toNat < alpha.length := by show z.toNat < 13; omega
          exact ⟨_, List.getElem?_eq_getElem this⟩
        have e := gIx_sI (l := alpha) (by decide) z0 hc1
        simp [e]
        refine ⟨us, w ++ [c], hu, by simp [hwq], ?_, by simp, rfl⟩
        intro x hx
        rcases List.mem_append.mp hx with hx | hx
        · exact hwa x hx
        · simp at hx
          subst hx
          exact List.mem_of_getElem? hc1
      · rintro ys ρe ⟨us, w, hu, hwq, hwa, rfl, rfl⟩
        rw [hml] at hwq
        have hall : ∀ c ∈ alpha, c < 0x110000 := by decide
        have hj := gJoin_S (a := []) (ls := w.map fun c => [c]) (by simp) (by
          intro l hl c hc
          obtain ⟨x, hx, rfl⟩ := List.mem_map.mp hl
          simp at hc
          subst hc
          exact hall _ (hwa _ hx)) (by
          have : ∀ w : List Nat, ((w.map fun c => [c]).map (·.length)).sum = w.length := by
            intro w
            induction w with
            | nil => rfl
            | cons c w ih => simp at ih ⊢; omega
          rw [this]
          simp
          omega)
        rw [joinL_sing] at hj
        have e0 : PyData.str "" = St [] := congrArg PyData.str (by decide +kernel)
        have ap : appO (.lst (ws.map tx)) (St w) = some (.lst ((ws ++ [w]).map tx)) := by
          rw [appO_l (by simp; omega)]
          simp [SX.S]
        simp [e0, hj, ap, -List.map_append, -List.map_map]
        refine ⟨us, ws ++ [w], hu, by simp [hwl], ?_, rfl⟩
        intro x hx
        rcases List.mem_append.mp hx with hx | hx
        · exact hw x hx
        · simp at hx
          subst hx
          exact ⟨hwa, by omega, by intro e; rw [e] at hwq; simp at hwq; omega⟩
    · rintro ρ h
      have : (rangeD 0 (1 + n)).length = (1 + n).toNat := by unfold rangeD; simp
      rw [this] at h
      exact ⟨(1 + n).toNat, by omega, by omega, h⟩
  rintro ρ ⟨n, h1, h2, us, ws, hu, hl, hw, rfl⟩
  unfold q__law_words_drawn_3
  simp
  exact ⟨⟨ws, ⟨hw, by omega, by rintro rfl; simp at hl; omega⟩, rfl⟩, hu⟩
end Y
/-! paragraphs with least loss: the law -/
namespace Y
open PySem PySem.Spec PyProof.Rows L2
open A84
theorem minI_eq {ns : List Int} {x : Int} (h1 : x ∈ ns) (h2 : ∀ y ∈ ns, x ≤ y) : minI ns = x := by
  have hne : ns ≠ [] := by rintro rfl; cases h1
  obtain ⟨a, b⟩ := minI_spec ns hne
  have := h2 _ a
  have := b _ h1
  omega
namespace A84
section
variable {W : List Int} {v : Int} {n : Nat}
theorem fits_of (hn : n = W.length) (hW : ∀ x ∈ W, x ≤ v) : Fits W v n := fun k hk => by
  unfold rm
  rw [if_neg (by omega)]
  have hs : seg W k (k + 1) = W[k]'(by omega) := by
    unfold seg
    rw [List.take_add_one, List.getElem?_eq_getElem (by omega), List.drop_append]
    simp [Nat.min_eq_left (show k ≤ W.length by omega)]
  have : fr W v k (k + 1) = v - W[k]'(by omega) := by
    unfold fr
    rw [hs]
    omega
  have := hW (W[k]'(by omega)) (List.getElem_mem _)
  rw [if_pos (by omega)]
  rfl
theorem seg_mono (hW : ∀ x ∈ W, 0 ≤ x) {a b c d : Nat} (h1 : a ≤ c) (h2 : c ≤ d) (h3 : d ≤ b) : seg W c d ≤ seg W a b := by
  have split : ∀ {x y z : Nat}, x ≤ y → y ≤ z → seg W x z = seg W x y + seg W y z := by
    intro x y z hxy hyz
    unfold seg
    rw [← List.sum_append]
    congr 1
    have e1 : (W.take y).drop x = ((W.take z).drop x).take (y - x) := by
      rw [List.take_drop, show x + (y - x) = y by omega, List.take_take, Nat.min_eq_left hyz]
    have e2 : (W.take z).drop y = ((W.take z).drop x).drop (y - x) := by
      rw [List.drop_drop]
      congr 1
      omega
    rw [e1, e2, List.take_append_drop]
  have e1 := split (x := a) (y := c) (z := b) h1 (by omega)
  have e2 := split (x := c) (y := d) (z := b) h2 h3
  have n1 := seg_nn hW a c
  have n2 := seg_nn hW d b
  omega
theorem mono_of (hW : ∀ x ∈ W, 0 ≤ x) : Mono W v := fun a b c d h1 h2 h3 h => by
  obtain ⟨f, hf⟩ := Option.isSome_iff_exists.mp h
  obtain ⟨g1, g2, g3⟩ := rm_lt hf
  have := seg_mono hW h1 (Nat.le_of_lt h2) h3
  unfold rm
  rw [if_neg (by omega)]
  have : 0 ≤ fr W v c d := by
    unfold fr at g3 ⊢
    omega
  rw [if_pos this]
  rfl
theorem path_all (F : Fits W v n) (h0 : 0 < n) : path W v n n 0 ∈ all W v n (n + 1) := by
  obtain ⟨r, e⟩ := path_ne (W := W) (v := v) (n := n) n 0
  exact (mem_all h0 (by omega)).mpr ⟨⟨r, e⟩, (path_ok F n 0 h0 (by omega)).1⟩
theorem min_cost (F : Fits W v n) (h0 : 0 < n) : minI ((all W v n (n + 1)).map (cost W v)) = T W v n 0 := by
  refine minI_eq (List.mem_map.mpr ⟨_, path_all F h0, (path_ok F n 0 h0 (by omega)).2⟩) fun y hy => ?_
  obtain ⟨l, hl, rfl⟩ := List.mem_map.mp hy
  obtain ⟨⟨r, rfl⟩, h⟩ := (mem_all h0 (by omega)).mp hl
  exact T_lower F r 0 h0 h
theorem fl_all (F : Fits W v n) (h0 : 0 < n) : fl W v n ∈ all W v n (n + 1) := by
  obtain ⟨h1, h2, _, h4⟩ := fl_ok F (n - 1) (by omega)
  rw [show n - 1 + 1 = n by omega] at h1 h2 h4
  exact (mem_all h0 (by omega)).mpr ⟨h1, by rw [okB_ch, h2, h4]; rfl⟩
theorem min_len (M : Mono W v) (F : Fits W v n) (h0 : 0 < n) : minI ((all W v n (n + 1)).map fun l => (l.length : Int)) = ((fl W v n).length : Int) := by
  refine minI_eq (List.mem_map.mpr ⟨_, fl_all F h0, rfl⟩) fun y hy => ?_
  obtain ⟨l, hl, rfl⟩ := List.mem_map.mp hy
  obtain ⟨h1, h⟩ := (mem_all h0 (by omega)).mp hl
  rw [okB_ch, Bool.and_eq_true] at h
  have := fl_min M F (n - 1) l (by omega) h.1 h1 (by rw [show n - 1 + 1 = n by omega]; exact h.2)
  rw [show n - 1 + 1 = n by omega] at this
  show ((fl W v n).length : Int) ≤ (l.length : Int)
  omega
theorem T_min (F : Fits W v n) {q : Nat} (hq : q < n) : minI ((ways W v n (T W v n) q).map (·.1)) = T W v n q := by
  obtain ⟨h1, h2⟩ := T_spec F hq
  refine minI_eq (List.mem_map.mpr ⟨_, h1, rfl⟩) fun y hy => ?_
  obtain ⟨p, hp, rfl⟩ := List.mem_map.mp hy
  exact h2 p hp
theorem okB_len {l : List Nat} (h : okB W v n l = true) : l.length ≤ n := by
  rw [okB_ch, Bool.and_eq_true] at h
  exact ch_len h.1
end
end A84
section
variable {ws : List (List Nat)} {v : Int} {l : List Nat}
theorem all_mem (h : Wds ws) (hl : l ∈ all (wz ws) v ws.length (ws.length + 1)) : l ≠ [] ∧ l.length ≤ 20 ∧ okB (wz ws) v ws.length l = true ∧ (rms (wz ws) v ws.length l).all Option.isSome = true := by
  have h0 : 0 < ws.length := List.length_pos_iff.mpr h.ne
  obtain ⟨_, hk⟩ := (mem_all h0 (by omega)).mp hl
  have := okB_len hk
  have := h.len
  exact ⟨okB_ne hk, by omega, hk, okB_some l hk⟩
/-- a line's text -/
def lt84 (ws : List (List Nat)) (p : Nat × Nat) : List Nat := TL.joinL [32] ((ws.take p.2).drop p.1)
theorem join84 (h : Wds ws) (a b : Nat) : gJoin (St [32]) (.list (((ws.map tx).take b).drop a)) = some (.leaf (St (lt84 ws (a, b)))) := by
  have e : ((ws.map tx).take b).drop a = ((ws.take b).drop a).map St := by rw [List.map_drop, List.map_take]
  rw [e]
  have hm : ∀ w ∈ (ws.take b).drop a, w ∈ ws := fun w hw => List.mem_of_mem_take (List.mem_of_mem_drop hw)
  have hl : ((ws.take b).drop a).length ≤ 9 := by
    have := h.len
    rw [List.length_drop, List.length_take]
    omega
  have hall : ∀ c ∈ alpha, c < 0x110000 := by decide
  refine gJoin_S (by simp) (fun l hl c hc => hall c ((h.ok l (hm l hl)).1 c hc)) ?_
  have hs : ∀ L : List (List Nat), (∀ w ∈ L, w.length ≤ 10) → (L.map (·.length)).sum ≤ L.length * 10 := by
    intro L
    induction L with
    | nil => simp
    | cons w L ih =>
      intro hL
      have := ih fun x hx => hL x (by simp [hx])
      have := hL w (by simp)
      simp
      omega
  have := hs _ fun w hw => (h.ok w (hm w hw)).2.1
  simp only [List.length_cons, List.length_nil]
  omega
theorem lines_g (h : Wds ws) (hne : l ≠ []) (hl : l.length ≤ 20) : out (F_lines_of [lf (WsD ws), lf (NL l)]) = some (.lst ((prs ws.length l).map fun p => St (lt84 ws p))) := by
  refine out_go ?_
  unfold F_lines_of
  rw [go_fnS_eq]
  unfold f_lines_of
  have e1 : gSl (NL l) (some 1) none = some (.lst (l.tail.map fun k : Nat => .int (k : Int))) := by
    rw [gSl_l, show (1 : Int) = ((1 : Nat) : Int) from rfl, cut_from, ← List.map_drop, List.drop_one]
  have e2 : gAdd (.list (l.tail.map fun k : Nat => .int (k : Int))) (.list [.int (ws.length : Int)]) = some (.lst ((l.tail.map fun k : Nat => .int (k : Int)) ++ [.int (ws.length : Int)])) := gAdd_l (by simp; omega)
  have e3 := zip_prs ws.length l
  have e0 : PyData.str " " = St [32] := congrArg PyData.str (by decide +kernel)
  have hl1 : 0 < l.length := List.length_pos_iff.mpr hne
  simp [e1, e2, -List.map_tail]
  refine Go_lcA nD (fun p => St (lt84 ws p)) (prs ws.length l) ?_
  simp [e3, nD, e0, -List.map_tail]
  refine ⟨by omega, by rw [prs_len]; omega, fun a b _ => ?_⟩
  simp [gSl_l, cut_ft, join84 h]
end
end Y
/-! paragraphs with least loss: the law holds -/
namespace Y
open PySem PySem.Spec PyProof.Rows L2
open A84
abbrev V84 (ns : List Int) (xs : List D) (ws : List (List Nat)) (v : Int) (a5 a6 a7 a8 a9 a10 a11 a12 a13 a14 a15 : Option E) : Ev :=
  [some (lf (scr ns)), some (ow (.lst xs)), some (lf (WsD ws)), some (lf (.int v)), none, a5, a6, a7, a8, a9, a10, a11, a12, a13, a14, a15]
abbrev ans84 (ws : List (List Nat)) (v : Int) : D := .tuple [.int (T (wz ws) v ws.length 0), NL (path (wz ws) v ws.length ws.length 0), TDI (tabs (wz ws) v ws.length ws.length)]
abbrev ev84 (ws : List (List Nat)) (v : Int) : List (List Nat) := all (wz ws) v ws.length (ws.length + 1)
section
variable {ns : List Int} {xs : List D} {ws : List (List Nat)} {v : Int}
structure Ok84 (ws : List (List Nat)) (v : Int) : Prop where
  h : Wds ws
  hv : v ≤ 1000
  F : Fits (wz ws) v ws.length
theorem tabs_len (h : Wds ws) : (tabs (wz ws) v ws.length ws.length).length ≤ 10 := by
  have := h.len
  unfold tabs
  simp
  omega
theorem p84_5 (K : Ok84 ws v) : Go (q_law_5 (V84 ns xs ws v (some (ow (.lst (NLs (ev84 ws v))))) (some (lf (ans84 ws v))) none none none none none none none none none))
    (fun c ρ => c = .nx ∧ ρ = V84 ns xs ws v (some (lf (.list (NLs (ev84 ws v))))) (some (lf (ans84 ws v))) none none none none none none none none none) := by
  have h0 : 0 < ws.length := List.length_pos_iff.mpr K.h.ne
  have hal : (ev84 ws v).length ≤ 256 := all_len (W := wz ws) (v := v) h0 K.h.len (ws.length + 1)
  unfold q_law_5 q_law_5i_0
  simp
  refine Go_lcA NL (fun l => .int (cost (wz ws) v l)) (ev84 ws v) ?_
  have hne : ev84 ws v ≠ [] := fun e => by have := path_all K.F h0; rw [show all (wz ws) v ws.length (ws.length + 1) = [] from e] at this; cases this
  have gm := gMinA_il (ns := (ev84 ws v).map (cost (wz ws) v)) (by simpa using hne)
  rw [min_cost K.F h0, List.map_map] at gm
  have gm' : gMinA [.list ((ev84 ws v).map fun l => .int (cost (wz ws) v l))] = some (.leaf (.int (T (wz ws) v ws.length 0))) := gm
  have nn := gNotIn_NL (l := path (wz ws) v ws.length ws.length 0) (ls := ev84 ws v)
  rw [decide_eq_true (path_all K.F h0)] at nn
  simp [gm', nn]
  refine ⟨by omega, fun l hl => ?_⟩
  obtain ⟨h1, h2, h3, h4⟩ := all_mem K.h hl
  have := lloss_g (v := v) K.h K.hv h2 h4
  simp [g_callS, this]
theorem p84_7 (K : Ok84 ws v) {a5 a6 : Option E} : Go (q_law_7 (V84 ns xs ws v a5 a6 none (some (ow (.dic (md .int .int (tabs (wz ws) v ws.length 0))))) none none none none none none none))
    (fun c ρ => c = .nx ∧ ρ = V84 ns xs ws v a5 a6 none (some (ow (.dic (md .int .int (tabs (wz ws) v ws.length ws.length))))) none none none none none none none) := by
  have hn := K.h.len
  have h0 : 0 < ws.length := List.length_pos_iff.mpr K.h.ne
  unfold q_law_7
  refine Go_for2 ?_
  simp
  refine ⟨by omega, fun k ρ => ρ = V84 ns xs ws v a5 a6 none (some (ow (.dic (md .int .int (tabs (wz ws) v ws.length k))))) none none none none none none none, rfl, ?_, ?_⟩
  · rintro k d ρ hk rfl
    obtain ⟨rfl, hk2⟩ : d = .int ((ws.length - 1 - k : Nat) : Int) ∧ k < ws.length := by
      unfold rangeDown at hk
      rw [List.getElem?_map] at hk
      obtain ⟨r, h1, h2⟩ := Option.map_eq_some_iff.mp hk
      rw [List.getElem?_eq_some_iff] at h1
      obtain ⟨h3, h4⟩ := h1
      simp at h3 h4
      subst h4
      exact ⟨by rw [← h2]; congr 1; omega, by omega⟩
    have hq : ws.length - 1 - k < ws.length := by omega
    have wv := numbers_g (v := v) (q := ws.length - 1 - k) (R := tabs (wz ws) v ws.length k) (T := T (wz ws) v ws.length) (e2 := ⟨true, .dic (md .int .int (tabs (wz ws) v ws.length k))⟩) rfl K.h K.hv (by omega) (fun r h1 h2 => tabs_lk (by omega) (by omega) (by omega))
    have hne : (ways (wz ws) v ws.length (T (wz ws) v ws.length) (ws.length - 1 - k)).map (·.1) ≠ [] := by
      obtain ⟨x, r, hx⟩ := ways_ne K.F (U := T (wz ws) v ws.length) hq
      rw [hx]; simp
    have gm := gMinA_il hne
    rw [T_min K.F hq] at gm
    have u1 := upC_md (fk := PyData.int) (fv := PyData.int) (l := tabs (wz ws) v ws.length k) (k := ((ws.length - 1 - k : Nat) : Int)) (v := T (wz ws) v ws.length (ws.length - 1 - k)) (by unfold tabs; simp; omega)
    rw [tabs_pt hk2] at u1
    unfold q_law_7b_0
    simp [g_callS]
    refine Go_lentD (pre := [_, _]) (dp := [WsD ws, .int v]) (dq := [.int ((ws.length - 1 - k : Nat) : Int)]) rfl rfl rfl ?_
    refine wv.mono ?_
    rintro o ρ' ⟨rfl, hl⟩
    refine ⟨_, hl, ?_⟩
    rw [List.map_map] at gm
    simp [gm, u1]
  · rintro ρ rfl
    have e : (rangeDown ((ws.length : Int) - 1) (-1)).length = ws.length := by unfold rangeDown; simp
    rw [e]
def S9 (ns : List Int) (ws : List (List Nat)) (v : Int) (a8 : Option E) (k : Nat) (ρ : Ev) : Prop := ∃ xs, PoolOk xs ∧ ρ = V84 ns xs ws v (some (lf (.list (NLs (ev84 ws v))))) (some (lf (ans84 ws v))) none a8 none none none none none none none
theorem p84_9 (K : Ok84 ws v) {a8 : Option E} (hx : PoolOk xs) : Go (q_law_9 (V84 ns xs ws v (some (lf (.list (NLs (ev84 ws v))))) (some (lf (ans84 ws v))) none a8 none none none none none none none))
    (fun c ρ => c = .nx ∧ S9 ns ws v a8 0 ρ) := by
  have hn := K.h.len
  have h0 : 0 < ws.length := List.length_pos_iff.mpr K.h.ne
  unfold q_law_9
  refine Go_for2 ?_
  simp
  refine ⟨S9 ns ws v a8, ⟨xs, hx, rfl⟩, ?_, fun ρ h => h⟩
  rintro k d ρ hk ⟨xs, hx, rfl⟩
  obtain ⟨i, hi⟩ : ∃ i : Int, d = .int i := by
    unfold rangeD at hk
    rw [List.getElem?_map] at hk
    obtain ⟨r, _, e⟩ := Option.map_eq_some_iff.mp hk
    exact ⟨_, e.symm⟩
  subst hi
  have hpm := all_mem K.h (path_all K.F h0)
  have hpl := okB_len hpm.2.2.1
  have tl := tabs_len (v := v) K.h
  have hlk0 : (lk (tabs (wz ws) v ws.length ws.length) 0).isSome = true := by
    have := tabs_lk (W := wz ws) (v := v) (n := ws.length) (k := ws.length) (r := 0) (by omega) (by omega) (by omega)
    simp only [Int.natCast_zero, Int.cast_ofNat_Int] at this
    rw [this]; rfl
  simp
  unfold t_law_9b_0
  refine Go_seq (fun ρ => ∃ xs ms R, PoolOk xs ∧ ms.length ≤ 20 ∧ R.length ≤ 30 ∧ ρ = V84 ns xs ws v (some (lf (.list (NLs (ev84 ws v))))) (some (lf (ans84 ws v))) (some (lf (NL ms))) a8 none (some (lf (.int i))) (some (lf (TDI R))) none none none none) ?_ ?_
  · unfold q_law_9b_0
    by_cases hi0 : i = 0
    · subst hi0
      simp
      exact ⟨xs, hx, _, hpm.2.1, tabs (wz ws) v ws.length ws.length, by omega, rfl, rfl, rfl⟩
    · simp [hi0, g_callS]
      refine Go_poolB rfl rfl (bent84_go (ws := ws) (ms := path (wz ws) v ws.length ws.length 0) (R := tabs (wz ws) v ws.length ws.length) hx hn (by omega) (by omega) hlk0) ?_
      rintro o us ⟨ms, R, hm, hR, rfl⟩ hu
      simp
      exact ⟨us, hu, ms, hm, R, hR, rfl, rfl, rfl⟩
  rintro ρ ⟨xs, ms, R, hx, hm, hR, rfl⟩
  have jv := judge_g (v := v) (l := ms) (R := R) K.h K.hv hm (by omega)
  have rv := right_g (v := v) (l := ms) (R := R) K.h K.hv hm (by omega)
  have gd := gDict_k (kk_md_i (fv := PyData.int) (l := R))
  have sm := fun b => same_v (same_bool 5 b)
  unfold t_law_9b_1
  refine Go_seq (fun ρ => ρ = V84 ns xs ws v (some (lf (.list (NLs (ev84 ws v))))) (some (lf (ans84 ws v))) (some (lf (NL ms))) a8 none (some (lf (.int i))) (some (lf (TDI R))) none none none none) ?_ ?_
  · unfold q_law_9b_1 q_law_9b_1i_0
    simp [g_callS, gd, jv, rv, sm]
  rintro ρ rfl
  have a1 := are_breaks_g (v := v) (l := ms) K.h hm
  have a2 := lare_breaks_g (v := v) (l := ms) K.h hm
  unfold q_law_9b_2 q_law_9b_2i_0
  simp [g_callS, a1, a2, sm]
  exact ⟨xs, hx, rfl⟩
theorem p84_end (K : Ok84 ws v) {a6 a8 : Option E} (hx : PoolOk xs) : Go (t_law_10 (V84 ns xs ws v (some (lf (.list (NLs (ev84 ws v))))) a6 none a8 none none none none none none none)) (fun c _ => c = .rt (.leaf (.bool true))) := by
  have hn := K.h.len
  have h0 : 0 < ws.length := List.length_pos_iff.mpr K.h.ne
  have hal : (ev84 ws v).length ≤ 256 := all_len (W := wz ws) (v := v) h0 K.h.len (ws.length + 1)
  have hne : ev84 ws v ≠ [] := fun e => by have := path_all K.F h0; rw [show all (wz ws) v ws.length (ws.length + 1) = [] from e] at this; cases this
  have f1 := filled_g (v := v) K.h
  have f2 := lfilled_g (v := v) K.h
  unfold t_law_10
  refine Go_seq (fun ρ => ρ = V84 ns xs ws v (some (lf (.list (NLs (ev84 ws v))))) a6 none a8 none none none (some (ow (.lst ((fl (wz ws) v ws.length).map fun k : Nat => .int (k : Int))))) none none none) ?_ ?_
  · unfold q_law_10
    simp [g_callS, f1]
  rintro ρ rfl
  unfold t_law_11
  refine Go_seq (fun ρ => ρ = V84 ns xs ws v (some (lf (.list (NLs (ev84 ws v))))) a6 none a8 none none none (some (ow (.lst ((fl (wz ws) v ws.length).map fun k : Nat => .int (k : Int))))) none none none) ?_ ?_
  · unfold q_law_11 q_law_11i_0
    have n1 := gNe_nl (a := fl (wz ws) v ws.length) (b := fl (wz ws) v ws.length)
    have nn := gNotIn_NL (l := fl (wz ws) v ws.length) (ls := ev84 ws v)
    rw [decide_eq_true (fl_all K.F h0)] at nn
    simp [g_callS, f2, n1, nn]
    refine Go_lcA NL (fun l => .int (l.length : Int)) (ev84 ws v) ?_
    have gm := gMinA_il (ns := (ev84 ws v).map fun l => (l.length : Int)) (by simpa using hne)
    rw [min_len (mono_of (wz_nn ws)) K.F h0, List.map_map] at gm
    have gm' : gMinA [.list ((ev84 ws v).map fun l => .int (l.length : Int))] = some (.leaf (.int ((fl (wz ws) v ws.length).length : Int))) := gm
    simp [gm']
    omega
  rintro ρ rfl
  unfold t_law_12
  refine Go_seq (fun ρ => ∃ xs l, PoolOk xs ∧ l ∈ ev84 ws v ∧ ρ = V84 ns xs ws v (some (lf (.list (NLs (ev84 ws v))))) a6 (some (lf (NL l))) a8 none none none (some (ow (.lst ((fl (wz ws) v ws.length).map fun k : Nat => .int (k : Int))))) none none none) ?_ ?_
  · unfold q_law_12
    simp [g_callS]
    refine Go_pickB rfl rfl hx (by simpa using hne) (by simp; omega) fun d us hd hu => ?_
    obtain ⟨l, hl, rfl⟩ := List.mem_map.mp hd
    simp
    exact ⟨us, hu, l, hl, rfl, rfl⟩
  rintro ρ ⟨xs, l, hx, hl, rfl⟩
  obtain ⟨l1, l2, l3, l4⟩ := all_mem K.h hl
  have lr := lrooms_g (v := v) (l := l) K.h l2
  unfold t_law_13
  refine Go_seq (fun ρ => ρ = V84 ns xs ws v (some (lf (.list (NLs (ev84 ws v))))) a6 (some (lf (NL l))) a8 none none none (some (ow (.lst ((fl (wz ws) v ws.length).map fun k : Nat => .int (k : Int))))) (some (ow (.lst ((rms (wz ws) v ws.length l).map oD)))) none none) ?_ ?_
  · unfold q_law_13
    simp [g_callS, lr]
  rintro ρ rfl
  have e1 : gSl (NL l) (some 1) none = some (.lst (l.tail.map fun k : Nat => .int (k : Int))) := by
    rw [gSl_l, show (1 : Int) = ((1 : Nat) : Int) from rfl, cut_from, ← List.map_drop, List.drop_one]
  have e2 : gAdd (.list (l.tail.map fun k : Nat => .int (k : Int))) (.list [.int (ws.length : Int)]) = some (.lst ((l.tail.map fun k : Nat => .int (k : Int)) ++ [.int (ws.length : Int)])) := gAdd_l (by simp; omega)
  have ix2 : ∀ k, k < l.length → gIx (.list ((l.tail.map fun k : Nat => .int (k : Int)) ++ [.int (ws.length : Int)])) (.int (k : Int)) = some (.leaf (.int ((l.tail ++ [ws.length]).getD k 0 : Nat))) := fun k hk => by
    have := ixNL (l := l.tail ++ [ws.length]) (k := k) (by simp; omega)
    rw [List.map_append] at this
    exact this
  unfold t_law_14
  refine Go_seq (fun ρ => ρ = V84 ns xs ws v (some (lf (.list (NLs (ev84 ws v))))) a6 (some (lf (NL l))) a8 none none none (some (ow (.lst ((fl (wz ws) v ws.length).map fun k : Nat => .int (k : Int))))) (some (ow (.lst ((rms (wz ws) v ws.length l).map oD)))) (some (ow (.lst ((l.tail.map fun k : Nat => .int (k : Int)) ++ [.int (ws.length : Int)])))) none) ?_ ?_
  · unfold q_law_14
    simp [e1, e2, -List.map_tail]
  rintro ρ rfl
  unfold t_law_15
  refine Go_seq (fun ρ => ρ = V84 ns xs ws v (some (lf (.list (NLs (ev84 ws v))))) a6 (some (lf (NL l))) a8 none none none (some (ow (.lst ((fl (wz ws) v ws.length).map fun k : Nat => .int (k : Int))))) (some (ow (.lst ((rms (wz ws) v ws.length l).map oD)))) (some (ow (.lst ((l.tail.map fun k : Nat => .int (k : Int)) ++ [.int (ws.length : Int)])))) none) ?_ ?_
  · unfold q_law_15 q_law_15i_0
    have lg := lines_g (l := l) K.h l1 l2
    have e0 : PyData.str " " = St [32] := congrArg PyData.str (by decide +kernel)
    simp [g_callS, lg, -List.map_tail]
    refine Go_lcA (fun k : Nat => .int (k : Int)) (fun k => St (lt84 ws (l.getD k 0, (l.tail ++ [ws.length]).getD k 0))) (List.range l.length) ?_
    have sm := same_v (same_map 5 (fun p => St (lt84 ws p)) (prs ws.length l) (by rw [prs_len]; omega) fun p _ => same_str 4 _)
    have sm' : out (F__law_same [lf (.list ((prs ws.length l).map fun p => St (lt84 ws p))), lf (.list ((List.range l.length).map fun k => St (lt84 ws (l.getD k 0, (l.tail ++ [ws.length]).getD k 0))))]) = some (.leaf (.bool true)) := by
      have e : (List.range l.length).map (fun k => St (lt84 ws (l.getD k 0, (l.tail ++ [ws.length]).getD k 0))) = (prs ws.length l).map fun p => St (lt84 ws p) := by
        rw [prs_range, List.map_map]; rfl
      rw [e]; exact sm
    simp [rangeD_nat, e0, sm', -List.map_tail, -List.getD_eq_getElem?_getD]
    refine ⟨by omega, by omega, fun k hk => ?_⟩
    simp [ixNL hk, ix2 k hk, gSl_l, cut_ft, join84 K.h, -List.getD_eq_getElem?_getD, -List.map_tail]
  rintro ρ rfl
  have lo1 := loss_g (v := v) K.h K.hv l1 l2 l4
  have lo2 := lloss_g (v := v) K.h K.hv l2 l4
  have wo := worst_g (v := v) K.h l1 l2 l4
  unfold t_law_16
  refine Go_seq (fun ρ => ρ = V84 ns xs ws v (some (lf (.list (NLs (ev84 ws v))))) a6 (some (lf (NL l))) a8 none none none (some (ow (.lst ((fl (wz ws) v ws.length).map fun k : Nat => .int (k : Int))))) (some (ow (.lst ((rms (wz ws) v ws.length l).map oD)))) (some (ow (.lst ((l.tail.map fun k : Nat => .int (k : Int)) ++ [.int (ws.length : Int)])))) none) ?_ ?_
  · unfold q_law_16 q_law_16i_0
    obtain ⟨r1, r2⟩ := rms_ints (v := v) (l := l) l4
    have ad : gAdd (.list (((rms (wz ws) v ws.length l).map oD).take (l.length - 1))) (.list [.int 0]) = some (.lst ((((rms (wz ws) v ws.length l).take (l.length - 1)).map (fun o : Option Int => o.getD 0) ++ [0]).map .int)) := by
      rw [gAdd_l (by rw [List.length_take, List.length_map, rms_len]; simp; omega), r1]
      simp
    have gm := gMaxA_il (ns := ((rms (wz ws) v ws.length l).take (l.length - 1)).map (fun o : Option Int => o.getD 0) ++ [0]) (by simp)
    have sm := same_v (same_list 5 [.int (cost (wz ws) v l), .int (mxr ((rms (wz ws) v ws.length l).take (l.length - 1)))] (by simp) (by
      intro d hd
      simp only [List.mem_cons, List.not_mem_nil, or_false] at hd
      rcases hd with rfl | rfl <;> exact same_int 4 _))
    unfold mxr at sm wo
    simp only [List.map_append, List.map_take, List.map_map, List.map_cons, List.map_nil] at ad gm sm wo
    simp [g_callS, lo1, lo2, wo, gSl_l, cut_neg1, rms_len, ad, gm, sm, -List.map_tail]
  rintro ρ rfl
  unfold t_law_17
  refine Go_seq (fun ρ => ∃ xs, ∃ a : Nat, PoolOk xs ∧ a ≤ 9 ∧ ρ = V84 ns xs ws v (some (lf (.list (NLs (ev84 ws v))))) a6 (some (lf (NL l))) a8 (some (lf (.int (a : Int)))) none none (some (ow (.lst ((fl (wz ws) v ws.length).map fun k : Nat => .int (k : Int))))) (some (ow (.lst ((rms (wz ws) v ws.length l).map oD)))) (some (ow (.lst ((l.tail.map fun k : Nat => .int (k : Int)) ++ [.int (ws.length : Int)])))) none) ?_ ?_
  · unfold q_law_17
    simp [g_callS, -List.map_tail]
    refine Go_drawB rfl hx (by omega) (by omega) fun a us a0 a1 hu => ?_
    simp [-List.map_tail]
    exact ⟨us, hu, a.toNat, by omega, by rw [show ((a.toNat : Nat) : Int) = a by omega]; exact ⟨rfl, rfl⟩⟩
  rintro ρ ⟨xs, a, hx, ha, rfl⟩
  unfold t_law_18
  refine Go_seq (fun ρ => ∃ xs, ∃ b : Nat, PoolOk xs ∧ ρ = V84 ns xs ws v (some (lf (.list (NLs (ev84 ws v))))) a6 (some (lf (NL l))) a8 (some (lf (.int (a : Int)))) none none (some (ow (.lst ((fl (wz ws) v ws.length).map fun k : Nat => .int (k : Int))))) (some (ow (.lst ((rms (wz ws) v ws.length l).map oD)))) (some (ow (.lst ((l.tail.map fun k : Nat => .int (k : Int)) ++ [.int (ws.length : Int)])))) (some (lf (.int (b : Int))))) ?_ ?_
  · unfold q_law_18
    simp [g_callS, -List.map_tail]
    refine Go_drawB rfl hx (by omega) (by omega) fun a us a0 a1 hu => ?_
    simp [-List.map_tail]
    exact ⟨us, hu, rfl, a.toNat, by omega⟩
  rintro ρ ⟨xs, b, hx, rfl⟩
  have ro1 := room_g (v := v) (a := a) (b := b) K.h
  have ro2 := lroom_g (v := v) (a := a) (b := b) K.h
  have sm := same_v (d := oD (rm (wz ws) v a b)) (by cases rm (wz ws) v a b <;> first | exact same_none 5 | exact same_int 5 _)
  unfold q_law_19
  simp [g_callS, ro1, ro2, sm, -List.map_tail]
end
theorem law_true (ns : List Int) (hns : ns.length ≤ 63) : ∃ ρ, F_law [lf (scr ns)] = .ok (.leaf (.bool true)) ρ := by
  suffices h : Go (F_law [lf (scr ns)]) (fun o _ => o = .leaf (.bool true)) by
    obtain ⟨o, ρ, e, rfl⟩ := h.ex
    exact ⟨ρ, e⟩
  unfold F_law
  rw [go_fnS_eq]
  have fin : ∀ {r : Rs Ctl}, Go r (fun k _ => k = .rt (.leaf (.bool true))) → Go r (fun c ρ => match c with | .rt d => d = .leaf (.bool true) | .nx => O.leaf .none = .leaf (.bool true) | _ => False) := fun h => h.mono fun c ρ e => by subst e; rfl
  refine fin ?_
  unfold f_law t_law_0
  refine Go_seq (fun ρ => ∃ xs, PoolOk xs ∧ ρ = [some (lf (scr ns)), some (ow (.lst xs)), none, none, none, none, none, none, none, none, none, none, none, none, none, none]) ?_ ?_
  · unfold q_law_0
    rw [g_asgS]
    refine Go_callG ?_
    simp
    exact (pool_go ns).mono fun o ρ ⟨xs, e, h⟩ => by subst e; exact ⟨xs, h, rfl⟩
  rintro ρ ⟨xs, hx, rfl⟩
  unfold t_law_1
  refine Go_seq (fun ρ => ∃ xs ws, PoolOk xs ∧ Wds ws ∧ ρ = [some (lf (scr ns)), some (ow (.lst xs)), some (ow (.lst (ws.map tx))), none, none, none, none, none, none, none, none, none, none, none, none, none]) ?_ ?_
  · unfold q_law_1
    simp [g_callS]
    refine Go_poolB rfl rfl (words_go hx) ?_
    rintro o us ⟨ws, hw, rfl⟩ hu
    simp
    exact ⟨us, hu, ws, hw, rfl, rfl⟩
  rintro ρ ⟨xs, ws, hx, hw, rfl⟩
  have hn := hw.len
  have h0 : 0 < ws.length := List.length_pos_iff.mpr hw.ne
  unfold t_law_2
  refine Go_seq (fun ρ => ∃ xs v, PoolOk xs ∧ Ok84 ws v ∧ ρ = V84 ns xs ws v none none none none none none none none none none none) ?_ ?_
  · unfold q_law_2
    simp
    refine Go_lcA tx (fun w => .int (wd w)) ws ?_
    have hne : wz ws ≠ [] := by simpa using hw.ne
    have gm := gMaxA_il hne
    rw [List.map_map] at gm
    have gm' : gMaxA [.list (ws.map fun w => .int (wd w))] = some (.leaf (.int (maxI (wz ws)))) := gm
    obtain ⟨m1, m2⟩ := maxI_spec _ hne
    have hb : maxI (wz ws) ≤ 20 := by
      obtain ⟨w, hw1, e⟩ := List.mem_map.mp m1
      have := (hw.ok w hw1).2.1
      have hc := List.length_filter_le (fun c => decide (c = 65) || decide (c = 66)) w
      rw [← e]
      unfold wd caps
      omega
    simp [gm', g_callS]
    refine ⟨by omega, fun w hw1 => ?_, ?_⟩
    · simp [g_callS, lwide_g (hw.ok w hw1)]
    · refine Go_drawB rfl hx (by omega) (by omega) fun d us d0 d1 hu => ?_
      simp
      refine ⟨hu, hw, by omega, fits_of (by simp) fun x hx => ?_⟩
      have := m2 x hx
      omega
  rintro ρ ⟨xs, v, hx, K, rfl⟩
  unfold t_law_3
  refine Go_seq (fun ρ => ρ = V84 ns xs ws v (some (ow (.lst (NLs (ev84 ws v))))) none none none none none none none none none none) ?_ ?_
  · unfold q_law_3
    have := all_breaks_g (v := v) K.h
    simp [g_callS, this]
  rintro ρ rfl
  unfold t_law_4
  refine Go_seq (fun ρ => ρ = V84 ns xs ws v (some (ow (.lst (NLs (ev84 ws v))))) (some (lf (ans84 ws v))) none none none none none none none none none) ?_ ?_
  · unfold q_law_4
    have := least_loss_g K.h K.hv K.F
    simp [g_callS, this]
  rintro ρ rfl
  unfold t_law_5
  refine Go_seq _ (p84_5 K) ?_
  rintro ρ rfl
  unfold t_law_6
  refine Go_seq (fun ρ => ρ = V84 ns xs ws v (some (lf (.list (NLs (ev84 ws v))))) (some (lf (ans84 ws v))) none (some (ow (.dic (md .int .int (tabs (wz ws) v ws.length 0))))) none none none none none none none) ?_ ?_
  · unfold q_law_6
    simp
    refine Go_dispE.mpr ?_
    simp [asKey, keyD, md, tabs, T_n]
  rintro ρ rfl
  unfold t_law_7
  refine Go_seq _ (p84_7 K) ?_
  rintro ρ rfl
  unfold t_law_8
  refine Go_seq (fun ρ => ρ = V84 ns xs ws v (some (lf (.list (NLs (ev84 ws v))))) (some (lf (ans84 ws v))) none (some (lf (TDI (tabs (wz ws) v ws.length ws.length)))) none none none none none none none) ?_ ?_
  · unfold q_law_8 q_law_8i_0
    obtain ⟨l1, l2, l3, l4⟩ := all_mem K.h (path_all K.F h0)
    have lo := lloss_g (v := v) K.h K.hv l2 l4
    rw [(path_ok K.F ws.length 0 h0 (by omega)).2] at lo
    have sm := same_v (same_md PyData.int PyData.int 5 (tabs (wz ws) v ws.length ws.length) kk_md_i (tabs_nd (Nat.le_refl _)) (by have := tabs_len (v := v) K.h; omega) fun p _ => same_int 4 _)
    simp [g_callS, lo, sm]
  rintro ρ rfl
  unfold t_law_9
  refine Go_seq _ (p84_9 K hx) ?_
  rintro ρ ⟨xs, hx, rfl⟩
  exact p84_end K hx
end Y
namespace Y
open PySem PySem.Spec PyProof.Rows L2
/-! the derivations (printed) -/
def top (i : Nat) : Stmt := PySem.Challenge.pw_screenwise_k84_whole_paragraphs_with_lea.main.body.getD i (.Pass ⟨0, 0, 0, 0⟩)
section
variable {P : Program} {w : World} {K : PySem.W.Frag} {mg : Str → Option Value} {base : Heap}
abbrev s_wide : Stmt := top 2
theorem sc_wide : FnScope ["sign"] ["sign"] (L2.defScope s_wide) := ⟨rfl, rfl, rfl, by decide +kernel, rfl, by decide +kernel, by decide +kernel⟩
theorem ok_wide {f : Addr} {fd : FuncData} (F : L2.Fun K "wide" "wide" s_wide f fd) (c_CAPITAL : ∃ u, mg "CAPITAL" = some u ∧ RelV (.str "ABCDEFGHIJKLMNOPQRSTUVWXYZ") u) : FnOk P w K mg base CX0 (0 + 1) f fd ["sign"] (spF K 1 (fnS 1 1 f_wide)) :=
  fn_ok F sc_wide f_wide fun cdv A outer s H E hr => by
    have bd := bd_of (P := P) (w := w) (K := K) (mg := mg) (base := base) (outer := outer) (H := H) (E := E) hr sc_wide.nd
    exact dss_one (ds_ret (de_v (dv_cmp (op_inA bd) does_in (db_var (pv 0)) (db_tm (de_gstr rfl c_CAPITAL)) rfl)))
theorem b_wide {f : Addr} {fd : FuncData} (F : L2.Fun K "wide" "wide" s_wide f fd) : Binds K fd ["sign"] [] := F.binds (ps := ["sign"]) fun _ _ _ _ _ _ us hl => match us, hl with | [_], _ => rfl
theorem k_wide {f : Addr} {fd : FuncData} (F : L2.Fun K "wide" "wide" s_wide f fd) (hm : mg "wide" = some (.ref f)) (c_CAPITAL : ∃ u, mg "CAPITAL" = some u ∧ RelV (.str "ABCDEFGHIJKLMNOPQRSTUVWXYZ") u) : Cal P w K mg base 1 "wide" 1 F_wide := cal_mk (ok_wide F c_CAPITAL) hm F (b_wide F)
abbrev s_width : Stmt := top 3
theorem sc_width : FnScope ["text", "sign"] ["text"] (L2.defScope s_width) := ⟨rfl, rfl, rfl, by decide +kernel, rfl, by decide +kernel, by decide +kernel⟩
theorem ok_width {f : Addr} {fd : FuncData} (F : L2.Fun K "width" "width" s_width f fd) (m_len : mg "len" = none) (c_wide : Cal P w K mg base 1 "wide" 1 F_wide) : FnOk P w K mg base CX0 (1 + 1) f fd ["text"] (spF K 1 (fnS 1 2 f_width)) :=
  fn_ok F sc_width f_width fun cdv A outer s H E hr => by
    have bd := bd_of (P := P) (w := w) (K := K) (mg := mg) (base := base) (outer := outer) (H := H) (E := E) hr sc_width.nd
    have hkwide : 1 ≤ 1 := by decide
    exact dss_one (ds_ret (de_add (db_tm (de_callB call_lenA does_lenA rfl m_len rfl (da_cons (db_var (pv 0)) (da_nil)))) (db_tm (de_callB call_lenA does_lenA rfl m_len rfl (da_cons (db_tm (de_lcN (own := [("sign", 1)]) bd (pv 0) (blkOk_by (by dsimp only [cxOf, Cx.nox, Cx.wish, Cx.blk, envOfC, compEnvC]; (try simp only [relabel_eq]); decide +kernel)) (fun _ _ _ _ _ => cg_name (tn (Bd.blk bd) 1) (by decide)) (fun _ _ _ _ _ => dts_one (dt_b (db_tm (de_call c_wide hr hkwide rfl (da_cons (db_tm (de_var (pv 1))) (da_nil)) (ar_cons ar_nil))) (fun _ => rfl))) (fun _ _ _ _ _ => de_var (pv 1)))) (da_nil))))))
theorem b_width {f : Addr} {fd : FuncData} (F : L2.Fun K "width" "width" s_width f fd) : Binds K fd ["text"] [] := F.binds (ps := ["text"]) fun _ _ _ _ _ _ us hl => match us, hl with | [_], _ => rfl
theorem k_width {f : Addr} {fd : FuncData} (F : L2.Fun K "width" "width" s_width f fd) (hm : mg "width" = some (.ref f)) (m_len : mg "len" = none) (c_wide : Cal P w K mg base 1 "wide" 1 F_wide) : Cal P w K mg base 2 "width" 1 F_width := cal_mk (ok_width F m_len c_wide) hm F (b_width F)
abbrev s_room : Stmt := top 6
theorem sc_room : FnScope ["words", "width", "first", "behind", "found", "word"] ["words", "width", "first", "behind"] (L2.defScope s_room) := ⟨rfl, rfl, rfl, by decide +kernel, rfl, by decide +kernel, by decide +kernel⟩
theorem ok_room {f : Addr} {fd : FuncData} (F : L2.Fun K "room" "room" s_room f fd) (m_sum : mg "sum" = none) (c_width_signs : Cal P w K mg base 2 "width_signs" 1 F_width) : FnOk P w K mg base CX0 (2 + 1) f fd ["words", "width", "first", "behind"] (spF K 4 (fnS 4 6 f_room)) :=
  fn_ok F sc_room f_room fun cdv A outer s H E hr => by
    have bd := bd_of (P := P) (w := w) (K := K) (mg := mg) (base := base) (outer := outer) (H := H) (E := E) hr sc_room.nd
    have hkwidth_signs : 2 ≤ 2 := by decide
    exact dss_cons (ds_if (dt_cmp op_leIS does_le (db_var (pv 3)) (db_var (pv 2)) rfl) (dss_one (ds_ret (de_non))) (dss_nil))
         (dss_cons (ds_asg (de_sub (db_tm (de_sub (db_var (pv 1)) (db_tm (de_callB (cr_sum bd.calm) does_sum rfl m_sum rfl (da_cons (db_tm (de_lc (own := [("word", 5)]) bd (di_seq (de_slice (db_var (pv 0)) (do_some (db_var (pv 2))) (do_some (db_var (pv 3))))) (blkOk_by (by dsimp only [cxOf, Cx.nox, Cx.wish, Cx.blk, envOfC, compEnvC]; (try simp only [relabel_eq]); decide +kernel)) (fun _ _ _ _ _ => cg_name (tn (Bd.blk bd) 5) (by decide)) (fun _ _ _ _ _ => dts_nil) (fun _ _ _ _ _ => de_call c_width_signs hr hkwidth_signs rfl (da_cons (db_tm (de_var (pv 5))) (da_nil)) (ar_cons ar_nil)))) (da_nil)))))) (db_tm (de_sub (db_tm (de_sub (db_var (pv 3)) (db_var (pv 2)))) (db_tm (de_int))))) (dg_name (tn bd 4)))
         (dss_one (ds_ret (de_if (dt_cmp op_ge does_ge (db_var (pv 4)) (db_tm (de_int)) rfl) (de_var (pv 4)) (de_non)))))
theorem b_room {f : Addr} {fd : FuncData} (F : L2.Fun K "room" "room" s_room f fd) : Binds K fd ["words", "width", "first", "behind"] [] := F.binds (ps := ["words", "width", "first", "behind"]) fun _ _ _ _ _ _ us hl => match us, hl with | [_, _, _, _], _ => rfl
theorem k_room {f : Addr} {fd : FuncData} (F : L2.Fun K "room" "room" s_room f fd) (hm : mg "room" = some (.ref f)) (m_sum : mg "sum" = none) (c_width_signs : Cal P w K mg base 2 "width_signs" 1 F_width) : Cal P w K mg base 3 "room" 4 F_room := cal_mk (ok_room F m_sum c_width_signs) hm F (b_room F)
abbrev s_rooms : Stmt := top 8
theorem sc_rooms : FnScope ["words", "width", "breaks", "ends", "first", "behind"] ["words", "width", "breaks"] (L2.defScope s_rooms) := ⟨rfl, rfl, rfl, by decide +kernel, rfl, by decide +kernel, by decide +kernel⟩
theorem ok_rooms {f : Addr} {fd : FuncData} (F : L2.Fun K "rooms" "rooms" s_rooms f fd) (m_len : mg "len" = none) (m_zip : mg "zip" = none) (c_room : Cal P w K mg base 3 "room" 4 F_room) : FnOk P w K mg base CX0 (3 + 1) f fd ["words", "width", "breaks"] (spF K 3 (fnS 3 6 f_rooms)) :=
  fn_ok F sc_rooms f_rooms fun cdv A outer s H E hr => by
    have bd := bd_of (P := P) (w := w) (K := K) (mg := mg) (base := base) (outer := outer) (H := H) (E := E) hr sc_rooms.nd
    have hkroom : 3 ≤ 3 := by decide
    exact dss_cons (ds_asg (de_add (db_tm (de_slice (db_var (pv 2)) (do_some (db_tm (de_int))) (do_none))) (db_tm (de_list (da_cons (db_tm (de_callB call_lenA does_lenA rfl m_len rfl (da_cons (db_var (pv 0)) (da_nil)))) (da_nil))))) (dg_name (tn bd 3)))
         (dss_one (ds_ret (de_lc (own := [("first", 4), ("behind", 5)]) bd (di_zipS rfl m_zip (da_cons (db_tm (de_var (pv 2))) (da_cons (db_tm (de_var (pv 3))) (da_nil)))) (blkOk_by (by dsimp only [cxOf, Cx.nox, Cx.wish, Cx.blk, envOfC, compEnvC]; (try simp only [relabel_eq]); decide +kernel)) (fun _ _ _ _ _ => cg_tup (Bd.blk bd) (cgs_cons (cg_name (tn (Bd.blk bd) 4) (by decide)) (cgs_cons (cg_name (tn (Bd.blk bd) 5) (by decide)) (cgs_nil)))) (fun _ _ _ _ _ => dts_nil) (fun _ _ _ _ _ => de_call c_room hr hkroom rfl (da_cons (db_tm (de_var (pv 0))) (da_cons (db_tm (de_var (pv 1))) (da_cons (db_tm (de_var (pv 4))) (da_cons (db_tm (de_var (pv 5))) (da_nil))))) (ar_cons (ar_cons (ar_cons (ar_cons ar_nil))))))))
theorem b_rooms {f : Addr} {fd : FuncData} (F : L2.Fun K "rooms" "rooms" s_rooms f fd) : Binds K fd ["words", "width", "breaks"] [] := F.binds (ps := ["words", "width", "breaks"]) fun _ _ _ _ _ _ us hl => match us, hl with | [_, _, _], _ => rfl
theorem k_rooms {f : Addr} {fd : FuncData} (F : L2.Fun K "rooms" "rooms" s_rooms f fd) (hm : mg "rooms" = some (.ref f)) (m_len : mg "len" = none) (m_zip : mg "zip" = none) (c_room : Cal P w K mg base 3 "room" 4 F_room) : Cal P w K mg base 4 "rooms" 3 F_rooms := cal_mk (ok_rooms F m_len m_zip c_room) hm F (b_rooms F)
abbrev s_are_breaks : Stmt := top 7
theorem sc_are_breaks : FnScope ["words", "width", "breaks", "told"] ["words", "width", "breaks"] (L2.defScope s_are_breaks) := ⟨rfl, rfl, rfl, by decide +kernel, rfl, by decide +kernel, by decide +kernel⟩
theorem ok_are_breaks {f : Addr} {fd : FuncData} (F : L2.Fun K "are_breaks" "are_breaks" s_are_breaks f fd) (m_all : mg "all" = none) (m_len : mg "len" = none) (m_set : mg "set" = none) (m_sorted : mg "sorted" = none) (c_rooms : Cal P w K mg base 4 "rooms" 3 F_rooms) : FnOk P w K mg base CX0 (4 + 1) f fd ["words", "width", "breaks"] (spF K 3 (fnS 3 4 f_are_breaks)) :=
  fn_ok F sc_are_breaks f_are_breaks fun cdv A outer s H E hr => by
    have bd := bd_of (P := P) (w := w) (K := K) (mg := mg) (base := base) (outer := outer) (H := H) (E := E) hr sc_are_breaks.nd
    have hkrooms : 4 ≤ 4 := by decide
    exact dss_cons (ds_if (dw_t (dw_or (dt_cmp (op_neB bd) does_ne (db_tm (de_slice (db_var (pv 2)) (do_none) (do_some (db_tm (de_int))))) (db_tm (de_list (da_cons (db_tm (de_int)) (da_nil)))) rfl) (dw_or (dt_cmp (op_neB bd) does_ne (db_tm (de_sortSet bd rfl m_sorted rfl m_set (db_var (pv 2)))) (db_var (pv 2)) rfl) (dw_or1 (dt_cmp op_ge does_ge (db_tm (de_ix bd (db_var (pv 2)) (db_tm (de_neg (db_tm (de_int)))) (fun _ _ => rfl))) (db_tm (de_callB call_lenA does_lenA rfl m_len rfl (da_cons (db_var (pv 0)) (da_nil)))) rfl))))) (dss_one (ds_ret (de_bl))) (dss_nil))
         (dss_one (ds_ret (de_callB (cr_all bd.calm) does_all rfl m_all rfl (da_cons (db_tm (de_lc (own := [("told", 3)]) bd (di_seq (de_call c_rooms hr hkrooms rfl (da_cons (db_tm (de_var (pv 0))) (da_cons (db_tm (de_var (pv 1))) (da_cons (db_tm (de_var (pv 2))) (da_nil)))) (ar_cons (ar_cons (ar_cons ar_nil))))) (blkOk_by (by dsimp only [cxOf, Cx.nox, Cx.wish, Cx.blk, envOfC, compEnvC]; (try simp only [relabel_eq]); decide +kernel)) (fun _ _ _ _ _ => cg_name (tn (Bd.blk bd) 3) (by decide)) (fun _ _ _ _ _ => dts_nil) (fun _ _ _ _ _ => de_v (dv_cmp op_isNotC does_isNot (db_var (pv 3)) (db_tm (de_non)) rfl)))) (da_nil)))))
theorem b_are_breaks {f : Addr} {fd : FuncData} (F : L2.Fun K "are_breaks" "are_breaks" s_are_breaks f fd) : Binds K fd ["words", "width", "breaks"] [] := F.binds (ps := ["words", "width", "breaks"]) fun _ _ _ _ _ _ us hl => match us, hl with | [_, _, _], _ => rfl
theorem k_are_breaks {f : Addr} {fd : FuncData} (F : L2.Fun K "are_breaks" "are_breaks" s_are_breaks f fd) (hm : mg "are_breaks" = some (.ref f)) (m_all : mg "all" = none) (m_len : mg "len" = none) (m_set : mg "set" = none) (m_sorted : mg "sorted" = none) (c_rooms : Cal P w K mg base 4 "rooms" 3 F_rooms) : Cal P w K mg base 5 "are_breaks" 3 F_are_breaks := cal_mk (ok_are_breaks F m_all m_len m_set m_sorted c_rooms) hm F (b_are_breaks F)
abbrev s_lines_of : Stmt := top 9
theorem sc_lines_of : FnScope ["words", "breaks", "ends", "first", "behind"] ["words", "breaks"] (L2.defScope s_lines_of) := ⟨rfl, rfl, rfl, by decide +kernel, rfl, by decide +kernel, by decide +kernel⟩
theorem ok_lines_of {f : Addr} {fd : FuncData} (F : L2.Fun K "lines_of" "lines_of" s_lines_of f fd) (m_len : mg "len" = none) (m_zip : mg "zip" = none) : FnOk P w K mg base CX0 (0 + 1) f fd ["words", "breaks"] (spF K 2 (fnS 2 5 f_lines_of)) :=
  fn_ok F sc_lines_of f_lines_of fun cdv A outer s H E hr => by
    have bd := bd_of (P := P) (w := w) (K := K) (mg := mg) (base := base) (outer := outer) (H := H) (E := E) hr sc_lines_of.nd
    exact dss_cons (ds_asg (de_add (db_tm (de_slice (db_var (pv 1)) (do_some (db_tm (de_int))) (do_none))) (db_tm (de_list (da_cons (db_tm (de_callB call_lenA does_lenA rfl m_len rfl (da_cons (db_var (pv 0)) (da_nil)))) (da_nil))))) (dg_name (tn bd 2)))
         (dss_one (ds_ret (de_lc (own := [("first", 3), ("behind", 4)]) bd (di_zipS rfl m_zip (da_cons (db_tm (de_var (pv 1))) (da_cons (db_tm (de_var (pv 2))) (da_nil)))) (blkOk_by (by dsimp only [cxOf, Cx.nox, Cx.wish, Cx.blk, envOfC, compEnvC]; (try simp only [relabel_eq]); decide +kernel)) (fun _ _ _ _ _ => cg_tup (Bd.blk bd) (cgs_cons (cg_name (tn (Bd.blk bd) 3) (by decide)) (cgs_cons (cg_name (tn (Bd.blk bd) 4) (by decide)) (cgs_nil)))) (fun _ _ _ _ _ => dts_nil) (fun _ _ _ _ _ => de_join (db_tm (de_str)) (db_tm (de_slice (db_var (pv 0)) (do_some (db_var (pv 3))) (do_some (db_var (pv 4)))))))))
theorem b_lines_of {f : Addr} {fd : FuncData} (F : L2.Fun K "lines_of" "lines_of" s_lines_of f fd) : Binds K fd ["words", "breaks"] [] := F.binds (ps := ["words", "breaks"]) fun _ _ _ _ _ _ us hl => match us, hl with | [_, _], _ => rfl
theorem k_lines_of {f : Addr} {fd : FuncData} (F : L2.Fun K "lines_of" "lines_of" s_lines_of f fd) (hm : mg "lines_of" = some (.ref f)) (m_len : mg "len" = none) (m_zip : mg "zip" = none) : Cal P w K mg base 1 "lines_of" 2 F_lines_of := cal_mk (ok_lines_of F m_len m_zip) hm F (b_lines_of F)
abbrev s_loss : Stmt := top 10
theorem sc_loss : FnScope ["words", "width", "breaks", "told"] ["words", "width", "breaks"] (L2.defScope s_loss) := ⟨rfl, rfl, rfl, by decide +kernel, rfl, by decide +kernel, by decide +kernel⟩
theorem ok_loss {f : Addr} {fd : FuncData} (F : L2.Fun K "loss" "loss" s_loss f fd) (m_sum : mg "sum" = none) (c_rooms : Cal P w K mg base 4 "rooms" 3 F_rooms) : FnOk P w K mg base CX0 (4 + 1) f fd ["words", "width", "breaks"] (spF K 3 (fnS 3 4 f_loss)) :=
  fn_ok F sc_loss f_loss fun cdv A outer s H E hr => by
    have bd := bd_of (P := P) (w := w) (K := K) (mg := mg) (base := base) (outer := outer) (H := H) (E := E) hr sc_loss.nd
    have hkrooms : 4 ≤ 4 := by decide
    exact dss_one (ds_ret (de_callB (cr_sum bd.calm) does_sum rfl m_sum rfl (da_cons (db_tm (de_lc (own := [("told", 3)]) bd (di_seq (de_slice (db_tm (de_call c_rooms hr hkrooms rfl (da_cons (db_tm (de_var (pv 0))) (da_cons (db_tm (de_var (pv 1))) (da_cons (db_tm (de_var (pv 2))) (da_nil)))) (ar_cons (ar_cons (ar_cons ar_nil))))) (do_none) (do_some (db_tm (de_neg (db_tm (de_int))))))) (blkOk_by (by dsimp only [cxOf, Cx.nox, Cx.wish, Cx.blk, envOfC, compEnvC]; (try simp only [relabel_eq]); decide +kernel)) (fun _ _ _ _ _ => cg_name (tn (Bd.blk bd) 3) (by decide)) (fun _ _ _ _ _ => dts_nil) (fun _ _ _ _ _ => de_mul (db_var (pv 3)) (db_var (pv 3))))) (da_nil))))
theorem b_loss {f : Addr} {fd : FuncData} (F : L2.Fun K "loss" "loss" s_loss f fd) : Binds K fd ["words", "width", "breaks"] [] := F.binds (ps := ["words", "width", "breaks"]) fun _ _ _ _ _ _ us hl => match us, hl with | [_, _, _], _ => rfl
theorem k_loss {f : Addr} {fd : FuncData} (F : L2.Fun K "loss" "loss" s_loss f fd) (hm : mg "loss" = some (.ref f)) (m_sum : mg "sum" = none) (c_rooms : Cal P w K mg base 4 "rooms" 3 F_rooms) : Cal P w K mg base 5 "loss" 3 F_loss := cal_mk (ok_loss F m_sum c_rooms) hm F (b_loss F)
abbrev s_worst : Stmt := top 11
theorem sc_worst : FnScope ["words", "width", "breaks"] ["words", "width", "breaks"] (L2.defScope s_worst) := ⟨rfl, rfl, rfl, by decide +kernel, rfl, by decide +kernel, by decide +kernel⟩
theorem ok_worst {f : Addr} {fd : FuncData} (F : L2.Fun K "worst" "worst" s_worst f fd) (m_max : mg "max" = none) (c_rooms : Cal P w K mg base 4 "rooms" 3 F_rooms) : FnOk P w K mg base CX0 (4 + 1) f fd ["words", "width", "breaks"] (spF K 3 (fnS 3 3 f_worst)) :=
  fn_ok F sc_worst f_worst fun cdv A outer s H E hr => by
    have bd := bd_of (P := P) (w := w) (K := K) (mg := mg) (base := base) (outer := outer) (H := H) (E := E) hr sc_worst.nd
    have hkrooms : 4 ≤ 4 := by decide
    exact dss_one (ds_ret (de_maxDf bd rfl m_max (db_tm (de_slice (db_tm (de_call c_rooms hr hkrooms rfl (da_cons (db_tm (de_var (pv 0))) (da_cons (db_tm (de_var (pv 1))) (da_cons (db_tm (de_var (pv 2))) (da_nil)))) (ar_cons (ar_cons (ar_cons ar_nil))))) (do_none) (do_some (db_tm (de_neg (db_tm (de_int))))))) (db_tm (de_int))))
theorem b_worst {f : Addr} {fd : FuncData} (F : L2.Fun K "worst" "worst" s_worst f fd) : Binds K fd ["words", "width", "breaks"] [] := F.binds (ps := ["words", "width", "breaks"]) fun _ _ _ _ _ _ us hl => match us, hl with | [_, _, _], _ => rfl
theorem k_worst {f : Addr} {fd : FuncData} (F : L2.Fun K "worst" "worst" s_worst f fd) (hm : mg "worst" = some (.ref f)) (m_max : mg "max" = none) (c_rooms : Cal P w K mg base 4 "rooms" 3 F_rooms) : Cal P w K mg base 5 "worst" 3 F_worst := cal_mk (ok_worst F m_max c_rooms) hm F (b_worst F)
abbrev s_filled : Stmt := top 12
theorem sc_filled : FnScope ["words", "width", "found", "behind"] ["words", "width"] (L2.defScope s_filled) := ⟨rfl, rfl, rfl, by decide +kernel, rfl, by decide +kernel, by decide +kernel⟩
theorem ok_filled {f : Addr} {fd : FuncData} (F : L2.Fun K "filled" "filled" s_filled f fd) (m_len : mg "len" = none) (m_range : mg "range" = none) (c_room : Cal P w K mg base 3 "room" 4 F_room) : FnOk P w K mg base CX0 (3 + 1) f fd ["words", "width"] (spF K 2 (fnS 2 4 f_filled)) :=
  fn_ok F sc_filled f_filled fun cdv A outer s H E hr => by
    have bd := bd_of (P := P) (w := w) (K := K) (mg := mg) (base := base) (outer := outer) (H := H) (E := E) hr sc_filled.nd
    have hkroom : 3 ≤ 3 := by decide
    exact dss_cons (ds_asg (de_list (da_cons (db_tm (de_int)) (da_nil))) (dg_name (tn bd 2)))
         (dss_cons (ds_for bd PassesOwn.never [3] (di_rng2 rfl m_range (da_cons (db_tm (de_int)) (da_cons (db_tm (de_add (db_tm (de_callB call_lenA does_lenA rfl m_len rfl (da_cons (db_var (pv 0)) (da_nil)))) (db_tm (de_int)))) (da_nil)))) (dg_name (tn bd 3)) (dss_one (ds_if (dt_cmp op_isC does_is (db_tm (de_call c_room hr hkroom rfl (da_cons (db_tm (de_var (pv 0))) (da_cons (db_tm (de_var (pv 1))) (da_cons (db_tm (de_ix bd (db_var (pv 2)) (db_tm (de_neg (db_tm (de_int)))) (fun _ _ => rfl))) (da_cons (db_tm (de_var (pv 3))) (da_nil))))) (ar_cons (ar_cons (ar_cons (ar_cons ar_nil)))))) (db_tm (de_non)) rfl) (dss_one (ds_expr (dx_append (pv 2) (de_sub (db_var (pv 3)) (db_tm (de_int)))))) (dss_nil))))
         (dss_one (ds_ret (de_mv (pv 2)))))
theorem b_filled {f : Addr} {fd : FuncData} (F : L2.Fun K "filled" "filled" s_filled f fd) : Binds K fd ["words", "width"] [] := F.binds (ps := ["words", "width"]) fun _ _ _ _ _ _ us hl => match us, hl with | [_, _], _ => rfl
theorem k_filled {f : Addr} {fd : FuncData} (F : L2.Fun K "filled" "filled" s_filled f fd) (hm : mg "filled" = some (.ref f)) (m_len : mg "len" = none) (m_range : mg "range" = none) (c_room : Cal P w K mg base 3 "room" 4 F_room) : Cal P w K mg base 4 "filled" 2 F_filled := cal_mk (ok_filled F m_len m_range c_room) hm F (b_filled F)
abbrev s_ways_on : Stmt := top 13
theorem sc_ways_on : FnScope ["words", "width", "table", "first", "found", "behind", "told"] ["words", "width", "table", "first"] (L2.defScope s_ways_on) := ⟨rfl, rfl, rfl, by decide +kernel, rfl, by decide +kernel, by decide +kernel⟩
theorem ok_ways_on {f : Addr} {fd : FuncData} (F : L2.Fun K "ways_on" "ways_on" s_ways_on f fd) (m_len : mg "len" = none) (m_range : mg "range" = none) (c_room : Cal P w K mg base 3 "room" 4 F_room) : FnOk P w K mg base CX0 (3 + 1) f fd ["words", "width", "table", "first"] (spF K 4 (fnS 4 7 f_ways_on)) :=
  fn_ok F sc_ways_on f_ways_on fun cdv A outer s H E hr => by
    have bd := bd_of (P := P) (w := w) (K := K) (mg := mg) (base := base) (outer := outer) (H := H) (E := E) hr sc_ways_on.nd
    have hkroom : 3 ≤ 3 := by decide
    exact dss_cons (ds_if (dt_cmp op_isNotC does_isNot (db_tm (de_call c_room hr hkroom rfl (da_cons (db_tm (de_var (pv 0))) (da_cons (db_tm (de_var (pv 1))) (da_cons (db_tm (de_var (pv 3))) (da_cons (db_tm (de_callB call_lenA does_lenA rfl m_len rfl (da_cons (db_var (pv 0)) (da_nil)))) (da_nil))))) (ar_cons (ar_cons (ar_cons (ar_cons ar_nil)))))) (db_tm (de_non)) rfl) (dss_one (ds_ret (de_list (da_cons (db_tm (de_tuple (da_cons (db_tm (de_int)) (da_cons (db_tm (de_callB call_lenA does_lenA rfl m_len rfl (da_cons (db_var (pv 0)) (da_nil)))) (da_nil))))) (da_nil))))) (dss_nil))
         (dss_cons (ds_asg (de_list (da_nil)) (dg_name (tn bd 4)))
         (dss_cons (ds_for bd PassesOwn.never [5, 6] (di_rng2 rfl m_range (da_cons (db_tm (de_add (db_var (pv 3)) (db_tm (de_int)))) (da_cons (db_tm (de_callB call_lenA does_lenA rfl m_len rfl (da_cons (db_var (pv 0)) (da_nil)))) (da_nil)))) (dg_name (tn bd 5)) (dss_cons (ds_asg (de_call c_room hr hkroom rfl (da_cons (db_tm (de_var (pv 0))) (da_cons (db_tm (de_var (pv 1))) (da_cons (db_tm (de_var (pv 3))) (da_cons (db_tm (de_var (pv 5))) (da_nil))))) (ar_cons (ar_cons (ar_cons (ar_cons ar_nil))))) (dg_name (tn bd 6)))
          (dss_one (ds_if (dt_cmp op_isNotC does_isNot (db_var (pv 6)) (db_tm (de_non)) rfl) (dss_one (ds_expr (dx_append (pv 4) (de_tuple (da_cons (db_tm (de_add (db_tm (de_mul (db_var (pv 6)) (db_var (pv 6)))) (db_tm (de_ix bd (db_var (pv 2)) (db_var (pv 5)) (fun _ _ => rfl))))) (da_cons (db_tm (de_var (pv 5))) (da_nil))))))) (dss_nil)))))
         (dss_one (ds_ret (de_mv (pv 4))))))
theorem b_ways_on {f : Addr} {fd : FuncData} (F : L2.Fun K "ways_on" "ways_on" s_ways_on f fd) : Binds K fd ["words", "width", "table", "first"] [] := F.binds (ps := ["words", "width", "table", "first"]) fun _ _ _ _ _ _ us hl => match us, hl with | [_, _, _, _], _ => rfl
theorem k_ways_on {f : Addr} {fd : FuncData} (F : L2.Fun K "ways_on" "ways_on" s_ways_on f fd) (hm : mg "ways_on" = some (.ref f)) (m_len : mg "len" = none) (m_range : mg "range" = none) (c_room : Cal P w K mg base 3 "room" 4 F_room) : Cal P w K mg base 4 "ways_on" 4 F_ways_on := cal_mk (ok_ways_on F m_len m_range c_room) hm F (b_ways_on F)
abbrev s_least_loss : Stmt := top 14
theorem sc_least_loss : FnScope ["words", "width", "table", "follows", "first", "breaks"] ["words", "width"] (L2.defScope s_least_loss) := ⟨rfl, rfl, rfl, by decide +kernel, rfl, by decide +kernel, by decide +kernel⟩
theorem ok_least_loss {f : Addr} {fd : FuncData} (F : L2.Fun K "least_loss" "least_loss" s_least_loss f fd) (m_len : mg "len" = none) (m_min : mg "min" = none) (m_range : mg "range" = none) (c_ways_on : Cal P w K mg base 4 "ways_on" 4 F_ways_on) : FnOk P w K mg base CX0 (4 + 1) f fd ["words", "width"] (spF K 2 (fnS 2 6 f_least_loss)) :=
  fn_ok F sc_least_loss f_least_loss fun cdv A outer s H E hr => by
    have bd := bd_of (P := P) (w := w) (K := K) (mg := mg) (base := base) (outer := outer) (H := H) (E := E) hr sc_least_loss.nd
    have hkways_on : 4 ≤ 4 := by decide
    exact dss_cons (ds_asg (de_disp (de_callB call_lenA does_lenA rfl m_len rfl (da_cons (db_var (pv 0)) (da_nil))) (de_int)) (dg_name (tn bd 2)))
         (dss_cons (ds_asg (de_dict0) (dg_name (tn bd 3)))
         (dss_cons (ds_for bd PassesOwn.never [4] (di_rng3 rfl m_range (da_cons (db_tm (de_sub (db_tm (de_callB call_lenA does_lenA rfl m_len rfl (da_cons (db_var (pv 0)) (da_nil)))) (db_tm (de_int)))) (da_cons (db_tm (de_neg (db_tm (de_int)))) (da_cons (db_tm (de_neg (db_tm (de_int)))) (da_nil))))) (dg_name (tn bd 4)) (dss_one (ds_asg (de_callB (cr_minA bd) does_minA rfl m_min rfl (da_cons (db_tm (de_call c_ways_on hr hkways_on rfl (da_cons (db_tm (de_var (pv 0))) (da_cons (db_tm (de_var (pv 1))) (da_cons (db_var (pv 2)) (da_cons (db_tm (de_var (pv 4))) (da_nil))))) (ar_cons (ar_cons (ar_cons (ar_cons ar_nil)))))) (da_nil))) (dg_tup bd (dgs_cons (dg_sub bd (pv 2) (db_var (pv 4))) (dgs_cons (dg_sub bd (pv 3) (db_var (pv 4))) (dgs_nil)))))))
         (dss_cons (ds_asg (de_list (da_cons (db_tm (de_int)) (da_nil))) (dg_name (tn bd 5)))
         (dss_cons (ds_while bd PassesOwn.never [] (dt_cmp op_ltIS does_lt (db_tm (de_ix bd (db_var (pv 3)) (db_tm (de_ix bd (db_var (pv 5)) (db_tm (de_neg (db_tm (de_int)))) (fun _ _ => rfl))) (fun _ _ => rfl))) (db_tm (de_callB call_lenA does_lenA rfl m_len rfl (da_cons (db_var (pv 0)) (da_nil)))) rfl) (dss_one (ds_expr (dx_append (pv 5) (de_ix bd (db_var (pv 3)) (db_tm (de_ix bd (db_var (pv 5)) (db_tm (de_neg (db_tm (de_int)))) (fun _ _ => rfl))) (fun _ _ => rfl))))))
         (dss_one (ds_ret (de_tuple (da_cons (db_tm (de_ix bd (db_var (pv 2)) (db_tm (de_int)) (fun _ _ => rfl))) (da_cons (db_tm (de_var (pv 5))) (da_cons (db_tm (de_var (pv 2))) (da_nil)))))))))))
theorem b_least_loss {f : Addr} {fd : FuncData} (F : L2.Fun K "least_loss" "least_loss" s_least_loss f fd) : Binds K fd ["words", "width"] [] := F.binds (ps := ["words", "width"]) fun _ _ _ _ _ _ us hl => match us, hl with | [_, _], _ => rfl
theorem k_least_loss {f : Addr} {fd : FuncData} (F : L2.Fun K "least_loss" "least_loss" s_least_loss f fd) (hm : mg "least_loss" = some (.ref f)) (m_len : mg "len" = none) (m_min : mg "min" = none) (m_range : mg "range" = none) (c_ways_on : Cal P w K mg base 4 "ways_on" 4 F_ways_on) : Cal P w K mg base 5 "least_loss" 2 F_least_loss := cal_mk (ok_least_loss F m_len m_min m_range c_ways_on) hm F (b_least_loss F)
abbrev s_judge_loss : Stmt := top 16
theorem sc_judge_loss : FnScope ["words", "width", "breaks", "table", "count", "first", "number", "_"] ["words", "width", "breaks", "table"] (L2.defScope s_judge_loss) := ⟨rfl, rfl, rfl, by decide +kernel, rfl, by decide +kernel, by decide +kernel⟩
theorem ok_judge_loss {f : Addr} {fd : FuncData} (F : L2.Fun K "judge_loss" "judge_loss" s_judge_loss f fd) (m_any : mg "any" = none) (m_len : mg "len" = none) (m_list : mg "list" = none) (m_range : mg "range" = none) (m_sorted : mg "sorted" = none) (c_are_breaks : Cal P w K mg base 5 "are_breaks" 3 F_are_breaks) (c_ways_on : Cal P w K mg base 4 "ways_on" 4 F_ways_on) (c_loss : Cal P w K mg base 5 "loss" 3 F_loss) : FnOk P w K mg base CX0 (5 + 1) f fd ["words", "width", "breaks", "table"] (spF K 4 (fnS 4 8 f_judge_loss)) :=
  fn_ok F sc_judge_loss f_judge_loss fun cdv A outer s H E hr => by
    have bd := bd_of (P := P) (w := w) (K := K) (mg := mg) (base := base) (outer := outer) (H := H) (E := E) hr sc_judge_loss.nd
    have hkare_breaks : 5 ≤ 5 := by decide
    have hkways_on : 4 ≤ 5 := by decide
    have hkloss : 5 ≤ 5 := by decide
    exact dss_cons (ds_asg (de_callB call_lenA does_lenA rfl m_len rfl (da_cons (db_var (pv 0)) (da_nil))) (dg_name (tn bd 4)))
         (dss_cons (ds_if (dw_t (dw_or (dt_not (dt_b (db_tm (de_call c_are_breaks hr hkare_breaks rfl (da_cons (db_tm (de_var (pv 0))) (da_cons (db_tm (de_var (pv 1))) (da_cons (db_tm (de_var (pv 2))) (da_nil)))) (ar_cons (ar_cons (ar_cons ar_nil))))) (fun _ => rfl))) (dw_or (dt_cmp (op_neB bd) does_ne (db_tm (de_callB (cr_sortedA bd) does_sortedA rfl m_sorted rfl (da_cons (db_var (pv 3)) (da_nil)))) (db_tm (de_lrg1 bd rfl m_list rfl m_range (db_tm (de_add (db_var (pv 4)) (db_tm (de_int)))))) rfl) (dw_or1 (dt_cmp op_gt does_gt (db_tm (de_ix bd (db_var (pv 3)) (db_var (pv 4)) (fun _ _ => rfl))) (db_tm (de_int)) rfl))))) (dss_one (ds_ret (de_bl))) (dss_nil))
         (dss_cons (ds_for bd PassesOwn.never [5] (di_rng1 rfl m_range (da_cons (db_var (pv 4)) (da_nil))) (dg_name (tn bd 5)) (dss_one (ds_if (dt_b (db_tm (de_callB (cr_any bd.calm) does_any rfl m_any rfl (da_cons (db_tm (de_lc (own := [("number", 6), ("_", 7)]) bd (di_seq (de_call c_ways_on hr hkways_on rfl (da_cons (db_tm (de_var (pv 0))) (da_cons (db_tm (de_var (pv 1))) (da_cons (db_var (pv 3)) (da_cons (db_tm (de_var (pv 5))) (da_nil))))) (ar_cons (ar_cons (ar_cons (ar_cons ar_nil)))))) (blkOk_by (by dsimp only [cxOf, Cx.nox, Cx.wish, Cx.blk, envOfC, compEnvC]; (try simp only [relabel_eq]); decide +kernel)) (fun _ _ _ _ _ => cg_tup (Bd.blk bd) (cgs_cons (cg_name (tn (Bd.blk bd) 6) (by decide)) (cgs_cons (cg_name (tn (Bd.blk bd) 7) (by decide)) (cgs_nil)))) (fun _ _ _ _ _ => dts_nil) (fun _ _ _ _ _ => de_v (dv_cmp op_gt does_gt (db_tm (de_ix (Bd.blk bd) (db_var (pv 3)) (db_var (pv 5)) (fun _ _ => rfl))) (db_var (pv 6)) rfl)))) (da_nil)))) (fun _ => rfl)) (dss_one (ds_ret (de_bl))) (dss_nil))))
         (dss_one (ds_ret (de_v (dv_cmp (op_eqB bd) does_eq (db_tm (de_ix bd (db_var (pv 3)) (db_tm (de_int)) (fun _ _ => rfl))) (db_tm (de_call c_loss hr hkloss rfl (da_cons (db_tm (de_var (pv 0))) (da_cons (db_tm (de_var (pv 1))) (da_cons (db_tm (de_var (pv 2))) (da_nil)))) (ar_cons (ar_cons (ar_cons ar_nil))))) rfl))))))
theorem b_judge_loss {f : Addr} {fd : FuncData} (F : L2.Fun K "judge_loss" "judge_loss" s_judge_loss f fd) : Binds K fd ["words", "width", "breaks", "table"] [] := F.binds (ps := ["words", "width", "breaks", "table"]) fun _ _ _ _ _ _ us hl => match us, hl with | [_, _, _, _], _ => rfl
theorem k_judge_loss {f : Addr} {fd : FuncData} (F : L2.Fun K "judge_loss" "judge_loss" s_judge_loss f fd) (hm : mg "judge_loss" = some (.ref f)) (m_any : mg "any" = none) (m_len : mg "len" = none) (m_list : mg "list" = none) (m_range : mg "range" = none) (m_sorted : mg "sorted" = none) (c_are_breaks : Cal P w K mg base 5 "are_breaks" 3 F_are_breaks) (c_ways_on : Cal P w K mg base 4 "ways_on" 4 F_ways_on) (c_loss : Cal P w K mg base 5 "loss" 3 F_loss) : Cal P w K mg base 6 "judge_loss" 4 F_judge_loss := cal_mk (ok_judge_loss F m_any m_len m_list m_range m_sorted c_are_breaks c_ways_on c_loss) hm F (b_judge_loss F)
abbrev s__law_mixed : Stmt := top 18
theorem sc__law_mixed : FnScope ["number", "place", "first", "second", "third"] ["number", "place"] (L2.defScope s__law_mixed) := ⟨rfl, rfl, rfl, by decide +kernel, rfl, by decide +kernel, by decide +kernel⟩
theorem ok__law_mixed {f : Addr} {fd : FuncData} (F : L2.Fun K "_law_mixed" "_law_mixed" s__law_mixed f fd) (m_int : mg "int" = none) : FnOk P w K mg base CX0 (0 + 1) f fd ["number", "place"] (spF K 2 (fnS 2 5 f__law_mixed)) :=
  fn_ok F sc__law_mixed f__law_mixed fun cdv A outer s H E hr => by
    have bd := bd_of (P := P) (w := w) (K := K) (mg := mg) (base := base) (outer := outer) (H := H) (E := E) hr sc__law_mixed.nd
    exact dss_cons (ds_asg (de_mod (db_tm (de_callTy call_int1 does_int rfl m_int rfl (da_cons (db_tm (de_add (db_tm (de_add (db_tm (de_mul (db_var (pv 0)) (db_tm (de_int)))) (db_tm (de_mul (db_var (pv 1)) (db_tm (de_int)))))) (db_tm (de_int)))) (da_nil)))) (db_tm (de_int))) (dg_name (tn bd 2)))
         (dss_cons (ds_asg (de_mod (db_tm (de_callTy call_int1 does_int rfl m_int rfl (da_cons (db_tm (de_add (db_tm (de_add (db_tm (de_mul (db_var (pv 2)) (db_var (pv 2)))) (db_tm (de_mul (db_tm (de_int)) (db_var (pv 2)))))) (db_var (pv 1)))) (da_nil)))) (db_tm (de_int))) (dg_name (tn bd 3)))
         (dss_cons (ds_asg (de_mod (db_tm (de_callTy call_int1 does_int rfl m_int rfl (da_cons (db_tm (de_add (db_tm (de_mul (db_var (pv 3)) (db_var (pv 3)))) (db_var (pv 2)))) (da_nil)))) (db_tm (de_int))) (dg_name (tn bd 4)))
         (dss_one (ds_ret (de_add (db_tm (de_mul (db_var (pv 3)) (db_tm (de_int)))) (db_var (pv 4)))))))
theorem b__law_mixed {f : Addr} {fd : FuncData} (F : L2.Fun K "_law_mixed" "_law_mixed" s__law_mixed f fd) : Binds K fd ["number", "place"] [] := F.binds (ps := ["number", "place"]) fun _ _ _ _ _ _ us hl => match us, hl with | [_, _], _ => rfl
theorem k__law_mixed {f : Addr} {fd : FuncData} (F : L2.Fun K "_law_mixed" "_law_mixed" s__law_mixed f fd) (hm : mg "_law_mixed" = some (.ref f)) (m_int : mg "int" = none) : Cal P w K mg base 1 "_law_mixed" 2 F__law_mixed := cal_mk (ok__law_mixed F m_int) hm F (b__law_mixed F)
abbrev s__law_rest : Stmt := top 19
theorem sc__law_rest : FnScope ["script", "place", "fills", "number"] ["script", "place", "fills"] (L2.defScope s__law_rest) := ⟨rfl, rfl, rfl, by decide +kernel, rfl, by decide +kernel, by decide +kernel⟩
theorem ok__law_rest {f : Addr} {fd : FuncData} (F : L2.Fun K "_law_rest" "_law_rest" s__law_rest f fd) (m_int : mg "int" = none) (m_len : mg "len" = none) (c__law_mixed : Cal P w K mg base 1 "_law_mixed" 2 F__law_mixed) : FnOk P w K mg base CX0 (1 + 1) f fd ["script", "place", "fills"] (spF K 3 (fnS 3 4 f__law_rest)) :=
  fn_ok F sc__law_rest f__law_rest fun cdv A outer s H E hr => by
    have bd := bd_of (P := P) (w := w) (K := K) (mg := mg) (base := base) (outer := outer) (H := H) (E := E) hr sc__law_rest.nd
    have hk_law_mixed : 1 ≤ 1 := by decide
    exact dss_cons (ds_asg (de_int) (dg_name (tn bd 3)))
         (dss_cons (ds_if (dt_cmp op_gt does_gt (db_tm (de_callB call_lenA does_lenA rfl m_len rfl (da_cons (db_var (pv 0)) (da_nil)))) (db_tm (de_int)) rfl) (dss_one (ds_asg (de_callTy call_int1 does_int rfl m_int rfl (da_cons (db_tm (de_ix bd (db_var (pv 0)) (db_tm (de_mod (db_tm (de_callTy call_int1 does_int rfl m_int rfl (da_cons (db_var (pv 1)) (da_nil)))) (db_tm (de_callB call_lenA does_lenA rfl m_len rfl (da_cons (db_var (pv 0)) (da_nil)))))) (fun _ _ => rfl))) (da_nil))) (dg_name (tn bd 3)))) (dss_nil))
         (dss_cons (ds_if (dt_cmp op_ltIS does_lt (db_var (pv 3)) (db_tm (de_int)) rfl) (dss_one (ds_asg (de_sub (db_tm (de_int)) (db_tm (de_mul (db_tm (de_int)) (db_var (pv 3))))) (dg_name (tn bd 3)))) (dss_nil))
         (dss_cons (ds_if (dw_t (dw_and (dt_cmp (op_eqB bd) does_eq (db_var (pv 2)) (db_tm (de_int)) rfl) (dw_and (dt_cmp op_ltIS does_lt (db_var (pv 1)) (db_tm (de_callB call_lenA does_lenA rfl m_len rfl (da_cons (db_var (pv 0)) (da_nil)))) rfl) (dw_and1 (dt_cmp op_ge does_ge (db_var (pv 3)) (db_tm (de_pow (db_tm (de_int)) (db_tm (de_int)))) rfl))))) (dss_one (ds_ret (de_sub (db_var (pv 3)) (db_tm (de_pow (db_tm (de_int)) (db_tm (de_int))))))) (dss_nil))
         (dss_one (ds_ret (de_call c__law_mixed hr hk_law_mixed rfl (da_cons (db_tm (de_add (db_var (pv 3)) (db_tm (de_mul (db_var (pv 2)) (db_tm (de_int)))))) (da_cons (db_tm (de_var (pv 1))) (da_nil))) (ar_cons (ar_cons ar_nil))))))))
theorem b__law_rest {f : Addr} {fd : FuncData} (F : L2.Fun K "_law_rest" "_law_rest" s__law_rest f fd) : Binds K fd ["script", "place", "fills"] [] := F.binds (ps := ["script", "place", "fills"]) fun _ _ _ _ _ _ us hl => match us, hl with | [_, _, _], _ => rfl
theorem k__law_rest {f : Addr} {fd : FuncData} (F : L2.Fun K "_law_rest" "_law_rest" s__law_rest f fd) (hm : mg "_law_rest" = some (.ref f)) (m_int : mg "int" = none) (m_len : mg "len" = none) (c__law_mixed : Cal P w K mg base 1 "_law_mixed" 2 F__law_mixed) : Cal P w K mg base 2 "_law_rest" 3 F__law_rest := cal_mk (ok__law_rest F m_int m_len c__law_mixed) hm F (b__law_rest F)
abbrev s__law_pool : Stmt := top 20
theorem sc__law_pool : FnScope ["script"] ["script"] (L2.defScope s__law_pool) := ⟨rfl, rfl, rfl, by decide +kernel, rfl, by decide +kernel, by decide +kernel⟩
theorem ok__law_pool {f : Addr} {fd : FuncData} (F : L2.Fun K "_law_pool" "_law_pool" s__law_pool f fd) (c__law_rest : Cal P w K mg base 2 "_law_rest" 3 F__law_rest) : FnOk P w K mg base CX0 (2 + 1) f fd ["script"] (spF K 1 (fnS 1 1 f__law_pool)) :=
  fn_ok F sc__law_pool f__law_pool fun cdv A outer s H E hr => by
    have bd := bd_of (P := P) (w := w) (K := K) (mg := mg) (base := base) (outer := outer) (H := H) (E := E) hr sc__law_pool.nd
    have hk_law_rest : 2 ≤ 2 := by decide
    exact dss_one (ds_ret (de_list (da_cons (db_tm (de_var (pv 0))) (da_cons (db_tm (de_int)) (da_cons (db_tm (de_call c__law_rest hr hk_law_rest rfl (da_cons (db_tm (de_var (pv 0))) (da_cons (db_tm (de_int)) (da_cons (db_tm (de_int)) (da_nil)))) (ar_cons (ar_cons (ar_cons ar_nil))))) (da_cons (db_tm (de_int)) (da_nil)))))))
theorem b__law_pool {f : Addr} {fd : FuncData} (F : L2.Fun K "_law_pool" "_law_pool" s__law_pool f fd) : Binds K fd ["script"] [] := F.binds (ps := ["script"]) fun _ _ _ _ _ _ us hl => match us, hl with | [_], _ => rfl
theorem k__law_pool {f : Addr} {fd : FuncData} (F : L2.Fun K "_law_pool" "_law_pool" s__law_pool f fd) (hm : mg "_law_pool" = some (.ref f)) (c__law_rest : Cal P w K mg base 2 "_law_rest" 3 F__law_rest) : Cal P w K mg base 3 "_law_pool" 1 F__law_pool := cal_mk (ok__law_pool F c__law_rest) hm F (b__law_pool F)
abbrev s__law_next : Stmt := top 21
theorem sc__law_next : FnScope ["pool"] ["pool"] (L2.defScope s__law_next) := ⟨rfl, rfl, rfl, by decide +kernel, rfl, by decide +kernel, by decide +kernel⟩
theorem ok__law_next {f : Addr} {fd : FuncData} (F : L2.Fun K "_law_next" "_law_next" s__law_next f fd) (c__law_rest : Cal P w K mg base 2 "_law_rest" 3 F__law_rest) : FnOk P w K mg base CX0 (2 + 1) f fd ["pool"] (spF K 1 (fnS 1 1 f__law_next)) :=
  fn_ok F sc__law_next f__law_next fun cdv A outer s H E hr => by
    have bd := bd_of (P := P) (w := w) (K := K) (mg := mg) (base := base) (outer := outer) (H := H) (E := E) hr sc__law_next.nd
    have hk_law_rest : 2 ≤ 2 := by decide
    exact dss_cons (ds_asg (de_add (db_tm (de_ix bd (db_var (pv 0)) (db_tm (de_int)) (fun _ _ => rfl))) (db_tm (de_int))) (dg_sub bd (pv 0) (db_tm (de_int))))
         (dss_cons (ds_asg (de_call c__law_rest hr hk_law_rest rfl (da_cons (db_tm (de_ix bd (db_var (pv 0)) (db_tm (de_int)) (fun _ _ => rfl))) (da_cons (db_tm (de_ix bd (db_var (pv 0)) (db_tm (de_int)) (fun _ _ => rfl))) (da_cons (db_tm (de_int)) (da_nil)))) (ar_cons (ar_cons (ar_cons ar_nil)))) (dg_sub bd (pv 0) (db_tm (de_int))))
         (dss_one (ds_asg (de_int) (dg_sub bd (pv 0) (db_tm (de_int))))))
theorem b__law_next {f : Addr} {fd : FuncData} (F : L2.Fun K "_law_next" "_law_next" s__law_next f fd) : Binds K fd ["pool"] [] := F.binds (ps := ["pool"]) fun _ _ _ _ _ _ us hl => match us, hl with | [_], _ => rfl
theorem k__law_next {f : Addr} {fd : FuncData} (F : L2.Fun K "_law_next" "_law_next" s__law_next f fd) (hm : mg "_law_next" = some (.ref f)) (c__law_rest : Cal P w K mg base 2 "_law_rest" 3 F__law_rest) : Cal P w K mg base 3 "_law_next" 1 F__law_next := cal_mk (ok__law_next F c__law_rest) hm F (b__law_next F)
abbrev s__law_draw : Stmt := top 22
theorem sc__law_draw : FnScope ["pool", "limit", "value"] ["pool", "limit"] (L2.defScope s__law_draw) := ⟨rfl, rfl, rfl, by decide +kernel, rfl, by decide +kernel, by decide +kernel⟩
theorem ok__law_draw {f : Addr} {fd : FuncData} (F : L2.Fun K "_law_draw" "_law_draw" s__law_draw f fd) (m_int : mg "int" = none) (c__law_rest : Cal P w K mg base 2 "_law_rest" 3 F__law_rest) : FnOk P w K mg base CX0 (2 + 1) f fd ["pool", "limit"] (spF K 2 (fnS 2 3 f__law_draw)) :=
  fn_ok F sc__law_draw f__law_draw fun cdv A outer s H E hr => by
    have bd := bd_of (P := P) (w := w) (K := K) (mg := mg) (base := base) (outer := outer) (H := H) (E := E) hr sc__law_draw.nd
    have hk_law_rest : 2 ≤ 2 := by decide
    exact dss_cons (ds_if (dt_cmp op_leIS does_le (db_tm (de_ix bd (db_var (pv 0)) (db_tm (de_int)) (fun _ _ => rfl))) (db_tm (de_int)) rfl) (dss_cons (ds_asg (de_add (db_tm (de_ix bd (db_var (pv 0)) (db_tm (de_int)) (fun _ _ => rfl))) (db_tm (de_int))) (dg_sub bd (pv 0) (db_tm (de_int))))
          (dss_one (ds_asg (de_call c__law_rest hr hk_law_rest rfl (da_cons (db_tm (de_ix bd (db_var (pv 0)) (db_tm (de_int)) (fun _ _ => rfl))) (da_cons (db_tm (de_ix bd (db_var (pv 0)) (db_tm (de_int)) (fun _ _ => rfl))) (da_cons (db_tm (de_ix bd (db_var (pv 0)) (db_tm (de_int)) (fun _ _ => rfl))) (da_nil)))) (ar_cons (ar_cons (ar_cons ar_nil)))) (dg_sub bd (pv 0) (db_tm (de_int)))))) (dss_nil))
         (dss_cons (ds_asg (de_mod (db_tm (de_callTy call_int1 does_int rfl m_int rfl (da_cons (db_tm (de_ix bd (db_var (pv 0)) (db_tm (de_int)) (fun _ _ => rfl))) (da_nil)))) (db_var (pv 1))) (dg_name (tn bd 2)))
         (dss_cons (ds_asg (de_div (db_tm (de_callTy call_int1 does_int rfl m_int rfl (da_cons (db_tm (de_ix bd (db_var (pv 0)) (db_tm (de_int)) (fun _ _ => rfl))) (da_nil)))) (db_var (pv 1))) (dg_sub bd (pv 0) (db_tm (de_int))))
         (dss_one (ds_ret (de_mv (pv 2))))))
theorem b__law_draw {f : Addr} {fd : FuncData} (F : L2.Fun K "_law_draw" "_law_draw" s__law_draw f fd) : Binds K fd ["pool", "limit"] [] := F.binds (ps := ["pool", "limit"]) fun _ _ _ _ _ _ us hl => match us, hl with | [_, _], _ => rfl
theorem k__law_draw {f : Addr} {fd : FuncData} (F : L2.Fun K "_law_draw" "_law_draw" s__law_draw f fd) (hm : mg "_law_draw" = some (.ref f)) (m_int : mg "int" = none) (c__law_rest : Cal P w K mg base 2 "_law_rest" 3 F__law_rest) : Cal P w K mg base 3 "_law_draw" 2 F__law_draw := cal_mk (ok__law_draw F m_int c__law_rest) hm F (b__law_draw F)
abbrev s__law_pick : Stmt := top 23
theorem sc__law_pick : FnScope ["pool", "options"] ["pool", "options"] (L2.defScope s__law_pick) := ⟨rfl, rfl, rfl, by decide +kernel, rfl, by decide +kernel, by decide +kernel⟩
theorem ok__law_pick {f : Addr} {fd : FuncData} (F : L2.Fun K "_law_pick" "_law_pick" s__law_pick f fd) (m_len : mg "len" = none) (c__law_draw : Cal P w K mg base 3 "_law_draw" 2 F__law_draw) : FnOk P w K mg base CX0 (3 + 1) f fd ["pool", "options"] (spF K 2 (fnS 2 2 f__law_pick)) :=
  fn_ok F sc__law_pick f__law_pick fun cdv A outer s H E hr => by
    have bd := bd_of (P := P) (w := w) (K := K) (mg := mg) (base := base) (outer := outer) (H := H) (E := E) hr sc__law_pick.nd
    have hk_law_draw : 3 ≤ 3 := by decide
    exact dss_one (ds_ret (de_ix bd (db_var (pv 1)) (db_tm (de_call c__law_draw hr hk_law_draw rfl (da_cons (db_var (pv 0)) (da_cons (db_tm (de_callB call_lenA does_lenA rfl m_len rfl (da_cons (db_var (pv 1)) (da_nil)))) (da_nil))) (ar_cons (ar_cons ar_nil)))) (fun _ _ => rfl)))
theorem b__law_pick {f : Addr} {fd : FuncData} (F : L2.Fun K "_law_pick" "_law_pick" s__law_pick f fd) : Binds K fd ["pool", "options"] [] := F.binds (ps := ["pool", "options"]) fun _ _ _ _ _ _ us hl => match us, hl with | [_, _], _ => rfl
theorem k__law_pick {f : Addr} {fd : FuncData} (F : L2.Fun K "_law_pick" "_law_pick" s__law_pick f fd) (hm : mg "_law_pick" = some (.ref f)) (m_len : mg "len" = none) (c__law_draw : Cal P w K mg base 3 "_law_draw" 2 F__law_draw) : Cal P w K mg base 4 "_law_pick" 2 F__law_pick := cal_mk (ok__law_pick F m_len c__law_draw) hm F (b__law_pick F)
abbrev s__law_same : Stmt := top 24
theorem sc__law_same : FnScope ["answer", "due", "key", "k"] ["answer", "due"] (L2.defScope s__law_same) := ⟨rfl, rfl, rfl, by decide +kernel, rfl, by decide +kernel, by decide +kernel⟩
theorem ok__law_same {f : Addr} {fd : FuncData} (F : L2.Fun K "_law_same" "_law_same" s__law_same f fd) (m_all : mg "all" = none) (m_bool : mg "bool" = none) (m_dict : mg "dict" = none) (m_int : mg "int" = none) (m_isinstance : mg "isinstance" = none) (m_len : mg "len" = none) (m_list : mg "list" = none) (m_range : mg "range" = none) (m_str : mg "str" = none) (m_tuple : mg "tuple" = none) {k : Nat} {R : Fn} (cR : Cal P w K mg base k "_law_same" 2 R) : FnOk P w K mg base CX0 (k + 1) f fd ["answer", "due"] (spF K 2 (fnS 2 4 (f__law_same R))) :=
  fn_ok F sc__law_same (f__law_same R) fun cdv A outer s H E hr => by
    have bd := bd_of (P := P) (w := w) (K := K) (mg := mg) (base := base) (outer := outer) (H := H) (E := E) hr sc__law_same.nd
    exact dss_cons (ds_if (dt_v (dv_isi rfl m_isinstance (db_var (pv 1)) rfl m_dict rfl) (fun _ => rfl)) (dss_cons (ds_if (dw_t (dw_or (dt_not (dt_v (dv_isi rfl m_isinstance (db_var (pv 0)) rfl m_dict rfl) (fun _ => rfl))) (dw_or1 (dt_cmp (op_neB bd) does_ne (db_tm (de_callB call_lenA does_lenA rfl m_len rfl (da_cons (db_var (pv 0)) (da_nil)))) (db_tm (de_callB call_lenA does_lenA rfl m_len rfl (da_cons (db_var (pv 1)) (da_nil)))) rfl)))) (dss_one (ds_ret (de_bl))) (dss_nil))
          (dss_one (ds_ret (de_callB (cr_all bd.calm) does_all rfl m_all rfl (da_cons (db_tm (de_lcN (own := [("key", 2)]) bd (pv 1) (blkOk_by (by dsimp only [cxOf, Cx.nox, Cx.wish, Cx.blk, envOfC, compEnvC]; (try simp only [relabel_eq]); decide +kernel)) (fun _ _ _ _ _ => cg_name (tn (Bd.blk bd) 2) (by decide)) (fun _ _ _ _ _ => dts_nil) (fun _ _ _ _ _ => de_v (dv_and (dv_cmp (op_inA (Bd.blk bd)) does_in (db_var (pv 2)) (db_var (pv 0)) rfl) (dv_one (dv_e (de_call cR hr (Nat.le_refl _) rfl (da_cons (db_tm (de_ix (Bd.blk bd) (db_var (pv 0)) (db_var (pv 2)) (fun _ _ => rfl))) (da_cons (db_tm (de_ix (Bd.blk bd) (db_var (pv 1)) (db_var (pv 2)) (fun _ _ => rfl))) (da_nil))) (ar_cons (ar_cons ar_nil))))))))) (da_nil)))))) (dss_nil))
         (dss_cons (ds_if (dw_t (dw_or (dt_v (dv_isi rfl m_isinstance (db_var (pv 1)) rfl m_list rfl) (fun _ => rfl)) (dw_or1 (dt_v (dv_isi rfl m_isinstance (db_var (pv 1)) rfl m_tuple rfl) (fun _ => rfl))))) (dss_cons (ds_if (dw_t (dw_or (dt_cmp (op_neB bd) does_ne (db_tm (de_v (dv_isi rfl m_isinstance (db_var (pv 1)) rfl m_list rfl))) (db_tm (de_v (dv_isi rfl m_isinstance (db_var (pv 0)) rfl m_list rfl))) rfl) (dw_or1 (dt_cmp (op_neB bd) does_ne (db_tm (de_v (dv_isi rfl m_isinstance (db_var (pv 1)) rfl m_tuple rfl))) (db_tm (de_v (dv_isi rfl m_isinstance (db_var (pv 0)) rfl m_tuple rfl))) rfl)))) (dss_one (ds_ret (de_bl))) (dss_nil))
          (dss_one (ds_ret (de_v (dv_and (dv_cmp (op_eqB bd) does_eq (db_tm (de_callB call_lenA does_lenA rfl m_len rfl (da_cons (db_var (pv 0)) (da_nil)))) (db_tm (de_callB call_lenA does_lenA rfl m_len rfl (da_cons (db_var (pv 1)) (da_nil)))) rfl) (dv_one (dv_e (de_callB (cr_all bd.calm) does_all rfl m_all rfl (da_cons (db_tm (de_lc (own := [("k", 3)]) bd (di_rng1 rfl m_range (da_cons (db_tm (de_callB call_lenA does_lenA rfl m_len rfl (da_cons (db_var (pv 1)) (da_nil)))) (da_nil))) (blkOk_by (by dsimp only [cxOf, Cx.nox, Cx.wish, Cx.blk, envOfC, compEnvC]; (try simp only [relabel_eq]); decide +kernel)) (fun _ _ _ _ _ => cg_name (tn (Bd.blk bd) 3) (by decide)) (fun _ _ _ _ _ => dts_nil) (fun _ _ _ _ _ => de_call cR hr (Nat.le_refl _) rfl (da_cons (db_tm (de_ix (Bd.blk bd) (db_var (pv 0)) (db_var (pv 3)) (fun _ _ => rfl))) (da_cons (db_tm (de_ix (Bd.blk bd) (db_var (pv 1)) (db_var (pv 3)) (fun _ _ => rfl))) (da_nil))) (ar_cons (ar_cons ar_nil))))) (da_nil)))))))))) (dss_nil))
         (dss_cons (ds_if (dt_v (dv_isi rfl m_isinstance (db_var (pv 1)) rfl m_str rfl) (fun _ => rfl)) (dss_one (ds_ret (de_v (dv_and (dv_isi rfl m_isinstance (db_var (pv 0)) rfl m_str rfl) (dv_one (dv_cmp (op_eqB bd) does_eq (db_var (pv 0)) (db_var (pv 1)) rfl)))))) (dss_nil))
         (dss_cons (ds_if (dw_t (dw_or (dt_cmp op_isC does_is (db_var (pv 1)) (db_tm (de_non)) rfl) (dw_or (dt_cmp op_isC does_is (db_var (pv 1)) (db_tm (de_bl)) rfl) (dw_or1 (dt_cmp op_isC does_is (db_var (pv 1)) (db_tm (de_bl)) rfl))))) (dss_one (ds_ret (de_v (dv_or (dv_and (dv_cmp op_isC does_is (db_var (pv 1)) (db_tm (de_non)) rfl) (dv_one (dv_cmp op_isC does_is (db_var (pv 0)) (db_tm (de_non)) rfl))) (dv_or (dv_and (dv_cmp op_isC does_is (db_var (pv 1)) (db_tm (de_bl)) rfl) (dv_one (dv_cmp op_isC does_is (db_var (pv 0)) (db_tm (de_bl)) rfl))) (dv_one (dv_and (dv_cmp op_isC does_is (db_var (pv 1)) (db_tm (de_bl)) rfl) (dv_one (dv_cmp op_isC does_is (db_var (pv 0)) (db_tm (de_bl)) rfl))))))))) (dss_nil))
         (dss_one (ds_ret (de_v (dv_and (dv_isi rfl m_isinstance (db_var (pv 0)) rfl m_int rfl) (dv_and (dv_not (dv_isi rfl m_isinstance (db_var (pv 0)) rfl m_bool rfl)) (dv_one (dv_cmp (op_eqB bd) does_eq (db_var (pv 0)) (db_var (pv 1)) rfl))))))))))
theorem b__law_same {f : Addr} {fd : FuncData} (F : L2.Fun K "_law_same" "_law_same" s__law_same f fd) : Binds K fd ["answer", "due"] [] := F.binds (ps := ["answer", "due"]) fun _ _ _ _ _ _ us hl => match us, hl with | [_, _], _ => rfl
theorem n__law_same {f : Addr} {fd : FuncData} (F : L2.Fun K "_law_same" "_law_same" s__law_same f fd) (hm : mg "_law_same" = some (.ref f)) (m_all : mg "all" = none) (m_bool : mg "bool" = none) (m_dict : mg "dict" = none) (m_int : mg "int" = none) (m_isinstance : mg "isinstance" = none) (m_len : mg "len" = none) (m_list : mg "list" = none) (m_range : mg "range" = none) (m_str : mg "str" = none) (m_tuple : mg "tuple" = none) : ∀ k : Nat, FnOk P w K mg base CX0 (1 + k) f fd ["answer", "due"] (spF K 2 (N__law_same k))
  | 0 => fn_stk
  | k + 1 => ok__law_same F m_all m_bool m_dict m_int m_isinstance m_len m_list m_range m_str m_tuple (cal_mk (n__law_same F hm m_all m_bool m_dict m_int m_isinstance m_len m_list m_range m_str m_tuple k) hm F (b__law_same F))
theorem k__law_same {f : Addr} {fd : FuncData} (F : L2.Fun K "_law_same" "_law_same" s__law_same f fd) (hm : mg "_law_same" = some (.ref f)) (m_all : mg "all" = none) (m_bool : mg "bool" = none) (m_dict : mg "dict" = none) (m_int : mg "int" = none) (m_isinstance : mg "isinstance" = none) (m_len : mg "len" = none) (m_list : mg "list" = none) (m_range : mg "range" = none) (m_str : mg "str" = none) (m_tuple : mg "tuple" = none) : Cal P w K mg base 7 "_law_same" 2 F__law_same := cal_mk (n__law_same F hm m_all m_bool m_dict m_int m_isinstance m_len m_list m_range m_str m_tuple 6) hm F (b__law_same F)
abbrev s__law_words_drawn : Stmt := top 25
theorem sc__law_words_drawn : FnScope ["pool", "many", "signs", "found", "k", "turn"] ["pool", "many"] (L2.defScope s__law_words_drawn) := ⟨rfl, rfl, rfl, by decide +kernel, rfl, by decide +kernel, by decide +kernel⟩
theorem ok__law_words_drawn {f : Addr} {fd : FuncData} (F : L2.Fun K "_law_words_drawn" "_law_words_drawn" s__law_words_drawn f fd) (m_int : mg "int" = none) (m_range : mg "range" = none) (c__law_draw : Cal P w K mg base 3 "_law_draw" 2 F__law_draw) (c__law_next : Cal P w K mg base 3 "_law_next" 1 F__law_next) (c__law_pick : Cal P w K mg base 4 "_law_pick" 2 F__law_pick) : FnOk P w K mg base CX0 (4 + 1) f fd ["pool", "many"] (spF K 2 (fnS 2 6 f__law_words_drawn)) :=
  fn_ok F sc__law_words_drawn f__law_words_drawn fun cdv A outer s H E hr => by
    have bd := bd_of (P := P) (w := w) (K := K) (mg := mg) (base := base) (outer := outer) (H := H) (E := E) hr sc__law_words_drawn.nd
    have hk_law_draw : 3 ≤ 4 := by decide
    have hk_law_next : 3 ≤ 4 := by decide
    have hk_law_pick : 4 ≤ 4 := by decide
    exact dss_cons (ds_asg (de_str) (dg_name (tn bd 2)))
         (dss_cons (ds_asg (de_list (da_nil)) (dg_name (tn bd 3)))
         (dss_cons (ds_for bd PassesOwn.never [4] (di_rng1 rfl m_range (da_cons (db_tm (de_add (db_tm (de_int)) (db_tm (de_call c__law_draw hr hk_law_draw rfl (da_cons (db_var (pv 0)) (da_cons (db_tm (de_var (pv 1))) (da_nil))) (ar_cons (ar_cons ar_nil)))))) (da_nil))) (dg_name (tn bd 4)) (dss_cons (ds_if (dt_cmp (op_eqB bd) does_eq (db_tm (de_mod (db_tm (de_callTy call_int1 does_int rfl m_int rfl (da_cons (db_var (pv 4)) (da_nil)))) (db_tm (de_int)))) (db_tm (de_int)) rfl) (dss_one (ds_expr (dx_e (de_call c__law_next hr hk_law_next rfl (da_cons (db_var (pv 0)) (da_nil)) (ar_cons ar_nil))))) (dss_nil))
          (dss_one (ds_expr (dx_append (pv 3) (de_join (db_tm (de_str)) (db_tm (de_lc (own := [("turn", 5)]) bd (di_rng1 rfl m_range (da_cons (db_tm (de_add (db_tm (de_int)) (db_tm (de_call c__law_draw hr hk_law_draw rfl (da_cons (db_var (pv 0)) (da_cons (db_tm (de_call c__law_pick hr hk_law_pick rfl (da_cons (db_var (pv 0)) (da_cons (db_tm (de_list (da_cons (db_tm (de_int)) (da_cons (db_tm (de_int)) (da_nil))))) (da_nil))) (ar_cons (ar_cons ar_nil)))) (da_nil))) (ar_cons (ar_cons ar_nil)))))) (da_nil))) (blkOk_by (by dsimp only [cxOf, Cx.nox, Cx.wish, Cx.blk, envOfC, compEnvC]; (try simp only [relabel_eq]); decide +kernel)) (fun _ _ _ _ _ => cg_name (tn (Bd.blk bd) 5) (by decide)) (fun _ _ _ _ _ => dts_nil) (fun _ _ _ _ _ => de_ix (Bd.blk bd) (db_var (pv 2)) (db_tm (de_call c__law_draw hr hk_law_draw rfl (da_cons (db_var (pv 0)) (da_cons (db_tm (de_int)) (da_nil))) (ar_cons (ar_cons ar_nil)))) (fun _ _ => rfl))))))))))
         (dss_one (ds_ret (de_mv (pv 3))))))
theorem b__law_words_drawn {f : Addr} {fd : FuncData} (F : L2.Fun K "_law_words_drawn" "_law_words_drawn" s__law_words_drawn f fd) : Binds K fd ["pool", "many"] [] := F.binds (ps := ["pool", "many"]) fun _ _ _ _ _ _ us hl => match us, hl with | [_, _], _ => rfl
theorem k__law_words_drawn {f : Addr} {fd : FuncData} (F : L2.Fun K "_law_words_drawn" "_law_words_drawn" s__law_words_drawn f fd) (hm : mg "_law_words_drawn" = some (.ref f)) (m_int : mg "int" = none) (m_range : mg "range" = none) (c__law_draw : Cal P w K mg base 3 "_law_draw" 2 F__law_draw) (c__law_next : Cal P w K mg base 3 "_law_next" 1 F__law_next) (c__law_pick : Cal P w K mg base 4 "_law_pick" 2 F__law_pick) : Cal P w K mg base 5 "_law_words_drawn" 2 F__law_words_drawn := cal_mk (ok__law_words_drawn F m_int m_range c__law_draw c__law_next c__law_pick) hm F (b__law_words_drawn F)
abbrev s__law_wide : Stmt := top 26
theorem sc__law_wide : FnScope ["word", "sign"] ["word"] (L2.defScope s__law_wide) := ⟨rfl, rfl, rfl, by decide +kernel, rfl, by decide +kernel, by decide +kernel⟩
theorem ok__law_wide {f : Addr} {fd : FuncData} (F : L2.Fun K "_law_wide" "_law_wide" s__law_wide f fd) (m_sum : mg "sum" = none) : FnOk P w K mg base CX0 (0 + 1) f fd ["word"] (spF K 1 (fnS 1 2 f__law_wide)) :=
  fn_ok F sc__law_wide f__law_wide fun cdv A outer s H E hr => by
    have bd := bd_of (P := P) (w := w) (K := K) (mg := mg) (base := base) (outer := outer) (H := H) (E := E) hr sc__law_wide.nd
    exact dss_one (ds_ret (de_callB (cr_sum bd.calm) does_sum rfl m_sum rfl (da_cons (db_tm (de_lcN (own := [("sign", 1)]) bd (pv 0) (blkOk_by (by dsimp only [cxOf, Cx.nox, Cx.wish, Cx.blk, envOfC, compEnvC]; (try simp only [relabel_eq]); decide +kernel)) (fun _ _ _ _ _ => cg_name (tn (Bd.blk bd) 1) (by decide)) (fun _ _ _ _ _ => dts_nil) (fun _ _ _ _ _ => de_if (dt_cmp (op_inA (Bd.blk bd)) does_in (db_var (pv 1)) (db_tm (de_str)) rfl) (de_int) (de_int)))) (da_nil))))
theorem b__law_wide {f : Addr} {fd : FuncData} (F : L2.Fun K "_law_wide" "_law_wide" s__law_wide f fd) : Binds K fd ["word"] [] := F.binds (ps := ["word"]) fun _ _ _ _ _ _ us hl => match us, hl with | [_], _ => rfl
theorem k__law_wide {f : Addr} {fd : FuncData} (F : L2.Fun K "_law_wide" "_law_wide" s__law_wide f fd) (hm : mg "_law_wide" = some (.ref f)) (m_sum : mg "sum" = none) : Cal P w K mg base 1 "_law_wide" 1 F__law_wide := cal_mk (ok__law_wide F m_sum) hm F (b__law_wide F)
abbrev s__law_room : Stmt := top 27
theorem sc__law_room : FnScope ["words", "width_v", "first", "behind", "free", "word"] ["words", "width_v", "first", "behind"] (L2.defScope s__law_room) := ⟨rfl, rfl, rfl, by decide +kernel, rfl, by decide +kernel, by decide +kernel⟩
theorem ok__law_room {f : Addr} {fd : FuncData} (F : L2.Fun K "_law_room" "_law_room" s__law_room f fd) (m_sum : mg "sum" = none) (c__law_wide : Cal P w K mg base 1 "_law_wide" 1 F__law_wide) : FnOk P w K mg base CX0 (1 + 1) f fd ["words", "width_v", "first", "behind"] (spF K 4 (fnS 4 6 f__law_room)) :=
  fn_ok F sc__law_room f__law_room fun cdv A outer s H E hr => by
    have bd := bd_of (P := P) (w := w) (K := K) (mg := mg) (base := base) (outer := outer) (H := H) (E := E) hr sc__law_room.nd
    have hk_law_wide : 1 ≤ 1 := by decide
    exact dss_cons (ds_if (dt_cmp op_leIS does_le (db_var (pv 3)) (db_var (pv 2)) rfl) (dss_one (ds_ret (de_non))) (dss_nil))
         (dss_cons (ds_asg (de_sub (db_tm (de_sub (db_var (pv 1)) (db_tm (de_callB (cr_sum bd.calm) does_sum rfl m_sum rfl (da_cons (db_tm (de_lc (own := [("word", 5)]) bd (di_seq (de_slice (db_var (pv 0)) (do_some (db_var (pv 2))) (do_some (db_var (pv 3))))) (blkOk_by (by dsimp only [cxOf, Cx.nox, Cx.wish, Cx.blk, envOfC, compEnvC]; (try simp only [relabel_eq]); decide +kernel)) (fun _ _ _ _ _ => cg_name (tn (Bd.blk bd) 5) (by decide)) (fun _ _ _ _ _ => dts_nil) (fun _ _ _ _ _ => de_call c__law_wide hr hk_law_wide rfl (da_cons (db_tm (de_var (pv 5))) (da_nil)) (ar_cons ar_nil)))) (da_nil)))))) (db_tm (de_sub (db_tm (de_sub (db_var (pv 3)) (db_var (pv 2)))) (db_tm (de_int))))) (dg_name (tn bd 4)))
         (dss_one (ds_ret (de_if (dt_cmp op_ge does_ge (db_var (pv 4)) (db_tm (de_int)) rfl) (de_var (pv 4)) (de_non)))))
theorem b__law_room {f : Addr} {fd : FuncData} (F : L2.Fun K "_law_room" "_law_room" s__law_room f fd) : Binds K fd ["words", "width_v", "first", "behind"] [] := F.binds (ps := ["words", "width_v", "first", "behind"]) fun _ _ _ _ _ _ us hl => match us, hl with | [_, _, _, _], _ => rfl
theorem k__law_room {f : Addr} {fd : FuncData} (F : L2.Fun K "_law_room" "_law_room" s__law_room f fd) (hm : mg "_law_room" = some (.ref f)) (m_sum : mg "sum" = none) (c__law_wide : Cal P w K mg base 1 "_law_wide" 1 F__law_wide) : Cal P w K mg base 2 "_law_room" 4 F__law_room := cal_mk (ok__law_room F m_sum c__law_wide) hm F (b__law_room F)
abbrev s__law_rooms : Stmt := top 28
theorem sc__law_rooms : FnScope ["words", "width_v", "breaks", "ends", "k"] ["words", "width_v", "breaks"] (L2.defScope s__law_rooms) := ⟨rfl, rfl, rfl, by decide +kernel, rfl, by decide +kernel, by decide +kernel⟩
theorem ok__law_rooms {f : Addr} {fd : FuncData} (F : L2.Fun K "_law_rooms" "_law_rooms" s__law_rooms f fd) (m_len : mg "len" = none) (m_range : mg "range" = none) (c__law_room : Cal P w K mg base 2 "_law_room" 4 F__law_room) : FnOk P w K mg base CX0 (2 + 1) f fd ["words", "width_v", "breaks"] (spF K 3 (fnS 3 5 f__law_rooms)) :=
  fn_ok F sc__law_rooms f__law_rooms fun cdv A outer s H E hr => by
    have bd := bd_of (P := P) (w := w) (K := K) (mg := mg) (base := base) (outer := outer) (H := H) (E := E) hr sc__law_rooms.nd
    have hk_law_room : 2 ≤ 2 := by decide
    exact dss_cons (ds_asg (de_add (db_tm (de_slice (db_var (pv 2)) (do_some (db_tm (de_int))) (do_none))) (db_tm (de_list (da_cons (db_tm (de_callB call_lenA does_lenA rfl m_len rfl (da_cons (db_var (pv 0)) (da_nil)))) (da_nil))))) (dg_name (tn bd 3)))
         (dss_one (ds_ret (de_lc (own := [("k", 4)]) bd (di_rng1 rfl m_range (da_cons (db_tm (de_callB call_lenA does_lenA rfl m_len rfl (da_cons (db_var (pv 2)) (da_nil)))) (da_nil))) (blkOk_by (by dsimp only [cxOf, Cx.nox, Cx.wish, Cx.blk, envOfC, compEnvC]; (try simp only [relabel_eq]); decide +kernel)) (fun _ _ _ _ _ => cg_name (tn (Bd.blk bd) 4) (by decide)) (fun _ _ _ _ _ => dts_nil) (fun _ _ _ _ _ => de_call c__law_room hr hk_law_room rfl (da_cons (db_tm (de_var (pv 0))) (da_cons (db_tm (de_var (pv 1))) (da_cons (db_tm (de_ix (Bd.blk bd) (db_var (pv 2)) (db_var (pv 4)) (fun _ _ => rfl))) (da_cons (db_tm (de_ix (Bd.blk bd) (db_var (pv 3)) (db_var (pv 4)) (fun _ _ => rfl))) (da_nil))))) (ar_cons (ar_cons (ar_cons (ar_cons ar_nil))))))))
theorem b__law_rooms {f : Addr} {fd : FuncData} (F : L2.Fun K "_law_rooms" "_law_rooms" s__law_rooms f fd) : Binds K fd ["words", "width_v", "breaks"] [] := F.binds (ps := ["words", "width_v", "breaks"]) fun _ _ _ _ _ _ us hl => match us, hl with | [_, _, _], _ => rfl
theorem k__law_rooms {f : Addr} {fd : FuncData} (F : L2.Fun K "_law_rooms" "_law_rooms" s__law_rooms f fd) (hm : mg "_law_rooms" = some (.ref f)) (m_len : mg "len" = none) (m_range : mg "range" = none) (c__law_room : Cal P w K mg base 2 "_law_room" 4 F__law_room) : Cal P w K mg base 3 "_law_rooms" 3 F__law_rooms := cal_mk (ok__law_rooms F m_len m_range c__law_room) hm F (b__law_rooms F)
abbrev s__law_are_breaks : Stmt := top 29
theorem sc__law_are_breaks : FnScope ["words", "width_v", "breaks", "k", "free"] ["words", "width_v", "breaks"] (L2.defScope s__law_are_breaks) := ⟨rfl, rfl, rfl, by decide +kernel, rfl, by decide +kernel, by decide +kernel⟩
theorem ok__law_are_breaks {f : Addr} {fd : FuncData} (F : L2.Fun K "_law_are_breaks" "_law_are_breaks" s__law_are_breaks f fd) (m_all : mg "all" = none) (m_len : mg "len" = none) (m_range : mg "range" = none) (c__law_rooms : Cal P w K mg base 3 "_law_rooms" 3 F__law_rooms) : FnOk P w K mg base CX0 (3 + 1) f fd ["words", "width_v", "breaks"] (spF K 3 (fnS 3 5 f__law_are_breaks)) :=
  fn_ok F sc__law_are_breaks f__law_are_breaks fun cdv A outer s H E hr => by
    have bd := bd_of (P := P) (w := w) (K := K) (mg := mg) (base := base) (outer := outer) (H := H) (E := E) hr sc__law_are_breaks.nd
    have hk_law_rooms : 3 ≤ 3 := by decide
    exact dss_cons (ds_if (dw_t (dw_or (dt_cmp (op_neB bd) does_ne (db_tm (de_slice (db_var (pv 2)) (do_none) (do_some (db_tm (de_int))))) (db_tm (de_list (da_cons (db_tm (de_int)) (da_nil)))) rfl) (dw_or (dt_not (dt_b (db_tm (de_callB (cr_all bd.calm) does_all rfl m_all rfl (da_cons (db_tm (de_lc (own := [("k", 3)]) bd (di_rng2 rfl m_range (da_cons (db_tm (de_int)) (da_cons (db_tm (de_callB call_lenA does_lenA rfl m_len rfl (da_cons (db_var (pv 2)) (da_nil)))) (da_nil)))) (blkOk_by (by dsimp only [cxOf, Cx.nox, Cx.wish, Cx.blk, envOfC, compEnvC]; (try simp only [relabel_eq]); decide +kernel)) (fun _ _ _ _ _ => cg_name (tn (Bd.blk bd) 3) (by decide)) (fun _ _ _ _ _ => dts_nil) (fun _ _ _ _ _ => de_v (dv_cmp op_ltIS does_lt (db_tm (de_ix (Bd.blk bd) (db_var (pv 2)) (db_tm (de_sub (db_var (pv 3)) (db_tm (de_int)))) (fun _ _ => rfl))) (db_tm (de_ix (Bd.blk bd) (db_var (pv 2)) (db_var (pv 3)) (fun _ _ => rfl))) rfl)))) (da_nil)))) (fun _ => rfl))) (dw_or1 (dt_cmp op_ge does_ge (db_tm (de_ix bd (db_var (pv 2)) (db_tm (de_neg (db_tm (de_int)))) (fun _ _ => rfl))) (db_tm (de_callB call_lenA does_lenA rfl m_len rfl (da_cons (db_var (pv 0)) (da_nil)))) rfl))))) (dss_one (ds_ret (de_bl))) (dss_nil))
         (dss_one (ds_ret (de_callB (cr_all bd.calm) does_all rfl m_all rfl (da_cons (db_tm (de_lc (own := [("free", 4)]) bd (di_seq (de_call c__law_rooms hr hk_law_rooms rfl (da_cons (db_tm (de_var (pv 0))) (da_cons (db_tm (de_var (pv 1))) (da_cons (db_tm (de_var (pv 2))) (da_nil)))) (ar_cons (ar_cons (ar_cons ar_nil))))) (blkOk_by (by dsimp only [cxOf, Cx.nox, Cx.wish, Cx.blk, envOfC, compEnvC]; (try simp only [relabel_eq]); decide +kernel)) (fun _ _ _ _ _ => cg_name (tn (Bd.blk bd) 4) (by decide)) (fun _ _ _ _ _ => dts_nil) (fun _ _ _ _ _ => de_v (dv_cmp op_isNotC does_isNot (db_var (pv 4)) (db_tm (de_non)) rfl)))) (da_nil)))))
theorem b__law_are_breaks {f : Addr} {fd : FuncData} (F : L2.Fun K "_law_are_breaks" "_law_are_breaks" s__law_are_breaks f fd) : Binds K fd ["words", "width_v", "breaks"] [] := F.binds (ps := ["words", "width_v", "breaks"]) fun _ _ _ _ _ _ us hl => match us, hl with | [_, _, _], _ => rfl
theorem k__law_are_breaks {f : Addr} {fd : FuncData} (F : L2.Fun K "_law_are_breaks" "_law_are_breaks" s__law_are_breaks f fd) (hm : mg "_law_are_breaks" = some (.ref f)) (m_all : mg "all" = none) (m_len : mg "len" = none) (m_range : mg "range" = none) (c__law_rooms : Cal P w K mg base 3 "_law_rooms" 3 F__law_rooms) : Cal P w K mg base 4 "_law_are_breaks" 3 F__law_are_breaks := cal_mk (ok__law_are_breaks F m_all m_len m_range c__law_rooms) hm F (b__law_are_breaks F)
abbrev s__law_all_breaks : Stmt := top 30
theorem sc__law_all_breaks : FnScope ["words", "width_v", "found", "done", "turn", "longer", "breaks", "behind"] ["words", "width_v"] (L2.defScope s__law_all_breaks) := ⟨rfl, rfl, rfl, by decide +kernel, rfl, by decide +kernel, by decide +kernel⟩
theorem ok__law_all_breaks {f : Addr} {fd : FuncData} (F : L2.Fun K "_law_all_breaks" "_law_all_breaks" s__law_all_breaks f fd) (m_len : mg "len" = none) (m_range : mg "range" = none) (c__law_room : Cal P w K mg base 2 "_law_room" 4 F__law_room) : FnOk P w K mg base CX0 (2 + 1) f fd ["words", "width_v"] (spF K 2 (fnS 2 8 f__law_all_breaks)) :=
  fn_ok F sc__law_all_breaks f__law_all_breaks fun cdv A outer s H E hr => by
    have bd := bd_of (P := P) (w := w) (K := K) (mg := mg) (base := base) (outer := outer) (H := H) (E := E) hr sc__law_all_breaks.nd
    have hk_law_room : 2 ≤ 2 := by decide
    exact dss_cons (ds_asg (de_list (da_cons (db_tm (de_list (da_cons (db_tm (de_int)) (da_nil)))) (da_nil))) (dg_name (tn bd 2)))
         (dss_cons (ds_asg (de_list (da_nil)) (dg_name (tn bd 3)))
         (dss_cons (ds_for bd PassesOwn.never [4, 5, 6, 7] (di_rng1 rfl m_range (da_cons (db_tm (de_add (db_tm (de_callB call_lenA does_lenA rfl m_len rfl (da_cons (db_var (pv 0)) (da_nil)))) (db_tm (de_int)))) (da_nil))) (dg_name (tn bd 4)) (dss_cons (ds_asg (de_list (da_nil)) (dg_name (tn bd 5)))
          (dss_cons (ds_forN bd PassesOwn.never [6, 7] (pv 2) (dg_name (tn bd 6)) (dss_cons (ds_if (dt_cmp op_isNotC does_isNot (db_tm (de_call c__law_room hr hk_law_room rfl (da_cons (db_tm (de_var (pv 0))) (da_cons (db_tm (de_var (pv 1))) (da_cons (db_tm (de_ix bd (db_var (pv 6)) (db_tm (de_neg (db_tm (de_int)))) (fun _ _ => rfl))) (da_cons (db_tm (de_callB call_lenA does_lenA rfl m_len rfl (da_cons (db_var (pv 0)) (da_nil)))) (da_nil))))) (ar_cons (ar_cons (ar_cons (ar_cons ar_nil)))))) (db_tm (de_non)) rfl) (dss_one (ds_expr (dx_append (pv 3) (de_var (pv 6))))) (dss_nil))
           (dss_one (ds_for bd PassesOwn.never [7] (di_rng2 rfl m_range (da_cons (db_tm (de_add (db_tm (de_ix bd (db_var (pv 6)) (db_tm (de_neg (db_tm (de_int)))) (fun _ _ => rfl))) (db_tm (de_int)))) (da_cons (db_tm (de_callB call_lenA does_lenA rfl m_len rfl (da_cons (db_var (pv 0)) (da_nil)))) (da_nil)))) (dg_name (tn bd 7)) (dss_one (ds_if (dt_cmp op_isNotC does_isNot (db_tm (de_call c__law_room hr hk_law_room rfl (da_cons (db_tm (de_var (pv 0))) (da_cons (db_tm (de_var (pv 1))) (da_cons (db_tm (de_ix bd (db_var (pv 6)) (db_tm (de_neg (db_tm (de_int)))) (fun _ _ => rfl))) (da_cons (db_tm (de_var (pv 7))) (da_nil))))) (ar_cons (ar_cons (ar_cons (ar_cons ar_nil)))))) (db_tm (de_non)) rfl) (dss_one (ds_expr (dx_append (pv 5) (de_add (db_var (pv 6)) (db_tm (de_list (da_cons (db_tm (de_var (pv 7))) (da_nil)))))))) (dss_nil)))))))
          (dss_one (ds_asg (de_var (pv 5)) (dg_name (tn bd 2)))))))
         (dss_one (ds_ret (de_mv (pv 3))))))
theorem b__law_all_breaks {f : Addr} {fd : FuncData} (F : L2.Fun K "_law_all_breaks" "_law_all_breaks" s__law_all_breaks f fd) : Binds K fd ["words", "width_v"] [] := F.binds (ps := ["words", "width_v"]) fun _ _ _ _ _ _ us hl => match us, hl with | [_, _], _ => rfl
theorem k__law_all_breaks {f : Addr} {fd : FuncData} (F : L2.Fun K "_law_all_breaks" "_law_all_breaks" s__law_all_breaks f fd) (hm : mg "_law_all_breaks" = some (.ref f)) (m_len : mg "len" = none) (m_range : mg "range" = none) (c__law_room : Cal P w K mg base 2 "_law_room" 4 F__law_room) : Cal P w K mg base 3 "_law_all_breaks" 2 F__law_all_breaks := cal_mk (ok__law_all_breaks F m_len m_range c__law_room) hm F (b__law_all_breaks F)
abbrev s__law_loss : Stmt := top 31
theorem sc__law_loss : FnScope ["words", "width_v", "breaks", "free"] ["words", "width_v", "breaks"] (L2.defScope s__law_loss) := ⟨rfl, rfl, rfl, by decide +kernel, rfl, by decide +kernel, by decide +kernel⟩
theorem ok__law_loss {f : Addr} {fd : FuncData} (F : L2.Fun K "_law_loss" "_law_loss" s__law_loss f fd) (m_sum : mg "sum" = none) (c__law_rooms : Cal P w K mg base 3 "_law_rooms" 3 F__law_rooms) : FnOk P w K mg base CX0 (3 + 1) f fd ["words", "width_v", "breaks"] (spF K 3 (fnS 3 4 f__law_loss)) :=
  fn_ok F sc__law_loss f__law_loss fun cdv A outer s H E hr => by
    have bd := bd_of (P := P) (w := w) (K := K) (mg := mg) (base := base) (outer := outer) (H := H) (E := E) hr sc__law_loss.nd
    have hk_law_rooms : 3 ≤ 3 := by decide
    exact dss_one (ds_ret (de_callB (cr_sum bd.calm) does_sum rfl m_sum rfl (da_cons (db_tm (de_lc (own := [("free", 3)]) bd (di_seq (de_slice (db_tm (de_call c__law_rooms hr hk_law_rooms rfl (da_cons (db_tm (de_var (pv 0))) (da_cons (db_tm (de_var (pv 1))) (da_cons (db_tm (de_var (pv 2))) (da_nil)))) (ar_cons (ar_cons (ar_cons ar_nil))))) (do_none) (do_some (db_tm (de_neg (db_tm (de_int))))))) (blkOk_by (by dsimp only [cxOf, Cx.nox, Cx.wish, Cx.blk, envOfC, compEnvC]; (try simp only [relabel_eq]); decide +kernel)) (fun _ _ _ _ _ => cg_name (tn (Bd.blk bd) 3) (by decide)) (fun _ _ _ _ _ => dts_nil) (fun _ _ _ _ _ => de_mul (db_var (pv 3)) (db_var (pv 3))))) (da_nil))))
theorem b__law_loss {f : Addr} {fd : FuncData} (F : L2.Fun K "_law_loss" "_law_loss" s__law_loss f fd) : Binds K fd ["words", "width_v", "breaks"] [] := F.binds (ps := ["words", "width_v", "breaks"]) fun _ _ _ _ _ _ us hl => match us, hl with | [_, _, _], _ => rfl
theorem k__law_loss {f : Addr} {fd : FuncData} (F : L2.Fun K "_law_loss" "_law_loss" s__law_loss f fd) (hm : mg "_law_loss" = some (.ref f)) (m_sum : mg "sum" = none) (c__law_rooms : Cal P w K mg base 3 "_law_rooms" 3 F__law_rooms) : Cal P w K mg base 4 "_law_loss" 3 F__law_loss := cal_mk (ok__law_loss F m_sum c__law_rooms) hm F (b__law_loss F)
abbrev s__law_numbers : Stmt := top 32
theorem sc__law_numbers : FnScope ["words", "width_v", "table", "first", "found", "behind", "free"] ["words", "width_v", "table", "first"] (L2.defScope s__law_numbers) := ⟨rfl, rfl, rfl, by decide +kernel, rfl, by decide +kernel, by decide +kernel⟩
theorem ok__law_numbers {f : Addr} {fd : FuncData} (F : L2.Fun K "_law_numbers" "_law_numbers" s__law_numbers f fd) (m_len : mg "len" = none) (m_range : mg "range" = none) (c__law_room : Cal P w K mg base 2 "_law_room" 4 F__law_room) : FnOk P w K mg base CX0 (2 + 1) f fd ["words", "width_v", "table", "first"] (spF K 4 (fnS 4 7 f__law_numbers)) :=
  fn_ok F sc__law_numbers f__law_numbers fun cdv A outer s H E hr => by
    have bd := bd_of (P := P) (w := w) (K := K) (mg := mg) (base := base) (outer := outer) (H := H) (E := E) hr sc__law_numbers.nd
    have hk_law_room : 2 ≤ 2 := by decide
    exact dss_cons (ds_if (dt_cmp op_isNotC does_isNot (db_tm (de_call c__law_room hr hk_law_room rfl (da_cons (db_tm (de_var (pv 0))) (da_cons (db_tm (de_var (pv 1))) (da_cons (db_tm (de_var (pv 3))) (da_cons (db_tm (de_callB call_lenA does_lenA rfl m_len rfl (da_cons (db_var (pv 0)) (da_nil)))) (da_nil))))) (ar_cons (ar_cons (ar_cons (ar_cons ar_nil)))))) (db_tm (de_non)) rfl) (dss_one (ds_ret (de_list (da_cons (db_tm (de_int)) (da_nil))))) (dss_nil))
         (dss_cons (ds_asg (de_list (da_nil)) (dg_name (tn bd 4)))
         (dss_cons (ds_for bd PassesOwn.never [5, 6] (di_rng2 rfl m_range (da_cons (db_tm (de_add (db_var (pv 3)) (db_tm (de_int)))) (da_cons (db_tm (de_callB call_lenA does_lenA rfl m_len rfl (da_cons (db_var (pv 0)) (da_nil)))) (da_nil)))) (dg_name (tn bd 5)) (dss_cons (ds_asg (de_call c__law_room hr hk_law_room rfl (da_cons (db_tm (de_var (pv 0))) (da_cons (db_tm (de_var (pv 1))) (da_cons (db_tm (de_var (pv 3))) (da_cons (db_tm (de_var (pv 5))) (da_nil))))) (ar_cons (ar_cons (ar_cons (ar_cons ar_nil))))) (dg_name (tn bd 6)))
          (dss_one (ds_if (dt_cmp op_isNotC does_isNot (db_var (pv 6)) (db_tm (de_non)) rfl) (dss_one (ds_expr (dx_append (pv 4) (de_add (db_tm (de_mul (db_var (pv 6)) (db_var (pv 6)))) (db_tm (de_ix bd (db_var (pv 2)) (db_var (pv 5)) (fun _ _ => rfl))))))) (dss_nil)))))
         (dss_one (ds_ret (de_mv (pv 4))))))
theorem b__law_numbers {f : Addr} {fd : FuncData} (F : L2.Fun K "_law_numbers" "_law_numbers" s__law_numbers f fd) : Binds K fd ["words", "width_v", "table", "first"] [] := F.binds (ps := ["words", "width_v", "table", "first"]) fun _ _ _ _ _ _ us hl => match us, hl with | [_, _, _, _], _ => rfl
theorem k__law_numbers {f : Addr} {fd : FuncData} (F : L2.Fun K "_law_numbers" "_law_numbers" s__law_numbers f fd) (hm : mg "_law_numbers" = some (.ref f)) (m_len : mg "len" = none) (m_range : mg "range" = none) (c__law_room : Cal P w K mg base 2 "_law_room" 4 F__law_room) : Cal P w K mg base 3 "_law_numbers" 4 F__law_numbers := cal_mk (ok__law_numbers F m_len m_range c__law_room) hm F (b__law_numbers F)
abbrev s__law_right : Stmt := top 33
theorem sc__law_right : FnScope ["words", "width_v", "breaks", "table", "first", "number"] ["words", "width_v", "breaks", "table"] (L2.defScope s__law_right) := ⟨rfl, rfl, rfl, by decide +kernel, rfl, by decide +kernel, by decide +kernel⟩
theorem ok__law_right {f : Addr} {fd : FuncData} (F : L2.Fun K "_law_right" "_law_right" s__law_right f fd) (m_any : mg "any" = none) (m_len : mg "len" = none) (m_list : mg "list" = none) (m_range : mg "range" = none) (m_sorted : mg "sorted" = none) (c__law_are_breaks : Cal P w K mg base 4 "_law_are_breaks" 3 F__law_are_breaks) (c__law_numbers : Cal P w K mg base 3 "_law_numbers" 4 F__law_numbers) (c__law_loss : Cal P w K mg base 4 "_law_loss" 3 F__law_loss) : FnOk P w K mg base CX0 (4 + 1) f fd ["words", "width_v", "breaks", "table"] (spF K 4 (fnS 4 6 f__law_right)) :=
  fn_ok F sc__law_right f__law_right fun cdv A outer s H E hr => by
    have bd := bd_of (P := P) (w := w) (K := K) (mg := mg) (base := base) (outer := outer) (H := H) (E := E) hr sc__law_right.nd
    have hk_law_are_breaks : 4 ≤ 4 := by decide
    have hk_law_numbers : 3 ≤ 4 := by decide
    have hk_law_loss : 4 ≤ 4 := by decide
    exact dss_cons (ds_if (dw_t (dw_or (dt_not (dt_b (db_tm (de_call c__law_are_breaks hr hk_law_are_breaks rfl (da_cons (db_tm (de_var (pv 0))) (da_cons (db_tm (de_var (pv 1))) (da_cons (db_tm (de_var (pv 2))) (da_nil)))) (ar_cons (ar_cons (ar_cons ar_nil))))) (fun _ => rfl))) (dw_or (dt_cmp (op_neB bd) does_ne (db_tm (de_callB (cr_sortedA bd) does_sortedA rfl m_sorted rfl (da_cons (db_var (pv 3)) (da_nil)))) (db_tm (de_lrg1 bd rfl m_list rfl m_range (db_tm (de_add (db_tm (de_callB call_lenA does_lenA rfl m_len rfl (da_cons (db_var (pv 0)) (da_nil)))) (db_tm (de_int)))))) rfl) (dw_or1 (dt_cmp op_gt does_gt (db_tm (de_ix bd (db_var (pv 3)) (db_tm (de_callB call_lenA does_lenA rfl m_len rfl (da_cons (db_var (pv 0)) (da_nil)))) (fun _ _ => rfl))) (db_tm (de_int)) rfl))))) (dss_one (ds_ret (de_bl))) (dss_nil))
         (dss_cons (ds_for bd PassesOwn.never [4] (di_rng1 rfl m_range (da_cons (db_tm (de_callB call_lenA does_lenA rfl m_len rfl (da_cons (db_var (pv 0)) (da_nil)))) (da_nil))) (dg_name (tn bd 4)) (dss_one (ds_if (dt_b (db_tm (de_callB (cr_any bd.calm) does_any rfl m_any rfl (da_cons (db_tm (de_lc (own := [("number", 5)]) bd (di_seq (de_call c__law_numbers hr hk_law_numbers rfl (da_cons (db_tm (de_var (pv 0))) (da_cons (db_tm (de_var (pv 1))) (da_cons (db_var (pv 3)) (da_cons (db_tm (de_var (pv 4))) (da_nil))))) (ar_cons (ar_cons (ar_cons (ar_cons ar_nil)))))) (blkOk_by (by dsimp only [cxOf, Cx.nox, Cx.wish, Cx.blk, envOfC, compEnvC]; (try simp only [relabel_eq]); decide +kernel)) (fun _ _ _ _ _ => cg_name (tn (Bd.blk bd) 5) (by decide)) (fun _ _ _ _ _ => dts_nil) (fun _ _ _ _ _ => de_v (dv_cmp op_gt does_gt (db_tm (de_ix (Bd.blk bd) (db_var (pv 3)) (db_var (pv 4)) (fun _ _ => rfl))) (db_var (pv 5)) rfl)))) (da_nil)))) (fun _ => rfl)) (dss_one (ds_ret (de_bl))) (dss_nil))))
         (dss_one (ds_ret (de_v (dv_cmp (op_eqB bd) does_eq (db_tm (de_ix bd (db_var (pv 3)) (db_tm (de_int)) (fun _ _ => rfl))) (db_tm (de_call c__law_loss hr hk_law_loss rfl (da_cons (db_tm (de_var (pv 0))) (da_cons (db_tm (de_var (pv 1))) (da_cons (db_tm (de_var (pv 2))) (da_nil)))) (ar_cons (ar_cons (ar_cons ar_nil))))) rfl)))))
theorem b__law_right {f : Addr} {fd : FuncData} (F : L2.Fun K "_law_right" "_law_right" s__law_right f fd) : Binds K fd ["words", "width_v", "breaks", "table"] [] := F.binds (ps := ["words", "width_v", "breaks", "table"]) fun _ _ _ _ _ _ us hl => match us, hl with | [_, _, _, _], _ => rfl
theorem k__law_right {f : Addr} {fd : FuncData} (F : L2.Fun K "_law_right" "_law_right" s__law_right f fd) (hm : mg "_law_right" = some (.ref f)) (m_any : mg "any" = none) (m_len : mg "len" = none) (m_list : mg "list" = none) (m_range : mg "range" = none) (m_sorted : mg "sorted" = none) (c__law_are_breaks : Cal P w K mg base 4 "_law_are_breaks" 3 F__law_are_breaks) (c__law_numbers : Cal P w K mg base 3 "_law_numbers" 4 F__law_numbers) (c__law_loss : Cal P w K mg base 4 "_law_loss" 3 F__law_loss) : Cal P w K mg base 5 "_law_right" 4 F__law_right := cal_mk (ok__law_right F m_any m_len m_list m_range m_sorted c__law_are_breaks c__law_numbers c__law_loss) hm F (b__law_right F)
abbrev s__law_bent : Stmt := top 34
theorem sc__law_bent : FnScope ["pool", "words", "breaks", "table", "way", "key"] ["pool", "words", "breaks", "table"] (L2.defScope s__law_bent) := ⟨rfl, rfl, rfl, by decide +kernel, rfl, by decide +kernel, by decide +kernel⟩
theorem ok__law_bent {f : Addr} {fd : FuncData} (F : L2.Fun K "_law_bent" "_law_bent" s__law_bent f fd) (m_dict : mg "dict" = none) (m_len : mg "len" = none) (m_list : mg "list" = none) (m_sorted : mg "sorted" = none) (c__law_draw : Cal P w K mg base 3 "_law_draw" 2 F__law_draw) (c__law_pick : Cal P w K mg base 4 "_law_pick" 2 F__law_pick) : FnOk P w K mg base CX0 (4 + 1) f fd ["pool", "words", "breaks", "table"] (spF K 4 (fnS 4 6 f__law_bent)) :=
  fn_ok F sc__law_bent f__law_bent fun cdv A outer s H E hr => by
    have bd := bd_of (P := P) (w := w) (K := K) (mg := mg) (base := base) (outer := outer) (H := H) (E := E) hr sc__law_bent.nd
    have hk_law_draw : 3 ≤ 4 := by decide
    have hk_law_pick : 4 ≤ 4 := by decide
    exact dss_cons (ds_asg (de_callTy (call_listA bd) does_listA rfl m_list rfl (da_cons (db_var (pv 2)) (da_nil))) (dg_name (tn bd 2)))
         (dss_cons (ds_asg (de_callTy call_dictD does_dict rfl m_dict rfl (da_cons (db_var (pv 3)) (da_nil))) (dg_name (tn bd 3)))
         (dss_cons (ds_asg (de_call c__law_draw hr hk_law_draw rfl (da_cons (db_var (pv 0)) (da_cons (db_tm (de_int)) (da_nil))) (ar_cons (ar_cons ar_nil))) (dg_name (tn bd 4)))
         (dss_cons (ds_asg (de_call c__law_pick hr hk_law_pick rfl (da_cons (db_var (pv 0)) (da_cons (db_tm (de_callB (cr_sortedA bd) does_sortedA rfl m_sorted rfl (da_cons (db_var (pv 3)) (da_nil)))) (da_nil))) (ar_cons (ar_cons ar_nil))) (dg_name (tn bd 5)))
         (dss_cons (ds_if (dt_cmp (op_eqB bd) does_eq (db_var (pv 4)) (db_tm (de_int)) rfl) (dss_one (ds_asg (de_slice (db_var (pv 2)) (do_none) (do_some (db_tm (de_neg (db_tm (de_int)))))) (dg_name (tn bd 2)))) (dss_one (ds_if (dt_cmp (op_eqB bd) does_eq (db_var (pv 4)) (db_tm (de_int)) rfl) (dss_one (ds_asg (de_callB (cr_sortedA bd) does_sortedA rfl m_sorted rfl (da_cons (db_tm (de_add (db_var (pv 2)) (db_tm (de_list (da_cons (db_tm (de_call c__law_draw hr hk_law_draw rfl (da_cons (db_var (pv 0)) (da_cons (db_tm (de_add (db_tm (de_callB call_lenA does_lenA rfl m_len rfl (da_cons (db_var (pv 1)) (da_nil)))) (db_tm (de_int)))) (da_nil))) (ar_cons (ar_cons ar_nil)))) (da_nil)))))) (da_nil))) (dg_name (tn bd 2)))) (dss_one (ds_if (dt_cmp (op_eqB bd) does_eq (db_var (pv 4)) (db_tm (de_int)) rfl) (dss_one (ds_asg (de_add (db_tm (de_ix bd (db_var (pv 3)) (db_var (pv 5)) (fun _ _ => rfl))) (db_tm (de_call c__law_pick hr hk_law_pick rfl (da_cons (db_var (pv 0)) (da_cons (db_tm (de_list (da_cons (db_tm (de_int)) (da_cons (db_tm (de_neg (db_tm (de_int)))) (da_cons (db_tm (de_neg (db_tm (de_int)))) (da_nil)))))) (da_nil))) (ar_cons (ar_cons ar_nil))))) (dg_sub bd (pv 3) (db_var (pv 5))))) (dss_one (ds_if (dt_cmp (op_eqB bd) does_eq (db_var (pv 4)) (db_tm (de_int)) rfl) (dss_one (ds_expr (dx_pop (pv 3) (db_var (pv 5))))) (dss_one (ds_if (dt_cmp (op_eqB bd) does_eq (db_var (pv 4)) (db_tm (de_int)) rfl) (dss_one (ds_asg (de_slice (db_var (pv 2)) (do_some (db_tm (de_int))) (do_none)) (dg_name (tn bd 2)))) (dss_one (ds_asg (de_sub (db_tm (de_ix bd (db_var (pv 3)) (db_tm (de_int)) (fun _ _ => rfl))) (db_tm (de_int))) (dg_sub bd (pv 3) (db_tm (de_int))))))))))))))
         (dss_one (ds_ret (de_list (da_cons (db_tm (de_var (pv 2))) (da_cons (db_tm (de_var (pv 3))) (da_nil))))))))))
theorem b__law_bent {f : Addr} {fd : FuncData} (F : L2.Fun K "_law_bent" "_law_bent" s__law_bent f fd) : Binds K fd ["pool", "words", "breaks", "table"] [] := F.binds (ps := ["pool", "words", "breaks", "table"]) fun _ _ _ _ _ _ us hl => match us, hl with | [_, _, _, _], _ => rfl
theorem k__law_bent {f : Addr} {fd : FuncData} (F : L2.Fun K "_law_bent" "_law_bent" s__law_bent f fd) (hm : mg "_law_bent" = some (.ref f)) (m_dict : mg "dict" = none) (m_len : mg "len" = none) (m_list : mg "list" = none) (m_sorted : mg "sorted" = none) (c__law_draw : Cal P w K mg base 3 "_law_draw" 2 F__law_draw) (c__law_pick : Cal P w K mg base 4 "_law_pick" 2 F__law_pick) : Cal P w K mg base 5 "_law_bent" 4 F__law_bent := cal_mk (ok__law_bent F m_dict m_len m_list m_sorted c__law_draw c__law_pick) hm F (b__law_bent F)
abbrev s__law_filled : Stmt := top 35
theorem sc__law_filled : FnScope ["words", "width_v", "found", "behind"] ["words", "width_v"] (L2.defScope s__law_filled) := ⟨rfl, rfl, rfl, by decide +kernel, rfl, by decide +kernel, by decide +kernel⟩
theorem ok__law_filled {f : Addr} {fd : FuncData} (F : L2.Fun K "_law_filled" "_law_filled" s__law_filled f fd) (m_len : mg "len" = none) (m_range : mg "range" = none) (c__law_room : Cal P w K mg base 2 "_law_room" 4 F__law_room) : FnOk P w K mg base CX0 (2 + 1) f fd ["words", "width_v"] (spF K 2 (fnS 2 4 f__law_filled)) :=
  fn_ok F sc__law_filled f__law_filled fun cdv A outer s H E hr => by
    have bd := bd_of (P := P) (w := w) (K := K) (mg := mg) (base := base) (outer := outer) (H := H) (E := E) hr sc__law_filled.nd
    have hk_law_room : 2 ≤ 2 := by decide
    exact dss_cons (ds_asg (de_list (da_cons (db_tm (de_int)) (da_nil))) (dg_name (tn bd 2)))
         (dss_cons (ds_for bd PassesOwn.never [3] (di_rng2 rfl m_range (da_cons (db_tm (de_int)) (da_cons (db_tm (de_add (db_tm (de_callB call_lenA does_lenA rfl m_len rfl (da_cons (db_var (pv 0)) (da_nil)))) (db_tm (de_int)))) (da_nil)))) (dg_name (tn bd 3)) (dss_one (ds_if (dt_cmp op_isC does_is (db_tm (de_call c__law_room hr hk_law_room rfl (da_cons (db_tm (de_var (pv 0))) (da_cons (db_tm (de_var (pv 1))) (da_cons (db_tm (de_ix bd (db_var (pv 2)) (db_tm (de_neg (db_tm (de_int)))) (fun _ _ => rfl))) (da_cons (db_tm (de_var (pv 3))) (da_nil))))) (ar_cons (ar_cons (ar_cons (ar_cons ar_nil)))))) (db_tm (de_non)) rfl) (dss_one (ds_expr (dx_append (pv 2) (de_sub (db_var (pv 3)) (db_tm (de_int)))))) (dss_nil))))
         (dss_one (ds_ret (de_mv (pv 2)))))
theorem b__law_filled {f : Addr} {fd : FuncData} (F : L2.Fun K "_law_filled" "_law_filled" s__law_filled f fd) : Binds K fd ["words", "width_v"] [] := F.binds (ps := ["words", "width_v"]) fun _ _ _ _ _ _ us hl => match us, hl with | [_, _], _ => rfl
theorem k__law_filled {f : Addr} {fd : FuncData} (F : L2.Fun K "_law_filled" "_law_filled" s__law_filled f fd) (hm : mg "_law_filled" = some (.ref f)) (m_len : mg "len" = none) (m_range : mg "range" = none) (c__law_room : Cal P w K mg base 2 "_law_room" 4 F__law_room) : Cal P w K mg base 3 "_law_filled" 2 F__law_filled := cal_mk (ok__law_filled F m_len m_range c__law_room) hm F (b__law_filled F)
abbrev s_law : Stmt := top 36
theorem sc_law : FnScope ["script", "pool", "words", "width_v", "word", "every", "told", "breaks", "table", "first", "k", "other", "full", "rooms_v", "ends", "behind"] ["script"] (L2.defScope s_law) := ⟨rfl, rfl, rfl, by decide +kernel, rfl, by decide +kernel, by decide +kernel⟩
theorem ok_law {f : Addr} {fd : FuncData} (F : L2.Fun K "law" "law" s_law f fd) (m_dict : mg "dict" = none) (m_len : mg "len" = none) (m_list : mg "list" = none) (m_max : mg "max" = none) (m_min : mg "min" = none) (m_range : mg "range" = none) (c__law_pool : Cal P w K mg base 3 "_law_pool" 1 F__law_pool) (c__law_words_drawn : Cal P w K mg base 5 "_law_words_drawn" 2 F__law_words_drawn) (c__law_wide : Cal P w K mg base 1 "_law_wide" 1 F__law_wide) (c__law_draw : Cal P w K mg base 3 "_law_draw" 2 F__law_draw) (c__law_all_breaks : Cal P w K mg base 3 "_law_all_breaks" 2 F__law_all_breaks) (c_least_loss : Cal P w K mg base 5 "least_loss" 2 F_least_loss) (c__law_loss : Cal P w K mg base 4 "_law_loss" 3 F__law_loss) (c__law_numbers : Cal P w K mg base 3 "_law_numbers" 4 F__law_numbers) (c__law_same : Cal P w K mg base 7 "_law_same" 2 F__law_same) (c__law_bent : Cal P w K mg base 5 "_law_bent" 4 F__law_bent) (c__law_right : Cal P w K mg base 5 "_law_right" 4 F__law_right) (c_judge_loss : Cal P w K mg base 6 "judge_loss" 4 F_judge_loss) (c__law_are_breaks : Cal P w K mg base 4 "_law_are_breaks" 3 F__law_are_breaks) (c_are_breaks : Cal P w K mg base 5 "are_breaks" 3 F_are_breaks) (c_filled : Cal P w K mg base 4 "filled" 2 F_filled) (c__law_filled : Cal P w K mg base 3 "_law_filled" 2 F__law_filled) (c__law_pick : Cal P w K mg base 4 "_law_pick" 2 F__law_pick) (c__law_rooms : Cal P w K mg base 3 "_law_rooms" 3 F__law_rooms) (c_lines_of : Cal P w K mg base 1 "lines_of" 2 F_lines_of) (c_worst : Cal P w K mg base 5 "worst" 3 F_worst) (c_loss : Cal P w K mg base 5 "loss" 3 F_loss) (c__law_room : Cal P w K mg base 2 "_law_room" 4 F__law_room) (c_room : Cal P w K mg base 3 "room" 4 F_room) : FnOk P w K mg base CX0 (7 + 1) f fd ["script"] (spF K 1 (fnS 1 16 f_law)) :=
  fn_ok F sc_law f_law fun cdv A outer s H E hr => by
    have bd := bd_of (P := P) (w := w) (K := K) (mg := mg) (base := base) (outer := outer) (H := H) (E := E) hr sc_law.nd
    have hk_law_pool : 3 ≤ 7 := by decide
    have hk_law_words_drawn : 5 ≤ 7 := by decide
    have hk_law_wide : 1 ≤ 7 := by decide
    have hk_law_draw : 3 ≤ 7 := by decide
    have hk_law_all_breaks : 3 ≤ 7 := by decide
    have hkleast_loss : 5 ≤ 7 := by decide
    have hk_law_loss : 4 ≤ 7 := by decide
    have hk_law_numbers : 3 ≤ 7 := by decide
    have hk_law_same : 7 ≤ 7 := by decide
    have hk_law_bent : 5 ≤ 7 := by decide
    have hk_law_right : 5 ≤ 7 := by decide
    have hkjudge_loss : 6 ≤ 7 := by decide
    have hk_law_are_breaks : 4 ≤ 7 := by decide
    have hkare_breaks : 5 ≤ 7 := by decide
    have hkfilled : 4 ≤ 7 := by decide
    have hk_law_filled : 3 ≤ 7 := by decide
    have hk_law_pick : 4 ≤ 7 := by decide
    have hk_law_rooms : 3 ≤ 7 := by decide
    have hklines_of : 1 ≤ 7 := by decide
    have hkworst : 5 ≤ 7 := by decide
    have hkloss : 5 ≤ 7 := by decide
    have hk_law_room : 2 ≤ 7 := by decide
    have hkroom : 3 ≤ 7 := by decide
    exact dss_cons (ds_asg (de_call c__law_pool hr hk_law_pool rfl (da_cons (db_tm (de_var (pv 0))) (da_nil)) (ar_cons ar_nil)) (dg_name (tn bd 1)))
         (dss_cons (ds_asg (de_call c__law_words_drawn hr hk_law_words_drawn rfl (da_cons (db_var (pv 1)) (da_cons (db_tm (de_int)) (da_nil))) (ar_cons (ar_cons ar_nil))) (dg_name (tn bd 2)))
         (dss_cons (ds_asg (de_add (db_tm (de_callB (cr_maxA bd) does_maxA rfl m_max rfl (da_cons (db_tm (de_lcN (own := [("word", 4)]) bd (pv 2) (blkOk_by (by dsimp only [cxOf, Cx.nox, Cx.wish, Cx.blk, envOfC, compEnvC]; (try simp only [relabel_eq]); decide +kernel)) (fun _ _ _ _ _ => cg_name (tn (Bd.blk bd) 4) (by decide)) (fun _ _ _ _ _ => dts_nil) (fun _ _ _ _ _ => de_call c__law_wide hr hk_law_wide rfl (da_cons (db_tm (de_var (pv 4))) (da_nil)) (ar_cons ar_nil)))) (da_nil)))) (db_tm (de_call c__law_draw hr hk_law_draw rfl (da_cons (db_var (pv 1)) (da_cons (db_tm (de_int)) (da_nil))) (ar_cons (ar_cons ar_nil))))) (dg_name (tn bd 3)))
         (dss_cons (ds_asg (de_call c__law_all_breaks hr hk_law_all_breaks rfl (da_cons (db_tm (de_var (pv 2))) (da_cons (db_tm (de_var (pv 3))) (da_nil))) (ar_cons (ar_cons ar_nil))) (dg_name (tn bd 5)))
         (dss_cons (ds_asg (de_call c_least_loss hr hkleast_loss rfl (da_cons (db_tm (de_callTy (call_listA bd) does_listA rfl m_list rfl (da_cons (db_var (pv 2)) (da_nil)))) (da_cons (db_tm (de_var (pv 3))) (da_nil))) (ar_cons (ar_cons ar_nil))) (dg_name (tn bd 6)))
         (dss_cons (ds_if (dw_t (dw_or (dt_cmp (op_neB bd) does_ne (db_tm (de_ix bd (db_var (pv 6)) (db_tm (de_int)) (fun _ _ => rfl))) (db_tm (de_callB (cr_minA bd) does_minA rfl m_min rfl (da_cons (db_tm (de_lcN (own := [("breaks", 7)]) bd (pv 5) (blkOk_by (by dsimp only [cxOf, Cx.nox, Cx.wish, Cx.blk, envOfC, compEnvC]; (try simp only [relabel_eq]); decide +kernel)) (fun _ _ _ _ _ => cg_name (tn (Bd.blk bd) 7) (by decide)) (fun _ _ _ _ _ => dts_nil) (fun _ _ _ _ _ => de_call c__law_loss hr hk_law_loss rfl (da_cons (db_tm (de_var (pv 2))) (da_cons (db_tm (de_var (pv 3))) (da_cons (db_tm (de_var (pv 7))) (da_nil)))) (ar_cons (ar_cons (ar_cons ar_nil)))))) (da_nil)))) rfl) (dw_or1 (dt_cmp (op_notInA bd) does_notIn (db_tm (de_ix bd (db_var (pv 6)) (db_tm (de_int)) (fun _ _ => rfl))) (db_var (pv 5)) rfl)))) (dss_one (ds_ret (de_bl))) (dss_nil))
         (dss_cons (ds_asg (de_disp (de_callB call_lenA does_lenA rfl m_len rfl (da_cons (db_var (pv 2)) (da_nil))) (de_int)) (dg_name (tn bd 8)))
         (dss_cons (ds_for bd PassesOwn.never [9] (di_rng3 rfl m_range (da_cons (db_tm (de_sub (db_tm (de_callB call_lenA does_lenA rfl m_len rfl (da_cons (db_var (pv 2)) (da_nil)))) (db_tm (de_int)))) (da_cons (db_tm (de_neg (db_tm (de_int)))) (da_cons (db_tm (de_neg (db_tm (de_int)))) (da_nil))))) (dg_name (tn bd 9)) (dss_one (ds_asg (de_callB (cr_minA bd) does_minA rfl m_min rfl (da_cons (db_tm (de_call c__law_numbers hr hk_law_numbers rfl (da_cons (db_tm (de_var (pv 2))) (da_cons (db_tm (de_var (pv 3))) (da_cons (db_var (pv 8)) (da_cons (db_tm (de_var (pv 9))) (da_nil))))) (ar_cons (ar_cons (ar_cons (ar_cons ar_nil)))))) (da_nil))) (dg_sub bd (pv 8) (db_var (pv 9))))))
         (dss_cons (ds_if (dw_t (dw_or (dt_cmp (op_neB bd) does_ne (db_tm (de_call c__law_loss hr hk_law_loss rfl (da_cons (db_tm (de_var (pv 2))) (da_cons (db_tm (de_var (pv 3))) (da_cons (db_tm (de_ix bd (db_var (pv 6)) (db_tm (de_int)) (fun _ _ => rfl))) (da_nil)))) (ar_cons (ar_cons (ar_cons ar_nil))))) (db_tm (de_ix bd (db_var (pv 6)) (db_tm (de_int)) (fun _ _ => rfl))) rfl) (dw_or1 (dt_not (dt_b (db_tm (de_call c__law_same hr hk_law_same rfl (da_cons (db_tm (de_ix bd (db_var (pv 6)) (db_tm (de_int)) (fun _ _ => rfl))) (da_cons (db_tm (de_var (pv 8))) (da_nil))) (ar_cons (ar_cons ar_nil)))) (fun _ => rfl)))))) (dss_one (ds_ret (de_bl))) (dss_nil))
         (dss_cons (ds_for bd PassesOwn.never [7, 10, 11] (di_rng1 rfl m_range (da_cons (db_tm (de_int)) (da_nil))) (dg_name (tn bd 10)) (dss_cons (ds_asg (de_if (dt_cmp (op_eqB bd) does_eq (db_var (pv 10)) (db_tm (de_int)) rfl) (de_list (da_cons (db_tm (de_ix bd (db_var (pv 6)) (db_tm (de_int)) (fun _ _ => rfl))) (da_cons (db_tm (de_ix bd (db_var (pv 6)) (db_tm (de_int)) (fun _ _ => rfl))) (da_nil)))) (de_call c__law_bent hr hk_law_bent rfl (da_cons (db_var (pv 1)) (da_cons (db_tm (de_var (pv 2))) (da_cons (db_tm (de_ix bd (db_var (pv 6)) (db_tm (de_int)) (fun _ _ => rfl))) (da_cons (db_tm (de_ix bd (db_var (pv 6)) (db_tm (de_int)) (fun _ _ => rfl))) (da_nil))))) (ar_cons (ar_cons (ar_cons (ar_cons ar_nil)))))) (dg_tup bd (dgs_cons (dg_name (tn bd 7)) (dgs_cons (dg_name (tn bd 11)) (dgs_nil)))))
          (dss_cons (ds_if (dt_not (dt_b (db_tm (de_call c__law_same hr hk_law_same rfl (da_cons (db_tm (de_call c_judge_loss hr hkjudge_loss rfl (da_cons (db_tm (de_var (pv 2))) (da_cons (db_tm (de_var (pv 3))) (da_cons (db_tm (de_callTy (call_listA bd) does_listA rfl m_list rfl (da_cons (db_var (pv 7)) (da_nil)))) (da_cons (db_tm (de_callTy call_dictD does_dict rfl m_dict rfl (da_cons (db_var (pv 11)) (da_nil)))) (da_nil))))) (ar_cons (ar_cons (ar_cons (ar_cons ar_nil)))))) (da_cons (db_tm (de_call c__law_right hr hk_law_right rfl (da_cons (db_tm (de_var (pv 2))) (da_cons (db_tm (de_var (pv 3))) (da_cons (db_tm (de_var (pv 7))) (da_cons (db_tm (de_var (pv 11))) (da_nil))))) (ar_cons (ar_cons (ar_cons (ar_cons ar_nil)))))) (da_nil))) (ar_cons (ar_cons ar_nil)))) (fun _ => rfl))) (dss_one (ds_ret (de_bl))) (dss_nil))
          (dss_one (ds_if (dt_not (dt_b (db_tm (de_call c__law_same hr hk_law_same rfl (da_cons (db_tm (de_call c_are_breaks hr hkare_breaks rfl (da_cons (db_tm (de_var (pv 2))) (da_cons (db_tm (de_var (pv 3))) (da_cons (db_tm (de_callTy (call_listA bd) does_listA rfl m_list rfl (da_cons (db_var (pv 7)) (da_nil)))) (da_nil)))) (ar_cons (ar_cons (ar_cons ar_nil))))) (da_cons (db_tm (de_call c__law_are_breaks hr hk_law_are_breaks rfl (da_cons (db_tm (de_var (pv 2))) (da_cons (db_tm (de_var (pv 3))) (da_cons (db_tm (de_var (pv 7))) (da_nil)))) (ar_cons (ar_cons (ar_cons ar_nil))))) (da_nil))) (ar_cons (ar_cons ar_nil)))) (fun _ => rfl))) (dss_one (ds_ret (de_bl))) (dss_nil))))))
         (dss_cons (ds_asg (de_call c_filled hr hkfilled rfl (da_cons (db_tm (de_callTy (call_listA bd) does_listA rfl m_list rfl (da_cons (db_var (pv 2)) (da_nil)))) (da_cons (db_tm (de_var (pv 3))) (da_nil))) (ar_cons (ar_cons ar_nil))) (dg_name (tn bd 12)))
         (dss_cons (ds_if (dw_t (dw_or (dt_cmp (op_neB bd) does_ne (db_var (pv 12)) (db_tm (de_call c__law_filled hr hk_law_filled rfl (da_cons (db_tm (de_var (pv 2))) (da_cons (db_tm (de_var (pv 3))) (da_nil))) (ar_cons (ar_cons ar_nil)))) rfl) (dw_or (dt_cmp (op_notInA bd) does_notIn (db_var (pv 12)) (db_var (pv 5)) rfl) (dw_or1 (dt_cmp (op_neB bd) does_ne (db_tm (de_callB call_lenA does_lenA rfl m_len rfl (da_cons (db_var (pv 12)) (da_nil)))) (db_tm (de_callB (cr_minA bd) does_minA rfl m_min rfl (da_cons (db_tm (de_lcN (own := [("breaks", 7)]) bd (pv 5) (blkOk_by (by dsimp only [cxOf, Cx.nox, Cx.wish, Cx.blk, envOfC, compEnvC]; (try simp only [relabel_eq]); decide +kernel)) (fun _ _ _ _ _ => cg_name (tn (Bd.blk bd) 7) (by decide)) (fun _ _ _ _ _ => dts_nil) (fun _ _ _ _ _ => de_callB call_lenA does_lenA rfl m_len rfl (da_cons (db_var (pv 7)) (da_nil))))) (da_nil)))) rfl))))) (dss_one (ds_ret (de_bl))) (dss_nil))
         (dss_cons (ds_asg (de_call c__law_pick hr hk_law_pick rfl (da_cons (db_var (pv 1)) (da_cons (db_tm (de_var (pv 5))) (da_nil))) (ar_cons (ar_cons ar_nil))) (dg_name (tn bd 7)))
         (dss_cons (ds_asg (de_call c__law_rooms hr hk_law_rooms rfl (da_cons (db_tm (de_var (pv 2))) (da_cons (db_tm (de_var (pv 3))) (da_cons (db_tm (de_var (pv 7))) (da_nil)))) (ar_cons (ar_cons (ar_cons ar_nil)))) (dg_name (tn bd 13)))
         (dss_cons (ds_asg (de_add (db_tm (de_slice (db_var (pv 7)) (do_some (db_tm (de_int))) (do_none))) (db_tm (de_list (da_cons (db_tm (de_callB call_lenA does_lenA rfl m_len rfl (da_cons (db_var (pv 2)) (da_nil)))) (da_nil))))) (dg_name (tn bd 14)))
         (dss_cons (ds_if (dt_not (dt_b (db_tm (de_call c__law_same hr hk_law_same rfl (da_cons (db_tm (de_call c_lines_of hr hklines_of rfl (da_cons (db_tm (de_var (pv 2))) (da_cons (db_tm (de_var (pv 7))) (da_nil))) (ar_cons (ar_cons ar_nil)))) (da_cons (db_tm (de_lc (own := [("k", 10)]) bd (di_rng1 rfl m_range (da_cons (db_tm (de_callB call_lenA does_lenA rfl m_len rfl (da_cons (db_var (pv 7)) (da_nil)))) (da_nil))) (blkOk_by (by dsimp only [cxOf, Cx.nox, Cx.wish, Cx.blk, envOfC, compEnvC]; (try simp only [relabel_eq]); decide +kernel)) (fun _ _ _ _ _ => cg_name (tn (Bd.blk bd) 10) (by decide)) (fun _ _ _ _ _ => dts_nil) (fun _ _ _ _ _ => de_join (db_tm (de_str)) (db_tm (de_slice (db_var (pv 2)) (do_some (db_tm (de_ix (Bd.blk bd) (db_var (pv 7)) (db_var (pv 10)) (fun _ _ => rfl)))) (do_some (db_tm (de_ix (Bd.blk bd) (db_var (pv 14)) (db_var (pv 10)) (fun _ _ => rfl))))))))) (da_nil))) (ar_cons (ar_cons ar_nil)))) (fun _ => rfl))) (dss_one (ds_ret (de_bl))) (dss_nil))
         (dss_cons (ds_if (dt_not (dt_b (db_tm (de_call c__law_same hr hk_law_same rfl (da_cons (db_tm (de_list (da_cons (db_tm (de_call c_loss hr hkloss rfl (da_cons (db_tm (de_var (pv 2))) (da_cons (db_tm (de_var (pv 3))) (da_cons (db_tm (de_var (pv 7))) (da_nil)))) (ar_cons (ar_cons (ar_cons ar_nil))))) (da_cons (db_tm (de_call c_worst hr hkworst rfl (da_cons (db_tm (de_var (pv 2))) (da_cons (db_tm (de_var (pv 3))) (da_cons (db_tm (de_var (pv 7))) (da_nil)))) (ar_cons (ar_cons (ar_cons ar_nil))))) (da_nil))))) (da_cons (db_tm (de_list (da_cons (db_tm (de_call c__law_loss hr hk_law_loss rfl (da_cons (db_tm (de_var (pv 2))) (da_cons (db_tm (de_var (pv 3))) (da_cons (db_tm (de_var (pv 7))) (da_nil)))) (ar_cons (ar_cons (ar_cons ar_nil))))) (da_cons (db_tm (de_callB (cr_maxA bd) does_maxA rfl m_max rfl (da_cons (db_tm (de_add (db_tm (de_slice (db_var (pv 13)) (do_none) (do_some (db_tm (de_neg (db_tm (de_int))))))) (db_tm (de_list (da_cons (db_tm (de_int)) (da_nil)))))) (da_nil)))) (da_nil))))) (da_nil))) (ar_cons (ar_cons ar_nil)))) (fun _ => rfl))) (dss_one (ds_ret (de_bl))) (dss_nil))
         (dss_cons (ds_asg (de_call c__law_draw hr hk_law_draw rfl (da_cons (db_var (pv 1)) (da_cons (db_tm (de_callB call_lenA does_lenA rfl m_len rfl (da_cons (db_var (pv 2)) (da_nil)))) (da_nil))) (ar_cons (ar_cons ar_nil))) (dg_name (tn bd 9)))
         (dss_cons (ds_asg (de_call c__law_draw hr hk_law_draw rfl (da_cons (db_var (pv 1)) (da_cons (db_tm (de_add (db_tm (de_callB call_lenA does_lenA rfl m_len rfl (da_cons (db_var (pv 2)) (da_nil)))) (db_tm (de_int)))) (da_nil))) (ar_cons (ar_cons ar_nil))) (dg_name (tn bd 15)))
         (dss_one (ds_ret (de_call c__law_same hr hk_law_same rfl (da_cons (db_tm (de_call c_room hr hkroom rfl (da_cons (db_tm (de_var (pv 2))) (da_cons (db_tm (de_var (pv 3))) (da_cons (db_tm (de_var (pv 9))) (da_cons (db_tm (de_var (pv 15))) (da_nil))))) (ar_cons (ar_cons (ar_cons (ar_cons ar_nil)))))) (da_cons (db_tm (de_call c__law_room hr hk_law_room rfl (da_cons (db_tm (de_var (pv 2))) (da_cons (db_tm (de_var (pv 3))) (da_cons (db_tm (de_var (pv 9))) (da_cons (db_tm (de_var (pv 15))) (da_nil))))) (ar_cons (ar_cons (ar_cons (ar_cons ar_nil)))))) (da_nil))) (ar_cons (ar_cons ar_nil)))))))))))))))))))))))
theorem b_law {f : Addr} {fd : FuncData} (F : L2.Fun K "law" "law" s_law f fd) : Binds K fd ["script"] [] := F.binds (ps := ["script"]) fun _ _ _ _ _ _ us hl => match us, hl with | [_], _ => rfl
theorem k_law {f : Addr} {fd : FuncData} (F : L2.Fun K "law" "law" s_law f fd) (hm : mg "law" = some (.ref f)) (m_dict : mg "dict" = none) (m_len : mg "len" = none) (m_list : mg "list" = none) (m_max : mg "max" = none) (m_min : mg "min" = none) (m_range : mg "range" = none) (c__law_pool : Cal P w K mg base 3 "_law_pool" 1 F__law_pool) (c__law_words_drawn : Cal P w K mg base 5 "_law_words_drawn" 2 F__law_words_drawn) (c__law_wide : Cal P w K mg base 1 "_law_wide" 1 F__law_wide) (c__law_draw : Cal P w K mg base 3 "_law_draw" 2 F__law_draw) (c__law_all_breaks : Cal P w K mg base 3 "_law_all_breaks" 2 F__law_all_breaks) (c_least_loss : Cal P w K mg base 5 "least_loss" 2 F_least_loss) (c__law_loss : Cal P w K mg base 4 "_law_loss" 3 F__law_loss) (c__law_numbers : Cal P w K mg base 3 "_law_numbers" 4 F__law_numbers) (c__law_same : Cal P w K mg base 7 "_law_same" 2 F__law_same) (c__law_bent : Cal P w K mg base 5 "_law_bent" 4 F__law_bent) (c__law_right : Cal P w K mg base 5 "_law_right" 4 F__law_right) (c_judge_loss : Cal P w K mg base 6 "judge_loss" 4 F_judge_loss) (c__law_are_breaks : Cal P w K mg base 4 "_law_are_breaks" 3 F__law_are_breaks) (c_are_breaks : Cal P w K mg base 5 "are_breaks" 3 F_are_breaks) (c_filled : Cal P w K mg base 4 "filled" 2 F_filled) (c__law_filled : Cal P w K mg base 3 "_law_filled" 2 F__law_filled) (c__law_pick : Cal P w K mg base 4 "_law_pick" 2 F__law_pick) (c__law_rooms : Cal P w K mg base 3 "_law_rooms" 3 F__law_rooms) (c_lines_of : Cal P w K mg base 1 "lines_of" 2 F_lines_of) (c_worst : Cal P w K mg base 5 "worst" 3 F_worst) (c_loss : Cal P w K mg base 5 "loss" 3 F_loss) (c__law_room : Cal P w K mg base 2 "_law_room" 4 F__law_room) (c_room : Cal P w K mg base 3 "room" 4 F_room) : Cal P w K mg base 8 "law" 1 F_law := cal_mk (ok_law F m_dict m_len m_list m_max m_min m_range c__law_pool c__law_words_drawn c__law_wide c__law_draw c__law_all_breaks c_least_loss c__law_loss c__law_numbers c__law_same c__law_bent c__law_right c_judge_loss c__law_are_breaks c_are_breaks c_filled c__law_filled c__law_pick c__law_rooms c_lines_of c_worst c_loss c__law_room c_room) hm F (b_law F)
end
end Y
namespace Y
open PySem PySem.Spec PyProof.Rows L2
theorem all_mk {l : PySem.W.OpenLaw} {w : World} {K : PySem.W.Frag} {h : Heap} {mg : Str → Option Value} {fa f1 f2 f3 f4 f5 f6 f7 f8 f9 f10 f11 f12 f13 f14 f15 f16 f17 f18 f19 f20 f21 f22 f23 f24 f25 f26 f27 f28 f29 f30 f31 : Addr} (X : K.In h) (G : h.Ns mainGlobals mg) (hfa : mg "law" = some (.ref fa))
    {od1 an1 od2 an2 od3 an3 od4 an4 od5 an5 od6 an6 od7 an7 od8 an8 od9 an9 od10 an10 od11 an11 od12 an12 od13 an13 od14 an14 od15 an15 od16 an16 od17 an17 od18 an18 od19 an19 od20 an20 od21 an21 od22 an22 od23 an23 od24 an24 od25 an25 od26 an26 od27 an27 od28 an28 od29 an29 od30 an30 od31 an31 : Option Addr} {sl1 sl2 sl3 sl4 sl5 sl6 sl7 sl8 sl9 sl10 sl11 sl12 sl13 sl14 sl15 sl16 sl17 sl18 sl19 sl20 sl21 sl22 sl23 sl24 sl25 sl26 sl27 sl28 sl29 sl30 sl31 : Array (Option Value)} {oc1 kV1 dc1 pm1 cd1 ct1 oc2 kV2 dc2 pm2 cd2 ct2 oc3 kV3 dc3 pm3 cd3 ct3 oc4 kV4 dc4 pm4 cd4 ct4 oc5 kV5 dc5 pm5 cd5 ct5 oc6 kV6 dc6 pm6 cd6 ct6 oc7 kV7 dc7 pm7 cd7 ct7 oc8 kV8 dc8 pm8 cd8 ct8 oc9 kV9 dc9 pm9 cd9 ct9 oc10 kV10 dc10 pm10 cd10 ct10 oc11 kV11 dc11 pm11 cd11 ct11 oc12 kV12 dc12 pm12 cd12 ct12 oc13 kV13 dc13 pm13 cd13 ct13 oc14 kV14 dc14 pm14 cd14 ct14 oc15 kV15 dc15 pm15 cd15 ct15 oc16 kV16 dc16 pm16 cd16 ct16 oc17 kV17 dc17 pm17 cd17 ct17 oc18 kV18 dc18 pm18 cd18 ct18 oc19 kV19 dc19 pm19 cd19 ct19 oc20 kV20 dc20 pm20 cd20 ct20 oc21 kV21 dc21 pm21 cd21 ct21 oc22 kV22 dc22 pm22 cd22 ct22 oc23 kV23 dc23 pm23 cd23 ct23 oc24 kV24 dc24 pm24 cd24 ct24 oc25 kV25 dc25 pm25 cd25 ct25 oc26 kV26 dc26 pm26 cd26 ct26 oc27 kV27 dc27 pm27 cd27 ct27 oc28 kV28 dc28 pm28 cd28 ct28 oc29 kV29 dc29 pm29 cd29 ct29 oc30 kV30 dc30 pm30 cd30 ct30 oc31 kV31 dc31 pm31 cd31 ct31 : Value}
    (a1 : PySem.W.nsIn K mainGlobals "_law_mixed" = some (some (.ref f1))) (l1 : K.lookup f1 = some ⟨oc1, od1, .func (PySem.W.fnOf "_law_mixed" "_law_mixed" (L2.defArgs s__law_mixed) (L2.defBody s__law_mixed) (L2.defScope s__law_mixed) .none kV1 dc1 pm1 an1 cd1 ct1), sl1⟩) (c1 : PySem.W.codeIn K cd1 "_law_mixed" = true) (k1 : PySem.W.keepIn K (.ref f1) = true)
    (a2 : PySem.W.nsIn K mainGlobals "_law_rest" = some (some (.ref f2))) (l2 : K.lookup f2 = some ⟨oc2, od2, .func (PySem.W.fnOf "_law_rest" "_law_rest" (L2.defArgs s__law_rest) (L2.defBody s__law_rest) (L2.defScope s__law_rest) .none kV2 dc2 pm2 an2 cd2 ct2), sl2⟩) (c2 : PySem.W.codeIn K cd2 "_law_rest" = true) (k2 : PySem.W.keepIn K (.ref f2) = true)
    (a3 : PySem.W.nsIn K mainGlobals "_law_pool" = some (some (.ref f3))) (l3 : K.lookup f3 = some ⟨oc3, od3, .func (PySem.W.fnOf "_law_pool" "_law_pool" (L2.defArgs s__law_pool) (L2.defBody s__law_pool) (L2.defScope s__law_pool) .none kV3 dc3 pm3 an3 cd3 ct3), sl3⟩) (c3 : PySem.W.codeIn K cd3 "_law_pool" = true) (k3 : PySem.W.keepIn K (.ref f3) = true)
    (a4 : PySem.W.nsIn K mainGlobals "_law_draw" = some (some (.ref f4))) (l4 : K.lookup f4 = some ⟨oc4, od4, .func (PySem.W.fnOf "_law_draw" "_law_draw" (L2.defArgs s__law_draw) (L2.defBody s__law_draw) (L2.defScope s__law_draw) .none kV4 dc4 pm4 an4 cd4 ct4), sl4⟩) (c4 : PySem.W.codeIn K cd4 "_law_draw" = true) (k4 : PySem.W.keepIn K (.ref f4) = true)
    (a5 : PySem.W.nsIn K mainGlobals "_law_next" = some (some (.ref f5))) (l5 : K.lookup f5 = some ⟨oc5, od5, .func (PySem.W.fnOf "_law_next" "_law_next" (L2.defArgs s__law_next) (L2.defBody s__law_next) (L2.defScope s__law_next) .none kV5 dc5 pm5 an5 cd5 ct5), sl5⟩) (c5 : PySem.W.codeIn K cd5 "_law_next" = true) (k5 : PySem.W.keepIn K (.ref f5) = true)
    (a6 : PySem.W.nsIn K mainGlobals "_law_pick" = some (some (.ref f6))) (l6 : K.lookup f6 = some ⟨oc6, od6, .func (PySem.W.fnOf "_law_pick" "_law_pick" (L2.defArgs s__law_pick) (L2.defBody s__law_pick) (L2.defScope s__law_pick) .none kV6 dc6 pm6 an6 cd6 ct6), sl6⟩) (c6 : PySem.W.codeIn K cd6 "_law_pick" = true) (k6 : PySem.W.keepIn K (.ref f6) = true)
    (a7 : PySem.W.nsIn K mainGlobals "_law_words_drawn" = some (some (.ref f7))) (l7 : K.lookup f7 = some ⟨oc7, od7, .func (PySem.W.fnOf "_law_words_drawn" "_law_words_drawn" (L2.defArgs s__law_words_drawn) (L2.defBody s__law_words_drawn) (L2.defScope s__law_words_drawn) .none kV7 dc7 pm7 an7 cd7 ct7), sl7⟩) (c7 : PySem.W.codeIn K cd7 "_law_words_drawn" = true) (k7 : PySem.W.keepIn K (.ref f7) = true)
    (a8 : PySem.W.nsIn K mainGlobals "_law_wide" = some (some (.ref f8))) (l8 : K.lookup f8 = some ⟨oc8, od8, .func (PySem.W.fnOf "_law_wide" "_law_wide" (L2.defArgs s__law_wide) (L2.defBody s__law_wide) (L2.defScope s__law_wide) .none kV8 dc8 pm8 an8 cd8 ct8), sl8⟩) (c8 : PySem.W.codeIn K cd8 "_law_wide" = true) (k8 : PySem.W.keepIn K (.ref f8) = true)
    (a9 : PySem.W.nsIn K mainGlobals "_law_room" = some (some (.ref f9))) (l9 : K.lookup f9 = some ⟨oc9, od9, .func (PySem.W.fnOf "_law_room" "_law_room" (L2.defArgs s__law_room) (L2.defBody s__law_room) (L2.defScope s__law_room) .none kV9 dc9 pm9 an9 cd9 ct9), sl9⟩) (c9 : PySem.W.codeIn K cd9 "_law_room" = true) (k9 : PySem.W.keepIn K (.ref f9) = true)
    (a10 : PySem.W.nsIn K mainGlobals "_law_all_breaks" = some (some (.ref f10))) (l10 : K.lookup f10 = some ⟨oc10, od10, .func (PySem.W.fnOf "_law_all_breaks" "_law_all_breaks" (L2.defArgs s__law_all_breaks) (L2.defBody s__law_all_breaks) (L2.defScope s__law_all_breaks) .none kV10 dc10 pm10 an10 cd10 ct10), sl10⟩) (c10 : PySem.W.codeIn K cd10 "_law_all_breaks" = true) (k10 : PySem.W.keepIn K (.ref f10) = true)
    (a11 : PySem.W.nsIn K mainGlobals "wide" = some (some (.ref f11))) (l11 : K.lookup f11 = some ⟨oc11, od11, .func (PySem.W.fnOf "wide" "wide" (L2.defArgs s_wide) (L2.defBody s_wide) (L2.defScope s_wide) .none kV11 dc11 pm11 an11 cd11 ct11), sl11⟩) (c11 : PySem.W.codeIn K cd11 "wide" = true) (k11 : PySem.W.keepIn K (.ref f11) = true)
    (a12 : PySem.W.nsIn K mainGlobals "width" = some (some (.ref f12))) (l12 : K.lookup f12 = some ⟨oc12, od12, .func (PySem.W.fnOf "width" "width" (L2.defArgs s_width) (L2.defBody s_width) (L2.defScope s_width) .none kV12 dc12 pm12 an12 cd12 ct12), sl12⟩) (c12 : PySem.W.codeIn K cd12 "width" = true) (k12 : PySem.W.keepIn K (.ref f12) = true)
    (a13 : PySem.W.nsIn K mainGlobals "room" = some (some (.ref f13))) (l13 : K.lookup f13 = some ⟨oc13, od13, .func (PySem.W.fnOf "room" "room" (L2.defArgs s_room) (L2.defBody s_room) (L2.defScope s_room) .none kV13 dc13 pm13 an13 cd13 ct13), sl13⟩) (c13 : PySem.W.codeIn K cd13 "room" = true) (k13 : PySem.W.keepIn K (.ref f13) = true)
    (a14 : PySem.W.nsIn K mainGlobals "ways_on" = some (some (.ref f14))) (l14 : K.lookup f14 = some ⟨oc14, od14, .func (PySem.W.fnOf "ways_on" "ways_on" (L2.defArgs s_ways_on) (L2.defBody s_ways_on) (L2.defScope s_ways_on) .none kV14 dc14 pm14 an14 cd14 ct14), sl14⟩) (c14 : PySem.W.codeIn K cd14 "ways_on" = true) (k14 : PySem.W.keepIn K (.ref f14) = true)
    (a15 : PySem.W.nsIn K mainGlobals "least_loss" = some (some (.ref f15))) (l15 : K.lookup f15 = some ⟨oc15, od15, .func (PySem.W.fnOf "least_loss" "least_loss" (L2.defArgs s_least_loss) (L2.defBody s_least_loss) (L2.defScope s_least_loss) .none kV15 dc15 pm15 an15 cd15 ct15), sl15⟩) (c15 : PySem.W.codeIn K cd15 "least_loss" = true) (k15 : PySem.W.keepIn K (.ref f15) = true)
    (a16 : PySem.W.nsIn K mainGlobals "_law_rooms" = some (some (.ref f16))) (l16 : K.lookup f16 = some ⟨oc16, od16, .func (PySem.W.fnOf "_law_rooms" "_law_rooms" (L2.defArgs s__law_rooms) (L2.defBody s__law_rooms) (L2.defScope s__law_rooms) .none kV16 dc16 pm16 an16 cd16 ct16), sl16⟩) (c16 : PySem.W.codeIn K cd16 "_law_rooms" = true) (k16 : PySem.W.keepIn K (.ref f16) = true)
    (a17 : PySem.W.nsIn K mainGlobals "_law_loss" = some (some (.ref f17))) (l17 : K.lookup f17 = some ⟨oc17, od17, .func (PySem.W.fnOf "_law_loss" "_law_loss" (L2.defArgs s__law_loss) (L2.defBody s__law_loss) (L2.defScope s__law_loss) .none kV17 dc17 pm17 an17 cd17 ct17), sl17⟩) (c17 : PySem.W.codeIn K cd17 "_law_loss" = true) (k17 : PySem.W.keepIn K (.ref f17) = true)
    (a18 : PySem.W.nsIn K mainGlobals "_law_numbers" = some (some (.ref f18))) (l18 : K.lookup f18 = some ⟨oc18, od18, .func (PySem.W.fnOf "_law_numbers" "_law_numbers" (L2.defArgs s__law_numbers) (L2.defBody s__law_numbers) (L2.defScope s__law_numbers) .none kV18 dc18 pm18 an18 cd18 ct18), sl18⟩) (c18 : PySem.W.codeIn K cd18 "_law_numbers" = true) (k18 : PySem.W.keepIn K (.ref f18) = true)
    (a19 : PySem.W.nsIn K mainGlobals "_law_same" = some (some (.ref f19))) (l19 : K.lookup f19 = some ⟨oc19, od19, .func (PySem.W.fnOf "_law_same" "_law_same" (L2.defArgs s__law_same) (L2.defBody s__law_same) (L2.defScope s__law_same) .none kV19 dc19 pm19 an19 cd19 ct19), sl19⟩) (c19 : PySem.W.codeIn K cd19 "_law_same" = true) (k19 : PySem.W.keepIn K (.ref f19) = true)
    (a20 : PySem.W.nsIn K mainGlobals "_law_bent" = some (some (.ref f20))) (l20 : K.lookup f20 = some ⟨oc20, od20, .func (PySem.W.fnOf "_law_bent" "_law_bent" (L2.defArgs s__law_bent) (L2.defBody s__law_bent) (L2.defScope s__law_bent) .none kV20 dc20 pm20 an20 cd20 ct20), sl20⟩) (c20 : PySem.W.codeIn K cd20 "_law_bent" = true) (k20 : PySem.W.keepIn K (.ref f20) = true)
    (a21 : PySem.W.nsIn K mainGlobals "_law_are_breaks" = some (some (.ref f21))) (l21 : K.lookup f21 = some ⟨oc21, od21, .func (PySem.W.fnOf "_law_are_breaks" "_law_are_breaks" (L2.defArgs s__law_are_breaks) (L2.defBody s__law_are_breaks) (L2.defScope s__law_are_breaks) .none kV21 dc21 pm21 an21 cd21 ct21), sl21⟩) (c21 : PySem.W.codeIn K cd21 "_law_are_breaks" = true) (k21 : PySem.W.keepIn K (.ref f21) = true)
    (a22 : PySem.W.nsIn K mainGlobals "_law_right" = some (some (.ref f22))) (l22 : K.lookup f22 = some ⟨oc22, od22, .func (PySem.W.fnOf "_law_right" "_law_right" (L2.defArgs s__law_right) (L2.defBody s__law_right) (L2.defScope s__law_right) .none kV22 dc22 pm22 an22 cd22 ct22), sl22⟩) (c22 : PySem.W.codeIn K cd22 "_law_right" = true) (k22 : PySem.W.keepIn K (.ref f22) = true)
    (a23 : PySem.W.nsIn K mainGlobals "rooms" = some (some (.ref f23))) (l23 : K.lookup f23 = some ⟨oc23, od23, .func (PySem.W.fnOf "rooms" "rooms" (L2.defArgs s_rooms) (L2.defBody s_rooms) (L2.defScope s_rooms) .none kV23 dc23 pm23 an23 cd23 ct23), sl23⟩) (c23 : PySem.W.codeIn K cd23 "rooms" = true) (k23 : PySem.W.keepIn K (.ref f23) = true)
    (a24 : PySem.W.nsIn K mainGlobals "are_breaks" = some (some (.ref f24))) (l24 : K.lookup f24 = some ⟨oc24, od24, .func (PySem.W.fnOf "are_breaks" "are_breaks" (L2.defArgs s_are_breaks) (L2.defBody s_are_breaks) (L2.defScope s_are_breaks) .none kV24 dc24 pm24 an24 cd24 ct24), sl24⟩) (c24 : PySem.W.codeIn K cd24 "are_breaks" = true) (k24 : PySem.W.keepIn K (.ref f24) = true)
    (a25 : PySem.W.nsIn K mainGlobals "loss" = some (some (.ref f25))) (l25 : K.lookup f25 = some ⟨oc25, od25, .func (PySem.W.fnOf "loss" "loss" (L2.defArgs s_loss) (L2.defBody s_loss) (L2.defScope s_loss) .none kV25 dc25 pm25 an25 cd25 ct25), sl25⟩) (c25 : PySem.W.codeIn K cd25 "loss" = true) (k25 : PySem.W.keepIn K (.ref f25) = true)
    (a26 : PySem.W.nsIn K mainGlobals "judge_loss" = some (some (.ref f26))) (l26 : K.lookup f26 = some ⟨oc26, od26, .func (PySem.W.fnOf "judge_loss" "judge_loss" (L2.defArgs s_judge_loss) (L2.defBody s_judge_loss) (L2.defScope s_judge_loss) .none kV26 dc26 pm26 an26 cd26 ct26), sl26⟩) (c26 : PySem.W.codeIn K cd26 "judge_loss" = true) (k26 : PySem.W.keepIn K (.ref f26) = true)
    (a27 : PySem.W.nsIn K mainGlobals "filled" = some (some (.ref f27))) (l27 : K.lookup f27 = some ⟨oc27, od27, .func (PySem.W.fnOf "filled" "filled" (L2.defArgs s_filled) (L2.defBody s_filled) (L2.defScope s_filled) .none kV27 dc27 pm27 an27 cd27 ct27), sl27⟩) (c27 : PySem.W.codeIn K cd27 "filled" = true) (k27 : PySem.W.keepIn K (.ref f27) = true)
    (a28 : PySem.W.nsIn K mainGlobals "_law_filled" = some (some (.ref f28))) (l28 : K.lookup f28 = some ⟨oc28, od28, .func (PySem.W.fnOf "_law_filled" "_law_filled" (L2.defArgs s__law_filled) (L2.defBody s__law_filled) (L2.defScope s__law_filled) .none kV28 dc28 pm28 an28 cd28 ct28), sl28⟩) (c28 : PySem.W.codeIn K cd28 "_law_filled" = true) (k28 : PySem.W.keepIn K (.ref f28) = true)
    (a29 : PySem.W.nsIn K mainGlobals "lines_of" = some (some (.ref f29))) (l29 : K.lookup f29 = some ⟨oc29, od29, .func (PySem.W.fnOf "lines_of" "lines_of" (L2.defArgs s_lines_of) (L2.defBody s_lines_of) (L2.defScope s_lines_of) .none kV29 dc29 pm29 an29 cd29 ct29), sl29⟩) (c29 : PySem.W.codeIn K cd29 "lines_of" = true) (k29 : PySem.W.keepIn K (.ref f29) = true)
    (a30 : PySem.W.nsIn K mainGlobals "worst" = some (some (.ref f30))) (l30 : K.lookup f30 = some ⟨oc30, od30, .func (PySem.W.fnOf "worst" "worst" (L2.defArgs s_worst) (L2.defBody s_worst) (L2.defScope s_worst) .none kV30 dc30 pm30 an30 cd30 ct30), sl30⟩) (c30 : PySem.W.codeIn K cd30 "worst" = true) (k30 : PySem.W.keepIn K (.ref f30) = true)
    (a31 : PySem.W.nsIn K mainGlobals "law" = some (some (.ref f31))) (l31 : K.lookup f31 = some ⟨oc31, od31, .func (PySem.W.fnOf "law" "law" (L2.defArgs s_law) (L2.defBody s_law) (L2.defScope s_law) .none kV31 dc31 pm31 an31 cd31 ct31), sl31⟩) (c31 : PySem.W.codeIn K cd31 "law" = true) (k31 : PySem.W.keepIn K (.ref f31) = true)
    (z_all : PySem.W.nsIn K mainGlobals "all" = some none)
    (z_any : PySem.W.nsIn K mainGlobals "any" = some none)
    (z_bool : PySem.W.nsIn K mainGlobals "bool" = some none)
    (z_dict : PySem.W.nsIn K mainGlobals "dict" = some none)
    (z_int : PySem.W.nsIn K mainGlobals "int" = some none)
    (z_isinstance : PySem.W.nsIn K mainGlobals "isinstance" = some none)
    (z_len : PySem.W.nsIn K mainGlobals "len" = some none)
    (z_list : PySem.W.nsIn K mainGlobals "list" = some none)
    (z_max : PySem.W.nsIn K mainGlobals "max" = some none)
    (z_min : PySem.W.nsIn K mainGlobals "min" = some none)
    (z_range : PySem.W.nsIn K mainGlobals "range" = some none)
    (z_set : PySem.W.nsIn K mainGlobals "set" = some none)
    (z_sorted : PySem.W.nsIn K mainGlobals "sorted" = some none)
    (z_str : PySem.W.nsIn K mainGlobals "str" = some none)
    (z_sum : PySem.W.nsIn K mainGlobals "sum" = some none)
    (z_tuple : PySem.W.nsIn K mainGlobals "tuple" = some none)
    (z_zip : PySem.W.nsIn K mainGlobals "zip" = some none)
    (al_width_signs : PySem.W.nsIn K mainGlobals "width_signs" = some (some (.ref f12)))
    {u_CAPITAL : Value} (y_CAPITAL : PySem.W.nsIn K mainGlobals "CAPITAL" = some (some u_CAPITAL)) (r_CAPITAL : RelV (.str "ABCDEFGHIJKLMNOPQRSTUVWXYZ") u_CAPITAL) :
    ∃ fd : FuncData, (∀ (s : Shared) (v : Value), BindsTo s fd ⟨[v], []⟩ [("script", v)]) ∧ ∀ base : Heap, K.In base → base.Ns mainGlobals mg → FnOk l.prog w K mg base CX0 8 fa fd ["script"] (spLaw K) := by
  have e := hfa.symm.trans (PySem.W.mg_of X G a31)
  cases e
  have m_all := PySem.W.mg_none_of X G z_all
  have m_any := PySem.W.mg_none_of X G z_any
  have m_bool := PySem.W.mg_none_of X G z_bool
  have m_dict := PySem.W.mg_none_of X G z_dict
  have m_int := PySem.W.mg_none_of X G z_int
  have m_isinstance := PySem.W.mg_none_of X G z_isinstance
  have m_len := PySem.W.mg_none_of X G z_len
  have m_list := PySem.W.mg_none_of X G z_list
  have m_max := PySem.W.mg_none_of X G z_max
  have m_min := PySem.W.mg_none_of X G z_min
  have m_range := PySem.W.mg_none_of X G z_range
  have m_set := PySem.W.mg_none_of X G z_set
  have m_sorted := PySem.W.mg_none_of X G z_sorted
  have m_str := PySem.W.mg_none_of X G z_str
  have m_sum := PySem.W.mg_none_of X G z_sum
  have m_tuple := PySem.W.mg_none_of X G z_tuple
  have m_zip := PySem.W.mg_none_of X G z_zip
  have c_CAPITAL : ∃ u, mg "CAPITAL" = some u ∧ RelV (.str "ABCDEFGHIJKLMNOPQRSTUVWXYZ") u := ⟨_, PySem.W.mg_of X G y_CAPITAL, r_CAPITAL⟩
  have g1 := PySem.W.mg_of X G a1
  have D1 := L2.fun_mk (st := s__law_mixed) l1 c1 k1
  have g2 := PySem.W.mg_of X G a2
  have D2 := L2.fun_mk (st := s__law_rest) l2 c2 k2
  have g3 := PySem.W.mg_of X G a3
  have D3 := L2.fun_mk (st := s__law_pool) l3 c3 k3
  have g4 := PySem.W.mg_of X G a4
  have D4 := L2.fun_mk (st := s__law_draw) l4 c4 k4
  have g5 := PySem.W.mg_of X G a5
  have D5 := L2.fun_mk (st := s__law_next) l5 c5 k5
  have g6 := PySem.W.mg_of X G a6
  have D6 := L2.fun_mk (st := s__law_pick) l6 c6 k6
  have g7 := PySem.W.mg_of X G a7
  have D7 := L2.fun_mk (st := s__law_words_drawn) l7 c7 k7
  have g8 := PySem.W.mg_of X G a8
  have D8 := L2.fun_mk (st := s__law_wide) l8 c8 k8
  have g9 := PySem.W.mg_of X G a9
  have D9 := L2.fun_mk (st := s__law_room) l9 c9 k9
  have g10 := PySem.W.mg_of X G a10
  have D10 := L2.fun_mk (st := s__law_all_breaks) l10 c10 k10
  have g11 := PySem.W.mg_of X G a11
  have D11 := L2.fun_mk (st := s_wide) l11 c11 k11
  have g12 := PySem.W.mg_of X G a12
  have D12 := L2.fun_mk (st := s_width) l12 c12 k12
  have g13 := PySem.W.mg_of X G a13
  have D13 := L2.fun_mk (st := s_room) l13 c13 k13
  have g14 := PySem.W.mg_of X G a14
  have D14 := L2.fun_mk (st := s_ways_on) l14 c14 k14
  have g15 := PySem.W.mg_of X G a15
  have D15 := L2.fun_mk (st := s_least_loss) l15 c15 k15
  have g16 := PySem.W.mg_of X G a16
  have D16 := L2.fun_mk (st := s__law_rooms) l16 c16 k16
  have g17 := PySem.W.mg_of X G a17
  have D17 := L2.fun_mk (st := s__law_loss) l17 c17 k17
  have g18 := PySem.W.mg_of X G a18
  have D18 := L2.fun_mk (st := s__law_numbers) l18 c18 k18
  have g19 := PySem.W.mg_of X G a19
  have D19 := L2.fun_mk (st := s__law_same) l19 c19 k19
  have g20 := PySem.W.mg_of X G a20
  have D20 := L2.fun_mk (st := s__law_bent) l20 c20 k20
  have g21 := PySem.W.mg_of X G a21
  have D21 := L2.fun_mk (st := s__law_are_breaks) l21 c21 k21
  have g22 := PySem.W.mg_of X G a22
  have D22 := L2.fun_mk (st := s__law_right) l22 c22 k22
  have g23 := PySem.W.mg_of X G a23
  have D23 := L2.fun_mk (st := s_rooms) l23 c23 k23
  have g24 := PySem.W.mg_of X G a24
  have D24 := L2.fun_mk (st := s_are_breaks) l24 c24 k24
  have g25 := PySem.W.mg_of X G a25
  have D25 := L2.fun_mk (st := s_loss) l25 c25 k25
  have g26 := PySem.W.mg_of X G a26
  have D26 := L2.fun_mk (st := s_judge_loss) l26 c26 k26
  have g27 := PySem.W.mg_of X G a27
  have D27 := L2.fun_mk (st := s_filled) l27 c27 k27
  have g28 := PySem.W.mg_of X G a28
  have D28 := L2.fun_mk (st := s__law_filled) l28 c28 k28
  have g29 := PySem.W.mg_of X G a29
  have D29 := L2.fun_mk (st := s_lines_of) l29 c29 k29
  have g30 := PySem.W.mg_of X G a30
  have D30 := L2.fun_mk (st := s_worst) l30 c30 k30
  have g31 := PySem.W.mg_of X G a31
  have D31 := L2.fun_mk (st := s_law) l31 c31 k31
  refine ⟨PySem.W.fnOf "law" "law" (L2.defArgs s_law) (L2.defBody s_law) (L2.defScope s_law) .none kV31 dc31 pm31 an31 cd31 ct31, fun s v => .of_eq rfl, fun base _ _ => ?_⟩
  · skip
    have c__law_mixed := k__law_mixed (P := l.prog) (w := w) (base := base) D1 g1 m_int
    have c__law_rest := k__law_rest (P := l.prog) (w := w) (base := base) D2 g2 m_int m_len c__law_mixed
    have c__law_pool := k__law_pool (P := l.prog) (w := w) (base := base) D3 g3 c__law_rest
    have c__law_draw := k__law_draw (P := l.prog) (w := w) (base := base) D4 g4 m_int c__law_rest
    have c__law_next := k__law_next (P := l.prog) (w := w) (base := base) D5 g5 c__law_rest
    have c__law_pick := k__law_pick (P := l.prog) (w := w) (base := base) D6 g6 m_len c__law_draw
    have c__law_words_drawn := k__law_words_drawn (P := l.prog) (w := w) (base := base) D7 g7 m_int m_range c__law_draw c__law_next c__law_pick
    have c__law_wide := k__law_wide (P := l.prog) (w := w) (base := base) D8 g8 m_sum
    have c__law_room := k__law_room (P := l.prog) (w := w) (base := base) D9 g9 m_sum c__law_wide
    have c__law_all_breaks := k__law_all_breaks (P := l.prog) (w := w) (base := base) D10 g10 m_len m_range c__law_room
    have c_wide := k_wide (P := l.prog) (w := w) (base := base) D11 g11 c_CAPITAL
    have c_width := k_width (P := l.prog) (w := w) (base := base) D12 g12 m_len c_wide
    have c_width_signs := Cal.alias c_width g12 (PySem.W.mg_of X G al_width_signs)
    have c_room := k_room (P := l.prog) (w := w) (base := base) D13 g13 m_sum c_width_signs
    have c_ways_on := k_ways_on (P := l.prog) (w := w) (base := base) D14 g14 m_len m_range c_room
    have c_least_loss := k_least_loss (P := l.prog) (w := w) (base := base) D15 g15 m_len m_min m_range c_ways_on
    have c__law_rooms := k__law_rooms (P := l.prog) (w := w) (base := base) D16 g16 m_len m_range c__law_room
    have c__law_loss := k__law_loss (P := l.prog) (w := w) (base := base) D17 g17 m_sum c__law_rooms
    have c__law_numbers := k__law_numbers (P := l.prog) (w := w) (base := base) D18 g18 m_len m_range c__law_room
    have c__law_same := k__law_same (P := l.prog) (w := w) (base := base) D19 g19 m_all m_bool m_dict m_int m_isinstance m_len m_list m_range m_str m_tuple
    have c__law_bent := k__law_bent (P := l.prog) (w := w) (base := base) D20 g20 m_dict m_len m_list m_sorted c__law_draw c__law_pick
    have c__law_are_breaks := k__law_are_breaks (P := l.prog) (w := w) (base := base) D21 g21 m_all m_len m_range c__law_rooms
    have c__law_right := k__law_right (P := l.prog) (w := w) (base := base) D22 g22 m_any m_len m_list m_range m_sorted c__law_are_breaks c__law_numbers c__law_loss
    have c_rooms := k_rooms (P := l.prog) (w := w) (base := base) D23 g23 m_len m_zip c_room
    have c_are_breaks := k_are_breaks (P := l.prog) (w := w) (base := base) D24 g24 m_all m_len m_set m_sorted c_rooms
    have c_loss := k_loss (P := l.prog) (w := w) (base := base) D25 g25 m_sum c_rooms
    have c_judge_loss := k_judge_loss (P := l.prog) (w := w) (base := base) D26 g26 m_any m_len m_list m_range m_sorted c_are_breaks c_ways_on c_loss
    have c_filled := k_filled (P := l.prog) (w := w) (base := base) D27 g27 m_len m_range c_room
    have c__law_filled := k__law_filled (P := l.prog) (w := w) (base := base) D28 g28 m_len m_range c__law_room
    have c_lines_of := k_lines_of (P := l.prog) (w := w) (base := base) D29 g29 m_len m_zip
    have c_worst := k_worst (P := l.prog) (w := w) (base := base) D30 g30 m_max c_rooms
    exact (ok_law D31 m_dict m_len m_list m_max m_min m_range c__law_pool c__law_words_drawn c__law_wide c__law_draw c__law_all_breaks c_least_loss c__law_loss c__law_numbers c__law_same c__law_bent c__law_right c_judge_loss c__law_are_breaks c_are_breaks c_filled c__law_filled c__law_pick c__law_rooms c_lines_of c_worst c_loss c__law_room c_room).imp (law_sp law_true)
theorem walk {l : PySem.W.OpenLaw} {q : Program} {loose : List Str} {XP : (Str → Option Value) → Heap → Prop} {YP : World → Heap → Prop} {d : DefRec} {K : Params → PySem.W.Frag} (hn : l.most = some 63) (hdf : d.params.defaults = [])
    (hY : ∀ (w : World) (h : Heap), YP w h → (K w.params).In h)
    (F : ∀ (w : World) (mg : Str → Option Value) (fa : Addr) (h : Heap), (K w.params).In h → h.Ns mainGlobals mg → mg d.name = some (.ref fa) →
      ∃ fd : FuncData, (∀ (s : Shared) (u : Value), BindsTo s fd ⟨[u], []⟩ [("script", u)]) ∧ ∀ base : Heap, (K w.params).In base → base.Ns mainGlobals mg → FnOk l.prog w (K w.params) mg base CX0 8 fa fd ["script"] (spLaw (K w.params))) :
    PySem.W.WalkO q loose XP YP l.row.toRowW d [] (fun f vs => PySem.call f vs) :=
  L2.walk_of (n := 63) (k := 8) (x := "script") (CX := fun _ => CX0) (sp := fun w => spLaw (K w.params)) hn (by decide) hdf ⟨rfl, by decide, by decide⟩ hY F (fun _ _ a ns hl _ hS => ⟨a, ns, rfl, hS, hl, fun _ => rfl⟩) fun _ _ _ _ _ z => z
end Y
open PySem PySem.W PyProof.Rows
set_option maxRecDepth 100000 in
set_option maxHeartbeats 0 in
theorem PySem.Challenge.cw_screenwise_k84_whole_paragraphs_with_lea_holds : PySem.Challenge.rw_screenwise_k84_whole_paragraphs_with_lea.Holds := by
  w_on; o_law; k_head; (case hw => w_witness2)
  k_fill
  refine Y.walk (l := PySem.Challenge.rw_screenwise_k84_whole_paragraphs_with_lea) rfl rfl (fun w h Y => PySem.W.kIn_of Y) ?F
  case F =>
    intro w mg fa h KX G hmg
    refine' Y.all_mk KX G hmg ?a1 ?l1 ?c1 ?k1 ?a2 ?l2 ?c2 ?k2 ?a3 ?l3 ?c3 ?k3 ?a4 ?l4 ?c4 ?k4 ?a5 ?l5 ?c5 ?k5 ?a6 ?l6 ?c6 ?k6 ?a7 ?l7 ?c7 ?k7 ?a8 ?l8 ?c8 ?k8 ?a9 ?l9 ?c9 ?k9 ?a10 ?l10 ?c10 ?k10 ?a11 ?l11 ?c11 ?k11 ?a12 ?l12 ?c12 ?k12 ?a13 ?l13 ?c13 ?k13 ?a14 ?l14 ?c14 ?k14 ?a15 ?l15 ?c15 ?k15 ?a16 ?l16 ?c16 ?k16 ?a17 ?l17 ?c17 ?k17 ?a18 ?l18 ?c18 ?k18 ?a19 ?l19 ?c19 ?k19 ?a20 ?l20 ?c20 ?k20 ?a21 ?l21 ?c21 ?k21 ?a22 ?l22 ?c22 ?k22 ?a23 ?l23 ?c23 ?k23 ?a24 ?l24 ?c24 ?k24 ?a25 ?l25 ?c25 ?k25 ?a26 ?l26 ?c26 ?k26 ?a27 ?l27 ?c27 ?k27 ?a28 ?l28 ?c28 ?k28 ?a29 ?l29 ?c29 ?k29 ?a30 ?l30 ?c30 ?k30 ?a31 ?l31 ?c31 ?k31 ?z_all ?z_any ?z_bool ?z_dict ?z_int ?z_isinstance ?z_len ?z_list ?z_max ?z_min ?z_range ?z_set ?z_sorted ?z_str ?z_sum ?z_tuple ?z_zip ?al_width_signs ?y_CAPITAL ?r_CAPITAL
    (case a1 => k_is); (case l1 => k_is); (case c1 => k_is); (case k1 => k_is)
    (case a2 => k_is); (case l2 => k_is); (case c2 => k_is); (case k2 => k_is)
    (case a3 => k_is); (case l3 => k_is); (case c3 => k_is); (case k3 => k_is)
    (case a4 => k_is); (case l4 => k_is); (case c4 => k_is); (case k4 => k_is)
    (case a5 => k_is); (case l5 => k_is); (case c5 => k_is); (case k5 => k_is)
    (case a6 => k_is); (case l6 => k_is); (case c6 => k_is); (case k6 => k_is)
    (case a7 => k_is); (case l7 => k_is); (case c7 => k_is); (case k7 => k_is)
    (case a8 => k_is); (case l8 => k_is); (case c8 => k_is); (case k8 => k_is)
    (case a9 => k_is); (case l9 => k_is); (case c9 => k_is); (case k9 => k_is)
    (case a10 => k_is); (case l10 => k_is); (case c10 => k_is); (case k10 => k_is)
    (case a11 => k_is); (case l11 => k_is); (case c11 => k_is); (case k11 => k_is)
    (case a12 => k_is); (case l12 => k_is); (case c12 => k_is); (case k12 => k_is)
    (case a13 => k_is); (case l13 => k_is); (case c13 => k_is); (case k13 => k_is)
    (case a14 => k_is); (case l14 => k_is); (case c14 => k_is); (case k14 => k_is)
    (case a15 => k_is); (case l15 => k_is); (case c15 => k_is); (case k15 => k_is)
    (case a16 => k_is); (case l16 => k_is); (case c16 => k_is); (case k16 => k_is)
    (case a17 => k_is); (case l17 => k_is); (case c17 => k_is); (case k17 => k_is)
    (case a18 => k_is); (case l18 => k_is); (case c18 => k_is); (case k18 => k_is)
    (case a19 => k_is); (case l19 => k_is); (case c19 => k_is); (case k19 => k_is)
    (case a20 => k_is); (case l20 => k_is); (case c20 => k_is); (case k20 => k_is)
    (case a21 => k_is); (case l21 => k_is); (case c21 => k_is); (case k21 => k_is)
    (case a22 => k_is); (case l22 => k_is); (case c22 => k_is); (case k22 => k_is)
    (case a23 => k_is); (case l23 => k_is); (case c23 => k_is); (case k23 => k_is)
    (case a24 => k_is); (case l24 => k_is); (case c24 => k_is); (case k24 => k_is)
    (case a25 => k_is); (case l25 => k_is); (case c25 => k_is); (case k25 => k_is)
    (case a26 => k_is); (case l26 => k_is); (case c26 => k_is); (case k26 => k_is)
    (case a27 => k_is); (case l27 => k_is); (case c27 => k_is); (case k27 => k_is)
    (case a28 => k_is); (case l28 => k_is); (case c28 => k_is); (case k28 => k_is)
    (case a29 => k_is); (case l29 => k_is); (case c29 => k_is); (case k29 => k_is)
    (case a30 => k_is); (case l30 => k_is); (case c30 => k_is); (case k30 => k_is)
    (case a31 => k_is); (case l31 => k_is); (case c31 => k_is); (case k31 => k_is)
    (case z_all => k_is)
    (case z_any => k_is)
    (case z_bool => k_is)
    (case z_dict => k_is)
    (case z_int => k_is)
    (case z_isinstance => k_is)
    (case z_len => k_is)
    (case z_list => k_is)
    (case z_max => k_is)
    (case z_min => k_is)
    (case z_range => k_is)
    (case z_set => k_is)
    (case z_sorted => k_is)
    (case z_str => k_is)
    (case z_sum => k_is)
    (case z_tuple => k_is)
    (case z_zip => k_is)
    (case al_width_signs => k_is)
    (case y_CAPITAL => k_is); (case r_CAPITAL => exact ⟨_, rfl⟩)
#print axioms PySem.Challenge.cw_screenwise_k84_whole_paragraphs_with_lea_holds

