import PyProof.Rows.All
import Wide.All
import OpenK.AllK
import Wide.FinOn
import HandS.ForMost
import HandS.Exc
import HandS.ExcOwn
import HandS.TryOnly
import HandS.WordsExc
import HandS.ExcIs
import HandS.Evl
import HandS.TupAny
import HandS.Style
import HandS.IsInst
import HandS.Conv
import HandS.Rev
import KE.DataEq
import PyProof.StrBlock2
import KE.KExcIs
import HandS.SetFor
import Wide.Txt
import PySem.Challenge.RW_soundlaw_k01_words
set_option Elab.async false
set_option linter.all false
set_option maxRecDepth 100000
/-! Sx, part A: plain data, the plain machine, how data lie in the abstract heap. -/
namespace Sx
open PySem L2

abbrev Tx := List Nat
/-- data that never change any more -/
inductive D where
  | non | bl (b : Bool) | int (i : Int) | str (s : Tx)
  | tup (xs : List D) | lst (xs : List D) | scr (ns : List Int) | dic (kvs : List (D × D)) | obj (c : Nat) (fs : List D) | exc (c : Nat) (fs : List D)
  deriving Inhabited
/-- a value that is held: data, or the object of that number -/
inductive W where
  | fz (d : D) | own (k : Nat)
/-- an object that may change -/
inductive Node where
  | fl (ds : List D) | fd (kvs : List (D × D)) | oo (c : Nat) (ws : List W)
/-- what an expression gives: data, an object, a new object that nobody holds -/
inductive R where
  | fz (d : D) | own (k : Nat) | nw (n : Node)
structure S where
  g : List (Option W)
  o : List (Option Node)
inductive Out (α : Type) where
  | ok (a : α) (s : S) | err (c : Nat) (fs : List D) (s : S) | stuck
abbrev M (α : Type) := S → Out α
def ret {α : Type} (a : α) : M α := fun s => .ok a s
def bnd {α β : Type} (m : M α) (f : α → M β) : M β := fun s => match m s with
  | .ok a s' => f a s'
  | .err c fs s' => .err c fs s'
  | .stuck => .stuck
def stk {α : Type} : M α := fun _ => .stuck
def ofO {α : Type} (o : Option α) : M α := fun s => match o with
  | some a => .ok a s
  | none => .stuck

def stx (s : Tx) : Str := ⟨s.toArray⟩
/-- the module's classes by number: where they stand, their fields in order -/
structure Tab where
  K : PySem.W.Frag
  ca : Nat → Addr
  fn : Nat → List Str
  xn : Nat → Str
/-- an exception's object of the class cls, its own dict at d -/
def XO (cls : Value) (a : Addr) (d : Option Addr) : HO := .ext fun h => ∃ (oe : Obj) (vs : Array Value), h.get? a = some oe ∧ Zc cls d oe ∧ oe.data = .fields vs
mutual
/-- data d stand in F as v -/
def Rep (T : Tab) (F : Hp) : D → V → Prop
  | .non, v => v = .non
  | .bl b, v => v = .bl b
  | .int i, v => v = .int i
  | .str s, v => v = .str (stx s)
  | .tup ds, v => ∃ a xs, v = .ref a ∧ SqT T.K F a xs ∧ Reps T F ds xs
  | .lst ds, v => ∃ a xs, v = .ref a ∧ F a = some (.lst xs) ∧ Reps T F ds xs
  | .scr ns, v => ∃ a, v = .ref a ∧ SqL T.K F a (ns.map V.int)
  | .dic kvs, v => ∃ a l, v = .ref a ∧ Rd F a (.dK l) ∧ RepKs T F kvs l
  | .obj c ds, v => ∃ a dx xs, v = .ref a ∧ F a = some (.ins (T.ca c) dx ((T.fn c).zip xs)) ∧ Reps T F ds xs
  | .exc c ds, v => ∃ a d xs, v = .ref a ∧ F a = some (XO (.ref (T.ca c)) a d) ∧ Reps T F ds xs ∧ ((xs = [] ∧ d = none) ∨ ∃ w dd, xs = [w] ∧ d = some dd ∧ F dd = some (.xd [(T.xn c, w)]))
def Reps (T : Tab) (F : Hp) : List D → List V → Prop
  | [], vs => vs = []
  | d :: ds, vs => ∃ v r, vs = v :: r ∧ Rep T F d v ∧ Reps T F ds r
def RepKs (T : Tab) (F : Hp) : List (D × D) → List (Key × V) → Prop
  | [], vs => vs = []
  | (k, d) :: r, vs => ∃ kv v vr, vs = (kv, v) :: vr ∧ Rep T F k (kV kv) ∧ Rep T F d v ∧ RepKs T F r vr
end
/-- F is kept (a dict may be locked or free) -/
def Le (F F' : Hp) : Prop := ∀ a o, F a = some o → F' a = some o
theorem Le.refl (F : Hp) : Le F F := fun _ _ h => h
theorem Le.trans {F G H : Hp} (a : Le F G) (b : Le G H) : Le F H := fun c o h => b c o (a c o h)
theorem Le.rd {F G : Hp} (h : Le F G) {a : Addr} {u : HO} (r : Rd F a u) : Rd G a u := by
  rcases r with r | ⟨o, r⟩
  · exact .inl (h _ _ r)
  · exact .inr ⟨o, h _ _ r⟩
theorem Le.sql {K : PySem.W.Frag} {F G : Hp} (h : Le F G) {a : Addr} {xs : List V} (r : SqL K F a xs) : SqL K G a xs := by
  rcases r with r | r
  · exact .inl (h.rd r)
  · exact .inr r
theorem Le.sqt {K : PySem.W.Frag} {F G : Hp} (h : Le F G) {a : Addr} {xs : List V} (r : SqT K F a xs) : SqT K G a xs := by
  rcases r with r | r
  · exact .inl (h.rd r)
  · exact .inr r
theorem Le.new {F : Hp} {p : Addr} {o : HO} (h : F p = none) : Le F (upd F p o) := fun a u e => by
  rw [upd_ne (ne_of_none e h)]
  exact e
theorem Le.free {F G : Hp} (h : Le F G) {p : Addr} (e : G p = none) : F p = none := by
  cases q : F p with
  | none => rfl
  | some o =>
    rw [h p o q] at e
    cases e
section
variable {T : Tab} {F G : Hp}
mutual
theorem Rep.mono (h : Le F G) : ∀ (d : D) (v : V), Rep T F d v → Rep T G d v
  | .non, _, r => r
  | .bl _, _, r => r
  | .int _, _, r => r
  | .str _, _, r => r
  | .tup ds, _, r => by
    obtain ⟨a, xs, e, s, q⟩ := r
    exact ⟨a, xs, e, h.sqt s, Reps.mono h ds xs q⟩
  | .lst ds, _, r => by
    obtain ⟨a, xs, e, s, q⟩ := r
    exact ⟨a, xs, e, h _ _ s, Reps.mono h ds xs q⟩
  | .scr _, _, r => by
    obtain ⟨a, e, s⟩ := r
    exact ⟨a, e, h.sql s⟩
  | .dic kvs, _, r => by
    obtain ⟨a, l, e, s, q⟩ := r
    exact ⟨a, l, e, h.rd s, RepKs.mono h kvs l q⟩
  | .obj c ds, _, r => by
    obtain ⟨a, dx, xs, e, s, q⟩ := r
    exact ⟨a, dx, xs, e, h _ _ s, Reps.mono h ds xs q⟩
  | .exc c ds, _, r => by
    obtain ⟨a, d, xs, e, s, q, z⟩ := r
    refine ⟨a, d, xs, e, h _ _ s, Reps.mono h ds xs q, ?_⟩
    rcases z with z | ⟨w, dd, e1, e2, e3⟩
    · exact .inl z
    · exact .inr ⟨w, dd, e1, e2, h _ _ e3⟩
theorem Reps.mono (h : Le F G) : ∀ (ds : List D) (vs : List V), Reps T F ds vs → Reps T G ds vs
  | [], _, r => r
  | d :: ds, _, r => by
    obtain ⟨v, w, e, p, q⟩ := r
    exact ⟨v, w, e, Rep.mono h d v p, Reps.mono h ds w q⟩
theorem RepKs.mono (h : Le F G) : ∀ (ds : List (D × D)) (vs : List (Key × V)), RepKs T F ds vs → RepKs T G ds vs
  | [], _, r => r
  | (k, d) :: ds, _, r => by
    obtain ⟨kv, v, w, e, p0, p, q⟩ := r
    exact ⟨kv, v, w, e, Rep.mono h k _ p0, Rep.mono h d v p, RepKs.mono h ds w q⟩
end
theorem Reps.length : ∀ {ds : List D} {vs : List V}, Reps T F ds vs → ds.length = vs.length
  | [], _, r => by cases (show _ = [] from r); rfl
  | d :: ds, _, r => by
    obtain ⟨v, w, rfl, p, q⟩ := r
    simp [Reps.length q]
theorem Reps.get : ∀ {ds : List D} {vs : List V} {i : Nat} {d : D}, Reps T F ds vs → ds[i]? = some d → ∃ v, vs[i]? = some v ∧ Rep T F d v
  | [], _, _, _, _, e => by simp at e
  | d :: ds, _, 0, _, r, e => by
    obtain ⟨v, w, rfl, p, q⟩ := r
    simp at e
    subst e
    exact ⟨v, rfl, p⟩
  | d :: ds, _, i + 1, _, r, e => by
    obtain ⟨v, w, rfl, p, q⟩ := r
    obtain ⟨u, e1, e2⟩ := Reps.get (i := i) q (by simpa using e)
    exact ⟨u, by simpa using e1, e2⟩
theorem Reps.append : ∀ {ds es : List D} {vs us : List V}, Reps T F ds vs → Reps T F es us → Reps T F (ds ++ es) (vs ++ us)
  | [], _, _, _, r, s => by cases (show _ = [] from r); exact s
  | d :: ds, _, _, _, r, s => by
    obtain ⟨v, w, rfl, p, q⟩ := r
    exact ⟨v, w ++ _, rfl, p, Reps.append q s⟩
theorem Reps.nil : Reps T F [] [] := rfl
theorem Reps.cons {d : D} {v : V} {ds : List D} {vs : List V} (p : Rep T F d v) (q : Reps T F ds vs) : Reps T F (d :: ds) (v :: vs) := ⟨v, vs, rfl, p, q⟩
theorem Reps.take : ∀ {ds : List D} {vs : List V} (n : Nat), Reps T F ds vs → Reps T F (ds.take n) (vs.take n)
  | _, _, 0, _ => by simp; exact Reps.nil
  | [], _, n + 1, r => by cases (show _ = [] from r); exact Reps.nil
  | d :: ds, _, n + 1, r => by
    obtain ⟨v, w, rfl, p, q⟩ := r
    exact Reps.cons p (Reps.take n q)
theorem Reps.drop : ∀ {ds : List D} {vs : List V} (n : Nat), Reps T F ds vs → Reps T F (ds.drop n) (vs.drop n)
  | _, _, 0, r => by simpa using r
  | [], _, n + 1, r => by cases (show _ = [] from r); exact Reps.nil
  | d :: ds, _, n + 1, r => by
    obtain ⟨v, w, rfl, p, q⟩ := r
    exact Reps.drop n q
theorem Reps.set : ∀ {ds : List D} {vs : List V} {i : Nat} {d : D} {v : V}, Reps T F ds vs → Rep T F d v → Reps T F (ds.set i d) (vs.set i v)
  | [], _, _, _, _, r, _ => by cases (show _ = [] from r); exact Reps.nil
  | e :: ds, _, 0, _, _, r, s => by
    obtain ⟨v, w, rfl, p, q⟩ := r
    exact Reps.cons s q
  | e :: ds, _, i + 1, _, _, r, s => by
    obtain ⟨v, w, rfl, p, q⟩ := r
    exact Reps.cons p (Reps.set q s)
theorem Reps.reverse : ∀ {ds : List D} {vs : List V}, Reps T F ds vs → Reps T F ds.reverse vs.reverse
  | [], _, r => by cases (show _ = [] from r); exact Reps.nil
  | d :: ds, _, r => by
    obtain ⟨v, w, rfl, p, q⟩ := r
    rw [List.reverse_cons, List.reverse_cons]
    exact Reps.append (Reps.reverse q) (Reps.cons p Reps.nil)
end

/-! ### held values -/
def RepW (T : Tab) (F : Hp) (ρ : List Addr) : W → V → Prop
  | .fz d, v => Rep T F d v
  | .own k, v => ∃ a, ρ[k]? = some a ∧ v = .ref a
def RepWs (T : Tab) (F : Hp) (ρ : List Addr) : List W → List V → Prop
  | [], vs => vs = []
  | w :: ws, vs => ∃ v r, vs = v :: r ∧ RepW T F ρ w v ∧ RepWs T F ρ ws r
/-- the object n stands at a -/
def NodeOk (T : Tab) (F : Hp) (ρ : List Addr) (H : Hp) (a : Addr) : Node → Prop
  | .fl ds => ∃ xs, H a = some (.lst xs) ∧ Reps T F ds xs
  | .fd kvs => ∃ l, H a = some (.dK l) ∧ RepKs T F kvs l
  | .oo c ws => ∃ dx xs, H a = some (.ins (T.ca c) dx ((T.fn c).zip xs)) ∧ RepWs T F ρ ws xs
def RepR (T : Tab) (F Rs : Hp) (ρ : List Addr) (s : S) (H : Hp) : R → V → Prop
  | .fz d, v => Rep T F d v
  | .own k, v => ∃ a, ρ[k]? = some a ∧ v = .ref a
  | .nw n, v => ∃ a, v = .ref a ∧ F a = none ∧ Rs a = none ∧ (∀ (k : Nat) (n' : Node), s.o[k]? = some (some n') → ρ[k]? ≠ some a) ∧ NodeOk T F ρ H a n
section
variable {T : Tab} {F G H H' : Hp} {ρ : List Addr}
theorem RepW.mono (h : Le F G) : ∀ {w : W} {v : V}, RepW T F ρ w v → RepW T G ρ w v
  | .fz d, v, r => Rep.mono h d v r
  | .own _, _, r => r
theorem RepWs.mono (h : Le F G) : ∀ {w : List W} {v : List V}, RepWs T F ρ w v → RepWs T G ρ w v
  | [], _, r => r
  | w :: ws, _, r => by
    obtain ⟨v, u, e, p, q⟩ := r
    exact ⟨v, u, e, p.mono h, q.mono h⟩
theorem NodeOk.mono {a : Addr} (h : Le F G) (e : H' a = H a) : ∀ {n : Node}, NodeOk T F ρ H a n → NodeOk T G ρ H' a n
  | .fl ds, r => by
    obtain ⟨xs, p, q⟩ := r
    exact ⟨xs, e.trans p, q.mono h⟩
  | .fd kvs, r => by
    obtain ⟨l, p, q⟩ := r
    exact ⟨l, e.trans p, q.mono h⟩
  | .oo c ws, r => by
    obtain ⟨dx, xs, p, q⟩ := r
    exact ⟨dx, xs, e.trans p, q.mono h⟩
theorem NodeOk.there {a : Addr} : ∀ {n : Node}, NodeOk T F ρ H a n → H a ≠ none
  | .fl ds, r => by
    obtain ⟨xs, p, q⟩ := r
    rw [p]; exact fun z => nomatch z
  | .fd kvs, r => by
    obtain ⟨l, p, q⟩ := r
    rw [p]; exact fun z => nomatch z
  | .oo c ws, r => by
    obtain ⟨dx, xs, p, q⟩ := r
    rw [p]; exact fun z => nomatch z
end

/-- the plain state s is the state σ, H; F: what never changes, Rs: the rest, that is not touched here -/
structure Ok (T : Tab) (F Rs : Hp) (ρ : List Addr) (s : S) (σ : St) (H : Hp) : Prop where
  fh : Le F H
  rh : Le Rs H
  fr : ∀ p, F p ≠ none → Rs p = none
  ob : ∀ (k : Nat) (n : Node), s.o[k]? = some (some n) → ∃ a, ρ[k]? = some a ∧ F a = none ∧ Rs a = none ∧ NodeOk T F ρ H a n
  dj : ∀ (k k' : Nat) (n n' : Node) (a : Addr), s.o[k]? = some (some n) → s.o[k']? = some (some n') → ρ[k]? = some a → ρ[k']? = some a → k = k'
  sl : ∀ (i : Nat) (w : W), s.g[i]? = some (some w) → ∃ v, σ[i]? = some (some v) ∧ RepW T F ρ w v
  ln : s.g.length = σ.length
  lr : ρ.length = s.o.length

/-- a result that is kept while more is evaluated: its object counts to the rest -/
def addR (Rs : Hp) (H : Hp) (r : R) (v : V) : Hp := match r with
  | .nw _ => (match v with
    | .ref a => fun p => if p = a then H a else Rs p
    | _ => Rs)
  | _ => Rs
def RepRs (T : Tab) (F : Hp) (ρ : List Addr) (s : S) (H : Hp) : Hp → List R → List V → Prop
  | _, [], vs => vs = []
  | Rs, r :: rs, vs => ∃ v us, vs = v :: us ∧ RepR T F Rs ρ s H r v ∧ RepRs T F ρ s H (addR Rs H r v) rs us
section
variable {T : Tab} {F Rs : Hp} {ρ : List Addr} {s : S} {σ : St} {H : Hp}
theorem Ok.add {r : R} {v : V} (o : Ok T F Rs ρ s σ H) (p : RepR T F Rs ρ s H r v) : Ok T F (addR Rs H r v) ρ s σ H := by
  cases r with
  | fz d => exact o
  | own k => exact o
  | nw n =>
    obtain ⟨a, rfl, h1, h2, h3, h4⟩ := p
    refine ⟨o.fh, fun p u e => ?_, fun p hp => ?_, fun k n' e => ?_, o.dj, o.sl, o.ln, o.lr⟩
    · have e : (if p = a then H a else Rs p) = some u := e
      by_cases q : p = a
      · rw [if_pos q] at e
        rw [q]; exact e
      · rw [if_neg q] at e
        exact o.rh p u e
    · show (if p = a then H a else Rs p) = none
      by_cases q : p = a
      · subst q
        exact absurd h1 hp
      · rw [if_neg q]
        exact o.fr p hp
    · obtain ⟨b, e1, e2, e3, e4⟩ := o.ob k n' e
      refine ⟨b, e1, e2, ?_, e4⟩
      show (if b = a then H a else Rs b) = none
      by_cases q : b = a
      · subst q
        exact absurd e1 (h3 k n' e)
      · rw [if_neg q]
        exact e3
/-- behind more: the kept result is kept, the rest is as it was -/
theorem RepR.keep {F' H' : Hp} {s' : S} {r : R} {v : V} (o : Ok T F Rs ρ s σ H) (p : RepR T F Rs ρ s H r v) (l : Le F F') (o' : Ok T F' (addR Rs H r v) ρ s' σ H') :
    RepR T F' Rs ρ s' H' r v ∧ Ok T F' Rs ρ s' σ H' ∧ addR Rs H' r v = addR Rs H r v := by
  cases r with
  | fz d => exact ⟨Rep.mono l d v p, o', rfl⟩
  | own k => exact ⟨p, o', rfl⟩
  | nw n =>
    obtain ⟨a, rfl, h1, h2, h3, h4⟩ := p
    have ha : (addR Rs H (.nw n) (.ref a)) a = H a := if_pos rfl
    have na := h4.there
    have eH : H' a = H a := by
      cases q : H a with
      | none => exact absurd q na
      | some u => exact o'.rh a u (by rw [ha, q])
    have sub : ∀ b, b ≠ a → (addR Rs H (.nw n) (.ref a)) b = Rs b := fun b hb => if_neg hb
    have fa : F' a = none := by
      cases q : F' a with
      | none => rfl
      | some u =>
        have z := o'.fr a (by rw [q]; exact fun z => nomatch z)
        rw [ha] at z
        exact absurd z na
    refine ⟨⟨a, rfl, fa, h2, fun k n' e e1 => ?_, h4.mono l eH⟩, ⟨o'.fh, fun b u e => ?_, fun b hb => ?_, fun k n' e => ?_, o'.dj, o'.sl, o'.ln, o'.lr⟩, ?_⟩
    · obtain ⟨b, e2, e3, e4, e5⟩ := o'.ob k n' e
      rw [e1] at e2
      cases e2
      rw [ha] at e4
      exact na e4
    · by_cases q : b = a
      · subst q
        rw [h2] at e
        cases e
      · exact o'.rh b u (by rw [sub b q]; exact e)
    · by_cases q : b = a
      · subst q
        exact absurd fa hb
      · have z := o'.fr b hb
        rw [sub b q] at z
        exact z
    · obtain ⟨b, e2, e3, e4, e5⟩ := o'.ob k n' e
      refine ⟨b, e2, e3, ?_, e5⟩
      by_cases q : b = a
      · rw [q]; exact h2
      · rw [sub b q] at e4
        exact e4
    · funext b
      show (if b = a then H' a else Rs b) = (if b = a then H a else Rs b)
      rw [eH]
/-- the rest with all kept results -/
def addRs (H : Hp) : Hp → List R → List V → Hp
  | Rs, r :: rs, v :: vs => addRs H (addR Rs H r v) rs vs
  | Rs, _, _ => Rs
theorem Ok.adds : ∀ {rs : List R} {vs : List V} {Rs : Hp}, Ok T F Rs ρ s σ H → RepRs T F ρ s H Rs rs vs → Ok T F (addRs H Rs rs vs) ρ s σ H
  | [], vs, Rs, o, p => by
    cases (show vs = [] from p)
    exact o
  | r :: rs, vs, Rs, o, p => by
    obtain ⟨v, us, rfl, p1, p2⟩ := p
    exact (Ok.adds (rs := rs) (vs := us) (Rs := addR Rs H r v) (o.add p1) p2)
theorem RepRs.keep : ∀ {rs : List R} {vs : List V} {Rs F' H' : Hp} {s' : S}, Ok T F Rs ρ s σ H → RepRs T F ρ s H Rs rs vs → Le F F' → Ok T F' (addRs H Rs rs vs) ρ s' σ H' →
    RepRs T F' ρ s' H' Rs rs vs ∧ Ok T F' Rs ρ s' σ H' ∧ addRs H' Rs rs vs = addRs H Rs rs vs
  | [], vs, Rs, F', H', s', o, p, l, o' => by
    cases (show vs = [] from p)
    exact ⟨rfl, o', rfl⟩
  | r :: rs, vs, Rs, F', H', s', o, p, l, o' => by
    obtain ⟨v, us, rfl, p1, p2⟩ := p
    obtain ⟨q1, q2, q3⟩ := RepRs.keep (o.add p1) p2 l (show Ok T F' (addRs H (addR Rs H r v) rs us) ρ s' σ H' from o')
    obtain ⟨k1, k2, k3⟩ := RepR.keep o p1 l q2
    refine ⟨⟨v, us, rfl, k1, ?_⟩, k2, ?_⟩
    · rw [k3]; exact q1
    · show addRs H' (addR Rs H' r v) rs us = addRs H (addR Rs H r v) rs us
      rw [k3]; exact q3
theorem RepRs.snoc : ∀ {rs : List R} {vs : List V} {Rs : Hp} {r : R} {v : V}, RepRs T F ρ s H Rs rs vs → RepR T F (addRs H Rs rs vs) ρ s H r v → RepRs T F ρ s H Rs (rs ++ [r]) (vs ++ [v])
  | [], vs, Rs, r, v, p, q => by
    cases (show vs = [] from p)
    exact ⟨v, [], rfl, q, rfl⟩
  | r0 :: rs, vs, Rs, r, v, p, q => by
    obtain ⟨v0, us, rfl, p1, p2⟩ := p
    exact ⟨v0, us ++ [v], rfl, p1, RepRs.snoc p2 q⟩
theorem RepRs.apps : ∀ {rs : List R} {vs : List V} {Rs : Hp} {qs : List R} {us : List V}, RepRs T F ρ s H Rs rs vs → RepRs T F ρ s H (addRs H Rs rs vs) qs us → RepRs T F ρ s H Rs (rs ++ qs) (vs ++ us)
  | [], vs, Rs, qs, us, p, q => by
    cases (show vs = [] from p)
    exact q
  | r0 :: rs, vs, Rs, qs, us, p, q => by
    obtain ⟨v0, ws, rfl, p1, p2⟩ := p
    exact ⟨v0, ws ++ us, rfl, p1, RepRs.apps p2 q⟩
end

/-! ### what is wanted behind a plain run -/
/-- an exception as it lies in F -/
def ExcOk (T : Tab) (F : Hp) (c : Nat) (fs : List D) (cls : Value) (d : Option Addr) : Prop :=
  cls = .ref (T.ca c) ∧ ((fs = [] ∧ d = none) ∨ ∃ x v dd, fs = [x] ∧ d = some dd ∧ F dd = some (.xd [(T.xn c, v)]) ∧ Rep T F x v)
/-- the context: the module's classes, what is wished of an exception -/
structure Cc where
  T : Tab
  W : WX
  b : Nat
def Fin {α : Type} (c : Cc) (F Rs : Hp) (ρ : List Addr) (σ : St) (P : α → Hp → S → Hp → Prop) : Out α → Prop
  | .ok a s => ∀ H F', Ok c.T F' Rs ρ s σ H → Le F F' → P a F' s H
  | .err k fs s => ∀ cls d H F', Ok c.T F' Rs ρ s σ H → Le F F' → ExcOk c.T F' k fs cls d → c.W cls d σ H
  | .stuck => False
theorem Fin.imp {α : Type} {c : Cc} {F F1 Rs : Hp} {ρ : List Addr} {σ : St} {P P' : α → Hp → S → Hp → Prop} {x : Out α} (h : Fin c F Rs ρ σ P x) (l : Le F F1) (k : ∀ a F' s H, Ok c.T F' Rs ρ s σ H → Le F1 F' → P a F' s H → P' a F' s H) : Fin c F1 Rs ρ σ P' x := by
  cases x with
  | ok a s => exact fun H F' o l' => k a F' s H o l' (h H F' o (l.trans l'))
  | err e fs s => exact fun cls d H F' o l' => h cls d H F' o (l.trans l')
  | stuck => exact h
/-- an expression that gives what m gives -/
def PR (c : Cc) (Rs : Hp) (ρ : List Addr) (Q : VK) : R → Hp → S → Hp → Prop := fun r F s H => ∀ v, RepR c.T F Rs ρ s H r v → Q v H
def tE (c : Cc) (m : M R) : TE := fun σ H Q => ∃ F Rs ρ s, Ok c.T F Rs ρ s σ H ∧ Fin c F Rs ρ σ (PR c Rs ρ Q) (m s)
def tA (c : Cc) (m : M (List R)) : TA := fun σ H Q => ∃ F Rs ρ s, Ok c.T F Rs ρ s σ H ∧ Fin c F Rs ρ σ (fun rs F s H => ∀ vs, RepRs c.T F ρ s H Rs rs vs → Q vs H) (m s)
def tT (c : Cc) (m : M Bool) : TT := fun σ H Q => ∃ F Rs ρ s, Ok c.T F Rs ρ s σ H ∧ Fin c F Rs ρ σ (fun b _ _ H => Q b H) (m s)
/-- on the way: results rs stand as vs, m is what is left -/
def Sus {α : Type} (c : Cc) (P : Hp → List Addr → α → Hp → S → Hp → Prop) (rs : List R) (vs : List V) (m : M α) (σ : St) (H : Hp) : Prop :=
  ∃ F Rs ρ s, Ok c.T F Rs ρ s σ H ∧ RepRs c.T F ρ s H Rs rs vs ∧ Fin c F Rs ρ σ (P Rs ρ) (m s)
def PE_ (c : Cc) (Q : VK) : Hp → List Addr → R → Hp → S → Hp → Prop := fun Rs ρ r F s H => ∀ v, RepR c.T F Rs ρ s H r v → Q v H
def PA_ (c : Cc) (Q : List V → Hp → Prop) : Hp → List Addr → List R → Hp → S → Hp → Prop := fun Rs ρ rs F s H => ∀ vs, RepRs c.T F ρ s H Rs rs vs → Q vs H
def PT_ (Q : Bool → Hp → Prop) : Hp → List Addr → Bool → Hp → S → Hp → Prop := fun _ _ b _ _ H => Q b H
section
variable {c : Cc} {α : Type} {P : Hp → List Addr → α → Hp → S → Hp → Prop} {rs : List R} {vs : List V} {σ : St} {H : Hp}
theorem tE_sus {m : M R} {Q : VK} : tE c m σ H Q ↔ Sus c (PE_ c Q) [] [] m σ H :=
  ⟨fun ⟨F, Rs, ρ, s, o, f⟩ => ⟨F, Rs, ρ, s, o, rfl, f⟩, fun ⟨F, Rs, ρ, s, o, _, f⟩ => ⟨F, Rs, ρ, s, o, f⟩⟩
theorem tA_sus {m : M (List R)} {Q : List V → Hp → Prop} : tA c m σ H Q ↔ Sus c (PA_ c Q) [] [] m σ H :=
  ⟨fun ⟨F, Rs, ρ, s, o, f⟩ => ⟨F, Rs, ρ, s, o, rfl, f⟩, fun ⟨F, Rs, ρ, s, o, _, f⟩ => ⟨F, Rs, ρ, s, o, f⟩⟩
theorem tT_sus {m : M Bool} {Q : Bool → Hp → Prop} : tT c m σ H Q ↔ Sus c (PT_ Q) [] [] m σ H :=
  ⟨fun ⟨F, Rs, ρ, s, o, f⟩ => ⟨F, Rs, ρ, s, o, rfl, f⟩, fun ⟨F, Rs, ρ, s, o, _, f⟩ => ⟨F, Rs, ρ, s, o, f⟩⟩
theorem Sus.bndG {β : Type} {m : M β} {f : β → M α} (h : Sus c P rs vs (bnd m f) σ H) :
    ∃ F Rs ρ s, Ok c.T F Rs ρ s σ H ∧ Fin c F Rs ρ σ (fun b F' s' H' => ∀ qs us, RepRs c.T F' ρ s' H' Rs qs us → Sus c P (rs ++ qs) (vs ++ us) (f b) σ H') (m s) := by
  obtain ⟨F, Rs, ρ, s, o, p, h⟩ := h
  refine ⟨F, addRs H Rs rs vs, ρ, s, o.adds p, ?_⟩
  have h : Fin c F Rs ρ σ (P Rs ρ) (match m s with
    | .ok a s' => f a s'
    | .err c fs s' => .err c fs s'
    | .stuck => .stuck) := h
  revert h
  cases m s with
  | stuck => exact fun h => h
  | err e fs s1 =>
    intro h cls d H1 F1 o1 l1 x1
    obtain ⟨_, k2, _⟩ := RepRs.keep o p l1 o1
    exact h cls d H1 F1 k2 l1 x1
  | ok b s1 =>
    intro h H1 F1 o1 l1 qs us q
    obtain ⟨k1, k2, k3⟩ := RepRs.keep o p l1 o1
    refine ⟨F1, Rs, ρ, s1, k2, k1.apps (by rw [k3]; exact q), ?_⟩
    exact Fin.imp h l1 fun _ _ _ _ _ _ z => z
/-- the next operand -/
theorem Sus.bE {m : M R} {f : R → M α} (h : Sus c P rs vs (bnd m f) σ H) : tE c m σ H fun v H1 => ∃ r, Sus c P (rs ++ [r]) (vs ++ [v]) (f r) σ H1 := by
  obtain ⟨F, Rs, ρ, s, o, h⟩ := h.bndG
  exact ⟨F, Rs, ρ, s, o, Fin.imp h (Le.refl F) fun r F' s' H' o' l' z v hv => ⟨r, z [r] [v] ⟨v, [], rfl, hv, rfl⟩⟩⟩
theorem Sus.bA {m : M (List R)} {f : List R → M α} (h : Sus c P rs vs (bnd m f) σ H) : tA c m σ H fun us H1 => ∃ qs, Sus c P (rs ++ qs) (vs ++ us) (f qs) σ H1 := by
  obtain ⟨F, Rs, ρ, s, o, h⟩ := h.bndG
  exact ⟨F, Rs, ρ, s, o, Fin.imp h (Le.refl F) fun r F' s' H' o' l' z v hv => ⟨r, z _ _ hv⟩⟩
theorem Sus.bT {m : M Bool} {f : Bool → M α} (h : Sus c P rs vs (bnd m f) σ H) : tT c m σ H fun b H1 => Sus c P rs vs (f b) σ H1 := by
  obtain ⟨F, Rs, ρ, s, o, h⟩ := h.bndG
  refine ⟨F, Rs, ρ, s, o, Fin.imp h (Le.refl F) fun r F' s' H' o' l' z => ?_⟩
  have q := z [] [] rfl
  rw [List.append_nil, List.append_nil] at q
  exact q
/-- what the state gives without a step -/
theorem Sus.pure1 {β : Type} {m : M β} {f : β → M α} (h : Sus c P rs vs (bnd m f) σ H) (hm : ∀ s, (∃ b, m s = .ok b s) ∨ m s = .stuck) : ∃ F Rs ρ s b, m s = .ok b s ∧ Ok c.T F Rs ρ s σ H ∧ RepRs c.T F ρ s H Rs rs vs ∧ Fin c F Rs ρ σ (P Rs ρ) (f b s) := by
  obtain ⟨F, Rs, ρ, s, o, p, h⟩ := h
  rcases hm s with ⟨b, e⟩ | e
  · have h : Fin c F Rs ρ σ (P Rs ρ) (bnd m f s) := h
    unfold bnd at h
    rw [e] at h
    exact ⟨F, Rs, ρ, s, b, e, o, p, h⟩
  · have h : Fin c F Rs ρ σ (P Rs ρ) (bnd m f s) := h
    unfold bnd at h
    rw [e] at h
    exact h.elim
end
end Sx

set_option Elab.async false
set_option linter.all false
set_option maxRecDepth 100000
set_option maxHeartbeats 1000000
/-! Sx, part B: operations on data, expressions. -/
namespace Sx
open PySem L2

abbrev SZ : Nat := 16777216
theorem SZ_eq : sizeLine = SZ := sizeLine_eq

/-! ### reading a result -/
def wsD : List W → Option (List D)
  | [] => some []
  | .fz d :: ws => (wsD ws).map (d :: ·)
  | .own _ :: _ => none
def Node.toD : Node → Option D
  | .fl ds => some (.lst ds)
  | .fd kvs => some (.dic kvs)
  | .oo c ws => (wsD ws).map (.obj c)
def peek : R → S → Option D
  | .fz d, _ => some d
  | .own k, s => match s.o[k]? with
    | some (some n) => n.toD
    | _ => none
  | .nw n, _ => n.toD
def peeks : List R → S → Option (List D)
  | [], _ => some []
  | r :: rs, s => match peek r s, peeks rs s with
    | some d, some ds => some (d :: ds)
    | _, _ => none
/-- an object's top in H, what it holds in F -/
def RepC (T : Tab) (F H : Hp) : D → V → Prop
  | .lst ds, v => ∃ a xs, v = .ref a ∧ H a = some (.lst xs) ∧ Reps T F ds xs
  | .dic kvs, v => ∃ a l, v = .ref a ∧ Rd H a (.dK l) ∧ RepKs T F kvs l
  | .obj c ds, v => ∃ a dx xs, v = .ref a ∧ H a = some (.ins (T.ca c) dx ((T.fn c).zip xs)) ∧ Reps T F ds xs
  | d, v => Rep T F d v
def RepCs (T : Tab) (F H : Hp) : List D → List V → Prop
  | [], vs => vs = []
  | d :: ds, vs => ∃ v us, vs = v :: us ∧ RepC T F H d v ∧ RepCs T F H ds us
section
variable {T : Tab} {F Rs H : Hp} {ρ : List Addr} {s : S} {σ : St}
theorem Rep.c (l : Le F H) : ∀ {d : D} {v : V}, Rep T F d v → RepC T F H d v
  | .non, _, r => r
  | .bl _, _, r => r
  | .int _, _, r => r
  | .str _, _, r => r
  | .tup _, _, r => r
  | .scr _, _, r => r
  | .exc _ _, _, r => r
  | .lst ds, _, r => by
    obtain ⟨a, xs, e, s, q⟩ := r
    exact ⟨a, xs, e, l _ _ s, q⟩
  | .dic kvs, _, r => by
    obtain ⟨a, x, e, s, q⟩ := r
    exact ⟨a, x, e, l.rd s, q⟩
  | .obj c ds, _, r => by
    obtain ⟨a, dx, xs, e, s, q⟩ := r
    exact ⟨a, dx, xs, e, l _ _ s, q⟩
theorem RepC.full (l : Le F H) : ∀ {d : D} {v : V}, RepC T F H d v → Rep T H d v
  | .non, _, r => r
  | .bl _, _, r => r
  | .int _, _, r => r
  | .str _, _, r => r
  | .tup ds, v, r => Rep.mono l (.tup ds) v r
  | .scr ns, v, r => Rep.mono l (.scr ns) v r
  | .exc c ds, v, r => Rep.mono l (.exc c ds) v r
  | .lst ds, _, r => by
    obtain ⟨a, xs, e, s, q⟩ := r
    exact ⟨a, xs, e, s, q.mono l⟩
  | .dic kvs, _, r => by
    obtain ⟨a, x, e, s, q⟩ := r
    exact ⟨a, x, e, s, q.mono l⟩
  | .obj c ds, _, r => by
    obtain ⟨a, dx, xs, e, s, q⟩ := r
    exact ⟨a, dx, xs, e, s, q.mono l⟩
theorem wsD_ok : ∀ {ws : List W} {ds : List D} {vs : List V}, wsD ws = some ds → RepWs T F ρ ws vs → Reps T F ds vs
  | [], ds, vs, e, r => by
    cases e
    exact r
  | .own _ :: _, _, _, e, _ => by cases e
  | .fz d :: ws, ds, vs, e, r => by
    obtain ⟨v, us, rfl, p, q⟩ := r
    unfold wsD at e
    cases e2 : wsD ws with
    | none => rw [e2] at e; cases e
    | some es =>
      rw [e2] at e
      cases e
      exact ⟨v, us, rfl, p, wsD_ok e2 q⟩
theorem NodeOk.d {a : Addr} : ∀ {n : Node} {d : D}, NodeOk T F ρ H a n → n.toD = some d → RepC T F H d (.ref a)
  | .fl ds, d, r, e => by
    cases e
    obtain ⟨xs, p, q⟩ := r
    exact ⟨a, xs, rfl, p, q⟩
  | .fd kvs, d, r, e => by
    cases e
    obtain ⟨xs, p, q⟩ := r
    exact ⟨a, xs, rfl, .inl p, q⟩
  | .oo c ws, d, r, e => by
    have e : (wsD ws).map (.obj c) = some d := e
    cases e2 : wsD ws with
    | none => rw [e2] at e; cases e
    | some es =>
      rw [e2] at e
      cases e
      obtain ⟨dx, xs, p, q⟩ := r
      exact ⟨a, dx, xs, rfl, p, wsD_ok e2 q⟩
theorem peek_ok (o : Ok T F Rs ρ s σ H) : ∀ {r : R} {v : V} {d : D}, RepR T F Rs ρ s H r v → peek r s = some d → RepC T F H d v
  | .fz d, v, _, r, e => by
    cases e
    exact Rep.c o.fh r
  | .own k, v, d, r, e => by
    obtain ⟨a, h1, rfl⟩ := r
    have e : (match s.o[k]? with
      | some (some n) => n.toD
      | _ => none) = some d := e
    cases e2 : s.o[k]? with
    | none => rw [e2] at e; cases e
    | some x =>
      cases x with
      | none => rw [e2] at e; cases e
      | some n =>
        rw [e2] at e
        obtain ⟨b, h2, _, _, h3⟩ := o.ob k n e2
        rw [h1] at h2
        cases h2
        exact h3.d e
  | .nw n, v, d, r, e => by
    obtain ⟨a, rfl, _, _, _, h⟩ := r
    exact h.d e
theorem addR_peeks : ∀ {rs : List R} {vs : List V} {Rs : Hp} {ds : List D}, Ok T F Rs ρ s σ H → RepRs T F ρ s H Rs rs vs → peeks rs s = some ds → RepCs T F H ds vs
  | [], vs, Rs, ds, o, r, e => by
    cases e
    exact r
  | r :: rs, vs, Rs, ds, o, h, e => by
    obtain ⟨v, us, rfl, p, q⟩ := h
    unfold peeks at e
    cases e1 : peek r s with
    | none => rw [e1] at e; cases e
    | some d =>
      cases e2 : peeks rs s with
      | none => rw [e1, e2] at e; cases e
      | some es =>
        rw [e1, e2] at e
        cases e
        exact ⟨v, us, rfl, peek_ok o p e1, addR_peeks (o.add p) q e2⟩
/-- a new object beside -/
theorem Ok.new {p : Addr} {ho : HO} (o : Ok T F Rs ρ s σ H) (hp : H p = none) : Ok T F Rs ρ s σ (upd H p ho) := by
  have l : Le H (upd H p ho) := Le.new hp
  refine ⟨o.fh.trans l, o.rh.trans l, o.fr, fun k n e => ?_, o.dj, o.sl, o.ln, o.lr⟩
  obtain ⟨a, e1, e2, e3, e4⟩ := o.ob k n e
  have ne : a ≠ p := fun z => e4.there (by rw [z]; exact hp)
  exact ⟨a, e1, e2, e3, e4.mono (Le.refl F) (upd_ne ne)⟩
/-- .. that never changes -/
theorem Ok.newF {p : Addr} {ho : HO} (o : Ok T F Rs ρ s σ H) (hp : H p = none) : Ok T (upd F p ho) Rs ρ s σ (upd H p ho) := by
  have lf : Le F (upd F p ho) := Le.new (o.fh.free hp)
  have o' := o.new (ho := ho) hp
  refine ⟨fun b u e => ?_, o'.rh, fun b hb => ?_, fun k n e => ?_, o.dj, fun i w e => ?_, o.ln, o.lr⟩
  · by_cases q : b = p
    · subst q
      rw [upd_same] at e ⊢
      exact e
    · rw [upd_ne q] at e
      exact o'.fh b u e
  · by_cases q : b = p
    · subst q
      exact o.rh.free hp
    · rw [upd_ne q] at hb
      exact o.fr b hb
  · obtain ⟨a, e1, e2, e3, e4⟩ := o.ob k n e
    have ne : a ≠ p := fun z => e4.there (by rw [z]; exact hp)
    exact ⟨a, e1, by rw [upd_ne ne]; exact e2, e3, e4.mono lf (upd_ne ne)⟩
  · obtain ⟨v, e1, e2⟩ := o.sl i w e
    exact ⟨v, e1, e2.mono lf⟩
end

/-- what a result gives to what follows -/
def Gives (T : Tab) (F H : Hp) (Q : VK) : R → Prop
  | .fz d => (∀ v, Rep T F d v → Q v H) ∧ (∀ ds xs p, d = .tup ds → H p = none → Reps T F ds xs → Q (.ref p) (upd H p (.tup xs)))
  | .nw (.fl ds) => ∀ xs p, H p = none → Reps T F ds xs → Q (.ref p) (upd H p (.lst xs))
  | .nw (.fd kvs) => ∀ l p, H p = none → RepKs T F kvs l → Q (.ref p) (upd H p (.dK l))
  | _ => True
section
variable {c : Cc} {F Rs H : Hp} {ρ : List Addr} {s : S} {σ : St} {Q : VK}
theorem Fin.gives (o : Ok c.T F Rs ρ s σ H) : ∀ {r : R}, Fin c F Rs ρ σ (PE_ c Q Rs ρ) (.ok r s) → Gives c.T F H Q r
  | .fz d, h => ⟨fun v r => h H F o (Le.refl F) v r, fun ds xs p e hp r => by
      subst e
      have lf : Le F (upd F p (.tup xs)) := Le.new (o.fh.free hp)
      exact h _ _ (o.newF hp) lf (.ref p) ⟨p, xs, rfl, SqT.of upd_same, r.mono lf⟩⟩
  | .nw (.fl ds), h => fun xs p hp r => by
      refine h _ F (o.new hp) (Le.refl F) (.ref p) ⟨p, rfl, o.fh.free hp, o.rh.free hp, fun k n e e2 => ?_, xs, upd_same, r⟩
      obtain ⟨a, e1, _, _, e4⟩ := o.ob k n e
      rw [e1] at e2
      cases e2
      exact e4.there hp
  | .nw (.fd kvs), h => fun xs p hp r => by
      refine h _ F (o.new hp) (Le.refl F) (.ref p) ⟨p, rfl, o.fh.free hp, o.rh.free hp, fun k n e e2 => ?_, xs, upd_same, r⟩
      obtain ⟨a, e1, _, _, e4⟩ := o.ob k n e
      rw [e1] at e2
      cases e2
      exact e4.there hp
  | .nw (.oo _ _), _ => trivial
  | .own _, _ => trivial
end
/-- an operation on the results' data -/
def pkN (op : List D → Option R) (rs : List R) : M R := fun s => match peeks rs s with
  | some ds => (match op ds with
    | some r => .ok r s
    | none => .stuck)
  | none => .stuck
theorem Sus.pk {c : Cc} {Q : VK} {rs : List R} {vs : List V} {op : List D → Option R} {σ : St} {H : Hp} (h : Sus c (PE_ c Q) rs vs (pkN op rs) σ H) :
    ∃ F ds r, Le F H ∧ RepCs c.T F H ds vs ∧ op ds = some r ∧ Gives c.T F H Q r := by
  obtain ⟨F, Rs, ρ, s, o, p, h⟩ := h
  unfold pkN at h
  cases e : peeks rs s with
  | none => rw [e] at h; exact h.elim
  | some ds =>
    rw [e] at h
    dsimp only at h
    cases e2 : op ds with
    | none => rw [e2] at h; exact h.elim
    | some r =>
      rw [e2] at h
      exact ⟨F, ds, r, o.fh, addR_peeks o p e, e2, h.gives o⟩
theorem tE_mono {c : Cc} {m : M R} {σ : St} {H : Hp} {Q Q' : VK} (h : tE c m σ H Q) (k : ∀ v H', Q v H' → Q' v H') : tE c m σ H Q' := by
  obtain ⟨F, Rs, ρ, s, o, h⟩ := h
  exact ⟨F, Rs, ρ, s, o, Fin.imp h (Le.refl F) fun r F' s' H' _ _ z v hv => k v H' (z v hv)⟩
theorem tA_mono {c : Cc} {m : M (List R)} {σ : St} {H : Hp} {Q Q' : List V → Hp → Prop} (h : tA c m σ H Q) (k : ∀ v H', Q v H' → Q' v H') : tA c m σ H Q' := by
  obtain ⟨F, Rs, ρ, s, o, h⟩ := h
  exact ⟨F, Rs, ρ, s, o, Fin.imp h (Le.refl F) fun r F' s' H' _ _ z v hv => k v H' (z v hv)⟩
theorem tT_mono {c : Cc} {m : M Bool} {σ : St} {H : Hp} {Q Q' : Bool → Hp → Prop} (h : tT c m σ H Q) (k : ∀ v H', Q v H' → Q' v H') : tT c m σ H Q' := by
  obtain ⟨F, Rs, ρ, s, o, h⟩ := h
  exact ⟨F, Rs, ρ, s, o, Fin.imp h (Le.refl F) fun r F' s' H' _ _ z => k r H' z⟩
theorem PEof {X : Cx} {e : Expr} {t t' : TE} (h : PE X e t) (k : ∀ σ H Q, t' σ H Q → t σ H Q) : PE X e t' := ⟨fun pins s σ H Q I hw => h.run pins s σ H Q I (k σ H Q hw)⟩
theorem PTof {X : Cx} {e : Expr} {t t' : TT} (h : PT X e t) (k : ∀ σ H Q, t' σ H Q → t σ H Q) : PT X e t' := ⟨fun pins s σ H Q I hw => h.run pins s σ H Q I (k σ H Q hw)⟩
theorem PWof {X : Cx} {e : Expr} {t t' : TT} (h : PW X e t) (k : ∀ σ H Q, t' σ H Q → t σ H Q) : PW X e t' := ⟨fun wh pins s σ H Q I hw => h.run wh pins s σ H Q I (k σ H Q hw)⟩
theorem PAof {X : Cx} {e : List Expr} {t t' : TA} (h : PA X e t) (k : ∀ σ H Q, t' σ H Q → t σ H Q) : PA X e t' := ⟨fun pos pins s σ H Q I hw => h.run pos pins s σ H Q I (k σ H Q hw)⟩

/-! ### names and constants -/
def fVar (i : Nat) : M R := fun s => match s.g[i]? with
  | some (some (.fz d)) => .ok (.fz d) s
  | some (some (.own k)) => .ok (.own k) s
  | _ => .stuck
def fC (d : D) : M R := ret (.fz d)
section
variable {X : Cx} {c : Cc}
theorem se_var {e : Expr} {i : Nat} (h : PE X e (tVar i)) : PE X e (tE c (fVar i)) := PEof h fun σ H Q ⟨F, Rs, ρ, s, o, f⟩ => by
  unfold fVar at f
  cases e1 : s.g[i]? with
  | none => rw [e1] at f; exact f.elim
  | some x =>
    cases x with
    | none => rw [e1] at f; exact f.elim
    | some w =>
      obtain ⟨v, e2, r⟩ := o.sl i w e1
      rw [e1] at f
      refine ⟨v, e2, ?_⟩
      cases w with
      | fz d => exact f H F o (Le.refl F) v r
      | own k => exact f H F o (Le.refl F) v r
theorem se_c {e : Expr} {v : V} {d : D} (h : PE X e (tC v)) (r : ∀ F, Rep c.T F d v) : PE X e (tE c (fC d)) := PEof h fun σ H Q ⟨F, Rs, ρ, s, o, f⟩ => f H F o (Le.refl F) v (r F)
theorem se_int {i : Int} {j pos} : PE X (.Constant (.int i) j pos) (tE c (fC (.int i))) := se_c pe_int fun _ => rfl
theorem se_bl {b : Bool} {j pos} : PE X (.Constant (.bool b) j pos) (tE c (fC (.bl b))) := se_c pe_bl fun _ => rfl
theorem se_non {j pos} : PE X (.Constant .none j pos) (tE c (fC .non)) := se_c pe_non fun _ => rfl
theorem se_str {x : Str} {t : Tx} {j pos} (h : x.cps.toList = t) : PE X (.Constant (.str x) j pos) (tE c (fC (.str t))) := se_c pe_str fun _ => by
  subst h
  show V.str x = V.str (stx x.cps.toList)
  unfold stx
  rw [Array.toArray_toList]
end

/-! ### operations -/
def l1 (op : D → Option R) : List D → Option R
  | [d] => op d
  | _ => none
def l2 (op : D → D → Option R) : List D → Option R
  | [d, e] => op d e
  | _ => none
def fOp2 (op : D → D → Option R) (a b : M R) : M R := bnd a fun x => bnd b fun y => pkN (l2 op) [x, y]
def fOp1 (op : D → Option R) (a : M R) : M R := bnd a fun x => pkN (l1 op) [x]
def R2Ok (T : Tab) (r : R2) (op : D → D → Option R) : Prop :=
  ∀ (F H : Hp) (d e : D) (v u : V) (res : R) (Q : VK), Le F H → RepC T F H d v → RepC T F H e u → op d e = some res → Gives T F H Q res → r v u H Q
def R1Ok (T : Tab) (r : V → Hp → VK → Prop) (op : D → Option R) : Prop :=
  ∀ (F H : Hp) (d : D) (v : V) (res : R) (Q : VK), Le F H → RepC T F H d v → op d = some res → Gives T F H Q res → r v H Q
section
variable {X : Cx} {c : Cc}
theorem op2_le {r : R2} {op : D → D → Option R} {ma mb : M R} (ok : R2Ok c.T r op) {σ : St} {H : Hp} {Q : VK} (h : tE c (fOp2 op ma mb) σ H Q) : tOp r (tE c ma) (tE c mb) σ H Q := by
  have h1 := (tE_sus.mp h).bE
  refine tE_mono h1 fun v H1 ⟨a, h2⟩ => tE_mono h2.bE fun u H2 ⟨b, h3⟩ => ?_
  obtain ⟨F, ds, res, l, p, e, g⟩ := Sus.pk (rs := [a, b]) (vs := [v, u]) h3
  match ds, p, e with
  | [d1, d2], ⟨_, _, e1, p1, _, _, e2, p2, e3⟩, e =>
    cases e1
    cases e2
    exact ok F H2 d1 d2 v u res Q l p1 p2 e g
theorem op1_le {r : V → Hp → VK → Prop} {op : D → Option R} {ma : M R} (ok : R1Ok c.T r op) {σ : St} {H : Hp} {Q : VK} (h : tE c (fOp1 op ma) σ H Q) : tUn r (tE c ma) σ H Q := by
  have h1 := (tE_sus.mp h).bE
  refine tE_mono h1 fun v H1 ⟨a, h3⟩ => ?_
  obtain ⟨F, ds, res, l, p, e, g⟩ := Sus.pk (rs := [a]) (vs := [v]) h3
  match ds, p, e with
  | [d1], ⟨_, _, e1, p1, _⟩, e =>
    cases e1
    exact ok F H1 d1 v res Q l p1 e g
theorem se_op2 {e : Expr} {r : R2} {op : D → D → Option R} {ma mb : M R} (ok : R2Ok c.T r op) (h : PE X e (tOp r (tE c ma) (tE c mb))) : PE X e (tE c (fOp2 op ma mb)) := PEof h fun _ _ _ z => op2_le ok z
theorem se_op1 {e : Expr} {r : V → Hp → VK → Prop} {op : D → Option R} {ma : M R} (ok : R1Ok c.T r op) (h : PE X e (tUn r (tE c ma))) : PE X e (tE c (fOp1 op ma)) := PEof h fun _ _ _ z => op1_le ok z
end

theorem stx_length (a : Tx) : (stx a).length = a.length := by
  unfold stx Str.length
  simp
theorem stx_append (a b : Tx) : stx a ++ stx b = stx (a ++ b) := by
  unfold stx
  show Str.mk _ = _
  simp
theorem stx_inj {a b : Tx} (h : stx a = stx b) : a = b := by
  unfold stx at h
  injection h with h
  simpa using h
theorem stx_cps (a : Tx) : (stx a).cps.toList = a := by
  unfold stx
  simp
end Sx

set_option Elab.async false
set_option linter.all false
set_option maxRecDepth 100000
set_option maxHeartbeats 1000000
/-! Sx, part C: operators, comparisons, subscripts, slices. -/
namespace Sx
open PySem L2

/-! ### arithmetic -/
def addD : D → D → Option R
  | .int i, .int j => some (.fz (.int (i + j)))
  | .str a, .str b => if a.length + b.length ≤ SZ then some (.fz (.str (a ++ b))) else none
  | .lst a, .lst b => if a.length + b.length ≤ SZ then some (.nw (.fl (a ++ b))) else none
  | .tup a, .tup b => if a.length + b.length ≤ SZ then some (.fz (.tup (a ++ b))) else none
  | _, _ => none
def subD : D → D → Option R
  | .int i, .int j => some (.fz (.int (i - j)))
  | _, _ => none
def smallI (i : Int) : Prop := -18446744073709551616 < i ∧ i < 18446744073709551616
instance (i : Int) : Decidable (smallI i) := by unfold smallI; exact inferInstance
def repL {α : Type} (n : Nat) (xs : List α) : List α := (List.replicate n xs).flatten
def mulD : D → D → Option R
  | .int i, .int j => if smallI i ∨ smallI j then some (.fz (.int (i * j))) else none
  | .str a, .int j => if a.length * j.toNat ≤ SZ ∧ 0 ≤ j ∧ j ≤ 1048576 then some (.fz (.str (repL j.toNat a))) else none
  | .lst a, .int j => if a.length * j.toNat ≤ SZ ∧ 0 ≤ j ∧ j ≤ 1048576 then some (.nw (.fl (repL j.toNat a))) else none
  | _, _ => none
def fdivD : D → D → Option R
  | .int i, .int j => if 0 < j ∧ j < 1073741824 then some (.fz (.int (i / j))) else none
  | _, _ => none
def modD : D → D → Option R
  | .int i, .int j => if 0 < j then some (.fz (.int (i % j))) else none
  | _, _ => none
def powD : D → D → Option R
  | .int i, .int j => if 0 ≤ j ∧ j ≤ 1000 ∧ 0 ≤ i ∧ i < 1000 then some (.fz (.int (i ^ j.toNat))) else none
  | _, _ => none
def rAddU (K : PySem.W.Frag) : R2 := fun x y H Q => rI0 (fun i j => .int (i + j)) x y H Q ∨ (∃ i j, x = .str i ∧ y = .str j ∧ i.length + j.length ≤ sizeLine ∧ Q (.str (i ++ j)) H) ∨ rCat x y H Q ∨ rCatA K x y H Q
def rMulS : R2 := fun x y H Q => ∃ (a : Str) (j : Int), x = .str a ∧ y = .int j ∧ MulOk a j ∧ Q (.str (Txt.mul a j)) H
def rMulU : R2 := fun x y H Q => rI CMul (fun i j => .int (i * j)) x y H Q ∨ rMulS x y H Q ∨ rRep x y H Q
theorem OpR.or {X : Cx} {f : Value → Value → Sem Value} {r r' : R2} (h : OpR X f r) (h' : OpR X f r') : OpR X f (fun x y H Q => r x y H Q ∨ r' x y H Q) := by
  intro pins s σ H x y v u Q I rx ry q
  rcases q with q | q
  · exact h pins s σ H x y v u Q I rx ry q
  · exact h' pins s σ H x y v u Q I rx ry q
section
variable {X : Cx} {T : Tab}
theorem op_addU : OpR X (binaryOp .Add) (rAddU X.K) := op_add.or (op_add_str.or (op_cat.or op_catA))
theorem op_mulS : OpR X (binaryOp .Mult) rMulS := by
  intro pins s σ H x y v u Q I rx ry h
  obtain ⟨a, j, rfl, rfl, hm, q⟩ := h
  obtain ⟨t, rfl⟩ := rx
  obtain ⟨t', rfl⟩ := ry
  exact SB.mul hm fun t2 k => ⟨.str (Txt.mul a j), H, I.tok _, ⟨_, rfl⟩, q⟩
theorem op_mulU : OpR X (binaryOp .Mult) rMulU := op_mul.or (op_mulS.or op_rep)
theorem addOk : R2Ok T (rAddU T.K) addD := by
  intro F H d e v u res Q l p q eq g
  unfold addD at eq
  split at eq
  · cases eq
    cases (show v = _ from p)
    cases (show u = _ from q)
    exact .inl ⟨_, _, rfl, rfl, g.1 _ rfl⟩
  · split at eq
    · rename_i hz
      cases eq
      cases (show v = _ from p)
      cases (show u = _ from q)
      refine .inr (.inl ⟨_, _, rfl, rfl, by rw [stx_length, stx_length, SZ_eq]; exact hz, ?_⟩)
      rw [stx_append]
      exact g.1 _ rfl
    · cases eq
  · split at eq
    · rename_i hz
      cases eq
      obtain ⟨a, xs, rfl, ha, ra⟩ := p
      obtain ⟨b, ys, rfl, hb, rb⟩ := q
      refine .inr (.inr (.inl ⟨a, b, xs, ys, rfl, rfl, ha, hb, by rw [← ra.length, ← rb.length, SZ_eq]; exact hz, fun p hp => g _ p hp (ra.append rb)⟩))
    · cases eq
  · split at eq
    · rename_i hz
      cases eq
      obtain ⟨a, xs, rfl, ha, ra⟩ := p
      obtain ⟨b, ys, rfl, hb, rb⟩ := q
      refine .inr (.inr (.inr ⟨a, b, xs, ys, rfl, rfl, l.sqt ha, l.sqt hb, by rw [← ra.length, ← rb.length, SZ_eq]; exact hz, fun h => ?_, fun h0 h => ?_, fun _ _ p hp => g.2 _ _ p rfl hp (ra.append rb)⟩))
      · subst h
        have z := ra.length
        simp at z
        subst z
        exact g.1 _ ⟨b, ys, rfl, hb, rb⟩
      · subst h
        have z := rb.length
        simp at z
        subst z
        exact g.1 _ ⟨a, xs, rfl, ha, by rw [List.append_nil]; exact ra⟩
    · cases eq
  · cases eq
theorem subOk : R2Ok T (rI0 fun i j => .int (i - j)) subD := by
  intro F H d e v u res Q l p q eq g
  unfold subD at eq
  split at eq
  · cases eq
    cases (show v = _ from p)
    cases (show u = _ from q)
    exact ⟨_, _, rfl, rfl, g.1 _ rfl⟩
  · cases eq
theorem foldl_app : ∀ (n : Nat) (a : List Nat) (acc : Array Nat), ((List.replicate n a.toArray).foldl (· ++ ·) acc) = (acc.toList ++ (List.replicate n a).flatten).toArray
  | 0, a, acc => by simp
  | n + 1, a, acc => by
    rw [List.replicate_succ, List.foldl_cons, foldl_app n a]
    simp [List.replicate_succ]
theorem mul_stx (a : Tx) (j : Int) (h0 : 0 ≤ j) : Txt.mul (stx a) j = stx (repL j.toNat a) := by
  unfold Txt.mul repL
  split
  · rename_i h
    have e : j.toNat = 0 := by omega
    rw [e]
    rfl
  · split
    · rename_i h1 h
      simp only [Bool.or_eq_true, beq_iff_eq] at h
      rcases h with h | h
      · subst h
        show stx a = stx (List.replicate 1 a).flatten
        simp [List.replicate]
      · rw [stx_length] at h
        have : a = [] := List.eq_nil_of_length_eq_zero h
        subst this
        congr 1
        generalize j.toNat = n
        induction n with
        | zero => rfl
        | succ n ih => rw [List.replicate_succ, List.flatten_cons, ← ih]; rfl
    · unfold stx
      show Str.mk _ = Str.mk _
      rw [foldl_app]
      simp
theorem rep_flatten {α : Type} (n : Nat) (a : List α) : (repL n a).length = a.length * n := by
  unfold repL
  induction n with
  | zero => simp
  | succ n ih => rw [List.replicate_succ, List.flatten_cons, List.length_append, ih, Nat.mul_succ]; omega
theorem mulOk_small {a : Tx} {j : Int} (h : a.length * j.toNat ≤ SZ) (h0 : 0 ≤ j) (h1 : j ≤ 1048576) : MulOk (stx a) j := by
  refine ⟨?_, fun h2 _ h3 => ?_, fun _ _ => ?_⟩
  · rw [Bool.or_eq_false_iff]
    exact ⟨decide_eq_false (by omega), decide_eq_false (by omega)⟩
  · rw [stx_length] at h3
    have z : ((a.length : Int)) * j ≤ SZ := by
      have e : j = (j.toNat : Int) := by omega
      rw [e]
      exact_mod_cast h
    have z2 : (2 ^ 63 - 1) / j * j ≤ 2 ^ 63 - 1 := Int.ediv_mul_le _ (by omega)
    have z3 : (2 ^ 63 - 1 : Int) < ((2 ^ 63 - 1) / j + 1) * j := Int.lt_ediv_add_one_mul_self _ (by omega)
    have z4 : ((2 ^ 63 - 1) / j + 1) * j ≤ (a.length : Int) * j := Int.mul_le_mul_of_nonneg_right (by omega) h0
    have : (SZ : Int) = 16777216 := rfl
    omega
  · rw [stx_length]
    unfold Builtin.Str.tooLong
    simp only [decide_eq_false_iff_not, SZ_eq]
    omega
theorem Reps.repL {F : Hp} {ds : List D} {xs : List V} (r : Reps T F ds xs) : ∀ n, Reps T F (Sx.repL n ds) (Sx.repL n xs)
  | 0 => Reps.nil
  | n + 1 => by
    unfold Sx.repL
    rw [List.replicate_succ, List.replicate_succ, List.flatten_cons, List.flatten_cons]
    exact r.append (Reps.repL r n)
end
end Sx

namespace Sx
open PySem L2
section
variable {X : Cx} {T : Tab}
theorem mulOk : R2Ok T rMulU mulD := by
  intro F H d e v u res Q l p q eq g
  unfold mulD at eq
  split at eq
  · split at eq
    · rename_i hz
      cases eq
      cases (show v = _ from p)
      cases (show u = _ from q)
      exact .inl ⟨_, _, rfl, rfl, hz, g.1 _ rfl⟩
    · cases eq
  · split at eq
    · rename_i hz
      cases eq
      cases (show v = _ from p)
      cases (show u = _ from q)
      refine .inr (.inl ⟨_, _, rfl, rfl, mulOk_small hz.1 hz.2.1 hz.2.2, ?_⟩)
      rw [mul_stx _ _ hz.2.1]
      exact g.1 _ rfl
    · cases eq
  · split at eq
    · rename_i hz
      cases eq
      obtain ⟨a, xs, rfl, ha, ra⟩ := p
      cases (show u = _ from q)
      exact .inr (.inr ⟨a, _, xs, rfl, rfl, ha, by omega, by omega, by rw [← ra.length, SZ_eq]; exact hz.1, fun p hp => g _ p hp (ra.repL _)⟩)
    · cases eq
  · cases eq
theorem fdivOk : R2Ok T (rI CDiv fun i j => .int (i / j)) fdivD := by
  intro F H d e v u res Q l p q eq g
  unfold fdivD at eq
  split at eq
  · split at eq
    · rename_i hz
      cases eq
      cases (show v = _ from p)
      cases (show u = _ from q)
      exact ⟨_, _, rfl, rfl, hz, g.1 _ rfl⟩
    · cases eq
  · cases eq
theorem modOk : R2Ok T (rI (fun _ j => 0 < j) fun i j => .int (i % j)) modD := by
  intro F H d e v u res Q l p q eq g
  unfold modD at eq
  split at eq
  · split at eq
    · rename_i hz
      cases eq
      cases (show v = _ from p)
      cases (show u = _ from q)
      exact ⟨_, _, rfl, rfl, hz, g.1 _ rfl⟩
    · cases eq
  · cases eq
theorem powOk : R2Ok T (rI CPow fun i j => .int (i ^ j.toNat)) powD := by
  intro F H d e v u res Q l p q eq g
  unfold powD at eq
  split at eq
  · split at eq
    · rename_i hz
      cases eq
      cases (show v = _ from p)
      cases (show u = _ from q)
      refine ⟨_, _, rfl, rfl, ⟨hz.1, by omega, ?_⟩, g.1 _ rfl⟩
      have : (2 : Nat) ^ 64 = 18446744073709551616 := by decide
      omega
    · cases eq
  · cases eq
def negD : D → Option R
  | .int i => some (.fz (.int (-i)))
  | _ => none
theorem negOk : R1Ok T (rU fun i => .int (-i)) negD := by
  intro F H d v res Q l p eq g
  unfold negD at eq
  split at eq
  · cases eq
    cases (show v = _ from p)
    exact ⟨_, rfl, g.1 _ rfl⟩
  · cases eq

/-! ### comparisons -/
mutual
def eqD : D → D → Bool
  | .non, .non => true
  | .bl a, .bl b => a == b
  | .bl a, .int j => (if a then 1 else 0) == j
  | .int i, .bl b => i == (if b then 1 else 0)
  | .int i, .int j => i == j
  | .str x, .str y => x == y
  | .lst xs, .lst ys => eqDs xs ys
  | .tup xs, .tup ys => eqDs xs ys
  | _, _ => false
def eqDs : List D → List D → Bool
  | [], [] => true
  | x :: xs, y :: ys => eqD x y && eqDs xs ys
  | _, _ => false
end
/-- the script is a list of ints -/
def unscr : D → D
  | .scr ns => .lst (ns.map .int)
  | d => d
mutual
/-- data without dicts and objects -/
def flatD : D → Bool
  | .non | .bl _ | .int _ | .str _ => true
  | .lst xs | .tup xs => flatDs xs
  | _ => false
def flatDs : List D → Bool
  | [] => true
  | x :: xs => flatD x && flatDs xs
end
mutual
def toPy : D → PyData
  | .non => .none
  | .bl b => .bool b
  | .int i => .int i
  | .str s => .str (stx s)
  | .lst xs => .list (toPys xs)
  | .tup xs => .tuple (toPys xs)
  | _ => .none
def toPys : List D → List PyData
  | [] => []
  | x :: xs => toPy x :: toPys xs
end
theorem stx_beq (x y : Tx) : (stx x == stx y) = (x == y) := by
  by_cases h : x = y
  · subst h; simp
  · rw [beq_eq_false_iff_ne.mpr h]
    exact beq_eq_false_iff_ne.mpr fun e => h (stx_inj e)
mutual
theorem eqv_eq : ∀ d e : D, flatD d = true → flatD e = true → PyData.eqv (toPy d) (toPy e) = eqD d e
  | .non, e, _, h => by cases e <;> simp_all [toPy, PyData.eqv, eqD, flatD]
  | .bl a, e, _, h => by cases e <;> simp_all [toPy, PyData.eqv, eqD, flatD]
  | .int i, e, _, h => by cases e <;> simp_all [toPy, PyData.eqv, eqD, flatD]
  | .str x, e, _, h => by cases e <;> simp_all [toPy, PyData.eqv, eqD, flatD, stx_beq]
  | .lst xs, e, h1, h => by
    cases e with
    | lst ys => exact eqvs_eq xs ys h1 h
    | _ => simp_all [toPy, PyData.eqv, eqD, flatD]
  | .tup xs, e, h1, h => by
    cases e with
    | tup ys => exact eqvs_eq xs ys h1 h
    | _ => simp_all [toPy, PyData.eqv, eqD, flatD]
  | .scr _, _, h, _ => by cases h
  | .dic _, _, h, _ => by cases h
  | .obj _ _, _, h, _ => by cases h
  | .exc _ _, _, h, _ => by cases h
theorem eqvs_eq : ∀ ds es : List D, flatDs ds = true → flatDs es = true → PyData.eqvAll (toPys ds) (toPys es) = eqDs ds es
  | [], [], _, _ => rfl
  | [], _ :: _, _, _ => rfl
  | _ :: _, [], _, _ => rfl
  | d :: ds, e :: es, h1, h2 => by
    rw [flatDs, Bool.and_eq_true] at h1 h2
    rw [toPys, toPys, PyData.eqvAll, eqDs, eqv_eq d e h1.1 h2.1, eqvs_eq ds es h1.2 h2.2]
end
mutual
theorem plain_flat : ∀ d : D, flatD d = true → (toPy d).plain = true
  | .non, _ => rfl
  | .bl _, _ => rfl
  | .int _, _ => rfl
  | .str _, _ => rfl
  | .scr _, h => by cases h
  | .lst xs, h => plains_flat xs h
  | .tup xs, h => plains_flat xs h
  | .dic _, h => by cases h
  | .obj _ _, h => by cases h
  | .exc _ _, h => by cases h
theorem plains_flat : ∀ ds : List D, flatDs ds = true → PyData.plainAll (toPys ds) = true
  | [], _ => rfl
  | d :: ds, h => by
    rw [flatDs, Bool.and_eq_true] at h
    rw [toPys, PyData.plainAll, plain_flat d h.1, plains_flat ds h.2]
    rfl
end
theorem dpAll_int {K : PySem.W.Frag} {H : Hp} : ∀ ns : List Int, DpAll K H (ns.map V.int) (ns.map .int)
  | [] => .nil
  | n :: r => .cons (.int n) (dpAll_int r)
mutual
theorem Rep.dp {F : Hp} : ∀ (d : D) (v : V), flatD d = true → Rep T F d v → Dp T.K F v (toPy d)
  | .non, v, _, r => by cases (show v = _ from r); exact .non
  | .bl _, v, _, r => by cases (show v = _ from r); exact .bl _
  | .int _, v, _, r => by cases (show v = _ from r); exact .int _
  | .str _, v, _, r => by cases (show v = _ from r); exact .str _
  | .scr _, _, h, _ => by cases h
  | .lst ds, v, h, r => by
    obtain ⟨a, xs, rfl, ha, q⟩ := r
    exact .lst (SqL.of ha) (Reps.dp ds xs h q)
  | .tup ds, v, h, r => by
    obtain ⟨a, xs, rfl, ha, q⟩ := r
    exact .tup ha (Reps.dp ds xs h q)
  | .dic _, _, h, _ => by cases h
  | .obj _ _, _, h, _ => by cases h
  | .exc _ _, _, h, _ => by cases h
theorem Reps.dp {F : Hp} : ∀ (ds : List D) (vs : List V), flatDs ds = true → Reps T F ds vs → DpAll T.K F vs (toPys ds)
  | [], vs, _, r => by cases (show vs = _ from r); exact .nil
  | d :: ds, vs, h, r => by
    rw [flatDs, Bool.and_eq_true] at h
    obtain ⟨v, us, rfl, p, q⟩ := r
    exact .cons (Rep.dp d v h.1 p) (Reps.dp ds us h.2 q)
end
theorem flat_ints (ns : List Int) : flatDs (ns.map .int) = true := by
  induction ns with
  | nil => rfl
  | cons n r ih => rw [List.map_cons, flatDs, ih]; rfl
theorem toPys_map (ns : List Int) : toPys (ns.map .int) = ns.map .int := by
  induction ns with
  | nil => rfl
  | cons n r ih => rw [List.map_cons, toPys, ih]; rfl
theorem RepC.dp {F H : Hp} (l : Le F H) {d : D} {v : V} (h : flatD (unscr d) = true) (r : RepC T F H d v) : Dp T.K H v (toPy (unscr d)) := by
  cases d with
  | scr ns =>
    obtain ⟨a, rfl, q⟩ := r.full l
    refine .lst q ?_
    rw [toPys_map]
    exact dpAll_int ns
  | _ => exact Rep.dp _ _ h (r.full l)
mutual
def depD : D → Nat
  | .lst xs => depDs xs + 1
  | .tup xs => depDs xs + 1
  | _ => 0
def depDs : List D → Nat
  | [] => 0
  | x :: xs => max (depD x) (depDs xs)
end
mutual
theorem depth_le : ∀ d : D, (toPy d).depth ≤ depD d
  | .lst xs => Nat.succ_le_succ (depths_le xs)
  | .tup xs => Nat.succ_le_succ (depths_le xs)
  | .non => Nat.le_refl _
  | .bl _ => Nat.le_refl _
  | .int _ => Nat.le_refl _
  | .str _ => Nat.le_refl _
  | .scr _ => Nat.le_refl _
  | .dic _ => Nat.le_refl _
  | .obj _ _ => Nat.le_refl _
  | .exc _ _ => Nat.le_refl _
theorem depths_le : ∀ d : List D, PyData.depthAll (toPys d) ≤ depDs d
  | [] => Nat.le_refl _
  | x :: xs => by
    have h1 := depth_le x
    have h2 := depths_le xs
    rw [toPys, PyData.depthAll, depDs]
    omega
end
/-- == is asked of the two -/
def cmpOk (d e : D) : Bool := flatD (unscr d) && flatD (unscr e) && (decide (depD (unscr d) ≤ 60) || decide (depD (unscr e) ≤ 60))
def eqOp (d e : D) : Option R := if cmpOk d e = true then some (.fz (.bl (eqD (unscr d) (unscr e)))) else none
def neOp (d e : D) : Option R := if cmpOk d e = true then some (.fz (.bl (!eqD (unscr d) (unscr e)))) else none
def rEqP (K : PySem.W.Frag) : R2 := fun x y H Q => ∃ d e, Dp K H x d ∧ Dp K H y e ∧ d.plain = true ∧ e.plain = true ∧ min d.depth e.depth ≤ 60 ∧ Q (.bl (PyData.eqv d e)) H
def rNeP (K : PySem.W.Frag) : R2 := fun x y H Q => ∃ d e, Dp K H x d ∧ Dp K H y e ∧ d.plain = true ∧ e.plain = true ∧ min d.depth e.depth ≤ 60 ∧ Q (.bl (!PyData.eqv d e)) H
theorem op_eqP (hu : X.A.units + 64 < cLine) : OpR X (compareOp .Eq) (rEqP X.K) := by
  intro pins s σ H x y v u Q I rx ry h
  obtain ⟨d, e, hd, he, sd, se, hm, q⟩ := h
  obtain ⟨as, r1⟩ := Dp.reads I d x v hd rx
  obtain ⟨bs, r2⟩ := Dp.reads I e y u he ry
  exact SeqAt.eq_plain r1 r2 sd se (by omega) ⟨.bl _, H, I, rfl, q⟩
theorem op_neP (hu : X.A.units + 64 < cLine) : OpR X (compareOp .NotEq) (rNeP X.K) := by
  intro pins s σ H x y v u Q I rx ry h
  obtain ⟨d, e, hd, he, sd, se, hm, q⟩ := h
  obtain ⟨as, r1⟩ := Dp.reads I d x v hd rx
  obtain ⟨bs, r2⟩ := Dp.reads I e y u he ry
  exact SeqAt.ne_plain r1 r2 sd se (by omega) ⟨.bl _, H, I, rfl, q⟩
theorem cmp_facts {d e : D} (h : cmpOk d e = true) : flatD (unscr d) = true ∧ flatD (unscr e) = true ∧ min (toPy (unscr d)).depth (toPy (unscr e)).depth ≤ 60 := by
  unfold cmpOk at h
  simp only [Bool.and_eq_true, Bool.or_eq_true, decide_eq_true_eq] at h
  have h1 := depth_le (unscr d)
  have h2 := depth_le (unscr e)
  exact ⟨h.1.1, h.1.2, by omega⟩
theorem eqOk : R2Ok T (rEqP T.K) eqOp := by
  intro F H d e v u res Q l p q eq g
  unfold eqOp at eq
  split at eq
  · rename_i hc
    cases eq
    obtain ⟨f1, f2, f3⟩ := cmp_facts hc
    refine ⟨_, _, p.dp l f1, q.dp l f2, plain_flat _ f1, plain_flat _ f2, f3, ?_⟩
    rw [eqv_eq _ _ f1 f2]
    exact g.1 _ rfl
  · cases eq
theorem neOk : R2Ok T (rNeP T.K) neOp := by
  intro F H d e v u res Q l p q eq g
  unfold neOp at eq
  split at eq
  · rename_i hc
    cases eq
    obtain ⟨f1, f2, f3⟩ := cmp_facts hc
    refine ⟨_, _, p.dp l f1, q.dp l f2, plain_flat _ f1, plain_flat _ f2, f3, ?_⟩
    rw [eqv_eq _ _ f1 f2]
    exact g.1 _ rfl
  · cases eq
/-- order of ints -/
def ordD (f : Int → Int → Bool) : D → D → Option R
  | .int i, .int j => some (.fz (.bl (f i j)))
  | _, _ => none
def ltD := ordD fun i j => decide (i < j)
def leD := ordD fun i j => decide (i ≤ j)
def gtD := ordD fun i j => decide (j < i)
def geD := ordD fun i j => decide (j ≤ i)
theorem ordOk {f : Int → Int → Bool} : R2Ok T (rI0 fun i j => .bl (f i j)) (ordD f) := by
  intro F H d e v u res Q l p q eq g
  unfold ordD at eq
  split at eq
  · cases eq
    cases (show v = _ from p)
    cases (show u = _ from q)
    exact ⟨_, _, rfl, rfl, g.1 _ rfl⟩
  · cases eq

/-! ### in -/
/-- the value of a key (== of keys) -/
def lkD (k : D) : List (D × D) → Option D
  | [] => none
  | (j, d) :: r => if eqD j k then some d else lkD k r
def isKey : D → Bool
  | .int _ => true
  | .str _ => true
  | _ => false
def inRaw (x y : D) : Option Bool := match y with
  | .str t => (match x with
    | .str [ch] => some (decide (ch ∈ t))
    | _ => none)
  | .dic kvs => if isKey x = true then some (lkD x kvs).isSome else none
  | .lst ds => if flatD x = true ∧ flatDs ds = true ∧ depD x ≤ 50 then some (ds.any fun d => eqD d x) else none
  | .tup ds => if flatD x = true ∧ flatDs ds = true ∧ depD x ≤ 50 then some (ds.any fun d => eqD d x) else none
  | _ => none
def inD (x y : D) : Option R := (inRaw x y).map fun b => .fz (.bl b)
def notInD (x y : D) : Option R := (inRaw x y).map fun b => .fz (.bl (!b))
end
end Sx

set_option Elab.async false
set_option linter.all false
set_option maxRecDepth 100000
set_option maxHeartbeats 1000000
/-! Sx, part D: in, subscripts, slices, calls of built-ins. -/
namespace Sx
open PySem L2 PySem.Spec PyProof.Rows
section
variable {X : Cx} {T : Tab}
/-! ### keys -/
theorem key_v {F H : Hp} {x : D} {v : V} (hk : isKey x = true) (r : RepC T F H x v) : ∃ k : Key, v = kV k ∧ ((∃ i, x = .int i ∧ k = .inl i) ∨ ∃ s, x = .str s ∧ k = .inr (stx s)) := by
  cases x with
  | int i => exact ⟨.inl i, r, .inl ⟨i, rfl, rfl⟩⟩
  | str s => exact ⟨.inr (stx s), r, .inr ⟨s, rfl, rfl⟩⟩
  | _ => cases hk
theorem key_d {F : Hp} {x : D} {k : Key} (r : Rep T F x (kV k)) : (∃ i, x = .int i ∧ k = .inl i) ∨ ∃ s, x = .str s ∧ k = .inr (stx s) := by
  cases k with
  | inl i =>
    cases x with
    | int j => cases (show V.int i = .int j from r); exact .inl ⟨i, rfl, rfl⟩
    | non => cases (show V.int i = .non from r)
    | bl b => cases (show V.int i = .bl b from r)
    | str s => cases (show V.int i = .str (stx s) from r)
    | tup ds => obtain ⟨a, xs, e, _⟩ := r; cases e
    | lst ds => obtain ⟨a, xs, e, _⟩ := r; cases e
    | scr ds => obtain ⟨a, e, _⟩ := r; cases e
    | dic ds => obtain ⟨a, xs, e, _⟩ := r; cases e
    | obj c ds => obtain ⟨a, dx, xs, e, _⟩ := r; cases e
    | exc c ds => obtain ⟨a, d, xs, e, _⟩ := r; cases e
  | inr i =>
    cases x with
    | str s => cases (show V.str i = .str (stx s) from r); exact .inr ⟨s, rfl, rfl⟩
    | non => cases (show V.str i = .non from r)
    | bl b => cases (show V.str i = .bl b from r)
    | int s => cases (show V.str i = .int s from r)
    | tup ds => obtain ⟨a, xs, e, _⟩ := r; cases e
    | lst ds => obtain ⟨a, xs, e, _⟩ := r; cases e
    | scr ds => obtain ⟨a, e, _⟩ := r; cases e
    | dic ds => obtain ⟨a, xs, e, _⟩ := r; cases e
    | obj c ds => obtain ⟨a, dx, xs, e, _⟩ := r; cases e
    | exc c ds => obtain ⟨a, d, xs, e, _⟩ := r; cases e
theorem key_eq {F G H : Hp} {j x : D} {kj k : Key} (rj : Rep T F j (kV kj)) (hx : (∃ i, x = .int i ∧ k = .inl i) ∨ ∃ s, x = .str s ∧ k = .inr (stx s)) : eqD j x = decide (kj = k) := by
  rcases key_d rj with ⟨i, rfl, rfl⟩ | ⟨s, rfl, rfl⟩ <;> rcases hx with ⟨i', rfl, rfl⟩ | ⟨s', rfl, rfl⟩
  · show (i == i') = _
    rw [key_ll]
  · show false = _
    rw [key_lr]
  · show false = _
    rw [key_rl]
  · show (s == s') = _
    rw [key_rr]
    by_cases h : s = s'
    · subst h; simp
    · rw [beq_eq_false_iff_ne.mpr h, decide_eq_false fun e => h (stx_inj e)]
theorem lk_val {F : Hp} {x : D} {k : Key} (hx : (∃ i, x = .int i ∧ k = .inl i) ∨ ∃ s, x = .str s ∧ k = .inr (stx s)) : ∀ {kvs : List (D × D)} {l : List (Key × V)}, RepKs T F kvs l →
    (lkD x kvs = none → valV l k = none) ∧ ∀ d, lkD x kvs = some d → ∃ v, valV l k = some v ∧ Rep T F d v
  | [], l, r => by
    cases (show l = [] from r)
    exact ⟨fun _ => rfl, fun d e => by cases e⟩
  | (j, d) :: kvs, l, r => by
    obtain ⟨kj, v, vr, rfl, r1, r2, r3⟩ := r
    have e := key_eq (F := F) (G := F) (H := F) r1 hx
    unfold lkD
    by_cases h : kj = k
    · rw [e, decide_eq_true h, if_pos rfl, valV_pos (p := (kj, v)) h]
      refine ⟨(fun z => nomatch z), fun d' e' => ?_⟩
      cases e'
      exact ⟨v, rfl, r2⟩
    · rw [e, decide_eq_false h, if_neg Bool.false_ne_true, valV_neg (p := (kj, v)) h]
      exact lk_val hx r3
theorem lk_get {F H : Hp} {x : D} {kvs : List (D × D)} {v u : V} (hk : isKey x = true) (rx : RepC T F H x v) (rd : RepC T F H (.dic kvs) u) :
    ∃ a o, u = .ref a ∧ DGet H a v o ∧ (lkD x kvs = none → o = none) ∧ ∀ d, lkD x kvs = some d → ∃ w, o = some w ∧ Rep T F d w := by
  obtain ⟨k, rfl, hx⟩ := key_v hk rx
  obtain ⟨a, l, rfl, hl, r⟩ := rd
  obtain ⟨h1, h2⟩ := lk_val hx r
  exact ⟨a, valV l k, rfl, .inl ⟨l, k, hl, rfl, rfl⟩, h1, h2⟩

/-! ### in -/
def rInU (K : PySem.W.Frag) (neg : Bool) : R2 := fun x y H Q =>
  (∃ (ch : Nat) (z : Str), x = .str ⟨#[ch]⟩ ∧ y = .str z ∧ Q (.bl (if neg then !decide (ch ∈ z.cps.toList) else decide (ch ∈ z.cps.toList))) H) ∨
  (∃ a o, y = .ref a ∧ DGet H a x o ∧ Q (.bl (if neg then !o.isSome else o.isSome)) H) ∨
  (∃ d e, Dp K H x d ∧ (Dp K H y (.list e) ∨ Dp K H y (.tuple e)) ∧ d.plain = true ∧ PyData.plainAll e = true ∧ d.depth ≤ 50 ∧ Q (.bl (if neg then !(e.any fun z => PyData.eqv z d) else e.any fun z => PyData.eqv z d)) H)
theorem op_inU (hu : X.A.units + 64 < cLine) : OpR X (compareOp .In) (rInU X.K false) := by
  intro pins s σ H x y v u Q I rx ry h
  rcases h with h | ⟨a, o, rfl, g, q⟩ | ⟨d, e, hd, he, pd, pe, hm, q⟩
  · exact op_in_sign pins s σ H x y v u Q I rx ry h
  · obtain rfl : u = Value.ref a := ry
    exact d_in (by omega) I g rx fun s' I' => ⟨.bl _, H, I', rfl, q⟩
  · obtain ⟨as, r1⟩ := Dp.reads I d x v hd rx
    rcases he with he | he
    · obtain ⟨bs, r2⟩ := Dp.reads I _ y u he ry
      exact SeqAt.in_list_data r2 r1 pe pd (by omega) ⟨.bl _, H, I, rfl, q⟩
    · obtain ⟨bs, r2⟩ := Dp.reads I _ y u he ry
      exact SeqAt.in_tuple_data r2 r1 pe pd (by omega) ⟨.bl _, H, I, rfl, q⟩
theorem op_notInU (hu : X.A.units + 64 < cLine) : OpR X (compareOp .NotIn) (rInU X.K true) := by
  intro pins s σ H x y v u Q I rx ry h
  rcases h with h | ⟨a, o, rfl, g, q⟩ | ⟨d, e, hd, he, pd, pe, hm, q⟩
  · exact op_notIn_sign pins s σ H x y v u Q I rx ry h
  · obtain rfl : u = Value.ref a := ry
    exact d_notIn (by omega) I g rx fun s' I' => ⟨.bl _, H, I', rfl, q⟩
  · obtain ⟨as, r1⟩ := Dp.reads I d x v hd rx
    rcases he with he | he
    · obtain ⟨bs, r2⟩ := Dp.reads I _ y u he ry
      exact SeqAt.notIn_list_data r2 r1 pe pd (by omega) ⟨.bl _, H, I, rfl, q⟩
    · obtain ⟨bs, r2⟩ := Dp.reads I _ y u he ry
      exact SeqAt.notIn_tuple_data r2 r1 pe pd (by omega) ⟨.bl _, H, I, rfl, q⟩
theorem any_eqv : ∀ {ds : List D} {x : D}, flatD x = true → flatDs ds = true → ((toPys ds).any fun z => PyData.eqv z (toPy x)) = ds.any fun d => eqD d x
  | [], x, _, _ => rfl
  | d :: ds, x, h1, h2 => by
    rw [flatDs, Bool.and_eq_true] at h2
    rw [toPys, List.any_cons, List.any_cons, eqv_eq d x h2.1 h1, any_eqv h1 h2.2]
theorem inRawOk (neg : Bool) {F H : Hp} {x y : D} {v u : V} {b : Bool} {Q : VK} (l : Le F H) (p : RepC T F H x v) (q : RepC T F H y u) (e : inRaw x y = some b) (g : Q (.bl (if neg then !b else b)) H) : rInU T.K neg v u H Q := by
  unfold inRaw at e
  split at e
  · split at e
    · cases e
      cases (show v = _ from p)
      cases (show u = _ from q)
      rename_i t _ ch
      refine .inl ⟨ch, stx t, rfl, rfl, ?_⟩
      rw [stx_cps]
      exact g
    · cases e
  · split at e
    · rename_i kvs hk
      cases e
      obtain ⟨a, o, rfl, dg, h1, h2⟩ := lk_get hk p q
      have eo : o.isSome = (lkD x kvs).isSome := by
        cases e : lkD x kvs with
        | none => rw [h1 e]; rfl
        | some d =>
          obtain ⟨w, ew, _⟩ := h2 d e
          rw [ew]
          rfl
      exact .inr (.inl ⟨a, o, rfl, dg, by rw [eo]; exact g⟩)
    · cases e
  · split at e
    · rename_i ds h
      cases e
      have dq : Dp T.K H u (toPy (.lst ds)) := RepC.dp l (d := .lst ds) h.2.1 q
      have ux : unscr x = x := by
        cases x <;> first | rfl | (have := h.1; cases this)
      refine .inr (.inr ⟨toPy x, toPys ds, by have z := RepC.dp l (by rw [ux]; exact h.1) p; rw [ux] at z; exact z, .inl dq, plain_flat _ h.1, plains_flat _ h.2.1, Nat.le_trans (depth_le x) h.2.2, ?_⟩)
      rw [any_eqv h.1 h.2.1]
      exact g
    · cases e
  · split at e
    · rename_i ds h
      cases e
      have dq : Dp T.K H u (toPy (.tup ds)) := RepC.dp l (d := .tup ds) h.2.1 q
      have ux : unscr x = x := by
        cases x <;> first | rfl | (have := h.1; cases this)
      refine .inr (.inr ⟨toPy x, toPys ds, by have z := RepC.dp l (by rw [ux]; exact h.1) p; rw [ux] at z; exact z, .inr dq, plain_flat _ h.1, plains_flat _ h.2.1, Nat.le_trans (depth_le x) h.2.2, ?_⟩)
      rw [any_eqv h.1 h.2.1]
      exact g
    · cases e
  · cases e
theorem inOk : R2Ok T (rInU T.K false) inD := by
  intro F H d e v u res Q l p q eq g
  unfold inD at eq
  cases h : inRaw d e with
  | none => rw [h] at eq; cases eq
  | some b =>
    rw [h] at eq
    cases eq
    exact inRawOk false l p q h (g.1 _ rfl)
theorem notInOk : R2Ok T (rInU T.K true) notInD := by
  intro F H d e v u res Q l p q eq g
  unfold notInD at eq
  cases h : inRaw d e with
  | none => rw [h] at eq; cases eq
  | some b =>
    rw [h] at eq
    cases eq
    exact inRawOk true l p q h (g.1 _ rfl)

/-! ### is None -/
def isNon : D → Option Bool
  | .non => some true
  | .bl _ | .int _ | .str _ | .tup _ | .lst _ | .dic _ | .obj _ _ | .exc _ _ => some false
  | _ => none
def isD (x y : D) : Option R := match y with
  | .non => (isNon x).map fun b => .fz (.bl b)
  | _ => none
def isNotD (x y : D) : Option R := match y with
  | .non => (isNon x).map fun b => .fz (.bl (!b))
  | _ => none
theorem isNon_ok {F H : Hp} {x : D} {v : V} {b : Bool} (e : isNon x = some b) (p : RepC T F H x v) : decide (v = .non) = b := by
  cases x with
  | non => cases e; cases (show v = _ from p); rfl
  | bl _ => cases e; cases (show v = _ from p); rfl
  | int _ => cases e; cases (show v = _ from p); rfl
  | str _ => cases e; cases (show v = _ from p); rfl
  | tup ds => cases e; obtain ⟨a, xs, rfl, _⟩ := p; rfl
  | lst ds => cases e; obtain ⟨a, xs, rfl, _⟩ := p; rfl
  | dic ds => cases e; obtain ⟨a, xs, rfl, _⟩ := p; rfl
  | obj _ ds => cases e; obtain ⟨a, dx, xs, rfl, _⟩ := p; rfl
  | scr _ => cases e
  | exc _ ds => cases e; obtain ⟨a, d, xs, rfl, _⟩ := p; rfl
theorem isOk : R2Ok T (fun x y H Q => y = .non ∧ Q (.bl (decide (x = .non))) H) isD := by
  intro F H d e v u res Q l p q eq g
  unfold isD at eq
  split at eq
  · cases h : isNon d with
    | none => rw [h] at eq; cases eq
    | some b =>
      rw [h] at eq
      cases eq
      exact ⟨q, by rw [isNon_ok h p]; exact g.1 _ rfl⟩
  · cases eq
theorem isNotOk : R2Ok T (fun x y H Q => y = .non ∧ Q (.bl (!decide (x = .non))) H) isNotD := by
  intro F H d e v u res Q l p q eq g
  unfold isNotD at eq
  split at eq
  · cases h : isNon d with
    | none => rw [h] at eq; cases eq
    | some b =>
      rw [h] at eq
      cases eq
      exact ⟨q, by rw [isNon_ok h p]; exact g.1 _ rfl⟩
  · cases eq

/-! ### x[i] -/
def ixD (d i : D) : Option R := match i with
  | .int j => (match d with
    | .str s => if s.length ≤ SZ then (atI s j).map fun ch => .fz (.str [ch]) else none
    | .lst ds => (atI ds j).map .fz
    | .tup ds => (atI ds j).map .fz
    | .scr ns => (atI ns j).map fun n => .fz (.int n)
    | .dic kvs => (lkD i kvs).map .fz
    | _ => none)
  | .str _ => (match d with
    | .dic kvs => (lkD i kvs).map .fz
    | _ => none)
  | _ => none
theorem reps_at {F : Hp} {ds : List D} {xs : List V} {i : Int} {d : D} (r : Reps T F ds xs) (e : atI ds i = some d) : ∃ v, atI xs i = some v ∧ Rep T F d v := by
  unfold atI at e ⊢
  rw [← r.length]
  cases h : ixN ds.length i with
  | none => rw [h] at e; cases e
  | some j =>
    rw [h] at e
    exact r.get e
def rIxU (K : PySem.W.Frag) : R2 := fun x y H Q => rIxL K x y H Q ∨ rIxT K x y H Q ∨ rIxS x y H Q ∨ ∃ a v, x = .ref a ∧ DGet H a y (some v) ∧ Q v H
theorem ix_dict (hu : X.A.units + 1 < cLine) : IxR X (fun x y H Q => ∃ a v, x = .ref a ∧ DGet H a y (some v) ∧ Q v H) := by
  intro value slice pins s σ H x y v u Q I rx ry h hs
  obtain ⟨a, w, rfl, g, q⟩ := h
  obtain rfl : v = Value.ref a := rx
  have hT := dict_typeIs I g
  have hd := dict_noDict I g
  unfold subscriptTail
  refine wpAny_bind ?_
  rw [getitemInPython_of_ne hT.not_modules]
  refine wpAny_bind (wpAny_specialOf hT PySem.F.slot_dict_getitem.lookup ?_)
  have fin : wpAny (model X.prog X.w) X.A (subscripted slice false (.ref a) u) (fun r s₃ => wpAny (model X.prog X.w) X.A (letTemporaryGo value (.ref a) r >>= fun _ => pure r) (EP X pins σ Q) X.xe s₃) X.xe s := by
    rw [hs]
    exact wpAny_operating (d_getItem hu I g ry fun w' s3 I3 rw' => wpAny_bind (wpAny_letTemporaryGo (wpAny_pure ⟨w, H, I3, rw', q⟩)))
  first
    | exact wpAny_pure (wpAny_bind fin)
    | exact wpAny_bind (wpAny_pure (wpAny_bind fin))
    | exact wpAny_bind fin
theorem ix_U (hu : X.A.units + 1 < cLine) : IxR X (rIxU X.K) := ix_list.or (ix_tup.or (ix_str.or (ix_dict hu)))
theorem map_some {α β : Type} {o : Option α} {f : α → β} {b : β} (h : o.map f = some b) : ∃ a, o = some a ∧ f a = b := by
  cases o with
  | none => cases h
  | some a => exact ⟨a, rfl, by cases h; rfl⟩
theorem at_map {α β : Type} {f : α → β} {xs : List α} {i : Int} {a : α} (h : atI xs i = some a) : atI (xs.map f) i = some (f a) := by
  unfold atI at h ⊢
  rw [List.length_map]
  cases e : ixN xs.length i with
  | none => rw [e] at h; cases h
  | some j =>
    rw [e] at h
    show (xs.map f)[j]? = _
    rw [List.getElem?_map, show xs[j]? = some a from h]
    rfl
theorem ixOk : R2Ok T (rIxU T.K) ixD := by
  intro F H d e v u res Q l p q eq g
  unfold ixD at eq
  split at eq
  · split at eq
    · split at eq
      · rename_i hz
        obtain ⟨ch, e1, rfl⟩ := map_some eq
        cases (show v = _ from p)
        cases (show u = _ from q)
        exact .inr (.inr (.inl ⟨_, _, ch, rfl, rfl, by rw [stx_length, SZ_eq]; exact hz, by rw [stx_cps]; exact e1, g.1 _ rfl⟩))
      · cases eq
    · obtain ⟨x, e1, rfl⟩ := map_some eq
      obtain ⟨a, xs, rfl, ha, ra⟩ := p
      cases (show u = _ from q)
      obtain ⟨w, e2, rw'⟩ := reps_at ra e1
      exact .inl ⟨a, xs, _, w, rfl, rfl, SqL.of ha, e2, g.1 _ rw'⟩
    · obtain ⟨x, e1, rfl⟩ := map_some eq
      obtain ⟨a, xs, rfl, ha, ra⟩ := p
      cases (show u = _ from q)
      obtain ⟨w, e2, rw'⟩ := reps_at ra e1
      exact .inr (.inl ⟨a, xs, _, w, rfl, rfl, l.sqt ha, e2, g.1 _ rw'⟩)
    · obtain ⟨x, e1, rfl⟩ := map_some eq
      obtain ⟨a, rfl, ha⟩ := p
      cases (show u = _ from q)
      exact .inl ⟨a, _, _, _, rfl, rfl, l.sql ha, at_map e1, g.1 _ rfl⟩
    · rename_i kvs
      obtain ⟨x, e1, rfl⟩ := map_some eq
      obtain ⟨a, o, rfl, dg, _, h2⟩ := lk_get (x := .int _) rfl q p
      obtain ⟨w, rfl, rw'⟩ := h2 x e1
      exact .inr (.inr (.inr ⟨a, w, rfl, dg, g.1 _ rw'⟩))
    · cases eq
  · split at eq
    · rename_i kvs
      obtain ⟨x, e1, rfl⟩ := map_some eq
      obtain ⟨a, o, rfl, dg, _, h2⟩ := lk_get (x := .str _) rfl q p
      obtain ⟨w, rfl, rw'⟩ := h2 x e1
      exact .inr (.inr (.inr ⟨a, w, rfl, dg, g.1 _ rw'⟩))
    · cases eq
  · cases eq
theorem se_ix {c : Cc} {a b : Expr} {ma mb : M R} {pos : Pos} (hK : X.K = c.T.K) (hu : X.A.units + 64 < cLine) (ha : PE X a (tE c ma)) (hb : PE X b (tE c mb)) (hs : PlainIx b) :
    PE X (.Subscript a b pos) (tE c (fOp2 ixD ma mb)) := se_op2 (r := rIxU c.T.K) ixOk (by rw [← hK]; exact pe_ix (ix_U (by omega)) ha hb hs)

/-! ### x[i:j] -/
def cutL {α : Type} (xs : List α) (lo hi : Option Int) : List α := (xs.drop (HT.sIx xs.length 0 lo)).take (HT.sIx xs.length xs.length hi - HT.sIx xs.length 0 lo)
def slD (d : D) (lo hi : Option Int) : Option R := match d with
  | .str s => if s.length ≤ SZ then some (.fz (.str (cutL s lo hi))) else none
  | .lst ds => some (.nw (.fl (cutL ds lo hi)))
  | .tup ds => some (.fz (.tup (cutL ds lo hi)))
  | _ => none
def rSlU (K : PySem.W.Frag) : V → Option Int → Option Int → Hp → VK → Prop := fun x lo hi H Q => rSlL K x lo hi H Q ∨ rSlA K x lo hi H Q ∨ rSlS x lo hi H Q
theorem sl_U : SlR X (rSlU X.K) := sl_list.or (sl_tupA.or sl_str)
theorem Reps.cut {F : Hp} {ds : List D} {xs : List V} (r : Reps T F ds xs) (lo hi : Option Int) : Reps T F (cutL ds lo hi) (cutV xs lo hi) := by
  unfold cutL cutV
  rw [r.length]
  exact (r.drop _).take _
theorem cutL_all {α : Type} {xs : List α} {lo hi : Option Int} (h : HT.sIx xs.length 0 lo = 0 ∧ HT.sIx xs.length xs.length hi = xs.length) : cutL xs lo hi = xs := by
  unfold cutL
  rw [h.1, h.2]
  simp
theorem slOk {F H : Hp} {d : D} {v : V} {lo hi : Option Int} {res : R} {Q : VK} (l : Le F H) (p : RepC T F H d v) (eq : slD d lo hi = some res) (g : Gives T F H Q res) : rSlU T.K v lo hi H Q := by
  unfold slD at eq
  split at eq
  · split at eq
    · rename_i sx hz
      cases eq
      cases (show v = _ from p)
      refine .inr (.inr ⟨_, rfl, by rw [stx_length, SZ_eq]; exact hz, ?_⟩)
      have e : cutS (stx sx) lo hi = stx (cutL sx lo hi) := by
        unfold cutS cutL
        rw [stx_cps, stx_length]
        rfl
      rw [e]
      exact g.1 _ rfl
    · cases eq
  · cases eq
    obtain ⟨a, xs, rfl, ha, ra⟩ := p
    exact .inl ⟨a, xs, rfl, SqL.of ha, fun p hp => g _ p hp (ra.cut lo hi)⟩
  · cases eq
    obtain ⟨a, xs, rfl, ha, ra⟩ := p
    refine .inr (.inl ⟨a, xs, rfl, l.sqt ha, fun h => ?_, fun _ p hp => g.2 _ _ p rfl hp (ra.cut lo hi)⟩)
    refine g.1 _ ⟨a, xs, rfl, ha, ?_⟩
    rw [cutL_all (by rw [ra.length]; exact h)]
    exact ra
  · cases eq
/-- a slice's part -/
def tO (c : Cc) (m : M (Option Int)) : TO := fun σ H Q => ∃ F Rs ρ s, Ok c.T F Rs ρ s σ H ∧ Fin c F Rs ρ σ (fun o _ _ H => Q o H) (m s)
def fNoP : M (Option Int) := ret none
def fPart (m : M R) : M (Option Int) := bnd m fun r s => match r with
  | .fz (.int i) => .ok (some i) s
  | _ => .stuck
theorem so_none {c : Cc} : PO X none (tO c fNoP) := ⟨fun pins s σ H Q I h => po_none.run pins s σ H Q I (by obtain ⟨F, Rs, ρ, st, o, f⟩ := h; exact f H F o (Le.refl F))⟩
theorem so_some {c : Cc} {e : Expr} {m : M R} (h : PE X e (tE c m)) : PO X (some e) (tO c (fPart m)) := ⟨fun pins s σ H Q I hw => (po_some h).run pins s σ H Q I (by
  obtain ⟨F, Rs, ρ, st, o, f⟩ := hw
  refine ⟨F, Rs, ρ, st, o, ?_⟩
  unfold fPart bnd at f
  revert f
  cases m st with
  | stuck => exact fun f => f
  | err k fs s1 => exact fun f => f
  | ok r s1 =>
    cases r with
    | fz d =>
      cases d with
      | int i =>
        intro f H1 F1 o1 l1 v hv
        exact ⟨i, hv, f H1 F1 o1 l1⟩
      | _ => exact fun f => f.elim
    | own k => exact fun f => f.elim
    | nw n => exact fun f => f.elim)⟩
def fSl (m : M R) (lo hi : M (Option Int)) : M R := bnd m fun x => bnd lo fun l => bnd hi fun h => pkN (l1 fun d => slD d l h) [x]
theorem Sus.bO {c : Cc} {α : Type} {P : Hp → List Addr → α → Hp → S → Hp → Prop} {rs : List R} {vs : List V} {σ : L2.St} {H : Hp} {m : M (Option Int)} {f : Option Int → M α} (h : Sus c P rs vs (bnd m f) σ H) : tO c m σ H fun b H1 => Sus c P rs vs (f b) σ H1 := by
  obtain ⟨F, Rs, ρ, s, o, h⟩ := h.bndG
  refine ⟨F, Rs, ρ, s, o, Fin.imp h (Le.refl F) fun r F' s' H' o' l' z => ?_⟩
  have q := z [] [] rfl
  rw [List.append_nil, List.append_nil] at q
  exact q
theorem tO_mono {c : Cc} {m : M (Option Int)} {σ : L2.St} {H : Hp} {Q Q' : Option Int → Hp → Prop} (h : tO c m σ H Q) (k : ∀ v H', Q v H' → Q' v H') : tO c m σ H Q' := by
  obtain ⟨F, Rs, ρ, s, o, h⟩ := h
  exact ⟨F, Rs, ρ, s, o, Fin.imp h (Le.refl F) fun r F' s' H' _ _ z => k r H' z⟩
theorem se_sl {c : Cc} {e : Expr} {lo hi : Option Expr} {m : M R} {ml mh : M (Option Int)} {pos p2 : Pos} (hK : X.K = c.T.K) (he : PE X e (tE c m)) (hl : PO X lo (tO c ml)) (hh : PO X hi (tO c mh)) :
    PE X (.Subscript e (.Slice lo hi none p2) pos) (tE c (fSl m ml mh)) := PEof (pe_slice sl_U he hl hh) fun σ H Q h => by
  refine tE_mono (tE_sus.mp h).bE fun v H1 ⟨a, h1⟩ => tO_mono h1.bO fun l H2 h2 => tO_mono h2.bO fun u H3 h3 => ?_
  obtain ⟨F, ds, res, ll, p, eq, g⟩ := Sus.pk (rs := [a]) (vs := [v]) h3
  match ds, p, eq with
  | [d1], ⟨_, _, e1, p1, _⟩, eq =>
    cases e1
    rw [hK]
    exact slOk ll p1 eq g
end
end Sx

set_option Elab.async false
set_option linter.all false
set_option maxRecDepth 100000
set_option maxHeartbeats 1000000
/-! Sx, part E: freezing, argument lists, displays, calls of built-ins, tests. -/
namespace Sx
open PySem L2

/-! ### an object is frozen: from now on it doesn't change -/
def subW (k : Nat) (d : D) : W → W
  | .own j => if j = k then .fz d else .own j
  | w => w
def subN (k : Nat) (d : D) : Node → Node
  | .oo c ws => .oo c (ws.map (subW k d))
  | n => n
def kill (k : Nat) (d : D) (s : S) : S := ⟨s.g.map (Option.map (subW k d)), (s.o.set k none).map (Option.map (subN k d))⟩
def frz (r : R) : M D := fun s => match r with
  | .fz d => .ok d s
  | .nw n => (match n.toD with
    | some d => .ok d s
    | none => .stuck)
  | .own k => (match s.o[k]? with
    | some (some n) => (match n.toD with
      | some d => .ok d (kill k d s)
      | none => .stuck)
    | _ => .stuck)
def fFz (m : M R) : M R := bnd m fun r => bnd (frz r) fun d => ret (.fz d)
section
variable {T : Tab} {F Rs H : Hp} {ρ : List Addr} {s : S} {σ : St}
/-- an object at a that nothing else is, put to what never changes -/
theorem le_add {a : Addr} (h : F a = none) : Le F (fun p => if p = a then H a else F p) := fun b u e => by
  show (if b = a then H a else F b) = some u
  rw [if_neg (fun z => by rw [z, h] at e; cases e)]
  exact e
theorem RepC.frz {a : Addr} (l : Le F H) (h : F a = none) {d : D} (r : RepC T F H d (.ref a)) (hd : ∀ ns, d ≠ .scr ns) (ht : ∀ ds, d ≠ .tup ds) (hx : ∀ c ds, d ≠ .exc c ds) : Rep T (fun p => if p = a then H a else F p) d (.ref a) := by
  have lf : Le F (fun p => if p = a then H a else F p) := le_add h
  have ea : (fun p => if p = a then H a else F p) a = H a := if_pos rfl
  cases d with
  | lst ds =>
    obtain ⟨b, xs, e, s, q⟩ := r
    cases e
    exact ⟨a, xs, rfl, by rw [ea]; exact s, q.mono lf⟩
  | dic ds =>
    obtain ⟨b, xs, e, s, q⟩ := r
    cases e
    refine ⟨a, xs, rfl, ?_, q.mono lf⟩
    rcases s with s | ⟨o, s⟩
    · exact .inl (ea.trans s)
    · exact .inr ⟨o, ea.trans s⟩
  | obj c ds =>
    obtain ⟨b, dx, xs, e, s, q⟩ := r
    cases e
    exact ⟨a, dx, xs, rfl, by rw [ea]; exact s, q.mono lf⟩
  | scr ns => exact absurd rfl (hd ns)
  | tup ds => exact absurd rfl (ht ds)
  | non => cases (show V.ref a = .non from r)
  | bl _ => cases (show V.ref a = .bl _ from r)
  | int _ => cases (show V.ref a = .int _ from r)
  | str _ => cases (show V.ref a = .str _ from r)
  | exc c ds => exact absurd rfl (hx c ds)
theorem toD_ne : ∀ {n : Node} {d : D}, n.toD = some d → (∀ ns, d ≠ .scr ns) ∧ (∀ ds, d ≠ .tup ds) ∧ ∀ c ds, d ≠ .exc c ds
  | .fl ds, d, e => by cases e; exact ⟨fun _ => (nomatch ·), fun _ => (nomatch ·), fun _ _ => (nomatch ·)⟩
  | .fd ds, d, e => by cases e; exact ⟨fun _ => (nomatch ·), fun _ => (nomatch ·), fun _ _ => (nomatch ·)⟩
  | .oo c ws, d, e => by
    obtain ⟨x, _, rfl⟩ := map_some (show (wsD ws).map (.obj c) = some d from e)
    exact ⟨fun _ => (nomatch ·), fun _ => (nomatch ·), fun _ _ => (nomatch ·)⟩
theorem subW_ok {k : Nat} {d : D} {a : Addr} (hk : ρ[k]? = some a) (r : Rep T F d (.ref a)) : ∀ {w : W} {v : V}, RepW T F ρ w v → RepW T F ρ (subW k d w) v
  | .fz _, _, p => p
  | .own j, v, p => by
    show RepW T F ρ (if j = k then .fz d else .own j) v
    by_cases e : j = k
    · rw [if_pos e]
      subst e
      obtain ⟨b, h1, rfl⟩ := p
      rw [hk] at h1
      cases h1
      exact r
    · rw [if_neg e]
      exact p
theorem subWs_ok {k : Nat} {d : D} {a : Addr} (hk : ρ[k]? = some a) (r : Rep T F d (.ref a)) : ∀ {ws : List W} {vs : List V}, RepWs T F ρ ws vs → RepWs T F ρ (ws.map (subW k d)) vs
  | [], _, p => p
  | w :: ws, _, p => by
    obtain ⟨v, us, rfl, p, q⟩ := p
    exact ⟨v, us, rfl, subW_ok hk r p, subWs_ok hk r q⟩
theorem subN_ok {k : Nat} {d : D} {a b : Addr} (hk : ρ[k]? = some a) (r : Rep T F d (.ref a)) : ∀ {n : Node}, NodeOk T F ρ H b n → NodeOk T F ρ H b (subN k d n)
  | .fl _, p => p
  | .fd _, p => p
  | .oo c ws, p => by
    obtain ⟨dx, xs, h, q⟩ := p
    exact ⟨dx, xs, h, subWs_ok hk r q⟩
theorem frz_ok (o : Ok T F Rs ρ s σ H) {r : R} {v : V} {d : D} {s' : S} (p : RepR T F Rs ρ s H r v) (e : frz r s = .ok d s') : ∃ F', Le F F' ∧ Ok T F' Rs ρ s' σ H ∧ Rep T F' d v := by
  cases r with
  | fz d' =>
    cases e
    exact ⟨F, Le.refl F, o, p⟩
  | nw n =>
    have e : (match n.toD with
      | some d => Out.ok d s
      | none => .stuck) = .ok d s' := e
    cases e2 : n.toD with
    | none => rw [e2] at e; cases e
    | some d' =>
      rw [e2] at e
      cases e
      obtain ⟨a, rfl, h1, h2, h3, h4⟩ := p
      have lf : Le F (fun p => if p = a then H a else F p) := le_add h1
      refine ⟨fun p => if p = a then H a else F p, lf, ⟨fun b u eb => ?_, o.rh, fun b hb => ?_, fun k n' e => ?_, o.dj, fun i w e => ?_, o.ln, o.lr⟩, RepC.frz o.fh h1 (h4.d e2) (toD_ne e2).1 (toD_ne e2).2.1 (toD_ne e2).2.2⟩
      · have eb : (if b = a then H a else F b) = some u := eb
        by_cases q : b = a
        · rw [if_pos q] at eb
          rw [q]; exact eb
        · rw [if_neg q] at eb
          exact o.fh b u eb
      · by_cases q : b = a
        · rw [q]; exact h2
        · refine o.fr b ?_
          have hb : (if b = a then H a else F b) ≠ none := hb
          rw [if_neg q] at hb
          exact hb
      · obtain ⟨b, e1, e2, e3, e4⟩ := o.ob k n' e
        have ne : b ≠ a := fun z => h3 k n' e (by rw [e1, z])
        exact ⟨b, e1, by show (if b = a then H a else F b) = none; rw [if_neg ne]; exact e2, e3, e4.mono lf rfl⟩
      · obtain ⟨v, e1, e2⟩ := o.sl i w e
        exact ⟨v, e1, e2.mono lf⟩
  | own k =>
    have e : (match s.o[k]? with
      | some (some n) => (match n.toD with
        | some d => Out.ok d (kill k d s)
        | none => .stuck)
      | _ => .stuck) = .ok d s' := e
    cases e1 : s.o[k]? with
    | none => rw [e1] at e; cases e
    | some x =>
      cases x with
      | none => rw [e1] at e; cases e
      | some n =>
        rw [e1] at e
        dsimp only at e
        cases e2 : n.toD with
        | none => rw [e2] at e; cases e
        | some d' =>
          rw [e2] at e
          cases e
          obtain ⟨a, ha, rfl⟩ := p
          obtain ⟨a', ha', h1, h2, h4⟩ := o.ob k n e1
          rw [ha] at ha'
          cases ha'
          have lf : Le F (fun p => if p = a then H a else F p) := le_add h1
          have rr : Rep T (fun p => if p = a then H a else F p) d (.ref a) := RepC.frz o.fh h1 (h4.d e2) (toD_ne e2).1 (toD_ne e2).2.1 (toD_ne e2).2.2
          have old : ∀ (j : Nat) (n' : Node), (kill k d s).o[j]? = some (some n') → j ≠ k ∧ ∃ n0, s.o[j]? = some (some n0) ∧ n' = subN k d n0 := fun j n' e => by
            have e : ((s.o.set k none).map (Option.map (subN k d)))[j]? = some (some n') := e
            rw [List.getElem?_map] at e
            by_cases q : j = k
            · subst q
              have hl : j < s.o.length := (List.getElem?_eq_some_iff.mp e1).1
              rw [List.getElem?_set_self hl] at e
              cases e
            · rw [List.getElem?_set_ne (Ne.symm q)] at e
              refine ⟨q, ?_⟩
              cases e3 : s.o[j]? with
              | none => rw [e3] at e; cases e
              | some y =>
                cases y with
                | none => rw [e3] at e; cases e
                | some n0 =>
                  rw [e3] at e
                  cases e
                  exact ⟨n0, rfl, rfl⟩
          refine ⟨fun p => if p = a then H a else F p, lf, ⟨fun b u eb => ?_, o.rh, fun b hb => ?_, fun j n' e => ?_, fun j j' n1 n2 b e3 e4 e5 e6 => ?_, fun i w e => ?_, ?_, ?_⟩, rr⟩
          · have eb : (if b = a then H a else F b) = some u := eb
            by_cases q : b = a
            · rw [if_pos q] at eb
              rw [q]; exact eb
            · rw [if_neg q] at eb
              exact o.fh b u eb
          · by_cases q : b = a
            · rw [q]; exact h2
            · refine o.fr b ?_
              have hb : (if b = a then H a else F b) ≠ none := hb
              rw [if_neg q] at hb
              exact hb
          · obtain ⟨hj, n0, e3, rfl⟩ := old j n' e
            obtain ⟨b, g1, g2, g3, g4⟩ := o.ob j n0 e3
            have ne : b ≠ a := fun z => hj (o.dj j k n0 n a e3 e1 (by rw [g1, z]) ha)
            exact ⟨b, g1, by show (if b = a then H a else F b) = none; rw [if_neg ne]; exact g2, g3, subN_ok ha rr (g4.mono lf rfl)⟩
          · obtain ⟨_, m1, f1, _⟩ := old j n1 e3
            obtain ⟨_, m2, f2, _⟩ := old j' n2 e4
            exact o.dj j j' m1 m2 b f1 f2 e5 e6
          · have e : (s.g.map (Option.map (subW k d)))[i]? = some (some w) := e
            rw [List.getElem?_map] at e
            cases e3 : s.g[i]? with
            | none => rw [e3] at e; cases e
            | some y =>
              cases y with
              | none => rw [e3] at e; cases e
              | some w0 =>
                rw [e3] at e
                cases e
                obtain ⟨v, g1, g2⟩ := o.sl i w0 e3
                exact ⟨v, g1, subW_ok ha rr (g2.mono lf)⟩
          · show (s.g.map _).length = _
            rw [List.length_map]
            exact o.ln
          · show _ = ((s.o.set k none).map _).length
            rw [List.length_map, List.length_set]
            exact o.lr
end
section
variable {X : Cx} {c : Cc}
theorem frz_cases (r : R) (s : S) : (∃ d s', frz r s = .ok d s') ∨ frz r s = .stuck := by
  unfold frz
  split
  · exact .inl ⟨_, _, rfl⟩
  · split
    · exact .inl ⟨_, _, rfl⟩
    · exact .inr rfl
  · split
    · split
      · exact .inl ⟨_, _, rfl⟩
      · exact .inr rfl
    · exact .inr rfl
theorem fz_le {m : M R} {σ : St} {H : Hp} {Q : VK} (h : tE c (fFz m) σ H Q) : tE c m σ H Q := by
  obtain ⟨F, Rs, ρ, s, o, h⟩ := h
  refine ⟨F, Rs, ρ, s, o, ?_⟩
  unfold fFz bnd at h
  revert h
  cases m s with
  | stuck => exact fun h => h
  | err k fs s1 => exact fun h => h
  | ok r s1 =>
    intro h H1 F1 o1 l1 v hv
    dsimp only at h
    rcases frz_cases r s1 with ⟨d, s2, e⟩ | e
    · rw [e] at h
      obtain ⟨F2, l2, o2, r2⟩ := frz_ok o1 hv e
      exact h H1 F2 o2 (l1.trans l2) v r2
    · rw [e] at h
      exact h.elim
theorem se_fz {e : Expr} {m : M R} (h : PE X e (tE c m)) : PE X e (tE c (fFz m)) := PEof h fun _ _ _ z => fz_le z

/-! ### argument lists -/
def fNil : M (List R) := ret []
def fCons (m : M R) (ms : M (List R)) : M (List R) := bnd m fun r => bnd ms fun rs => ret (r :: rs)
theorem Sus.fin {P : Hp → List Addr → R → Hp → S → Hp → Prop} {Q : List V → Hp → Prop} {rs qs : List R} {vs : List V} {σ : St} {H : Hp} (h : Sus c (PA_ c Q) rs vs (ret qs) σ H) (e : qs = rs) : Q vs H := by
  obtain ⟨F, Rs, ρ, s, o, p, h⟩ := h
  subst e
  exact h H F o (Le.refl F) vs p
theorem sa_nil : PA X [] (tA c fNil) := PAof pa_nil fun σ H Q h => (tA_sus.mp h).fin (P := fun _ _ _ _ _ _ => True) rfl
theorem sa_cons {e : Expr} {es : List Expr} {m : M R} {ms : M (List R)} (h1 : PE X e (tE c m)) (h2 : PA X es (tA c ms)) (hs : starEach (e :: es) X.env = (false, eval e X.env) :: starEach es X.env := by rfl) : PA X (e :: es) (tA c (fCons m ms)) :=
  PAof (pa_cons h1 h2 hs) fun σ H Q h => tE_mono (tA_sus.mp h).bE fun v H1 ⟨r, h1⟩ => tA_mono h1.bA fun us H2 ⟨rs, h2⟩ => (show Sus c (PA_ c Q) ([] ++ [r] ++ rs) ([] ++ [v] ++ us) (ret (r :: rs)) σ H2 from h2).fin (P := fun _ _ _ _ _ _ => True) rfl
/-- an operation on an argument list's data -/
def fCall (op : List D → Option R) (ma : M (List R)) : M R := bnd ma fun rs => pkN op rs
def RNOk (T : Tab) (r : List V → Hp → VK → Prop) (op : List D → Option R) : Prop :=
  ∀ (F H : Hp) (ds : List D) (vs : List V) (res : R) (Q : VK), Le F H → RepCs T F H ds vs → op ds = some res → Gives T F H Q res → r vs H Q
theorem se_call {e : Expr} {r : List V → Hp → VK → Prop} {op : List D → Option R} {ma : M (List R)} (ok : RNOk c.T r op) (h : PE X e (tCB r (tA c ma))) : PE X e (tE c (fCall op ma)) := PEof h fun σ H Q z => by
  refine tA_mono (tE_sus.mp z).bA fun vs H1 ⟨rs, h1⟩ => ?_
  obtain ⟨F, ds, res, l, p, eq, g⟩ := Sus.pk (rs := rs) (vs := vs) h1
  exact ok F H1 ds vs res Q l p eq g
theorem RepCs.one {T : Tab} {F H : Hp} {d : D} {vs : List V} (h : RepCs T F H [d] vs) : ∃ v, vs = [v] ∧ RepC T F H d v := by
  obtain ⟨v, us, rfl, p, q⟩ := h
  cases (show us = [] from q)
  exact ⟨v, rfl, p⟩
theorem RepCs.two {T : Tab} {F H : Hp} {d e : D} {vs : List V} (h : RepCs T F H [d, e] vs) : ∃ v u, vs = [v, u] ∧ RepC T F H d v ∧ RepC T F H e u := by
  obtain ⟨v, us, rfl, p, q⟩ := h
  obtain ⟨u, rfl, q2⟩ := RepCs.one q
  exact ⟨v, u, rfl, p, q2⟩
theorem l1_ok {T : Tab} {r : List V → Hp → VK → Prop} {op : D → Option R} (h : R1Ok T (fun v H Q => r [v] H Q) op) : RNOk T r (l1 op) := by
  intro F H ds vs res Q l p eq g
  match ds, p, eq with
  | [d], p, eq =>
    obtain ⟨v, rfl, p2⟩ := p.one
    exact h F H d v res Q l p2 eq g
theorem l2_ok {T : Tab} {r : List V → Hp → VK → Prop} {op : D → D → Option R} (h : R2Ok T (fun v u H Q => r [v, u] H Q) op) : RNOk T r (l2 op) := by
  intro F H ds vs res Q l p eq g
  match ds, p, eq with
  | [d, e], p, eq =>
    obtain ⟨v, u, rfl, p2, q2⟩ := p.two
    exact h F H d e v u res Q l p2 q2 eq g

/-! ### displays -/
def allFz : List R → Option (List D)
  | [] => some []
  | .fz d :: rs => (allFz rs).map (d :: ·)
  | _ :: _ => none
def fTup (ma : M (List R)) : M R := bnd ma fun rs s => match allFz rs with
  | some ds => if ds.length ≤ SZ then .ok (.fz (.tup ds)) s else .stuck
  | none => .stuck
def fLst (ma : M (List R)) : M R := bnd ma fun rs s => match allFz rs with
  | some ds => if ds.length ≤ SZ then .ok (.nw (.fl ds)) s else .stuck
  | none => .stuck
theorem allFz_ok {T : Tab} {F : Hp} {ρ : List Addr} {s : S} {H : Hp} : ∀ {rs : List R} {vs : List V} {Rs : Hp} {ds : List D}, RepRs T F ρ s H Rs rs vs → allFz rs = some ds → Reps T F ds vs
  | [], vs, Rs, ds, p, e => by
    cases e
    exact p
  | .fz d :: rs, vs, Rs, ds, p, e => by
    obtain ⟨x, e1, rfl⟩ := map_some (show (allFz rs).map (d :: ·) = some ds from e)
    obtain ⟨v, us, rfl, p, q⟩ := p
    exact ⟨v, us, rfl, p, allFz_ok (Rs := addR Rs H (.fz d) v) q e1⟩
  | .own _ :: _, _, _, _, _, e => by cases e
  | .nw _ :: _, _, _, _, _, e => by cases e
theorem se_tup {es : List Expr} {k : Nat} {pos : Pos} {ma : M (List R)} (h : PA X es (tA c ma)) : PE X (.Tuple es k pos) (tE c (fTup ma)) := PEof (pe_tup h) fun σ H Q z => by
  refine tA_mono (tE_sus.mp z).bA fun vs H1 ⟨rs, F, Rs, ρ, s, o, p, f⟩ => ?_
  dsimp only at f
  cases e : allFz rs with
  | none => rw [e] at f; exact f.elim
  | some ds =>
    rw [e] at f
    dsimp only at f
    have q : Reps c.T F ds vs := allFz_ok (rs := rs) p e
    split at f
    · rename_i hz
      have g := f.gives o
      exact ⟨by rw [← q.length, SZ_eq]; exact hz, fun p hp => g.2 _ _ p rfl hp q⟩
    · exact f.elim
theorem se_lst {es : List Expr} {pos : Pos} {ma : M (List R)} (h : PA X es (tA c ma)) : PE X (.List es pos) (tE c (fLst ma)) := PEof (pe_lst h) fun σ H Q z => by
  refine tA_mono (tE_sus.mp z).bA fun vs H1 ⟨rs, F, Rs, ρ, s, o, p, f⟩ => ?_
  dsimp only at f
  cases e : allFz rs with
  | none => rw [e] at f; exact f.elim
  | some ds =>
    rw [e] at f
    dsimp only at f
    have q : Reps c.T F ds vs := allFz_ok (rs := rs) p e
    split at f
    · rename_i hz
      have g := f.gives o
      exact ⟨by rw [← q.length, SZ_eq]; exact hz, fun p hp => g _ p hp q⟩
    · exact f.elim
def fDic0 : M R := ret (.nw (.fd []))
theorem se_dic0 {pos : Pos} : PE X (.Dict [] [] pos) (tE c fDic0) := PEof pe_dnewK fun σ H Q ⟨F, Rs, ρ, s, o, f⟩ p hp => (f.gives o) [] p hp rfl

/-! ### tests -/
def fTest (m : M R) : M Bool := bnd m fun r s => match r with
  | .fz (.bl b) => .ok b s
  | _ => .stuck
theorem test_le {m : M R} {σ : St} {H : Hp} {Q : Bool → Hp → Prop} (h : tT c (fTest m) σ H Q) : tTest (tE c m) σ H Q := by
  obtain ⟨F, Rs, ρ, s, o, h⟩ := h
  refine ⟨F, Rs, ρ, s, o, ?_⟩
  unfold fTest bnd at h
  revert h
  cases m s with
  | stuck => exact fun h => h
  | err k fs s1 => exact fun h => h
  | ok r s1 =>
    cases r with
    | fz d =>
      cases d with
      | bl b => exact fun h H1 F1 o1 l1 v hv => ⟨b, hv, h H1 F1 o1 l1⟩
      | _ => exact fun h => h.elim
    | own _ => exact fun h => h.elim
    | nw _ => exact fun h => h.elim
theorem st_test {e : Expr} {m : M R} (h : PT X e (tTest (tE c m))) : PT X e (tT c (fTest m)) := PTof h fun _ _ _ z => test_le z
/-- a comparison as a test -/
theorem st_cmp {a b : Expr} {op : CmpOp} {r : R2} {f : D → D → Option R} {ma mb : M R} {pos : Pos} (ho : OpR X (compareOp op) r) (ok : R2Ok c.T r f) (ha : PE X a (tE c ma)) (hb : PE X b (tE c mb)) (hm : behindInMarks op b = false) :
    PT X (.Compare a [op] [b] pos) (tT c (fTest (fOp2 f ma mb))) := PTof (pt_cmpR ho ha hb hm) fun σ H Q z => op2_le ok (test_le z)
/-- any expression that gives True or False -/
theorem st_val {e : Expr} {m : M R} (h : PE X e (tE c m)) (he : ∀ whole, isTrue e X.env whole = (do let v ← whole; standAt e.pos; holding [v] (truthy v)) := by intro _; rfl) : PT X e (tT c (fTest m)) :=
  PTof (pt_val h he) fun σ H Q z => test_le z
def fAnd (a b : M Bool) : M Bool := bnd a fun x => if x = true then b else ret false
def fOr (a b : M Bool) : M Bool := bnd a fun x => if x = true then ret true else b
def fNot (a : M Bool) : M Bool := bnd a fun x => ret (!x)
theorem tT_ret {b : Bool} {σ : St} {H : Hp} {Q : Bool → Hp → Prop} (h : Sus c (PT_ Q) [] [] (ret b) σ H) : Q b H := by
  obtain ⟨F, Rs, ρ, s, o, _, f⟩ := h
  exact f H F o (Le.refl F)
theorem and_le {a b : M Bool} {σ : St} {H : Hp} {Q : Bool → Hp → Prop} (h : tT c (fAnd a b) σ H Q) : tAnd (tT c a) (tT c b) σ H Q := by
  refine tT_mono (tT_sus.mp h).bT fun x H1 h1 => ?_
  cases x with
  | true => exact tT_sus.mpr h1
  | false => exact tT_ret h1
theorem or_le {a b : M Bool} {σ : St} {H : Hp} {Q : Bool → Hp → Prop} (h : tT c (fOr a b) σ H Q) : tOr (tT c a) (tT c b) σ H Q := by
  refine tT_mono (tT_sus.mp h).bT fun x H1 h1 => ?_
  cases x with
  | false => exact tT_sus.mpr h1
  | true => exact tT_ret h1
theorem st_not {a : Expr} {m : M Bool} {pos : Pos} (h : PT X a (tT c m)) : PT X (.UnaryOp .Not a pos) (tT c (fNot m)) := PTof (pt_not h) fun σ H Q z => by
  refine tT_mono (tT_sus.mp z).bT fun x H1 h1 => tT_ret h1
theorem sw_and1 {a : Expr} {m : M Bool} {pos : Pos} (h : PT X a (tT c m)) : PW X (.BoolOp .And [a] pos) (tT c m) := pw_and1 h
theorem sw_or1 {a : Expr} {m : M Bool} {pos : Pos} (h : PT X a (tT c m)) : PW X (.BoolOp .Or [a] pos) (tT c m) := pw_or1 h
theorem sw_and {a b : Expr} {rest : List Expr} {m k : M Bool} {pos : Pos} (h : PT X a (tT c m)) (h2 : PW X (.BoolOp .And (b :: rest) pos) (tT c k)) : PW X (.BoolOp .And (a :: b :: rest) pos) (tT c (fAnd m k)) := PWof (pw_and h h2) fun _ _ _ z => and_le z
theorem sw_or {a b : Expr} {rest : List Expr} {m k : M Bool} {pos : Pos} (h : PT X a (tT c m)) (h2 : PW X (.BoolOp .Or (b :: rest) pos) (tT c k)) : PW X (.BoolOp .Or (a :: b :: rest) pos) (tT c (fOr m k)) := PWof (pw_or h h2) fun _ _ _ z => or_le z
/-- and, or, not as values (of True, False) -/
def fBool (m : M Bool) : M R := bnd m fun b => ret (.fz (.bl b))
def fAndV (a b : M R) : M R := bnd (fTest a) fun x => if x = true then b else ret (.fz (.bl false))
def fOrV (a b : M R) : M R := bnd (fTest a) fun x => if x = true then ret (.fz (.bl true)) else b
theorem tE_ret {d : D} {v : V} {σ : St} {H : Hp} {Q : VK} (h : Sus c (PE_ c Q) [] [] (ret (.fz d)) σ H) (r : ∀ F, Rep c.T F d v) : Q v H := by
  obtain ⟨F, Rs, ρ, s, o, _, f⟩ := h
  exact f H F o (Le.refl F) v (r F)
theorem se_one {op} {a : Expr} {m : M R} {pos : Pos} (h : PE X a (tE c m)) : PE X (.BoolOp op [a] pos) (tE c m) := pe_one h
theorem se_and {a b : Expr} {rest : List Expr} {m k : M R} {pos : Pos} (h : PE X a (tE c m)) (h2 : PE X (.BoolOp .And (b :: rest) pos) (tE c k)) : PE X (.BoolOp .And (a :: b :: rest) pos) (tE c (fAndV m k)) := PEof (pe_and h h2) fun σ H Q z => by
  have z1 := test_le (tT_mono (tE_sus.mp z).bT fun x H1 h1 => h1)
  refine tE_mono z1 fun v H1 ⟨b, hb, h1⟩ => ⟨b, hb, ?_⟩
  cases b with
  | true => exact tE_sus.mpr h1
  | false => exact tE_ret h1 fun _ => rfl
theorem se_or {a b : Expr} {rest : List Expr} {m k : M R} {pos : Pos} (h : PE X a (tE c m)) (h2 : PE X (.BoolOp .Or (b :: rest) pos) (tE c k)) : PE X (.BoolOp .Or (a :: b :: rest) pos) (tE c (fOrV m k)) := PEof (pe_or h h2) fun σ H Q z => by
  have z1 := test_le (tT_mono (tE_sus.mp z).bT fun x H1 h1 => h1)
  refine tE_mono z1 fun v H1 ⟨b, hb, h1⟩ => ⟨b, hb, ?_⟩
  cases b with
  | false => exact tE_sus.mpr h1
  | true => exact tE_ret h1 fun _ => rfl
def fNotV (a : M R) : M R := bnd (fTest a) fun x => ret (.fz (.bl (!x)))
theorem se_not {a : Expr} {m : M R} {pos : Pos} (h : PE X a (tE c m)) : PE X (.UnaryOp .Not a pos) (tE c (fNotV m)) := PEof (pe_not h) fun σ H Q z => by
  have z1 := test_le (tT_mono (tE_sus.mp z).bT fun x H1 h1 => h1)
  exact tE_mono z1 fun v H1 ⟨b, hb, h1⟩ => ⟨b, hb, tE_ret h1 fun _ => rfl⟩
def fIf {α : Type} (t : M Bool) (a b : M α) : M α := bnd t fun x => if x = true then a else b
theorem se_if {t a b : Expr} {mt : M Bool} {ma mb : M R} {pos : Pos} (ht : PT X t (tT c mt)) (ha : PE X a (tE c ma)) (hb : PE X b (tE c mb)) : PE X (.IfExp t a b pos) (tE c (fIf mt ma mb)) := PEof (pe_ifExp ht ha hb) fun σ H Q z => by
  refine tT_mono (tE_sus.mp z).bT fun x H1 h1 => ?_
  cases x with
  | true => exact tE_sus.mpr h1
  | false => exact tE_sus.mpr h1
/-- comparisons as values -/
theorem se_cmp {a b : Expr} {op : CmpOp} {r : R2} {f : D → D → Option R} {ma mb : M R} {pos : Pos} (ho : OpR X (compareOp op) r) (ok : R2Ok c.T r f) (ha : PE X a (tE c ma)) (hb : PE X b (tE c mb)) (hm : behindInMarks op b = false) :
    PE X (.Compare a [op] [b] pos) (tE c (fOp2 f ma mb)) := se_op2 ok (pe_cmpR ho ha hb hm)
end
end Sx

set_option Elab.async false
set_option linter.all false
set_option maxRecDepth 100000
set_option maxHeartbeats 1000000
/-! Sx, part F: statements. -/
namespace Sx
open PySem L2

inductive Fl where
  | nx | rt (r : R) | brk | cnt
def Pre (b : Nat) (ρ ρ' : List Addr) : Prop := ρ'.length = ρ.length ∧ ∀ k, k < b → ρ'[k]? = ρ[k]?
theorem Pre.refl (b : Nat) (ρ : List Addr) : Pre b ρ ρ := ⟨rfl, fun _ _ => rfl⟩
theorem Pre.trans {b : Nat} {ρ ρ' ρ'' : List Addr} (h : Pre b ρ ρ') (h' : Pre b ρ' ρ'') : Pre b ρ ρ'' := ⟨h'.1.trans h.1, fun k hk => (h'.2 k hk).trans (h.2 k hk)⟩
def FinS (c : Cc) (F Rs : Hp) (ρ : List Addr) (D : Ends) : Out Fl → Prop
  | .ok .nx s => ∀ σ H F' ρ', Ok c.T F' Rs ρ' s σ H → Le F F' → Pre c.b ρ ρ' → D.nx σ H
  | .ok (.rt r) s => ∀ σ H F' ρ' v, Ok c.T F' Rs ρ' s σ H → Le F F' → Pre c.b ρ ρ' → RepR c.T F' Rs ρ' s H r v → D.rt v H
  | .ok .brk s => ∀ σ H F' ρ', Ok c.T F' Rs ρ' s σ H → Le F F' → Pre c.b ρ ρ' → D.bk σ H
  | .ok .cnt s => ∀ σ H F' ρ', Ok c.T F' Rs ρ' s σ H → Le F F' → Pre c.b ρ ρ' → D.ct σ H
  | .err k fs s => ∀ cls d σ H F' ρ', Ok c.T F' Rs ρ' s σ H → Le F F' → Pre c.b ρ ρ' → ExcOk c.T F' k fs cls d → c.W cls d σ H
  | .stuck => False
def tS (c : Cc) (m : M Fl) : TS := fun D σ H => ∃ F Rs ρ s, Ok c.T F Rs ρ s σ H ∧ FinS c F Rs ρ D (m s)
theorem FinS.imp {c : Cc} {F F1 Rs : Hp} {ρ ρ1 : List Addr} {D D' : Ends} {x : Out Fl} (h : FinS c F Rs ρ D x) (l : Le F F1) (p : Pre c.b ρ ρ1) (h1 : ∀ σ H, D.nx σ H → D'.nx σ H) (h2 : ∀ v H, D.rt v H → D'.rt v H) (h3 : ∀ σ H, D.bk σ H → D'.bk σ H) (h4 : ∀ σ H, D.ct σ H → D'.ct σ H) :
    FinS c F1 Rs ρ1 D' x := by
  match x, h with
  | .ok .nx s, h => exact fun σ H F' ρ' o l' p' => h1 σ H (h σ H F' ρ' o (l.trans l') (p.trans p'))
  | .ok (.rt r) s, h => exact fun σ H F' ρ' v o l' p' q => h2 v H (h σ H F' ρ' v o (l.trans l') (p.trans p') q)
  | .ok .brk s, h => exact fun σ H F' ρ' o l' p' => h3 σ H (h σ H F' ρ' o (l.trans l') (p.trans p'))
  | .ok .cnt s, h => exact fun σ H F' ρ' o l' p' => h4 σ H (h σ H F' ρ' o (l.trans l') (p.trans p'))
  | .err k fs s, h => exact fun cls d σ H F' ρ' o l' p' => h cls d σ H F' ρ' o (l.trans l') (p.trans p')
theorem FinS.up {c : Cc} {F F1 Rs : Hp} {ρ ρ1 : List Addr} {D : Ends} {x : Out Fl} (h : FinS c F Rs ρ D x) (l : Le F F1) (p : Pre c.b ρ ρ1) : FinS c F1 Rs ρ1 D x := h.imp l p (fun _ _ z => z) (fun _ _ z => z) (fun _ _ z => z) fun _ _ z => z
theorem PSof {X : Cx} {e : Stmt} {t t' : TS} (h : PS X e t) (k : ∀ D σ H, t' D σ H → t D σ H) : PS X e t' := ⟨fun pins s σ H D I hw => h.run pins s σ H D I (k D σ H hw)⟩
theorem PSsof {X : Cx} {e : List Stmt} {t t' : TS} (h : PSs X e t) (k : ∀ D σ H, t' D σ H → t D σ H) : PSs X e t' := ⟨fun pins s σ H D I hw => h.run pins s σ H D I (k D σ H hw)⟩
/-- an expression, then the rest of the statement: results rs stand as vs -/
def SuS (c : Cc) (D : Ends) (rs : List R) (vs : List V) (m : M Fl) (σ : St) (H : Hp) : Prop :=
  ∃ F Rs ρ s, Ok c.T F Rs ρ s σ H ∧ RepRs c.T F ρ s H Rs rs vs ∧ FinS c F Rs ρ D (m s)
section
variable {X : Cx} {c : Cc} {D : Ends} {rs : List R} {vs : List V} {σ : St} {H : Hp}
theorem tS_sus {m : M Fl} : tS c m D σ H ↔ SuS c D [] [] m σ H :=
  ⟨fun ⟨F, Rs, ρ, s, o, f⟩ => ⟨F, Rs, ρ, s, o, rfl, f⟩, fun ⟨F, Rs, ρ, s, o, _, f⟩ => ⟨F, Rs, ρ, s, o, f⟩⟩
theorem SuS.bndG {β : Type} {m : M β} {f : β → M Fl} (h : SuS c D rs vs (bnd m f) σ H) :
    ∃ F Rs ρ s, Ok c.T F Rs ρ s σ H ∧ Fin c F Rs ρ σ (fun b F' s' H' => ∀ qs us, RepRs c.T F' ρ s' H' Rs qs us → SuS c D (rs ++ qs) (vs ++ us) (f b) σ H') (m s) := by
  obtain ⟨F, Rs, ρ, s, o, p, h⟩ := h
  refine ⟨F, addRs H Rs rs vs, ρ, s, o.adds p, ?_⟩
  unfold bnd at h
  revert h
  cases m s with
  | stuck => exact fun h => h
  | err e fs s1 =>
    intro h cls d H1 F1 o1 l1 x1
    obtain ⟨_, k2, _⟩ := RepRs.keep o p l1 o1
    exact h cls d σ H1 F1 ρ k2 l1 (Pre.refl _ _) x1
  | ok b s1 =>
    intro h H1 F1 o1 l1 qs us q
    obtain ⟨k1, k2, k3⟩ := RepRs.keep o p l1 o1
    exact ⟨F1, Rs, ρ, s1, k2, k1.apps (by rw [k3]; exact q), h.up l1 (Pre.refl _ _)⟩
theorem SuS.bE {m : M R} {f : R → M Fl} (h : SuS c D rs vs (bnd m f) σ H) : tE c m σ H fun v H1 => ∃ r, SuS c D (rs ++ [r]) (vs ++ [v]) (f r) σ H1 := by
  obtain ⟨F, Rs, ρ, s, o, h⟩ := h.bndG
  exact ⟨F, Rs, ρ, s, o, Fin.imp h (Le.refl F) fun r F' s' H' o' l' z v hv => ⟨r, z [r] [v] ⟨v, [], rfl, hv, rfl⟩⟩⟩
theorem SuS.bA {m : M (List R)} {f : List R → M Fl} (h : SuS c D rs vs (bnd m f) σ H) : tA c m σ H fun us H1 => ∃ qs, SuS c D (rs ++ qs) (vs ++ us) (f qs) σ H1 := by
  obtain ⟨F, Rs, ρ, s, o, h⟩ := h.bndG
  exact ⟨F, Rs, ρ, s, o, Fin.imp h (Le.refl F) fun r F' s' H' o' l' z v hv => ⟨r, z _ _ hv⟩⟩
theorem SuS.bT {m : M Bool} {f : Bool → M Fl} (h : SuS c D rs vs (bnd m f) σ H) : tT c m σ H fun b H1 => SuS c D rs vs (f b) σ H1 := by
  obtain ⟨F, Rs, ρ, s, o, h⟩ := h.bndG
  refine ⟨F, Rs, ρ, s, o, Fin.imp h (Le.refl F) fun r F' s' H' o' l' z => ?_⟩
  have q := z [] [] rfl
  rw [List.append_nil, List.append_nil] at q
  exact q

/-! ### blocks -/
def fSkip : M Fl := ret .nx
def fSeq (a b : M Fl) : M Fl := fun s => match a s with
  | .ok .nx s' => b s'
  | x => x
theorem seq_le {a b : M Fl} (h : tS c (fSeq a b) D σ H) : tSeq (tS c a) (tS c b) D σ H := by
  obtain ⟨F, Rs, ρ, s, o, h⟩ := h
  refine ⟨F, Rs, ρ, s, o, ?_⟩
  unfold fSeq at h
  revert h
  match a s with
  | .stuck => exact fun h => h
  | .err k fs s1 => exact fun h => h
  | .ok (.rt r) s1 => exact fun h => h
  | .ok .brk s1 => exact fun h => h
  | .ok .cnt s1 => exact fun h => h
  | .ok .nx s1 => exact fun h σ1 H1 F1 ρ1 o1 l1 p1 => ⟨F1, Rs, ρ1, s1, o1, h.up l1 p1⟩
theorem skip_le (h : tS c fSkip D σ H) : D.nx σ H := by
  obtain ⟨F, Rs, ρ, s, o, h⟩ := h
  exact h σ H F ρ o (Le.refl F) (Pre.refl _ _)
theorem ss_nil : PSs X [] (tS c fSkip) := PSsof pss_nil fun D σ H h => skip_le h
theorem ss_cons {st : Stmt} {r : List Stmt} {a b : M Fl} (h : PS X st (tS c a)) (h2 : PSs X r (tS c b)) : PSs X (st :: r) (tS c (fSeq a b)) := PSsof (pss_cons h h2) fun _ _ _ z => seq_le z
theorem ss_one {st : Stmt} {a : M Fl} (h : PS X st (tS c a)) : PSs X [st] (tS c a) := pss_one h
theorem ss_pass {pos : Pos} : PS X (.Pass pos) (tS c fSkip) := PSof ps_pass fun D σ H h => skip_le h
theorem ss_doc {x j pos pos'} : PS X (.Expr (.Constant (.str x) j pos) pos') (tS c fSkip) := PSof ps_doc fun D σ H h => skip_le h
theorem ss_cont {pos : Pos} : PS X (.Continue pos) (tS c (ret .cnt)) := PSof ps_continue fun D σ H ⟨F, Rs, ρ, s, o, h⟩ => h σ H F ρ o (Le.refl F) (Pre.refl _ _)
theorem ss_break {pos : Pos} : PS X (.Break pos) (tS c (ret .brk)) := PSof ps_break fun D σ H ⟨F, Rs, ρ, s, o, h⟩ => h σ H F ρ o (Le.refl F) (Pre.refl _ _)
/-- code that is never come to -/
theorem ss_never {sts : List Stmt} : PSs X sts (tS c stk) := PSsof pss_never fun D σ H ⟨F, Rs, ρ, s, o, h⟩ => h
/-- an expression whose value is dropped -/
def fDrop (m : M R) : M Fl := bnd m fun _ => ret .nx
theorem drop_le {m : M R} (h : tS c (fDrop m) D σ H) : tDrop (tE c m) D σ H := by
  refine tE_mono (tS_sus.mp h).bE fun v H1 ⟨r, F, Rs, ρ, s, o, p, h⟩ => h σ H1 F ρ o (Le.refl F) (Pre.refl _ _)
theorem ss_expr {e : Expr} {m : M R} {pos : Pos} (he : PE X e (tE c m)) (hs : swapsWith e none pos.line X.env = pure false := by rfl) : PS X (.Expr e pos) (tS c (fDrop m)) := PSof (ps_expr he hs) fun _ _ _ z => drop_le z
def fRet (m : M R) : M Fl := bnd m fun r => ret (.rt r)
theorem ss_ret {e : Expr} {m : M R} {pos : Pos} (he : PE X e (tE c m)) : PS X (.Return (some e) pos) (tS c (fRet m)) := PSof (ps_ret he) fun D σ H z =>
  tE_mono (tS_sus.mp z).bE fun v H1 ⟨r, F, Rs, ρ, s, o, p, h⟩ => h σ H1 F ρ v o (Le.refl F) (Pre.refl _ _) (by
    obtain ⟨v', us, e, q, e2⟩ := p
    cases (show us = [] from e2)
    cases e
    exact q)
theorem ss_retN {pos : Pos} : PS X (.Return none pos) (tS c (ret (.rt (.fz .non)))) := PSof ps_retN fun D σ H ⟨F, Rs, ρ, s, o, h⟩ => h σ H F ρ .non o (Le.refl F) (Pre.refl _ _) rfl
theorem ss_if {t : Expr} {a b : List Stmt} {mt : M Bool} {ma mb : M Fl} {pos : Pos} (ht : PT X t (tT c mt)) (ha : PSs X a (tS c ma)) (hb : PSs X b (tS c mb)) : PS X (.If t a b pos) (tS c (fIf mt ma mb)) := PSof (ps_if ht ha hb) fun D σ H z =>
  tT_mono (tS_sus.mp z).bT fun x H1 h1 => by
    cases x with
    | true => exact tS_sus.mpr h1
    | false => exact tS_sus.mpr h1

/-! ### names -/
def setW (i : Nat) (w : W) (s : S) : S := ⟨s.g.set i (some w), s.o⟩
def fSet (i : Nat) (m : M R) : M Fl := bnd m fun r s => match r with
  | .fz d => .ok .nx (setW i (.fz d) s)
  | .own k => .ok .nx (setW i (.own k) s)
  | .nw _ => .stuck
theorem Ok.set {T : Tab} {F Rs : Hp} {ρ : List Addr} {s : S} {i : Nat} {w : W} {v : V} (o : Ok T F Rs ρ s σ H) (r : RepW T F ρ w v) : Ok T F Rs ρ (setW i w s) (σ.set i (some v)) H := by
  refine ⟨o.fh, o.rh, o.fr, o.ob, o.dj, fun j w' e => ?_, by show (s.g.set i _).length = _; rw [List.length_set, List.length_set]; exact o.ln, o.lr⟩
  have e : (s.g.set i (some w))[j]? = some (some w') := e
  by_cases q : i = j
  · subst q
    by_cases hl : i < s.g.length
    · rw [List.getElem?_set_self hl] at e
      cases e
      exact ⟨v, by rw [List.getElem?_set_self (by rw [← o.ln]; exact hl)], r⟩
    · rw [List.getElem?_eq_none (by rw [List.length_set]; omega)] at e
      cases e
  · rw [List.getElem?_set_ne q] at e ⊢
    exact o.sl j w' e
theorem set_le {i : Nat} {m : M R} (h : tS c (fSet i m) D σ H) : tAsg (tE c m) (gName i) D σ H := by
  refine tE_mono (tS_sus.mp h).bE fun v H1 ⟨r, F, Rs, ρ, s, o, p, h⟩ => ?_
  obtain ⟨v', us, e, q, e2⟩ := p
  cases (show us = [] from e2)
  cases e
  cases r with
  | fz d => exact h _ H1 F ρ (o.set (w := .fz d) q) (Le.refl F) (Pre.refl _ _)
  | own k => exact h _ H1 F ρ (o.set (w := .own k) q) (Le.refl F) (Pre.refl _ _)
  | nw n => exact h.elim
theorem ss_set {st : Stmt} {i : Nat} {m : M R} (h : PS X st (tAsg (tE c m) (gName i))) : PS X st (tS c (fSet i m)) := PSof h fun _ _ _ z => set_le z
end
end Sx

set_option Elab.async false
set_option linter.all false
set_option maxRecDepth 100000
set_option maxHeartbeats 1000000
/-! Sx, part G: objects that change; loops. -/
namespace Sx
open PySem L2

/-! ### no reference to k -/
def nrW (k : Nat) : W → Bool
  | .own j => j != k
  | .fz _ => true
def nrN (k : Nat) : Node → Bool
  | .oo _ ws => ws.all (nrW k)
  | _ => true
def noRef (k : Nat) (s : S) : Bool := s.g.all (fun w => match w with
  | some w => nrW k w
  | none => true) && s.o.all fun n => match n with
  | some n => nrN k n
  | none => true
/-- the place k is free for a new object (an old one there is frozen) -/
def clr (k : Nat) (s : S) : Option S := match s.o[k]? with
  | some (some n) => n.toD.map fun d => kill k d s
  | some none => some s
  | none => none
def fSetOwn (b i k : Nat) (m : M R) : M Fl := bnd m fun r s => match r with
  | .nw n => (match clr k s with
    | some s1 => if b ≤ k ∧ noRef k s1 = true ∧ nrN k n = true then .ok .nx ⟨s1.g.set i (some (.own k)), s1.o.set k (some n)⟩ else .stuck
    | none => .stuck)
  | _ => .stuck
section
variable {T : Tab} {F Rs H : Hp} {ρ : List Addr} {s : S} {σ : St}
theorem nr_W {k : Nat} {a : Addr} : ∀ {w : W} {v : V}, nrW k w = true → RepW T F ρ w v → RepW T F (ρ.set k a) w v
  | .fz _, _, _, r => r
  | .own j, v, h, r => by
    obtain ⟨b, h1, rfl⟩ := r
    have hj : j ≠ k := by simpa [nrW] using h
    exact ⟨b, by rw [List.getElem?_set_ne (Ne.symm hj)]; exact h1, rfl⟩
theorem nr_Ws {k : Nat} {a : Addr} : ∀ {ws : List W} {vs : List V}, ws.all (nrW k) = true → RepWs T F ρ ws vs → RepWs T F (ρ.set k a) ws vs
  | [], _, _, r => r
  | w :: ws, _, h, r => by
    rw [List.all_cons, Bool.and_eq_true] at h
    obtain ⟨v, us, rfl, p, q⟩ := r
    exact ⟨v, us, rfl, nr_W h.1 p, nr_Ws h.2 q⟩
theorem nr_N {k : Nat} {a b : Addr} : ∀ {n : Node}, nrN k n = true → NodeOk T F ρ H b n → NodeOk T F (ρ.set k a) H b n
  | .fl _, _, r => r
  | .fd _, _, r => r
  | .oo c ws, h, r => by
    obtain ⟨dx, xs, p, q⟩ := r
    exact ⟨dx, xs, p, nr_Ws h q⟩
theorem clr_ok (o : Ok T F Rs ρ s σ H) {k : Nat} {s1 : S} {n : Node} {v : V} (p : RepR T F Rs ρ s H (.nw n) v) (e : clr k s = some s1) :
    ∃ F', Le F F' ∧ Ok T F' Rs ρ s1 σ H ∧ RepR T F' Rs ρ s1 H (.nw n) v ∧ s1.o[k]? = some none := by
  unfold clr at e
  split at e
  · rename_i n0 e0
    obtain ⟨d, ed, rfl⟩ := map_some e
    obtain ⟨a, ha, _⟩ := o.ob k n0 e0
    have fr : frz (.own k) s = .ok d (kill k d s) := by
      show (match s.o[k]? with
        | some (some n) => (match n.toD with
          | some d => Out.ok d (kill k d s)
          | none => .stuck)
        | _ => .stuck) = _
      rw [e0]
      dsimp only
      rw [ed]
    have o2 := o.add p
    have pk : RepR T F (addR Rs H (.nw n) v) ρ s H (.own k) (.ref a) := ⟨a, ha, rfl⟩
    obtain ⟨F', l, o', _⟩ := frz_ok o2 pk fr
    obtain ⟨k1, k2, _⟩ := RepR.keep o p l o'
    refine ⟨F', l, k2, k1, ?_⟩
    show ((s.o.set k none).map (Option.map (subN k d)))[k]? = some none
    rw [List.getElem?_map, List.getElem?_set_self (List.getElem?_eq_some_iff.mp e0).1]
    rfl
  · rename_i e0
    cases e
    exact ⟨F, Le.refl F, o, p, e0⟩
  · cases e
theorem Ok.own {i k : Nat} {n : Node} {v : V} (o : Ok T F Rs ρ s σ H) (p : RepR T F Rs ρ s H (.nw n) v) (h0 : s.o[k]? = some none) (h1 : noRef k s = true) (h2 : nrN k n = true) :
    ∃ a, v = .ref a ∧ Ok T F Rs (ρ.set k a) ⟨s.g.set i (some (.own k)), s.o.set k (some n)⟩ (σ.set i (some v)) H := by
  obtain ⟨a, rfl, f1, f2, f3, f4⟩ := p
  have hk : k < s.o.length := (List.getElem?_eq_some_iff.mp h0).1
  have hkr : k < ρ.length := by rw [o.lr]; exact hk
  unfold noRef at h1
  rw [Bool.and_eq_true, List.all_eq_true, List.all_eq_true] at h1
  obtain ⟨g1, g2⟩ := h1
  have nd : ∀ (j : Nat) (n' : Node), s.o[j]? = some (some n') → nrN k n' = true := fun j n' e => g2 (some n') (List.mem_of_getElem? e)
  have cases' : ∀ (j : Nat) (n' : Node), (s.o.set k (some n))[j]? = some (some n') → (j = k ∧ n' = n) ∨ (j ≠ k ∧ s.o[j]? = some (some n')) := fun j n' e => by
    by_cases q : j = k
    · subst q
      rw [List.getElem?_set_self hk] at e
      cases e
      exact .inl ⟨rfl, rfl⟩
    · rw [List.getElem?_set_ne (Ne.symm q)] at e
      exact .inr ⟨q, e⟩
  have eaddr : ∀ (j : Nat) (n' : Node), s.o[j]? = some (some n') → ∃ b, ρ[j]? = some b ∧ b ≠ a := fun j n' e => by
    obtain ⟨b, e1, _⟩ := o.ob j n' e
    exact ⟨b, e1, fun z => f3 j n' e (by rw [e1, z])⟩
  refine ⟨a, rfl, o.fh, o.rh, o.fr, fun j n' e => ?_, fun j j' n1 n2 b e1 e2 e3 e4 => ?_, fun j w e => ?_, by show (s.g.set i _).length = _; rw [List.length_set, List.length_set]; exact o.ln, by show (ρ.set k a).length = (s.o.set k _).length; rw [List.length_set, List.length_set]; exact o.lr⟩
  · rcases cases' j n' e with ⟨rfl, rfl⟩ | ⟨q, e⟩
    · exact ⟨a, List.getElem?_set_self hkr, f1, f2, nr_N h2 f4⟩
    · obtain ⟨b, e1, e2, e3, e4⟩ := o.ob j n' e
      exact ⟨b, by rw [List.getElem?_set_ne (Ne.symm q)]; exact e1, e2, e3, nr_N (nd j n' e) e4⟩
  · rcases cases' j n1 e1 with ⟨rfl, rfl⟩ | ⟨q, g1x⟩ <;> rcases cases' j' n2 e2 with ⟨rfl, rfl⟩ | ⟨q', g2x⟩
    · rfl
    · rw [List.getElem?_set_self hkr] at e3
      cases e3
      rw [List.getElem?_set_ne (Ne.symm q')] at e4
      obtain ⟨b, x1, x2⟩ := eaddr j' n2 g2x
      rw [e4] at x1
      cases x1
      exact absurd rfl x2
    · rw [List.getElem?_set_self hkr] at e4
      cases e4
      rw [List.getElem?_set_ne (Ne.symm q)] at e3
      obtain ⟨b, x1, x2⟩ := eaddr j n1 g1x
      rw [e3] at x1
      cases x1
      exact absurd rfl x2
    · rw [List.getElem?_set_ne (Ne.symm q)] at e3
      rw [List.getElem?_set_ne (Ne.symm q')] at e4
      exact o.dj j j' n1 n2 b g1x g2x e3 e4
  · have e : (s.g.set i (some (.own k)))[j]? = some (some w) := e
    by_cases q : i = j
    · subst q
      by_cases hl : i < s.g.length
      · rw [List.getElem?_set_self hl] at e
        cases e
        exact ⟨.ref a, by rw [List.getElem?_set_self (by rw [← o.ln]; exact hl)], a, List.getElem?_set_self hkr, rfl⟩
      · rw [List.getElem?_eq_none (by rw [List.length_set]; omega)] at e
        cases e
    · rw [List.getElem?_set_ne q] at e ⊢
      obtain ⟨v, e1, e2⟩ := o.sl j w e
      exact ⟨v, e1, nr_W (g1 (some w) (List.mem_of_getElem? e)) e2⟩
/-- an object is changed -/
theorem Ok.mut {k : Nat} {n0 n : Node} {a : Addr} {ho : HO} (o : Ok T F Rs ρ s σ H) (h0 : s.o[k]? = some (some n0)) (ha : ρ[k]? = some a) (hn : NodeOk T F ρ (upd H a ho) a n) : Ok T F Rs ρ ⟨s.g, s.o.set k (some n)⟩ σ (upd H a ho) := by
  obtain ⟨a', ha', f1, f2, _⟩ := o.ob k n0 h0
  rw [ha] at ha'
  cases ha'
  have hk : k < s.o.length := (List.getElem?_eq_some_iff.mp h0).1
  have cases' : ∀ (j : Nat) (n' : Node), (s.o.set k (some n))[j]? = some (some n') → (j = k ∧ n' = n) ∨ (j ≠ k ∧ s.o[j]? = some (some n')) := fun j n' e => by
    by_cases q : j = k
    · subst q
      rw [List.getElem?_set_self hk] at e
      cases e
      exact .inl ⟨rfl, rfl⟩
    · rw [List.getElem?_set_ne (Ne.symm q)] at e
      exact .inr ⟨q, e⟩
  have live : ∀ (j : Nat) (n' : Node), (s.o.set k (some n))[j]? = some (some n') → ∃ m, s.o[j]? = some (some m) := fun j n' e => by
    rcases cases' j n' e with ⟨rfl, rfl⟩ | ⟨q, e⟩
    · exact ⟨n0, h0⟩
    · exact ⟨n', e⟩
  refine ⟨fun b u e => ?_, fun b u e => ?_, o.fr, fun j n' e => ?_, fun j j' n1 n2 b e1 e2 e3 e4 => ?_, o.sl, o.ln, by show _ = (s.o.set k _).length; rw [List.length_set]; exact o.lr⟩
  · rw [upd_ne (ne_of_none e f1)]
    exact o.fh b u e
  · rw [upd_ne (ne_of_none e f2)]
    exact o.rh b u e
  · rcases cases' j n' e with ⟨rfl, rfl⟩ | ⟨q, e⟩
    · exact ⟨a, ha, f1, f2, hn⟩
    · obtain ⟨b, e1, e2, e3, e4⟩ := o.ob j n' e
      have ne : b ≠ a := fun z => q (o.dj j k n' n0 a e h0 (by rw [e1, z]) ha)
      exact ⟨b, e1, e2, e3, e4.mono (Le.refl F) (upd_ne ne)⟩
  · obtain ⟨m1, q1⟩ := live j n1 e1
    obtain ⟨m2, q2⟩ := live j' n2 e2
    exact o.dj j j' m1 m2 b q1 q2 e3 e4
end
section
variable {X : Cx} {c : Cc} {D : Ends} {σ : St} {H : Hp}
theorem RepRs.head {T : Tab} {F Rs : Hp} {ρ : List Addr} {s : S} {H : Hp} {r : R} {v : V} (h : RepRs T F ρ s H Rs [r] [v]) : RepR T F Rs ρ s H r v := by
  obtain ⟨v', us, e, q, e2⟩ := h
  cases (show us = [] from e2)
  cases e
  exact q
theorem setOwn_le {i k : Nat} {m : M R} (h : tS c (fSetOwn c.b i k m) D σ H) : tAsg (tE c m) (gName i) D σ H := by
  refine tE_mono (tS_sus.mp h).bE fun v H1 ⟨r, F, Rs, ρ, s, o, p, h⟩ => ?_
  have p := RepRs.head (show RepRs c.T F ρ s H1 Rs [r] [v] from p)
  cases r with
  | fz d => exact h.elim
  | own k => exact h.elim
  | nw n =>
    dsimp only at h
    cases e : clr k s with
    | none => rw [e] at h; exact h.elim
    | some s1 =>
      rw [e] at h
      dsimp only at h
      split at h
      · rename_i hh
        obtain ⟨F', l, o1, p1, e1⟩ := clr_ok o p e
        obtain ⟨a, rfl, o2⟩ := Ok.own (i := i) o1 p1 e1 hh.2.1 hh.2.2
        exact h _ H1 F' _ o2 l ⟨List.length_set .., fun j hj => List.getElem?_set_ne (by omega)⟩
      · exact h.elim
theorem ss_setOwn {st : Stmt} {i k b : Nat} {m : M R} (hb : b = c.b) (h : PS X st (tAsg (tE c m) (gName i))) : PS X st (tS c (fSetOwn b i k m)) := by
  subst hb
  exact PSof h fun _ _ _ z => setOwn_le z

/-! ### x.append(e), x.extend(e) -/
def isFl (r : R) : M Unit := fun s => match r with
  | .own k => (match s.o[k]? with
    | some (some (.fl _)) => .ok () s
    | _ => .stuck)
  | _ => .stuck
def apTo (r : R) (x : R) : M R := fun s => match r, x with
  | .own k, .fz d => (match s.o[k]? with
    | some (some (.fl ds)) => if ds.length < SZ then .ok (.fz .non) ⟨s.g, s.o.set k (some (.fl (ds ++ [d])))⟩ else .stuck
    | _ => .stuck)
  | _, _ => .stuck
def fApp (mo me : M R) : M R := bnd mo fun r => bnd (isFl r) fun _ => bnd me fun x => apTo r x
theorem Sus.chk {α β : Type} {P : Hp → List Addr → α → Hp → S → Hp → Prop} {rs : List R} {vs : List V} {m : M β} {f : β → M α} {σ : St} {H : Hp} (h : Sus c P rs vs (bnd m f) σ H) (hm : ∀ s, (∃ b, m s = .ok b s) ∨ m s = .stuck) :
    ∃ b, (∃ F Rs ρ s, m s = .ok b s ∧ Ok c.T F Rs ρ s σ H ∧ RepRs c.T F ρ s H Rs rs vs) ∧ Sus c P rs vs (f b) σ H := by
  obtain ⟨F, Rs, ρ, s, o, p, h⟩ := h
  unfold bnd at h
  rcases hm s with ⟨b, e⟩ | e
  · rw [e] at h
    exact ⟨b, ⟨F, Rs, ρ, s, e, o, p⟩, F, Rs, ρ, s, o, p, h⟩
  · rw [e] at h
    exact h.elim
theorem isFl_pure (r : R) : ∀ s, (∃ b, isFl r s = .ok b s) ∨ isFl r s = .stuck := fun s => by
  unfold isFl
  split
  · split
    · exact .inl ⟨(), rfl⟩
    · exact .inr rfl
  · exact .inr rfl
theorem isFl_ok {F Rs H : Hp} {ρ : List Addr} {s : S} {T : Tab} {r : R} {v : V} {u : Unit} (o : Ok T F Rs ρ s σ H) (p : RepR T F Rs ρ s H r v) (e : isFl r s = .ok u s) :
    ∃ k a ds xs, r = .own k ∧ v = .ref a ∧ s.o[k]? = some (some (.fl ds)) ∧ ρ[k]? = some a ∧ H a = some (.lst xs) ∧ Reps T F ds xs := by
  unfold isFl at e
  split at e
  · rename_i k
    split at e
    · rename_i ds e0
      obtain ⟨a, h1, rfl⟩ := p
      obtain ⟨b, h2, _, _, xs, h3, h4⟩ := o.ob k _ e0
      rw [h1] at h2
      cases h2
      exact ⟨k, a, ds, xs, rfl, rfl, e0, h1, h3, h4⟩
    · cases e
  · cases e
theorem app_le {mo me : M R} {Q : VK} {K : PySem.W.Frag} (h : tE c (fApp mo me) σ H Q) : tBM K "list" rAppend (tE c mo) (tCons (tE c me) tNil) σ H Q := by
  refine tE_mono (tE_sus.mp h).bE fun v H1 ⟨r, h1⟩ => ?_
  obtain ⟨u, ⟨F, Rs, ρ, s, e, o, p⟩, h2⟩ := Sus.chk h1 (isFl_pure r)
  obtain ⟨k, a, ds, xs, rfl, rfl, e0, e1, e2, e3⟩ := isFl_ok o (RepRs.head p) e
  refine ⟨.inl ⟨rfl, xs, SqL.of e2⟩, tE_mono h2.bE fun y H2 ⟨x, F2, Rs2, ρ2, s2, o2, p2, f2⟩ => ?_⟩
  obtain ⟨v1, us, ee, q1, v2, us2, ee2, q2, ee3⟩ := (show RepRs c.T F2 ρ2 s2 H2 Rs2 [R.own k, x] [V.ref a, y] from p2)
  cases ee
  cases ee2
  have f2 : Fin c F2 Rs2 ρ2 σ (PE_ c Q Rs2 ρ2) (apTo (.own k) x s2) := f2
  cases x with
  | own j => exact f2.elim
  | nw n => exact f2.elim
  | fz d =>
    have f2 : Fin c F2 Rs2 ρ2 σ (PE_ c Q Rs2 ρ2) (match s2.o[k]? with
      | some (some (.fl ds)) => if ds.length < SZ then .ok (.fz .non) ⟨s2.g, s2.o.set k (some (.fl (ds ++ [d])))⟩ else .stuck
      | _ => .stuck) := f2
    cases e4 : s2.o[k]? with
    | none => rw [e4] at f2; exact f2.elim
    | some z =>
      match z, e4 with
      | none, e4 => rw [e4] at f2; exact f2.elim
      | some (.fd _), e4 => rw [e4] at f2; exact f2.elim
      | some (.oo _ _), e4 => rw [e4] at f2; exact f2.elim
      | some (.fl ds2), e4 =>
        rw [e4] at f2
        dsimp only at f2
        split at f2
        · rename_i hz
          obtain ⟨a1, h1, e6⟩ := q1
          cases e6
          obtain ⟨b, h2, _, _, xs2, h3, h4⟩ := o2.ob k _ e4
          rw [h1] at h2
          cases h2
          refine ⟨a, xs2, y, rfl, rfl, h3, by rw [← h4.length, SZ_eq]; exact hz, ?_⟩
          exact f2 _ F2 (o2.mut e4 h1 ⟨xs2 ++ [y], upd_same, h4.append (Reps.cons q2 Reps.nil)⟩) (Le.refl F2) .non rfl
        · exact f2.elim
theorem se_app {e : Expr} {K : PySem.W.Frag} {mo me : M R} (h : PE X e (tBM K "list" rAppend (tE c mo) (tCons (tE c me) tNil))) : PE X e (tE c (fApp mo me)) := PEof h fun _ _ _ z => app_le z

/-! ### while -/
def fWhileN (t : M Bool) (b : M Fl) : Nat → M Fl
  | 0 => stk
  | n + 1 => bnd t fun x => if x = true then (fun s => match b s with
    | .ok .nx s' => fWhileN t b n s'
    | .ok .cnt s' => fWhileN t b n s'
    | .ok .brk s' => .ok .nx s'
    | y => y) else ret .nx
def fWhile (n : Nat) (t : M Bool) (b : M Fl) : M Fl := fWhileN t b n
theorem while_le {n : Nat} {t : M Bool} {b : M Fl} (h : tS c (fWhile n t b) D σ H) : tWhile (tT c t) (tS c b) D σ H := by
  refine ⟨fun n σ H => tS c (fWhileN t b n) D σ H, ⟨n, h⟩, fun m σ H w => ?_⟩
  cases m with
  | zero => obtain ⟨F, Rs, ρ, s, o, f⟩ := w; exact f.elim
  | succ m =>
    refine tT_mono (tS_sus.mp w).bT fun x H1 h1 => ?_
    cases x with
    | false => exact skip_le (tS_sus.mpr h1)
    | true =>
      refine ⟨fun σ' H' => tS c (fWhileN t b m) D σ' H', fun σ' H' z => ⟨m, Nat.lt_succ_self m, z⟩, ?_⟩
      obtain ⟨F, Rs, ρ, s, o, _, f⟩ := h1
      refine ⟨F, Rs, ρ, s, o, ?_⟩
      have f : FinS c F Rs ρ D (match b s with
        | .ok .nx s' => fWhileN t b m s'
        | .ok .cnt s' => fWhileN t b m s'
        | .ok .brk s' => .ok .nx s'
        | y => y) := f
      revert f
      match b s with
      | .stuck => exact fun h => h
      | .err k fs s1 => exact fun h => h
      | .ok (.rt r) s1 => exact fun h => h
      | .ok .brk s1 => exact fun h => h
      | .ok .cnt s1 => exact fun h σ1 H1 F1 ρ1 o1 l1 p1 => ⟨F1, Rs, ρ1, s1, o1, h.up l1 p1⟩
      | .ok .nx s1 => exact fun h σ1 H1 F1 ρ1 o1 l1 p1 => ⟨F1, Rs, ρ1, s1, o1, h.up l1 p1⟩
theorem ss_while {t : Expr} {body : List Stmt} {mt : M Bool} {mb : M Fl} {pos : Pos} (n : Nat) (hp : PassesOwn (model X.prog X.w) X.A X.env X.xe) (ht : PT X t (tT c mt)) (hb : PSs X body (tS c mb)) : PS X (.While t body [] pos) (tS c (fWhile n mt mb)) :=
  PSof (ps_while hp ht hb) fun _ _ _ z => while_le z
end
end Sx

set_option Elab.async false
set_option linter.all false
set_option maxRecDepth 100000
set_option maxHeartbeats 1000000
/-! Sx, part H: what is walked; for; comprehensions. -/
namespace Sx
open PySem L2

/-- J tells the data ds, one by one -/
structure ItD (T : Tab) (J : It) (F : Hp) (ds : List D) : Prop where
  go : ∀ (i : Nat) (H : Hp), Le F H → i < ds.length → J.go i H
  stop : ∀ (H : Hp), Le F H → J.stop ds.length H
  yld : ∀ (i : Nat) (H : Hp) (x : V) (H' : Hp) (d : D), Le F H → ds[i]? = some d → J.yld i H x H' →
    (H' = H ∧ Rep T F d x) ∨ (∃ p xs es, d = .tup es ∧ x = .ref p ∧ H p = none ∧ H' = upd H p (.tup xs) ∧ Reps T F es xs)
def tI (c : Cc) (m : M (List D)) : TI := fun σ H R => ∃ F Rs ρ s, Ok c.T F Rs ρ s σ H ∧ Fin c F Rs ρ σ (fun ds F' _ H' => ∀ J, ItD c.T J F' ds → R J H') (m s)
theorem PIof {X : Cx} {tg e : Expr} {t t' : TI} (h : PI X tg e t) (k : ∀ σ H R, t' σ H R → t σ H R) : PI X tg e t' := ⟨fun pins s σ H R I hw => h.run pins s σ H R I (k σ H R hw)⟩
def lsD : D → Option (List D)
  | .lst ds => some ds
  | _ => none
def tuD : D → Option (List D)
  | .tup ds => some ds
  | _ => none
def stD : D → Option (List D)
  | .str s => some (s.map fun ch => .str [ch])
  | _ => none
def fIt (f : D → Option (List D)) (m : M R) : M (List D) := bnd m fun r => bnd (frz r) fun d => ofO (f d)
section
variable {X : Cx} {c : Cc} {tg : Expr} {σ : St} {H : Hp}
theorem it_le {f : D → Option (List D)} {m : M R} {R0 : It → Hp → Prop} (h : tI c (fIt f m) σ H R0) : tE c m σ H fun v H1 => ∃ F d ds, Le F H1 ∧ Rep c.T F d v ∧ f d = some ds ∧ ∀ J, ItD c.T J F ds → R0 J H1 := by
  obtain ⟨F, Rs, ρ, s, o, h⟩ := h
  refine ⟨F, Rs, ρ, s, o, ?_⟩
  unfold fIt bnd at h
  revert h
  cases m s with
  | stuck => exact fun h => h
  | err k fs s1 => exact fun h => h
  | ok r s1 =>
    intro h H1 F1 o1 l1 v hv
    dsimp only at h
    rcases frz_cases r s1 with ⟨d, s2, e⟩ | e
    · rw [e] at h
      dsimp only at h
      obtain ⟨F2, l2, o2, r2⟩ := frz_ok o1 hv e
      unfold ofO at h
      cases e2 : f d with
      | none => rw [e2] at h; exact h.elim
      | some ds =>
        rw [e2] at h
        exact ⟨F2, d, ds, o2.fh, r2, e2, h H1 F2 o2 (l1.trans l2)⟩
    · rw [e] at h
      exact h.elim
theorem itd_list {T : Tab} {F : Hp} {a : Addr} {xs : List V} {ds : List D} (h : F a = some (.lst xs)) (r : Reps T F ds xs) : ItD T (Itl T.K a) F ds where
  go := fun i H l hi => by
    obtain ⟨v, e, _⟩ := r.get (List.getElem?_eq_getElem hi)
    exact ⟨xs, v, SqL.of (l _ _ h), e⟩
  stop := fun H l => ⟨xs, SqL.of (l _ _ h), by rw [r.length]; exact Nat.le_refl _⟩
  yld := fun i H x H' d l e y => by
    obtain ⟨rfl, y⟩ := y
    obtain ⟨v, e1, e2⟩ := r.get e
    rw [y xs (SqL.of (l _ _ h))] at e1
    cases e1
    exact .inl ⟨rfl, e2⟩
theorem si_list {l : Expr} {m : M R} (hK : X.K = c.T.K) (h : PE X l (tE c m)) : PI X tg l (tI c (fIt lsD m)) := PIof (pi_list h) fun σ H R0 z => tE_mono (it_le z) fun v H1 ⟨F, d, ds, l, r, e, k⟩ => by
  cases d with
  | lst es =>
    cases e
    obtain ⟨a, xs, rfl, ha, q⟩ := r
    exact ⟨a, rfl, ⟨xs, SqL.of (l _ _ ha)⟩, by rw [hK]; exact k _ (itd_list ha q)⟩
  | _ => cases e
theorem itd_tup {T : Tab} {F : Hp} {a : Addr} {xs : List V} {ds : List D} (h : SqT T.K F a xs) (r : Reps T F ds xs) : ItD T (Itt T.K a) F ds where
  go := fun i H l hi => by
    obtain ⟨v, e, _⟩ := r.get (List.getElem?_eq_getElem hi)
    exact ⟨xs, v, l.sqt h, e⟩
  stop := fun H l => ⟨xs, l.sqt h, by rw [r.length]; exact Nat.le_refl _⟩
  yld := fun i H x H' d l e y => by
    obtain ⟨rfl, y⟩ := y
    obtain ⟨v, e1, e2⟩ := r.get e
    rw [y xs (l.sqt h)] at e1
    cases e1
    exact .inl ⟨rfl, e2⟩
theorem si_tup {l : Expr} {m : M R} (hK : X.K = c.T.K) (h : PE X l (tE c m)) : PI X tg l (tI c (fIt tuD m)) := PIof (pi_tup h) fun σ H R0 z => tE_mono (it_le z) fun v H1 ⟨F, d, ds, l, r, e, k⟩ => by
  cases d with
  | tup es =>
    cases e
    obtain ⟨a, xs, rfl, ha, q⟩ := r
    exact ⟨a, rfl, ⟨xs, by rw [hK]; exact l.sqt ha⟩, by rw [hK]; exact k _ (itd_tup ha q)⟩
  | _ => cases e
theorem itd_str {T : Tab} {F : Hp} (s : Tx) : ItD T (Its (stx s)) F (s.map fun ch => .str [ch]) where
  go := fun i H _ hi => by
    rw [List.length_map] at hi
    show i < (stx s).cps.size
    unfold stx
    simpa using hi
  stop := fun H _ => by
    rw [List.length_map]
    show (stx s).cps.size ≤ _
    unfold stx
    simp
  yld := fun i H x H' d _ e y => by
    obtain ⟨rfl, ch, h1, rfl⟩ := y
    refine .inl ⟨rfl, ?_⟩
    rw [List.getElem?_map] at e
    have h1 : s.toArray[i]? = some ch := h1
    have h2 : s[i]? = some ch := by simpa using h1
    rw [h2] at e
    cases e
    rfl
theorem si_str {l : Expr} {m : M R} (h : PE X l (tE c m)) : PI X tg l (tI c (fIt stD m)) := PIof (pi_str h) fun σ H R0 z => tE_mono (it_le z) fun v H1 ⟨F, d, ds, l, r, e, k⟩ => by
  cases d with
  | str s =>
    cases e
    exact ⟨stx s, r, k _ (itd_str s)⟩
  | _ => cases e
/-- range(n), range(a, b) -/
def rgL (lo : Int) (n : Nat) : List D := (List.range n).map fun (i : Nat) => .int (lo + (i : Int))
def rg1D : List D → Option (List D)
  | [.int j] => if -(2 ^ 62) ≤ j ∧ j < 2 ^ 62 then some (rgL 0 j.toNat) else none
  | _ => none
def rg2D : List D → Option (List D)
  | [.int i, .int j] => if -(2 ^ 62) ≤ i ∧ i < 2 ^ 62 ∧ -(2 ^ 62) ≤ j ∧ j < 2 ^ 62 then some (rgL i (j - i).toNat) else none
  | _ => none
def fItA (f : List D → Option (List D)) (m : M (List R)) : M (List D) := bnd m fun rs => match allFz rs with
  | some ds => ofO (f ds)
  | none => stk
theorem itd_rg {T : Tab} {F : Hp} (lo : Int) (n : Nat) : ItD T (Itr lo n) F (rgL lo n) where
  go := fun i H _ hi => by
    unfold rgL at hi
    rw [List.length_map, List.length_range] at hi
    exact hi
  stop := fun H _ => by
    show n ≤ (rgL lo n).length
    unfold rgL
    rw [List.length_map, List.length_range]
    exact Nat.le_refl _
  yld := fun i H x H' d _ e y => by
    obtain ⟨rfl, rfl⟩ := y
    refine .inl ⟨rfl, ?_⟩
    unfold rgL at e
    rw [List.getElem?_map] at e
    by_cases h : i < n
    · rw [List.getElem?_range h] at e
      cases e
      rfl
    · rw [List.getElem?_eq_none (by simpa using h)] at e
      cases e
theorem itA_le {f : List D → Option (List D)} {m : M (List R)} {R0 : It → Hp → Prop} (h : tI c (fItA f m) σ H R0) : tA c m σ H fun vs H1 => ∃ F ds es, Le F H1 ∧ Reps c.T F ds vs ∧ f ds = some es ∧ ∀ J, ItD c.T J F es → R0 J H1 := by
  obtain ⟨F, Rs, ρ, s, o, h⟩ := h
  refine ⟨F, Rs, ρ, s, o, ?_⟩
  unfold fItA bnd at h
  revert h
  cases m s with
  | stuck => exact fun h => h
  | err k fs s1 => exact fun h => h
  | ok rs s1 =>
    intro h H1 F1 o1 l1 vs hv
    dsimp only at h
    cases e : allFz rs with
    | none => rw [e] at h; exact h.elim
    | some ds =>
      rw [e] at h
      dsimp only at h
      unfold ofO at h
      cases e2 : f ds with
      | none => rw [e2] at h; exact h.elim
      | some es =>
        rw [e2] at h
        exact ⟨F1, ds, es, o1.fh, allFz_ok hv e, e2, h H1 F1 o1 l1⟩
theorem rg1_cases {ds es : List D} (e : rg1D ds = some es) : ∃ j, ds = [.int j] ∧ -(2 ^ 62) ≤ j ∧ j < 2 ^ 62 ∧ es = rgL 0 j.toNat := by
  unfold rg1D at e
  split at e
  · split at e
    · rename_i hz
      cases e
      exact ⟨_, rfl, hz.1, hz.2, rfl⟩
    · cases e
  · cases e
theorem rg2_cases {ds es : List D} (e : rg2D ds = some es) : ∃ i j, ds = [.int i, .int j] ∧ (-(2 ^ 62) ≤ i ∧ i < 2 ^ 62 ∧ -(2 ^ 62) ≤ j ∧ j < 2 ^ 62) ∧ es = rgL i (j - i).toNat := by
  unfold rg2D at e
  split at e
  · split at e
    · rename_i hz
      cases e
      exact ⟨_, _, rfl, hz, rfl⟩
    · cases e
  · cases e
theorem Reps.one {T : Tab} {F : Hp} {d : D} {vs : List V} (h : Reps T F [d] vs) : ∃ v, vs = [v] ∧ Rep T F d v := by
  obtain ⟨v, us, rfl, p, q⟩ := h
  cases (show us = [] from q)
  exact ⟨v, rfl, p⟩
theorem Reps.two {T : Tab} {F : Hp} {d e : D} {vs : List V} (h : Reps T F [d, e] vs) : ∃ v u, vs = [v, u] ∧ Rep T F d v ∧ Rep T F e u := by
  obtain ⟨v, us, rfl, p, q⟩ := h
  obtain ⟨u, rfl, q2⟩ := Reps.one q
  exact ⟨v, u, rfl, p, q2⟩
theorem si_rg1 {a : Expr} {m : M (List R)} {p pos : Pos} (hg : Gl X "range") (hm : X.mg "range" = none) (ha : PA X [a] (tA c m)) (hs : starEach [a] X.env = [(false, eval a X.env)] := by rfl) : PI X tg (.Call (.Name "range" p) [a] [] pos) (tI c (fItA rg1D m)) :=
  PIof (pi_range1 hg hm ha hs) fun σ H R0 z => tA_mono (itA_le z) fun vs H1 ⟨F, ds, es, _, r, e, k⟩ => by
    obtain ⟨j, rfl, h1, h2, rfl⟩ := rg1_cases e
    obtain ⟨v, rfl, r1⟩ := r.one
    cases (show v = .int j from r1)
    exact ⟨j, rfl, h1, h2, k _ (itd_rg 0 _)⟩
theorem si_rg2 {a b : Expr} {m : M (List R)} {p pos : Pos} (hg : Gl X "range") (hm : X.mg "range" = none) (ha : PA X [a, b] (tA c m)) (hs : starEach [a, b] X.env = [(false, eval a X.env), (false, eval b X.env)] := by rfl) (hs2 : starEach [b] X.env = [(false, eval b X.env)] := by rfl) :
    PI X tg (.Call (.Name "range" p) [a, b] [] pos) (tI c (fItA rg2D m)) :=
  PIof (pi_range2 hg hm ha hs hs2) fun σ H R0 z => tA_mono (itA_le z) fun vs H1 ⟨F, ds, es, _, r, e, k⟩ => by
    obtain ⟨i, j, rfl, h1, rfl⟩ := rg2_cases e
    obtain ⟨v, u, rfl, r1, r2⟩ := r.two
    cases (show v = .int i from r1)
    cases (show u = .int j from r2)
    exact ⟨i, j, rfl, h1, k _ (itd_rg i _)⟩
/-- enumerate(list) -/
def enL (ds : List D) : List D := ds.zipIdx.map fun p => .tup [.int (p.2 : Int), p.1]
def enD : List D → Option (List D)
  | [.lst ds] => some (enL ds)
  | _ => none
theorem itd_en {T : Tab} {F : Hp} {a : Addr} {xs : List V} {ds : List D} (h : F a = some (.lst xs)) (r : Reps T F ds xs) : ItD T (Ite T.K a) F (enL ds) where
  go := fun i H l hi => by
    unfold enL at hi
    rw [List.length_map, List.length_zipIdx] at hi
    obtain ⟨v, e, _⟩ := r.get (List.getElem?_eq_getElem hi)
    exact ⟨xs, v, SqL.of (l _ _ h), e⟩
  stop := fun H l => ⟨xs, SqL.of (l _ _ h), by unfold enL; rw [List.length_map, List.length_zipIdx, r.length]; exact Nat.le_refl _⟩
  yld := fun i H x H' d l e y => by
    obtain ⟨p, z, rfl, hp, rfl, y⟩ := y
    unfold enL at e
    rw [List.getElem?_map, List.getElem?_zipIdx] at e
    cases e1 : ds[i]? with
    | none => rw [e1] at e; cases e
    | some d0 =>
      rw [e1] at e
      simp only [Option.map_some, Option.some.injEq, Nat.zero_add] at e
      subst e
      obtain ⟨v, e2, e3⟩ := r.get e1
      rw [y xs (SqL.of (l _ _ h))] at e2
      cases e2
      exact .inr ⟨p, _, _, rfl, rfl, hp, rfl, Reps.cons rfl (Reps.cons e3 Reps.nil)⟩
theorem si_en {e : Expr} {m : M (List R)} {p pos tpos : Pos} {elts : List Expr} {kk : Nat} (hK : X.K = c.T.K) (hg : Gl X "enumerate") (hm : X.mg "enumerate" = none) (ha : PA X [e] (tA c m)) (hs : starEach [e] X.env = [(false, eval e X.env)] := by rfl) :
    PI X (.Tuple elts kk tpos) (.Call (.Name "enumerate" p) [e] [] pos) (tI c (fItA enD m)) := PIof (pi_enum hg hm ha hs) fun σ H R0 z => tA_mono (itA_le z) fun vs H1 ⟨F, ds, es, l, r, e, k⟩ => by
  unfold enD at e
  split at e
  · cases e
    obtain ⟨v, rfl, r1⟩ := r.one
    obtain ⟨a, xs, rfl, ha, q⟩ := r1
    exact ⟨a, xs, rfl, SqL.of (l _ _ ha), by rw [hK]; exact k _ (itd_en ha q)⟩
  · cases e

/-! ### targets -/
abbrev Tgt := D → S → Option S
def TgOk (T : Tab) (g : TG) (t : Tgt) : Prop := ∀ (F Rs : Hp) (ρ : List Addr) (s s' : S) (σ : St) (H : Hp) (d : D) (v : V) (Q : St → Hp → Prop), Ok T F Rs ρ s σ H → Rep T F d v → t d s = some s' → (∀ σ', Ok T F Rs ρ s' σ' H → Q σ' H) → g v σ H Q
def tgN (i : Nat) : Tgt := fun d s => some (setW i (.fz d) s)
def setWs : List Nat → List D → S → Option S
  | [], [], s => some s
  | i :: is, d :: ds, s => setWs is ds (setW i (.fz d) s)
  | _, _, _ => none
def tgT (is : List Nat) : Tgt := fun d s => match d with
  | .tup ds => setWs is ds s
  | _ => none
def gTs : List Nat → TGs
  | [] => gNil
  | i :: is => gCons (gName i) (gTs is)
theorem tgN_ok {T : Tab} {i : Nat} : TgOk T (gName i) (tgN i) := fun F Rs ρ s s' σ H d v Q o r e k => by
  cases e
  exact k _ (o.set (w := .fz d) r)
theorem gTs_ok {T : Tab} : ∀ {is : List Nat} {ds : List D} {F Rs : Hp} {ρ : List Addr} {s s' : S} {σ : St} {H : Hp} {vs : List V} {Q : St → Hp → Prop}, Ok T F Rs ρ s σ H → Reps T F ds vs → setWs is ds s = some s' → (∀ σ', Ok T F Rs ρ s' σ' H → Q σ' H) → gTs is vs σ H Q
  | [], [], F, Rs, ρ, s, s', σ, H, vs, Q, o, r, e, k => by
    cases e
    exact ⟨r, k σ o⟩
  | i :: is, d :: ds, F, Rs, ρ, s, s', σ, H, vs, Q, o, r, e, k => by
    obtain ⟨v, us, rfl, p, q⟩ := r
    exact ⟨v, us, rfl, gTs_ok (o.set (w := .fz d) p) q e k⟩
  | [], _ :: _, _, _, _, _, _, _, _, _, _, _, _, e, _ => by cases e
  | _ :: _, [], _, _, _, _, _, _, _, _, _, _, _, e, _ => by cases e
theorem tgT_ok {T : Tab} {is : List Nat} {n : Nat} (hn : is.length = n) : TgOk T (gTup T.K n (gTs is)) (tgT is) := fun F Rs ρ s s' σ H d v Q o r e k => by
  unfold tgT at e
  split at e
  · rename_i ds
    obtain ⟨a, xs, rfl, ha, q⟩ := r
    have hl : ∀ {is : List Nat} {ds : List D} {s : S}, setWs is ds s = some s' → is.length = ds.length := fun {is} => by
      induction is with
      | nil => intro ds s e; cases ds with
        | nil => rfl
        | cons _ _ => cases e
      | cons i is ih => intro ds s e; cases ds with
        | nil => cases e
        | cons d ds => exact congrArg Nat.succ (ih e)
    exact ⟨a, xs, rfl, o.fh.sqt ha, by rw [← q.length, ← hl e, hn], gTs_ok o q e k⟩
  · cases e

/-! ### for -/
def fLoop (t : Tgt) (b : M Fl) : List D → M Fl
  | [] => ret .nx
  | d :: ds => fun s => match t d s with
    | some s1 => (match b s1 with
      | .ok .nx s' => fLoop t b ds s'
      | .ok .cnt s' => fLoop t b ds s'
      | .ok .brk s' => .ok .nx s'
      | y => y)
    | none => .stuck
def fFor (m : M (List D)) (t : Tgt) (b : M Fl) : M Fl := bnd m fun ds => fLoop t b ds
theorem for_le {m : M (List D)} {t : Tgt} {b : M Fl} {g : TG} {D : Ends} (ok : TgOk c.T g t) (h : tS c (fFor m t b) D σ H) : tFor (tI c m) g (tS c b) D σ H := by
  obtain ⟨F, Rs, ρ, s, o, h⟩ := h
  refine ⟨F, Rs, ρ, s, o, ?_⟩
  unfold fFor bnd at h
  revert h
  cases m s with
  | stuck => exact fun h => h
  | err k fs s1 => exact fun h cls d H1 F1 o1 l1 x1 => h cls d σ H1 F1 ρ o1 l1 (Pre.refl _ _) x1
  | ok ds s1 =>
    intro h H1 F1 o1 l1 J hJ
    dsimp only at h
    refine ⟨fun i m σ H => m = ds.length - i ∧ i ≤ ds.length ∧ ∃ F2 ρ2 s2, Ok c.T F2 Rs ρ2 s2 σ H ∧ Le F1 F2 ∧ Pre c.b ρ ρ2 ∧ FinS c F2 Rs ρ2 D (fLoop t b (ds.drop i) s2),
      ⟨ds.length, by simp, Nat.zero_le _, F1, ρ, s1, o1, Le.refl F1, Pre.refl _ _, h.up l1 (Pre.refl _ _)⟩, ?_⟩
    rintro i m σ2 H2 ⟨rfl, hi, F2, ρ2, s2, o2, l2, p2, f2⟩
    by_cases hlt : i < ds.length
    · refine .inr ⟨hJ.go i H2 (l2.trans o2.fh) hlt, fun σ' H' => ∃ F3 ρ3 s3, Ok c.T F3 Rs ρ3 s3 σ' H' ∧ Le F1 F3 ∧ Pre c.b ρ ρ3 ∧ FinS c F3 Rs ρ3 D (fLoop t b (ds.drop (i + 1)) s3), fun σ' H' z => ⟨ds.length - (i + 1), by omega, rfl, hlt, z⟩, fun x H' y => ?_⟩
      rw [List.drop_eq_getElem_cons hlt] at f2
      have step : ∀ F3 H3, Ok c.T F3 Rs ρ2 s2 σ2 H3 → Le F2 F3 → Rep c.T F3 ds[i] x → g x σ2 H3 fun σ4 H4 => tS c b { D with
            nx := fun σ' H' => ∃ F3 ρ3 s3, Ok c.T F3 Rs ρ3 s3 σ' H' ∧ Le F1 F3 ∧ Pre c.b ρ ρ3 ∧ FinS c F3 Rs ρ3 D (fLoop t b (ds.drop (i + 1)) s3),
            ct := fun σ' H' => ∃ F3 ρ3 s3, Ok c.T F3 Rs ρ3 s3 σ' H' ∧ Le F1 F3 ∧ Pre c.b ρ ρ3 ∧ FinS c F3 Rs ρ3 D (fLoop t b (ds.drop (i + 1)) s3), bk := D.nx } σ4 H4 := fun F3 H3 o3 l3 r3 => by
        have f2 : FinS c F2 Rs ρ2 D (match t ds[i] s2 with
          | some s1 => (match b s1 with
            | .ok .nx s' => fLoop t b (ds.drop (i + 1)) s'
            | .ok .cnt s' => fLoop t b (ds.drop (i + 1)) s'
            | .ok .brk s' => .ok .nx s'
            | y => y)
          | none => .stuck) := f2
        cases e : t ds[i] s2 with
        | none => rw [e] at f2; exact f2.elim
        | some s4 =>
          rw [e] at f2
          dsimp only at f2
          refine ok F3 Rs ρ2 s2 s4 σ2 H3 ds[i] x _ o3 r3 e fun σ4 o4 => ⟨F3, Rs, ρ2, s4, o4, ?_⟩
          have f3 := FinS.up f2 l3 (Pre.refl c.b ρ2)
          revert f3
          match b s4 with
          | .stuck => exact fun h => h
          | .err k fs s1 => exact fun h => h
          | .ok (.rt r) s1 => exact fun h => h
          | .ok .brk s1 => exact fun h => h
          | .ok .cnt s1 => exact fun h σ1 H1 F1' ρ1 o1 l1' p1 => ⟨F1', ρ1, s1, o1, (l2.trans l3).trans l1', p2.trans p1, h.up l1' p1⟩
          | .ok .nx s1 => exact fun h σ1 H1 F1' ρ1 o1 l1' p1 => ⟨F1', ρ1, s1, o1, (l2.trans l3).trans l1', p2.trans p1, h.up l1' p1⟩
      rcases hJ.yld i H2 x H' ds[i] (l2.trans o2.fh) (List.getElem?_eq_getElem hlt) y with ⟨rfl, r⟩ | ⟨p, xs, es, ed, rfl, hp, rfl, r⟩
      · exact step F2 _ o2 (Le.refl F2) (Rep.mono l2 _ _ r)
      · have lf : Le F2 (upd F2 p (.tup xs)) := Le.new (o2.fh.free hp)
        refine step (upd F2 p (.tup xs)) _ (o2.newF hp) lf ?_
        rw [ed]
        exact ⟨p, xs, rfl, SqT.of upd_same, r.mono (l2.trans lf)⟩
    · have e : i = ds.length := by omega
      subst e
      refine .inl ⟨hJ.stop H2 (l2.trans o2.fh), ?_⟩
      rw [List.drop_length] at f2
      exact f2 σ2 H2 F2 ρ2 o2 (Le.refl F2) (Pre.refl _ _)
theorem ss_for {target iter : Expr} {body : List Stmt} {m : M (List D)} {t : Tgt} {g : TG} {mb : M Fl} {pos : Pos} (ok : TgOk c.T g t) (hp : PassesOwn (model X.prog X.w) X.A X.env X.xe) (hc : X.calm = true) (hi : PI X target iter (tI c m)) (hg : PG X target g) (hb : PSs X body (tS c mb))
    (hs : ∀ x, foldedSetIterable iter X.env x = pure x := by intro _; rfl) : PS X (.For target iter body [] pos) (tS c (fFor m t mb)) := PSof (ps_for hp hc hi hg hb hs) fun _ _ _ z => for_le ok z
end
end Sx

set_option Elab.async false
set_option linter.all false
set_option maxRecDepth 100000
set_option maxHeartbeats 1000000
/-! Sx, part I: list comprehensions. -/
namespace Sx
open PySem L2

theorem wipe_get {σ : St} : ∀ {vs : List Nat} {i : Nat}, (wipe σ vs)[i]? = if i ∈ vs then (σ[i]?).map (fun _ => none) else σ[i]?
  | [], i => by simp [wipe]
  | v :: vs, i => by
    show ((wipe σ vs).set v none)[i]? = _
    by_cases h : v = i
    · subst h
      rw [if_pos List.mem_cons_self]
      by_cases hl : v < σ.length
      · rw [List.getElem?_set_self (by rw [wipe_length]; exact hl), List.getElem?_eq_getElem hl]
        rfl
      · rw [List.getElem?_eq_none (by rw [List.length_set, wipe_length]; omega), List.getElem?_eq_none (by omega)]
        rfl
    · rw [List.getElem?_set_ne h, wipe_get]
      by_cases h2 : i ∈ vs
      · rw [if_pos h2, if_pos (List.mem_cons_of_mem _ h2)]
      · rw [if_neg h2, if_neg (by simp only [List.mem_cons, not_or]; exact ⟨fun e => h e.symm, h2⟩)]
theorem wipe_set {σ : St} {vs : List Nat} {j : Nat} {y : Option V} (h : j ∈ vs) : wipe (σ.set j y) vs = wipe σ vs := by
  apply List.ext_getElem?
  intro i
  rw [wipe_get, wipe_get]
  by_cases hi : i ∈ vs
  · rw [if_pos hi, if_pos hi]
    by_cases e : j = i
    · subst e
      by_cases hl : j < σ.length
      · rw [List.getElem?_set_self hl, List.getElem?_eq_getElem hl]
        rfl
      · rw [List.getElem?_eq_none (by rw [List.length_set]; omega), List.getElem?_eq_none (by omega)]
    · rw [List.getElem?_set_ne e]
  · rw [if_neg hi, if_neg hi, List.getElem?_set_ne (by intro e; subst e; exact hi h)]
theorem wipe_wipe {σ : St} {vs : List Nat} : wipe (wipe σ vs) vs = wipe σ vs := by
  apply List.ext_getElem?
  intro i
  rw [wipe_get, wipe_get]
  by_cases hi : i ∈ vs
  · rw [if_pos hi, if_pos hi]
    cases σ[i]? <;> rfl
  · rw [if_neg hi, if_neg hi]
def wipeS (s : S) : List Nat → S
  | [] => s
  | v :: vs => ⟨(wipeS s vs).g.set v none, (wipeS s vs).o⟩
theorem wipeS_o (s : S) : ∀ vs, (wipeS s vs).o = s.o
  | [] => rfl
  | _ :: vs => wipeS_o s vs
theorem wipeS_len (s : S) : ∀ vs, (wipeS s vs).g.length = s.g.length
  | [] => rfl
  | v :: vs => by show ((wipeS s vs).g.set v none).length = _; rw [List.length_set, wipeS_len s vs]
theorem wipeS_get {s : S} : ∀ {vs : List Nat} {i : Nat} {w : W}, (wipeS s vs).g[i]? = some (some w) → i ∉ vs ∧ s.g[i]? = some (some w)
  | [], i, w, h => ⟨by simp, h⟩
  | v :: vs, i, w, h => by
    have h : ((wipeS s vs).g.set v none)[i]? = some (some w) := h
    by_cases e : v = i
    · subst e
      by_cases hl : v < (wipeS s vs).g.length
      · rw [List.getElem?_set_self hl] at h; cases h
      · rw [List.getElem?_eq_none (by rw [List.length_set]; omega)] at h; cases h
    · rw [List.getElem?_set_ne e] at h
      obtain ⟨h1, h2⟩ := wipeS_get h
      exact ⟨by simp only [List.mem_cons, not_or]; exact ⟨fun z => e z.symm, h1⟩, h2⟩
theorem wipeS_keep {s : S} : ∀ {vs : List Nat} {i : Nat}, i ∉ vs → (wipeS s vs).g[i]? = s.g[i]?
  | [], i, _ => rfl
  | v :: vs, i, h => by
    simp only [List.mem_cons, not_or] at h
    show ((wipeS s vs).g.set v none)[i]? = _
    rw [List.getElem?_set_ne (fun e => h.1 e.symm), wipeS_keep h.2]
def resS (s0 s : S) : List Nat → S
  | [] => s
  | v :: vs => ⟨(resS s0 s vs).g.set v ((s0.g[v]?).join), (resS s0 s vs).o⟩
theorem resS_o (s0 s : S) : ∀ vs, (resS s0 s vs).o = s.o
  | [] => rfl
  | _ :: vs => resS_o s0 s vs
theorem resS_len (s0 s : S) : ∀ vs, (resS s0 s vs).g.length = s.g.length
  | [] => rfl
  | v :: vs => by show ((resS s0 s vs).g.set v _).length = _; rw [List.length_set, resS_len s0 s vs]
theorem resS_get {s0 s : S} : ∀ {vs : List Nat} {i : Nat} {w : W}, (resS s0 s vs).g[i]? = some (some w) → (i ∈ vs ∧ s0.g[i]? = some (some w)) ∨ (i ∉ vs ∧ s.g[i]? = some (some w))
  | [], i, w, h => .inr ⟨by simp, h⟩
  | v :: vs, i, w, h => by
    have h : ((resS s0 s vs).g.set v ((s0.g[v]?).join))[i]? = some (some w) := h
    by_cases e : v = i
    · subst e
      by_cases hl : v < (resS s0 s vs).g.length
      · rw [List.getElem?_set_self hl] at h
        refine .inl ⟨List.mem_cons_self, ?_⟩
        cases e2 : s0.g[v]? with
        | none => rw [e2] at h; cases h
        | some x => rw [e2] at h; exact h
      · rw [List.getElem?_eq_none (by rw [List.length_set]; omega)] at h; cases h
    · rw [List.getElem?_set_ne e] at h
      rcases resS_get h with ⟨h1, h2⟩ | ⟨h1, h2⟩
      · exact .inl ⟨List.mem_cons_of_mem _ h1, h2⟩
      · exact .inr ⟨by simp only [List.mem_cons, not_or]; exact ⟨fun z => e z.symm, h1⟩, h2⟩
section
variable {T : Tab} {F Rs H : Hp} {ρ : List Addr} {s : S} {σ : St}
theorem Ok.wipe {vs : List Nat} (o : Ok T F Rs ρ s σ H) : Ok T F Rs ρ (wipeS s vs) (L2.wipe σ vs) H := by
  refine ⟨o.fh, o.rh, o.fr, fun k n e => o.ob k n (by rw [wipeS_o] at e; exact e), fun k k' n n' a e1 e2 => o.dj k k' n n' a (by rw [wipeS_o] at e1; exact e1) (by rw [wipeS_o] at e2; exact e2), fun i w e => ?_, by rw [wipeS_len, wipe_length]; exact o.ln, by rw [wipeS_o]; exact o.lr⟩
  obtain ⟨h1, h2⟩ := wipeS_get e
  obtain ⟨v, e1, e2⟩ := o.sl i w h2
  exact ⟨v, by rw [wipe_get, if_neg h1]; exact e1, e2⟩
theorem Ok.res {vs : List Nat} {F0 Rs0 H0 : Hp} {s0 : S} (o0 : Ok T F0 Rs0 ρ s0 σ H0) (o : Ok T F Rs ρ (wipeS s vs) (L2.wipe σ vs) H) (l : Le F0 F) : Ok T F Rs ρ (resS s0 s vs) σ H := by
  refine ⟨o.fh, o.rh, o.fr, fun k n e => o.ob k n (by rw [resS_o] at e; rw [wipeS_o]; exact e), fun k k' n n' a e1 e2 => o.dj k k' n n' a (by rw [resS_o] at e1; rw [wipeS_o]; exact e1) (by rw [resS_o] at e2; rw [wipeS_o]; exact e2), fun i w e => ?_, ?_, by rw [resS_o]; have z := o.lr; rw [wipeS_o] at z; exact z⟩
  · rcases resS_get e with ⟨h1, h2⟩ | ⟨h1, h2⟩
    · obtain ⟨v, e1, e2⟩ := o0.sl i w h2
      exact ⟨v, e1, e2.mono l⟩
    · obtain ⟨v, e1, e2⟩ := o.sl i w (by rw [wipeS_keep h1]; exact h2)
      rw [wipe_get, if_neg h1] at e1
      exact ⟨v, e1, e2⟩
  · have z := o.ln
    rw [wipeS_len, wipe_length] at z
    rw [resS_len]
    exact z
/-- an object of the rest at p is another one now -/
theorem Ok.rest {p : Addr} {u u' : HO} (o : Ok T F (upd Rs p u) ρ s σ H) : Ok T F (upd Rs p u') ρ s σ (upd H p u') := by
  have fp : F p = none := by
    cases e : F p with
    | none => rfl
    | some x =>
      have z := o.fr p (by rw [e]; exact fun z => nomatch z)
      rw [upd_same] at z
      cases z
  refine ⟨fun b x e => ?_, fun b x e => ?_, fun b hb => ?_, fun k n e => ?_, o.dj, o.sl, o.ln, o.lr⟩
  · rw [upd_ne (ne_of_none e fp)]
    exact o.fh b x e
  · by_cases q : b = p
    · subst q
      rw [upd_same] at e ⊢
      exact e
    · rw [upd_ne q] at e ⊢
      exact o.rh b x (by rw [upd_ne q]; exact e)
  · have q : b ≠ p := fun z => hb (by rw [z]; exact fp)
    have z := o.fr b hb
    rw [upd_ne q] at z ⊢
    exact z
  · obtain ⟨b, e1, e2, e3, e4⟩ := o.ob k n e
    have q : b ≠ p := fun z => by rw [z, upd_same] at e3; cases e3
    rw [upd_ne q] at e3
    exact ⟨b, e1, e2, by rw [upd_ne q]; exact e3, e4.mono (Le.refl F) (upd_ne q)⟩
theorem Ok.restNew {p : Addr} {u : HO} (o : Ok T F Rs ρ s σ H) (hp : H p = none) : Ok T F (upd Rs p u) ρ s σ (upd H p u) := by
  have fp := o.fh.free hp
  have rp := o.rh.free hp
  refine ⟨fun b x e => ?_, fun b x e => ?_, fun b hb => ?_, fun k n e => ?_, o.dj, o.sl, o.ln, o.lr⟩
  · rw [upd_ne (ne_of_none e fp)]
    exact o.fh b x e
  · by_cases q : b = p
    · subst q
      rw [upd_same] at e ⊢
      exact e
    · rw [upd_ne q] at e ⊢
      exact o.rh b x e
  · have q : b ≠ p := fun z => hb (by rw [z]; exact fp)
    rw [upd_ne q]
    exact o.fr b hb
  · obtain ⟨b, e1, e2, e3, e4⟩ := o.ob k n e
    have q : b ≠ p := fun z => e4.there (by rw [z]; exact hp)
    exact ⟨b, e1, e2, by rw [upd_ne q]; exact e3, e4.mono (Le.refl F) (upd_ne q)⟩
theorem Ok.restOut {p : Addr} {u : HO} (o : Ok T F (upd Rs p u) ρ s σ H) (hp : Rs p = none) : Ok T F Rs ρ s σ H := by
  refine ⟨o.fh, fun b x e => o.rh b x (by rw [upd_ne (ne_of_none e hp)]; exact e), fun b hb => ?_, fun k n e => ?_, o.dj, o.sl, o.ln, o.lr⟩
  · have z := o.fr b hb
    by_cases q : b = p
    · rw [q]; exact hp
    · rw [upd_ne q] at z
      exact z
  · obtain ⟨b, e1, e2, e3, e4⟩ := o.ob k n e
    refine ⟨b, e1, e2, ?_, e4⟩
    by_cases q : b = p
    · rw [q]; exact hp
    · rw [upd_ne q] at e3
      exact e3
end
/-- a target of a comprehension: the slots vs alone are written -/
def CgOk (T : Tab) (g : TG) (t : Tgt) (vs : List Nat) : Prop := ∀ (F Rs : Hp) (ρ : List Addr) (s s' : S) (σ : St) (H : Hp) (d : D) (v : V) (Q : St → Hp → Prop), Ok T F Rs ρ s σ H → Rep T F d v → t d s = some s' → (∀ σ', Ok T F Rs ρ s' σ' H → wipe σ' vs = wipe σ vs → Q σ' H) → g v σ H Q
theorem cgN_ok {T : Tab} {i : Nat} {vs : List Nat} (hi : i ∈ vs) : CgOk T (gName i) (tgN i) vs := fun F Rs ρ s s' σ H d v Q o r e k => by
  cases e
  exact k _ (o.set (w := .fz d) r) (wipe_set hi)
theorem cgTs_ok {T : Tab} {ws : List Nat} : ∀ {is : List Nat} {ds : List D} {F Rs : Hp} {ρ : List Addr} {s s' : S} {σ : St} {H : Hp} {vs : List V} {Q : St → Hp → Prop}, (∀ i ∈ is, i ∈ ws) → Ok T F Rs ρ s σ H → Reps T F ds vs → setWs is ds s = some s' →
    (∀ σ', Ok T F Rs ρ s' σ' H → wipe σ' ws = wipe σ ws → Q σ' H) → gTs is vs σ H Q
  | [], [], F, Rs, ρ, s, s', σ, H, vs, Q, hs, o, r, e, k => by
    cases e
    exact ⟨r, k σ o rfl⟩
  | i :: is, d :: ds, F, Rs, ρ, s, s', σ, H, vs, Q, hs, o, r, e, k => by
    obtain ⟨v, us, rfl, p, q⟩ := r
    exact ⟨v, us, rfl, cgTs_ok (fun j hj => hs j (List.mem_cons_of_mem _ hj)) (o.set (w := .fz d) p) q e fun σ' o' h => k σ' o' (h.trans (wipe_set (hs i List.mem_cons_self)))⟩
  | [], _ :: _, _, _, _, _, _, _, _, _, _, _, _, _, e, _ => by cases e
  | _ :: _, [], _, _, _, _, _, _, _, _, _, _, _, _, e, _ => by cases e
theorem cgT_ok {T : Tab} {is : List Nat} {n : Nat} {vs : List Nat} (hn : is.length = n) (hs : ∀ i ∈ is, i ∈ vs) : CgOk T (gTup T.K n (gTs is)) (tgT is) vs := fun F Rs ρ s s' σ H d v Q o r e k => by
  unfold tgT at e
  split at e
  · rename_i ds
    obtain ⟨a, xs, rfl, ha, q⟩ := r
    have hl : ∀ {is : List Nat} {ds : List D} {s : S}, setWs is ds s = some s' → is.length = ds.length := fun {is} => by
      induction is with
      | nil => intro ds s e; cases ds with
        | nil => rfl
        | cons _ _ => cases e
      | cons i is ih => intro ds s e; cases ds with
        | nil => cases e
        | cons d ds => exact congrArg Nat.succ (ih e)
    exact ⟨a, xs, rfl, o.fh.sqt ha, by rw [← q.length, ← hl e, hn], cgTs_ok hs o q e k⟩
  · cases e

def lcGo (t : Tgt) (tt : M Bool) (te : M R) (own : List Nat) : List D → List D → M (List D)
  | [], acc => ret acc
  | d :: ds, acc => fun s => match t d (wipeS s own) with
    | some s1 => (match tt s1 with
      | .ok true s2 => (match te s2 with
        | .ok (.fz y) s3 => if acc.length < SZ then lcGo t tt te own ds (acc ++ [y]) s3 else .stuck
        | _ => .stuck)
      | .ok false s2 => lcGo t tt te own ds acc s2
      | _ => .stuck)
    | none => .stuck
def fLc (m : M (List D)) (t : Tgt) (tt : M Bool) (te : M R) (own : List Nat) : M R := bnd m fun ds s0 => match lcGo t tt te own ds [] s0 with
  | .ok acc s => .ok (.nw (.fl acc)) (resS s0 s own)
  | _ => .stuck
def fYes : M Bool := ret true
/-- the context within: no exception leaves -/
abbrev Cc.cut (c : Cc) : Cc := ⟨c.T, fun _ _ _ _ => False, c.b⟩
section
variable {X : Cx} {c : Cc} {σ : St} {H : Hp}
theorem sts_nil {c : Cc} : PTs X [] (tT c fYes) := ⟨fun pins s σ H Q I h => pts_nil.run pins s σ H Q I (by obtain ⟨F, Rs, ρ, st, o, f⟩ := h; exact f H F o (Le.refl F))⟩
theorem lc_le {m : M (List D)} {t : Tgt} {tt : M Bool} {te : M R} {g : TG} {own : List Nat} {Q : VK} (ok : CgOk c.T g t own) (h : tE c (fLc m t tt te own) σ H Q) : tLc (tI c m) g (tT c.cut tt) (tE c.cut te) own σ H Q := by
  obtain ⟨F, Rs, ρ, s, o, h⟩ := h
  refine ⟨F, Rs, ρ, s, o, ?_⟩
  unfold fLc bnd at h
  revert h
  cases m s with
  | stuck => exact fun h => h
  | err k fs s1 => exact fun h => h
  | ok ds s1 =>
    intro h H1 F1 o1 l1 J hJ L hL
    dsimp only at h
    -- the result of the whole loop is known to be good
    cases hgo : lcGo t tt te own ds [] s1 with
    | stuck => rw [hgo] at h; exact h.elim
    | err k fs s2 => rw [hgo] at h; exact h.elim
    | ok accE sE =>
      rw [hgo] at h
      dsimp only at h
      refine ⟨fun i m H2 => m = ds.length - i ∧ i ≤ ds.length ∧ ∃ F2 s2 acc xs, Ok c.T F2 (upd Rs L (.lst xs)) ρ (wipeS s2 own) (wipe σ own) H2 ∧ Le F1 F2 ∧ Reps c.T F2 acc xs ∧ lcGo t tt te own (ds.drop i) acc s2 = .ok accE sE ∧ (wipeS s2 own = wipeS s2 own),
        ⟨ds.length, by simp, Nat.zero_le _, F1, s1, [], [], (o1.restNew hL).wipe, Le.refl F1, Reps.nil, hgo, rfl⟩, ?_⟩
      rintro i m H2 ⟨rfl, hi, F2, s2, acc, xs, o2, l2, r2, e2, _⟩
      by_cases hlt : i < ds.length
      · refine .inr ⟨hJ.go i H2 (l2.trans o2.fh) hlt, fun H' => ∃ F3 s3 acc3 xs3, Ok c.T F3 (upd Rs L (.lst xs3)) ρ (wipeS s3 own) (wipe σ own) H' ∧ Le F1 F3 ∧ Reps c.T F3 acc3 xs3 ∧ lcGo t tt te own (ds.drop (i + 1)) acc3 s3 = .ok accE sE ∧ (wipeS s3 own = wipeS s3 own), fun H' z => ⟨ds.length - (i + 1), by omega, rfl, hlt, z⟩, fun x H' y => ?_⟩
        rw [List.drop_eq_getElem_cons hlt] at e2
        have e2 : (match t ds[i] (wipeS s2 own) with
          | some s1 => (match tt s1 with
            | .ok true s2 => (match te s2 with
              | .ok (.fz y) s3 => if acc.length < SZ then lcGo t tt te own (ds.drop (i + 1)) (acc ++ [y]) s3 else .stuck
              | _ => .stuck)
            | .ok false s2 => lcGo t tt te own (ds.drop (i + 1)) acc s2
            | _ => .stuck)
          | none => .stuck) = Out.ok accE sE := e2
        have step : ∀ F3 H3, Ok c.T F3 (upd Rs L (.lst xs)) ρ (wipeS s2 own) (wipe σ own) H3 → Le F2 F3 → Rep c.T F3 ds[i] x → g x (wipe σ own) H3 fun σ2 H2 => wipe σ2 own = wipe σ own ∧ tT c.cut tt σ2 H2 fun b H3 =>
            if b = true then tE c.cut te σ2 H3 fun y H4 => ∃ acc, H4 L = some (.lst acc) ∧ acc.length < sizeLine ∧ (∃ F3 s3 acc3 xs3, Ok c.T F3 (upd Rs L (.lst xs3)) ρ (wipeS s3 own) (wipe σ own) (upd H4 L (.lst (acc ++ [y]))) ∧ Le F1 F3 ∧ Reps c.T F3 acc3 xs3 ∧ lcGo t tt te own (ds.drop (i + 1)) acc3 s3 = .ok accE sE ∧ (wipeS s3 own = wipeS s3 own))
            else (∃ F3 s3 acc3 xs3, Ok c.T F3 (upd Rs L (.lst xs3)) ρ (wipeS s3 own) (wipe σ own) H3 ∧ Le F1 F3 ∧ Reps c.T F3 acc3 xs3 ∧ lcGo t tt te own (ds.drop (i + 1)) acc3 s3 = .ok accE sE ∧ (wipeS s3 own = wipeS s3 own)) := fun F3 H3 o3 l3 r3 => by
          cases et : t ds[i] (wipeS s2 own) with
          | none => rw [et] at e2; cases e2
          | some s4 =>
            rw [et] at e2
            dsimp only at e2
            refine ok F3 _ ρ _ s4 _ H3 ds[i] x _ o3 r3 et fun σ4 o4 hw => ?_
            have hw : wipe σ4 own = wipe σ own := hw.trans wipe_wipe
            refine ⟨hw, F3, _, ρ, s4, o4, ?_⟩
            cases ett : tt s4 with
            | stuck => rw [ett] at e2; cases e2
            | err k fs s5 => rw [ett] at e2; cases e2
            | ok b s5 =>
              rw [ett] at e2
              intro H5 F5 o5 l5
              cases b with
              | false =>
                dsimp only at e2
                show ∃ F3 s3 acc3 xs3, _
                have o6 := o5.wipe (vs := own)
                rw [hw] at o6
                exact ⟨F5, s5, acc, xs, o6, (l2.trans l3).trans l5, r2.mono (l3.trans l5), e2, rfl⟩
              | true =>
                dsimp only at e2
                show tE c.cut te σ4 H5 _
                refine ⟨F5, _, ρ, s5, o5, ?_⟩
                cases ete : te s5 with
                | stuck => rw [ete] at e2; cases e2
                | err k fs s6 => rw [ete] at e2; cases e2
                | ok r s6 =>
                  rw [ete] at e2
                  cases r with
                  | own k => cases e2
                  | nw n => cases e2
                  | fz y =>
                    dsimp only at e2
                    split at e2
                    · rename_i hz
                      intro H6 F6 o6 l6 v hv
                      have hv : Rep c.T F6 y v := hv
                      refine ⟨xs, o6.rh L _ upd_same, by rw [← r2.length, SZ_eq]; exact hz, F6, s6, acc ++ [y], xs ++ [v], ?_, ((l2.trans l3).trans l5).trans l6, (r2.mono ((l3.trans l5).trans l6)).append (Reps.cons hv Reps.nil), e2, rfl⟩
                      have o7 := (o6.rest (u' := .lst (xs ++ [v]))).wipe (vs := own)
                      rw [hw] at o7
                      exact o7
                    · cases e2
        rcases hJ.yld i H2 x H' ds[i] (l2.trans o2.fh) (List.getElem?_eq_getElem hlt) y with ⟨rfl, r⟩ | ⟨p, zs, es, ed, rfl, hp, rfl, r⟩
        · exact step F2 _ o2 (Le.refl F2) (Rep.mono l2 _ _ r)
        · have lf : Le F2 (upd F2 p (.tup zs)) := Le.new (o2.fh.free hp)
          refine step (upd F2 p (.tup zs)) _ (o2.newF hp) lf ?_
          rw [ed]
          exact ⟨p, zs, rfl, SqT.of upd_same, r.mono (l2.trans lf)⟩
      · have e : i = ds.length := by omega
        subst e
        refine .inl ⟨hJ.stop H2 (l2.trans o2.fh), ?_⟩
        rw [List.drop_length] at e2
        have e2 : Out.ok acc s2 = Out.ok accE sE := e2
        cases e2
        have rL : Rs L = none := o1.rh.free hL
        have o3 : Ok c.T F2 Rs ρ (wipeS sE own) (wipe σ own) H2 := o2.restOut rL
        have o4 : Ok c.T F2 Rs ρ (resS s1 sE own) σ H2 := Ok.res o1 o3 l2
        have fL : F2 L = none := by
          cases e : F2 L with
          | none => rfl
          | some u =>
            have z := o2.fr L (by rw [e]; exact fun z => nomatch z)
            rw [upd_same] at z
            cases z
        refine h H2 F2 o4 (l1.trans l2) (.ref L) ⟨L, rfl, fL, rL, fun k n e e1 => ?_, xs, o2.rh L _ upd_same, r2⟩
        obtain ⟨b, g1, g2, g3, g4⟩ := o2.ob k n (by rw [wipeS_o]; rw [resS_o] at e; exact e)
        rw [g1] at e1
        cases e1
        rw [upd_same] at g3
        cases g3
end
end Sx

set_option Elab.async false
set_option linter.all false
set_option maxRecDepth 100000
set_option maxHeartbeats 1000000
/-! Sx, part J: defs, what they promise; calls. -/
namespace Sx
open PySem L2
open Classical

/-- what a def gives back: a result, the objects handed in as they are then -/
inductive FO where
  | ret (r : R) (o : List (Option Node)) | err (c : Nat) (fs : List D) (o : List (Option Node)) | stuck
abbrev FnS := List W → List (Option Node) → FO
def FinF (T : Tab) (F Rs : Hp) (ρ : List Addr) (Q : VK) (E : XK) : FO → Prop
  | .ret r o => ∀ v H F', Ok T F' Rs ρ ⟨[], o⟩ [] H → Le F F' → RepR T F' Rs ρ ⟨[], o⟩ H r v → Q v H
  | .err k fs o => ∀ cls d H F', Ok T F' Rs ρ ⟨[], o⟩ [] H → Le F F' → ExcOk T F' k fs cls d → E cls d H
  | .stuck => False
/-- the promise of a def that computes g (nb: the most objects that are handed in) -/
def spF (T : Tab) (nb np : Nat) (g : FnS) : Sp := fun vs H Q E => vs.length = np ∧ ∃ F Rs ρ ws o, o.length = nb ∧ Ok T F Rs ρ ⟨ws.map some, o⟩ (vs.map some) H ∧ FinF T F Rs ρ Q E (g ws o)

/-! ### references below n -/
def rlW (n : Nat) : W → Bool
  | .own j => decide (j < n)
  | .fz _ => true
def rlN (n : Nat) : Node → Bool
  | .oo _ ws => ws.all (rlW n)
  | _ => true
def rlO (n : Nat) (o : List (Option Node)) : Bool := o.all fun x => match x with
  | some x => rlN n x
  | none => true
def fzN (n : Node) : Bool := rlN 0 n
section
variable {T : Tab} {F Rs H : Hp} {ρ ρ' : List Addr} {s : S} {σ : St}
theorem rl_W {n : Nat} (h : ∀ j, j < n → ρ'[j]? = ρ[j]?) : ∀ {w : W} {v : V}, rlW n w = true → RepW T F ρ w v → RepW T F ρ' w v
  | .fz _, _, _, r => r
  | .own j, v, e, r => by
    obtain ⟨b, h1, rfl⟩ := r
    have hj : j < n := by simpa [rlW] using e
    exact ⟨b, by rw [h j hj]; exact h1, rfl⟩
theorem rl_Ws {n : Nat} (h : ∀ j, j < n → ρ'[j]? = ρ[j]?) : ∀ {ws : List W} {vs : List V}, ws.all (rlW n) = true → RepWs T F ρ ws vs → RepWs T F ρ' ws vs
  | [], _, _, r => r
  | w :: ws, _, e, r => by
    rw [List.all_cons, Bool.and_eq_true] at e
    obtain ⟨v, us, rfl, p, q⟩ := r
    exact ⟨v, us, rfl, rl_W h e.1 p, rl_Ws h e.2 q⟩
theorem rl_N {n : Nat} {b : Addr} (h : ∀ j, j < n → ρ'[j]? = ρ[j]?) : ∀ {x : Node}, rlN n x = true → NodeOk T F ρ H b x → NodeOk T F ρ' H b x
  | .fl _, _, r => r
  | .fd _, _, r => r
  | .oo c ws, e, r => by
    obtain ⟨dx, xs, p, q⟩ := r
    exact ⟨dx, xs, p, rl_Ws h e q⟩
theorem rlO_get {n : Nat} {o : List (Option Node)} (h : rlO n o = true) {k : Nat} {x : Node} (e : o[k]? = some (some x)) : rlN n x = true := by
  unfold rlO at h
  rw [List.all_eq_true] at h
  exact h (some x) (List.mem_of_getElem? e)

/-! ### a def's end: its own objects are frozen, those handed in go back -/
def frS (s : S) : List Nat → Option S
  | [] => some s
  | k :: ks => match s.o[k]? with
    | some (some n) => (match n.toD with
      | some d => frS (kill k d s) ks
      | none => none)
    | _ => frS s ks
def cutO (nb : Nat) (s : S) : Option (List (Option Node)) := match frS s (List.range' nb (s.o.length - nb)) with
  | some s' => if rlO nb (s'.o.take nb) = true then some (s'.o.take nb) else none
  | none => none
def outR (nb : Nat) (r : R) (s : S) : FO := match r with
  | .own _ => .stuck
  | .fz d => (match cutO nb s with
    | some o => .ret (.fz d) o
    | none => .stuck)
  | .nw n => if fzN n = true then (match cutO nb s with
    | some o => .ret (.nw n) o
    | none => .stuck) else .stuck
def leave (nb : Nat) : Out Fl → FO
  | .ok .nx s => outR nb (.fz .non) s
  | .ok (.rt r) s => outR nb r s
  | .err c fs s => (match cutO nb s with
    | some o => .err c fs o
    | none => .stuck)
  | _ => .stuck
theorem frS_ok : ∀ {ks : List Nat} {F : Hp} {s s' : S}, Ok T F Rs ρ s σ H → frS s ks = some s' → ∃ F', Le F F' ∧ Ok T F' Rs ρ s' σ H ∧ s'.o.length = s.o.length
  | [], F, s, s', o, e => by
    cases e
    exact ⟨F, Le.refl F, o, rfl⟩
  | k :: ks, F, s, s', o, e => by
    unfold frS at e
    split at e
    · rename_i n e0
      split at e
      · rename_i d ed
        obtain ⟨a, ha, _⟩ := o.ob k n e0
        have fr : frz (.own k) s = .ok d (kill k d s) := by
          show (match s.o[k]? with
            | some (some n) => (match n.toD with
              | some d => Out.ok d (kill k d s)
              | none => .stuck)
            | _ => .stuck) = _
          rw [e0]
          dsimp only
          rw [ed]
        obtain ⟨F1, l1, o1, _⟩ := frz_ok o (show RepR T F Rs ρ s H (.own k) (.ref a) from ⟨a, ha, rfl⟩) fr
        obtain ⟨F2, l2, o2, e2⟩ := frS_ok o1 e
        refine ⟨F2, l1.trans l2, o2, e2.trans ?_⟩
        show ((s.o.set k none).map _).length = _
        rw [List.length_map, List.length_set]
      · cases e
    · exact frS_ok o e
theorem cut_ok {nb : Nat} {o' : List (Option Node)} (o : Ok T F Rs ρ' s σ H) (hl : ρ.length = nb) (hp : ∀ k, k < nb → ρ'[k]? = ρ[k]?) (hn : nb ≤ s.o.length) (e : cutO nb s = some o') : ∃ F', Le F F' ∧ Ok T F' Rs ρ ⟨[], o'⟩ [] H := by
  unfold cutO at e
  split at e
  · rename_i s' e1
    split at e
    · rename_i hr
      cases e
      obtain ⟨F', l, o1, el⟩ := frS_ok o e1
      have live : ∀ (k : Nat) (n : Node), (s'.o.take nb)[k]? = some (some n) → k < nb ∧ s'.o[k]? = some (some n) := fun k n e => by
        rw [List.getElem?_take] at e
        split at e
        · rename_i h
          exact ⟨h, e⟩
        · cases e
      refine ⟨F', l, o1.fh, o1.rh, o1.fr, fun k n e => ?_, fun k k' n n' a e1 e2 e3 e4 => ?_, fun i w e => by simp at e, rfl, ?_⟩
      · obtain ⟨hk, e0⟩ := live k n e
        obtain ⟨a, h1, h2, h3, h4⟩ := o1.ob k n e0
        exact ⟨a, by rw [← hp k hk]; exact h1, h2, h3, rl_N (fun j hj => (hp j hj).symm) (rlO_get hr e) h4⟩
      · obtain ⟨hk, g1⟩ := live k n e1
        obtain ⟨hk', g2⟩ := live k' n' e2
        exact o1.dj k k' n n' a g1 g2 (by rw [hp k hk]; exact e3) (by rw [hp k' hk']; exact e4)
      · show ρ.length = (s'.o.take nb).length
        rw [List.length_take, el, hl]
        omega
    · cases e
  · cases e

/-! ### the call's state -/
def padO (nb : Nat) (o : List (Option Node)) : List (Option Node) := o.take nb ++ List.replicate (nb - o.length) none
def backO (nb : Nat) (o o' : List (Option Node)) : List (Option Node) := o'.take o.length ++ o.drop nb
def toWs (n : Nat) : List R → Option (List W)
  | [] => some []
  | .fz d :: rs => (toWs n rs).map (.fz d :: ·)
  | .own k :: rs => if k < n then (toWs n rs).map (.own k :: ·) else none
  | .nw _ :: _ => none
def rOk : R → Bool
  | .fz _ => true
  | .nw n => fzN n
  | .own _ => false
def callS (g : FnS) (nb : Nat) (rs : List R) : M R := fun s => match toWs (min nb s.o.length) rs with
  | some ws => if rlO (min nb s.o.length) (s.o.take nb) = true then (match g ws (padO nb s.o) with
    | .ret r o' => if rOk r = true ∧ rlO (min nb s.o.length) o' = true ∧ o'.length = nb then .ok r ⟨s.g, backO nb s.o o'⟩ else .stuck
    | .err c fs o' => if rlO (min nb s.o.length) o' = true ∧ o'.length = nb then .err c fs ⟨s.g, backO nb s.o o'⟩ else .stuck
    | .stuck => .stuck) else .stuck
  | none => .stuck
/-- the rest for the callee: the objects of the caller's that aren't handed in -/
noncomputable def restC (nb : Nat) (s : S) (ρ : List Addr) (H Rs : Hp) : Hp := fun p => if ∃ k n, nb ≤ k ∧ s.o[k]? = some (some n) ∧ ρ[k]? = some p then H p else Rs p
def padR (nb : Nat) (ρ : List Addr) : List Addr := ρ.take nb ++ List.replicate (nb - ρ.length) 0
theorem padR_lt {nb j : Nat} (h : j < min nb ρ.length) : (padR nb ρ)[j]? = ρ[j]? := by
  unfold padR
  rw [List.getElem?_append_left (by rw [List.length_take]; omega), List.getElem?_take, if_pos (by omega)]
theorem padO_live {nb k : Nat} {n : Node} {o : List (Option Node)} (e : (padO nb o)[k]? = some (some n)) : k < min nb o.length ∧ o[k]? = some (some n) := by
  unfold padO at e
  by_cases h : k < (o.take nb).length
  · rw [List.getElem?_append_left h, List.getElem?_take] at e
    rw [List.length_take] at h
    rw [if_pos (by omega)] at e
    exact ⟨h, e⟩
  · rw [List.getElem?_append_right (by omega)] at e
    have := List.mem_of_getElem? e
    rw [List.mem_replicate] at this
    cases this.2
theorem back_live {nb k : Nat} {n : Node} {o o' : List (Option Node)} (hl : o'.length = nb) (e : (backO nb o o')[k]? = some (some n)) : (k < min nb o.length ∧ o'[k]? = some (some n)) ∨ (nb ≤ k ∧ o[k]? = some (some n)) := by
  unfold backO at e
  by_cases h : k < (o'.take o.length).length
  · rw [List.getElem?_append_left h, List.getElem?_take] at e
    rw [List.length_take, hl] at h
    rw [if_pos (by omega)] at e
    exact .inl ⟨by omega, e⟩
  · rw [List.getElem?_append_right (by omega), List.getElem?_drop] at e
    rw [List.length_take, hl] at h e
    by_cases h2 : nb ≤ o.length
    · right
      have : nb + (k - min o.length nb) = k := by omega
      rw [this] at e
      exact ⟨by omega, e⟩
    · exfalso
      rw [List.getElem?_eq_none (by omega)] at e
      cases e
theorem callee_ok {nb : Nat} {rs : List R} {vs : List V} {ws : List W} (o : Ok T F Rs ρ s σ H) (p : RepRs T F ρ s H Rs rs vs) (e : toWs (min nb s.o.length) rs = some ws) (hr : rlO (min nb s.o.length) (s.o.take nb) = true) :
    Ok T F (restC nb s ρ H Rs) (padR nb ρ) ⟨ws.map some, padO nb s.o⟩ (vs.map some) H := by
  have hmin : min nb ρ.length = min nb s.o.length := by rw [o.lr]
  refine ⟨o.fh, fun b u eb => ?_, fun b hb => ?_, fun k n ek => ?_, fun k k' n n' a e1 e2 e3 e4 => ?_, fun i w ei => ?_, ?_, ?_⟩
  · unfold restC at eb
    split at eb
    · exact eb
    · exact o.rh b u eb
  · show (if _ then _ else _) = none
    rw [if_neg (fun ⟨k, n, _, h1, h2⟩ => by
      obtain ⟨a, g1, g2, _⟩ := o.ob k n h1
      rw [h2] at g1
      cases g1
      exact hb g2)]
    exact o.fr b hb
  · obtain ⟨hk, e0⟩ := padO_live ek
    obtain ⟨a, g1, g2, g3, g4⟩ := o.ob k n e0
    have hrn : rlN (min nb s.o.length) n = true := rlO_get hr (k := k) (by rw [List.getElem?_take, if_pos (by omega)]; exact e0)
    refine ⟨a, by rw [padR_lt (by omega)]; exact g1, g2, ?_, rl_N (fun j hj => padR_lt (by omega)) hrn g4⟩
    show (if _ then _ else _) = none
    rw [if_neg (fun ⟨k', n', h0, h1, h2⟩ => by
      have z := o.dj k k' n n' a e0 h1 g1 h2
      omega)]
    exact g3
  · obtain ⟨hk, g1⟩ := padO_live e1
    obtain ⟨hk', g2⟩ := padO_live e2
    exact o.dj k k' n n' a g1 g2 (by rw [← padR_lt (ρ := ρ) (nb := nb) (by omega)]; exact e3) (by rw [← padR_lt (ρ := ρ) (nb := nb) (by omega)]; exact e4)
  · have key : ∀ {rs : List R} {vs : List V} {ws : List W} {Rs : Hp} {i : Nat} {w : W}, RepRs T F ρ s H Rs rs vs → toWs (min nb s.o.length) rs = some ws → ws[i]? = some w → ∃ v, vs[i]? = some v ∧ RepW T F (padR nb ρ) w v := fun {rs} => by
      induction rs with
      | nil => intro vs ws Rs i w p e ei; cases e; simp at ei
      | cons r rs ih =>
        intro vs ws Rs i w p e ei
        obtain ⟨v, us, rfl, p1, p2⟩ := p
        cases r with
        | nw n => cases e
        | fz d =>
          obtain ⟨x, e1, rfl⟩ := map_some (show (toWs (min nb s.o.length) rs).map (.fz d :: ·) = some ws from e)
          cases i with
          | zero => simp at ei; subst ei; exact ⟨v, rfl, p1⟩
          | succ i =>
            obtain ⟨u, q1, q2⟩ := ih (vs := us) (ws := x) (i := i) p2 e1 (by simpa using ei)
            exact ⟨u, by simpa using q1, q2⟩
        | own k =>
          have e : (if k < min nb s.o.length then (toWs (min nb s.o.length) rs).map (.own k :: ·) else none) = some ws := e
          split at e
          · rename_i hk
            obtain ⟨x, e1, rfl⟩ := map_some e
            cases i with
            | zero =>
              simp at ei
              subst ei
              obtain ⟨a, h1, rfl⟩ := p1
              exact ⟨_, rfl, a, by rw [padR_lt (by omega)]; exact h1, rfl⟩
            | succ i =>
              obtain ⟨u, q1, q2⟩ := ih (vs := us) (ws := x) (i := i) p2 e1 (by simpa using ei)
              exact ⟨u, by simpa using q1, q2⟩
          · cases e
    have ei : (ws.map some)[i]? = some (some w) := ei
    rw [List.getElem?_map] at ei
    cases h : ws[i]? with
    | none => rw [h] at ei; cases ei
    | some w' =>
      rw [h] at ei
      cases ei
      obtain ⟨v, h1, h2⟩ := key p e h
      exact ⟨v, by rw [List.getElem?_map, h1]; rfl, h2⟩
  · have key : ∀ {rs : List R} {vs : List V} {ws : List W} {Rs : Hp}, RepRs T F ρ s H Rs rs vs → toWs (min nb s.o.length) rs = some ws → ws.length = vs.length := fun {rs} => by
      induction rs with
      | nil => intro vs ws Rs p e; cases e; cases (show vs = [] from p); rfl
      | cons r rs ih =>
        intro vs ws Rs p e
        obtain ⟨v, us, rfl, p1, p2⟩ := p
        cases r with
        | nw n => cases e
        | fz d =>
          obtain ⟨x, e1, rfl⟩ := map_some (show (toWs (min nb s.o.length) rs).map (.fz d :: ·) = some ws from e)
          simp [ih p2 e1]
        | own k =>
          have e : (if k < min nb s.o.length then (toWs (min nb s.o.length) rs).map (.own k :: ·) else none) = some ws := e
          split at e
          · obtain ⟨x, e1, rfl⟩ := map_some e
            simp [ih p2 e1]
          · cases e
    show (ws.map some).length = (vs.map some).length
    rw [List.length_map, List.length_map, key p e]
  · show (padR nb ρ).length = (padO nb s.o).length
    unfold padR padO
    rw [List.length_append, List.length_append, List.length_take, List.length_take, List.length_replicate, List.length_replicate, o.lr]
theorem caller_ok {nb : Nat} {F' H' : Hp} {o' : List (Option Node)} (o : Ok T F Rs ρ s σ H) (l : Le F F') (o1 : Ok T F' (restC nb s ρ H Rs) (padR nb ρ) ⟨[], o'⟩ [] H') (hr : rlO (min nb s.o.length) o' = true) (hl : o'.length = nb) :
    Ok T F' Rs ρ ⟨s.g, backO nb s.o o'⟩ σ H' ∧ ∀ a, restC nb s ρ H Rs a = none → Rs a = none ∧ ∀ (k : Nat) (n : Node), nb ≤ k → s.o[k]? = some (some n) → ρ[k]? ≠ some a := by
  have hmin : min nb ρ.length = min nb s.o.length := by rw [o.lr]
  have rest : ∀ (k : Nat) (n : Node) (a : Addr), nb ≤ k → s.o[k]? = some (some n) → ρ[k]? = some a → restC nb s ρ H Rs a = H a ∧ H a ≠ none := fun k n a h0 h1 h2 => by
    obtain ⟨b, g1, _, _, g4⟩ := o.ob k n h1
    rw [h2] at g1
    cases g1
    exact ⟨if_pos ⟨k, n, h0, h1, h2⟩, g4.there⟩
  have free : ∀ a, restC nb s ρ H Rs a = none → Rs a = none ∧ ∀ (k : Nat) (n : Node), nb ≤ k → s.o[k]? = some (some n) → ρ[k]? ≠ some a := fun a h => by
    have no : ∀ (k : Nat) (n : Node), nb ≤ k → s.o[k]? = some (some n) → ρ[k]? ≠ some a := fun k n h0 h1 h2 => by
      obtain ⟨e1, e2⟩ := rest k n a h0 h1 h2
      rw [e1] at h
      exact e2 h
    have h : (if ∃ k n, nb ≤ k ∧ s.o[k]? = some (some n) ∧ ρ[k]? = some a then H a else Rs a) = none := h
    rw [if_neg (fun ⟨k, n, h0, h1, h2⟩ => no k n h0 h1 h2)] at h
    exact ⟨h, no⟩
  refine ⟨⟨o1.fh, fun b u eb => ?_, fun b hb => ?_, fun k n ek => ?_, fun k k' n n' a e1 e2 e3 e4 => ?_, fun i w ei => ?_, o.ln, ?_⟩, free⟩
  · refine o1.rh b u ?_
    show (if _ then _ else _) = _
    split
    · exact o.rh b u eb
    · exact eb
  · exact (free b (o1.fr b hb)).1
  · rcases back_live hl ek with ⟨hk, e0⟩ | ⟨hk, e0⟩
    · obtain ⟨a, g1, g2, g3, g4⟩ := o1.ob k n e0
      exact ⟨a, by rw [← padR_lt (ρ := ρ) (nb := nb) (by omega)]; exact g1, g2, (free a g3).1, rl_N (fun j hj => (padR_lt (by omega)).symm) (rlO_get hr e0) g4⟩
    · obtain ⟨a, g1, g2, g3, g4⟩ := o.ob k n e0
      obtain ⟨r1, r2⟩ := rest k n a hk e0 g1
      have fa : F' a = none := by
        cases q : F' a with
        | none => rfl
        | some u =>
          have z := o1.fr a (by rw [q]; exact fun z => nomatch z)
          rw [r1] at z
          exact absurd z r2
      have ha : H' a = H a := by
        cases q : H a with
        | none => exact absurd q r2
        | some u => exact o1.rh a u (by rw [r1]; exact q)
      exact ⟨a, g1, fa, g3, g4.mono l ha⟩
  · rcases back_live hl e1 with ⟨hk, g1⟩ | ⟨hk, g1⟩ <;> rcases back_live hl e2 with ⟨hk', g2⟩ | ⟨hk', g2⟩
    · exact o1.dj k k' n n' a g1 g2 (by rw [padR_lt (by omega)]; exact e3) (by rw [padR_lt (by omega)]; exact e4)
    · exfalso
      obtain ⟨b, f1, _, f3, _⟩ := o1.ob k n g1
      rw [padR_lt (by omega), e3] at f1
      cases f1
      exact (free _ f3).2 k' n' hk' g2 e4
    · exfalso
      obtain ⟨b, f1, _, f3, _⟩ := o1.ob k' n' g2
      rw [padR_lt (by omega), e4] at f1
      cases f1
      exact (free _ f3).2 k n hk g1 e3
    · exact o.dj k k' n n' a g1 g2 e3 e4
  · obtain ⟨v, h1, h2⟩ := o.sl i w ei
    exact ⟨v, h1, h2.mono l⟩
  · show ρ.length = (backO nb s.o o').length
    unfold backO
    rw [List.length_append, List.length_take, List.length_drop, hl, o.lr]
    omega
end
section
variable {X : Cx} {c : Cc} {σ : St} {H : Hp}
theorem callS_le {g : FnS} {nb np : Nat} {rs : List R} {vs : List V} {Q : VK} (hn : vs.length = np) (h : Sus c (PE_ c Q) rs vs (callS g nb rs) σ H) : spF c.T nb np g vs H Q (WE c.W σ) := by
  obtain ⟨F, Rs, ρ, s, o, p, h⟩ := h
  unfold callS at h
  cases e : toWs (min nb s.o.length) rs with
  | none => rw [e] at h; exact h.elim
  | some ws =>
    rw [e] at h
    dsimp only at h
    split at h
    · rename_i hr
      have o1 := callee_ok o p e hr
      refine ⟨hn, F, restC nb s ρ H Rs, padR nb ρ, ws, padO nb s.o, by unfold padO; rw [List.length_append, List.length_take, List.length_replicate]; omega, o1, ?_⟩
      revert h
      cases g ws (padO nb s.o) with
      | stuck => exact fun h => h
      | err k fs o' =>
        dsimp only
        intro h cls d H' F' o2 l x
        split at h
        · rename_i hh
          exact h cls d H' F' (caller_ok o l o2 hh.1 hh.2).1 l x
        · exact h.elim
      | ret r o' =>
        dsimp only
        intro h v H' F' o2 l hv
        split at h
        · rename_i hh
          obtain ⟨k1, k2⟩ := caller_ok o l o2 hh.2.1 hh.2.2
          refine h H' F' k1 l v ?_
          cases r with
          | fz d => exact hv
          | own k => cases hh.1
          | nw n =>
            obtain ⟨a, rfl, f1, f2, f3, f4⟩ := hv
            obtain ⟨g1, g2⟩ := k2 a f2
            refine ⟨a, rfl, f1, g1, fun k n' ek e1 => ?_, rl_N (n := 0) (fun j hj => absurd hj (Nat.not_lt_zero j)) hh.1 f4⟩
            rcases back_live hh.2.2 ek with ⟨hk, e0⟩ | ⟨hk, e0⟩
            · exact f3 k n' e0 (by rw [padR_lt (by rw [o.lr]; omega)]; exact e1)
            · exact g2 k n' hk e0 e1
        · exact h.elim
    · exact h.elim
def fCallF (g : FnS) (nb : Nat) (ma : M (List R)) : M R := bnd ma fun rs => callS g nb rs
end
end Sx

set_option Elab.async false
set_option linter.all false
set_option maxRecDepth 100000
set_option maxHeartbeats 1000000
/-! Sx, part K: calls of defs, methods, classes; a def keeps its promise. -/
namespace Sx
open PySem L2 PySem.Spec PyProof.Rows
section
variable {X : Cx} {c : Cc} {σ : L2.St} {H : Hp}
theorem RepRs.len {T : Tab} {F : Hp} {ρ : List Addr} {s : S} {H : Hp} : ∀ {rs : List R} {vs : List V} {Rs : Hp}, RepRs T F ρ s H Rs rs vs → rs.length = vs.length
  | [], vs, Rs, p => by cases (show vs = [] from p); rfl
  | r :: rs, vs, Rs, p => by
    obtain ⟨v, us, rfl, _, p2⟩ := p
    simp [RepRs.len p2]
/-- the number of arguments is right -/
def fCallN (g : FnS) (nb np : Nat) (ma : M (List R)) : M R := bnd ma fun rs => if rs.length = np then callS g nb rs else stk
theorem callN_le {g : FnS} {nb np : Nat} {rs : List R} {vs : List V} {Q : VK} (h : Sus c (PE_ c Q) rs vs (if rs.length = np then callS g nb rs else stk) σ H) : spF c.T nb np g vs H Q (WE c.W σ) := by
  by_cases e : rs.length = np
  · rw [if_pos e] at h
    refine callS_le ?_ h
    obtain ⟨_, _, _, _, _, p, _⟩ := h
    rw [← p.len, e]
  · rw [if_neg e] at h
    obtain ⟨_, _, _, _, _, p, f⟩ := h
    exact f.elim
theorem callF_le {g : FnS} {nb np : Nat} {ma : M (List R)} {Q : VK} (h : tE c (fCallN g nb np ma) σ H Q) : tCallS (spF c.T nb np g) (WE c.W) (tA c ma) σ H Q :=
  tA_mono (tE_sus.mp h).bA fun vs H1 ⟨rs, h1⟩ => callN_le (rs := rs) (vs := vs) h1
theorem se_callF {e : Expr} {es : List Expr} {x : Str} {p pos : Pos} {f : Addr} {fd : FuncData} {ps : List Str} {k nb np : Nat} {g : FnS} {ma : M (List R)} (F : FnOk X.prog X.w X.K X.mg X.base (L2.CX X.prog X.w) k f fd ps (spF c.T nb np g)) (hr : Room k X.A) (hg : Gl X x) (hm : X.mg x = some (.ref f))
    (hk : PySem.W.keepIn X.K (.ref f) = true) (hb : Binds X.K fd ps []) (tk : Takes X c.W) (ha : PA X (e :: es) (tA c ma))
    (hdb : (x == ("__debug__" : Str)) = false := by decide) (he : starEach (e :: es) X.env = (false, eval e X.env) :: starEach es X.env := by rfl) (hpl : (backTo pos (starEach es X.env)).any (·.1) = false := by rfl) :
    PE X (.Call (.Name x p) (e :: es) [] pos) (tE c (fCallN g nb np ma)) := PEof (pe_callS F hr hg hm hk hb (fun σ => passAt tk σ) ha hdb he hpl) fun _ _ _ z => callF_le z
theorem se_callF0 {x : Str} {p pos : Pos} {f : Addr} {fd : FuncData} {ps : List Str} {k nb np : Nat} {g : FnS} (F : FnOk X.prog X.w X.K X.mg X.base (L2.CX X.prog X.w) k f fd ps (spF c.T nb np g)) (hr : Room k X.A) (hg : Gl X x) (hm : X.mg x = some (.ref f))
    (hk : PySem.W.keepIn X.K (.ref f) = true) (hb : Binds X.K fd ps []) (tk : Takes X c.W) (hdb : (x == ("__debug__" : Str)) = false := by decide) :
    PE X (.Call (.Name x p) [] [] pos) (tE c (fCallN g nb np fNil)) := ⟨fun pins s σ H Q I h => by
  have h2 := callF_le h
  refine wpAny_Call_Name_kw (ld_glob I hg hm ?_ hdb)
  refine PySem.W.callWith_K0 I.kIn hk (run_fnS (us := []) (vs := []) F hr hb (passAt tk σ) I .nil ?_)
  obtain ⟨F1, Rs, ρ, s1, o, f⟩ := h2
  exact f H F1 o (Le.refl F1) [] rfl⟩
/-! ### o.m(..) -/
def tMethS (C : Addr) (m : Str) (sp : Sp) (E : L2.St → XK) (ta : TE) (t : TA) : TE := fun σ H Q => ta σ H fun x H1 => ∃ a dx fs, x = .ref a ∧ H1 a = some (.ins C dx fs) ∧ fs.lookup m = none ∧ t σ H1 fun vs H2 => sp (x :: vs) H2 Q (E σ)
theorem pe_methX {CX : CXT} {o e : Expr} {es : List Expr} {ta : TE} {t : TA} {C f : Addr} {fd : FuncData} {ps : List Str} {k : Nat} {m : Str} {sp : Sp} {E : L2.St → XK} {apos pos : Pos} {pl : Sem Bool} (he : PE X o ta) (c : Cls X.K C) (hm : Meth X.K C m f) (F : FnOk X.prog X.w X.K X.mg X.base CX k f fd ps sp) (hr : Room k X.A) (hb : Binds X.K fd ps []) (hx : ∀ σ, PassesAt CX X σ (E σ)) (ha : PA X (e :: es) t)
    (hst : starEach (e :: es) X.env = (false, eval e X.env) :: starEach es X.env := by rfl) (hpl : (backTo pos (starEach es X.env)).any (·.1) = false := by rfl)
    (ht : eval (.Call (.Attribute o m apos) (e :: es) [] pos) X.env = (do
      let ov ← eval o X.env
      standAt apos.atName
      let (f, first) ← holding [ov] (getMethod ov m pl)
      callWith pos f first (backTo pos (starEach (e :: es) X.env)) (backToKw pos (keywordEach [] X.env))) := by rfl) :
    PE X (.Call (.Attribute o m apos) (e :: es) [] pos) (tMethS C m sp E ta t) := by
  refine ⟨fun pins s σ H Q I h => ?_⟩
  refine PySem.W.methodCall_KW (pl := pl) (thn (he.run pins s σ H _ I h) fun u s1 ⟨x, H1, I1, rx, a, dx, fs, ex, ea, l, q⟩ => ?_) ht
  subst ex
  obtain rfl : u = Value.ref a := rx
  refine getmeth_ok I1 ea c hm l ?_
  refine PySem.W.callWith_K (first := [.ref a]) (h₀ := X.base) I.ok.mod.kin hm.kp (thn (ha.run pos pins s1 σ H1 _ I1 q) fun us s2 ⟨vs, H2, I2, r, q2⟩ => ⟨I2.kIn, ?_⟩) hst hpl
  exact run_fnS (us := .ref a :: us) (vs := .ref a :: vs) F hr hb (hx σ) I2 (.cons rfl r) q2
theorem pe_methX0 {CX : CXT} {o : Expr} {ta : TE} {C f : Addr} {fd : FuncData} {ps : List Str} {k : Nat} {m : Str} {sp : Sp} {E : L2.St → XK} {apos pos : Pos} {pl : Sem Bool} (he : PE X o ta) (c : Cls X.K C) (hm : Meth X.K C m f) (F : FnOk X.prog X.w X.K X.mg X.base CX k f fd ps sp) (hr : Room k X.A) (hb : Binds X.K fd ps []) (hx : ∀ σ, PassesAt CX X σ (E σ))
    (ht : eval (.Call (.Attribute o m apos) [] [] pos) X.env = (do
      let ov ← eval o X.env
      standAt apos.atName
      let (f, first) ← holding [ov] (getMethod ov m pl)
      callWith pos f first (backTo pos (starEach [] X.env)) (backToKw pos (keywordEach [] X.env))) := by rfl) :
    PE X (.Call (.Attribute o m apos) [] [] pos) (tMethS C m sp E ta tNil) := by
  refine ⟨fun pins s σ H Q I h => ?_⟩
  refine PySem.W.methodCall_KW (pl := pl) (thn (he.run pins s σ H _ I h) fun u s1 ⟨x, H1, I1, rx, a, dx, fs, ex, ea, l, q⟩ => ?_) ht
  subst ex
  obtain rfl : u = Value.ref a := rx
  refine getmeth_ok I1 ea c hm l ?_
  exact PySem.W.callWith_K0 (first := [.ref a]) I1.kIn hm.kp (run_fnS (us := [.ref a]) (vs := [.ref a]) F hr hb (hx σ) I1 (.cons rfl .nil) q)
/-- the receiver is an object of that class -/
def isO (cl : Nat) (r : R) : M Unit := fun s => match r with
  | .fz (.obj k _) => if k = cl then .ok () s else .stuck
  | .own j => (match s.o[j]? with
    | some (some (.oo k _)) => if k = cl then .ok () s else .stuck
    | _ => .stuck)
  | _ => .stuck
theorem isO_pure (cl : Nat) (r : R) : ∀ s, (∃ b, isO cl r s = .ok b s) ∨ isO cl r s = .stuck := fun s => by
  unfold isO
  split
  · split
    · exact .inl ⟨(), rfl⟩
    · exact .inr rfl
  · split
    · split
      · exact .inl ⟨(), rfl⟩
      · exact .inr rfl
    · exact .inr rfl
  · exact .inr rfl
theorem isO_ok {F Rs H : Hp} {ρ : List Addr} {s : S} {T : Tab} {r : R} {v : V} {u : Unit} {cl : Nat} (o : Ok T F Rs ρ s σ H) (p : RepR T F Rs ρ s H r v) (e : isO cl r s = .ok u s) :
    ∃ a dx xs, v = .ref a ∧ H a = some (.ins (T.ca cl) dx ((T.fn cl).zip xs)) := by
  unfold isO at e
  split at e
  · split at e
    · rename_i h
      subst h
      obtain ⟨a, dx, xs, rfl, h, _⟩ := p
      exact ⟨a, dx, xs, rfl, o.fh _ _ h⟩
    · cases e
  · split at e
    · rename_i e0
      split at e
      · rename_i h
        subst h
        obtain ⟨a, h1, rfl⟩ := p
        obtain ⟨b, h2, _, _, dx, xs, h3, _⟩ := o.ob _ _ e0
        rw [h1] at h2
        cases h2
        exact ⟨a, dx, xs, rfl, h3⟩
      · cases e
    · cases e
  · cases e
def fMeth (cl : Nat) (g : FnS) (nb np : Nat) (mo : M R) (ma : M (List R)) : M R := bnd mo fun r => bnd (isO cl r) fun _ => bnd ma fun rs => if (r :: rs).length = np then callS g nb (r :: rs) else stk
theorem zip_no {m : Str} : ∀ {ns : List Str} {xs : List V}, m ∉ ns → (ns.zip xs).lookup m = none
  | [], _, _ => rfl
  | n :: ns, [], _ => rfl
  | n :: ns, x :: xs, h => by
    simp only [List.mem_cons, not_or] at h
    show List.lookup m ((n, x) :: ns.zip xs) = none
    rw [List.lookup_cons, beq_eq_false_iff_ne.mpr h.1]
    exact zip_no h.2
theorem meth_le {cl : Nat} {m : Str} {g : FnS} {nb np : Nat} {mo : M R} {ma : M (List R)} {Q : VK} (hno : m ∉ c.T.fn cl) (h : tE c (fMeth cl g nb np mo ma) σ H Q) : tMethS (c.T.ca cl) m (spF c.T nb np g) (WE c.W) (tE c mo) (tA c ma) σ H Q := by
  refine tE_mono (tE_sus.mp h).bE fun v H1 ⟨r, h1⟩ => ?_
  obtain ⟨u, ⟨F, Rs, ρ, s, e, o, p⟩, h2⟩ := Sus.chk h1 (isO_pure cl r)
  obtain ⟨a, dx, xs, rfl, ha⟩ := isO_ok o (RepRs.head p) e
  exact ⟨a, dx, _, rfl, ha, zip_no hno, tA_mono h2.bA fun vs H2 ⟨rs, h3⟩ => callN_le (rs := r :: rs) (vs := .ref a :: vs) h3⟩
theorem se_meth {cl : Nat} {o e : Expr} {es : List Expr} {f : Addr} {fd : FuncData} {ps : List Str} {k nb np : Nat} {m : Str} {g : FnS} {mo : M R} {ma : M (List R)} {apos pos : Pos} {pl : Sem Bool} (he : PE X o (tE c mo)) (hc : Cls X.K (c.T.ca cl)) (hm : Meth X.K (c.T.ca cl) m f) (hno : m ∉ c.T.fn cl)
    (F : FnOk X.prog X.w X.K X.mg X.base (L2.CX X.prog X.w) k f fd ps (spF c.T nb np g)) (hr : Room k X.A) (hb : Binds X.K fd ps []) (tk : Takes X c.W) (ha : PA X (e :: es) (tA c ma))
    (hst : starEach (e :: es) X.env = (false, eval e X.env) :: starEach es X.env := by rfl) (hpl : (backTo pos (starEach es X.env)).any (·.1) = false := by rfl)
    (ht : eval (.Call (.Attribute o m apos) (e :: es) [] pos) X.env = (do
      let ov ← eval o X.env
      standAt apos.atName
      let (f, first) ← holding [ov] (getMethod ov m pl)
      callWith pos f first (backTo pos (starEach (e :: es) X.env)) (backToKw pos (keywordEach [] X.env))) := by rfl) :
    PE X (.Call (.Attribute o m apos) (e :: es) [] pos) (tE c (fMeth cl g nb np mo ma)) := PEof (pe_methX he hc hm F hr hb (fun σ => passAt tk σ) ha hst hpl ht) fun _ _ _ z => meth_le hno z
theorem se_meth0 {cl : Nat} {o : Expr} {f : Addr} {fd : FuncData} {ps : List Str} {k nb np : Nat} {m : Str} {g : FnS} {mo : M R} {apos pos : Pos} {pl : Sem Bool} (he : PE X o (tE c mo)) (hc : Cls X.K (c.T.ca cl)) (hm : Meth X.K (c.T.ca cl) m f) (hno : m ∉ c.T.fn cl)
    (F : FnOk X.prog X.w X.K X.mg X.base (L2.CX X.prog X.w) k f fd ps (spF c.T nb np g)) (hr : Room k X.A) (hb : Binds X.K fd ps []) (tk : Takes X c.W)
    (ht : eval (.Call (.Attribute o m apos) [] [] pos) X.env = (do
      let ov ← eval o X.env
      standAt apos.atName
      let (f, first) ← holding [ov] (getMethod ov m pl)
      callWith pos f first (backTo pos (starEach [] X.env)) (backToKw pos (keywordEach [] X.env))) := by rfl) :
    PE X (.Call (.Attribute o m apos) [] [] pos) (tE c (fMeth cl g nb np mo fNil)) := PEof (pe_methX0 he hc hm F hr hb (fun σ => passAt tk σ) ht) fun σ H Q z => by
  have h := meth_le (m := m) hno z
  refine tE_mono h fun v H1 ⟨a, dx, fs, e1, e2, e3, F1, Rs, ρ, s1, o, f⟩ => ⟨a, dx, fs, e1, e2, e3, ?_⟩
  exact f H1 F1 o (Le.refl F1) [] rfl
end

/-! ### a def keeps its promise -/
/-- the plain run of a body: n slots, nb objects handed in at most, m of its own -/
def runF (n nb m : Nat) (body : M Fl) : FnS := fun ws o => leave nb (body ⟨ws.map some ++ List.replicate (n - ws.length) none, o ++ List.replicate m none⟩)
theorem body_le {T : Tab} {n nb np m : Nat} {N : List Str} {body : M Fl} {E : XK} {Q : VK} {vs : List V} {H : Hp} (hN : N.length = n) (h : spF T nb np (runF n nb m body) vs H Q E) :
    tS ⟨T, fun cls d _ H => E cls d H, nb⟩ body { nx := fun _ H' => Q .non H', rt := Q } (start N vs) H := by
  obtain ⟨hnp, F, Rs, ρ, ws, o, hl, ok, f⟩ := h
  have hlen : ws.length = vs.length := by simpa using ok.ln
  have hr : ρ.length = nb := ok.lr.trans hl
  have g1 : ∀ k, k < nb → (ρ ++ List.replicate m 0)[k]? = ρ[k]? := fun k hk => List.getElem?_append_left (by omega)
  have lt : ∀ (k : Nat) (x : Node), (o ++ List.replicate m none)[k]? = some (some x) → k < nb ∧ o[k]? = some (some x) := fun k x e => by
    by_cases hk : k < o.length
    · rw [List.getElem?_append_left hk] at e
      exact ⟨by omega, e⟩
    · rw [List.getElem?_append_right (by omega)] at e
      have := List.mem_of_getElem? e
      rw [List.mem_replicate] at this
      cases this.2
  have upW : ∀ {w : W} {v : V}, RepW T F ρ w v → RepW T F (ρ ++ List.replicate m 0) w v := fun {w v} r => by
    cases w with
    | fz d => exact r
    | own j =>
      obtain ⟨a, h1, h2⟩ := r
      exact ⟨a, by rw [List.getElem?_append_left (List.getElem?_eq_some_iff.mp h1).1]; exact h1, h2⟩
  have upWs : ∀ {ws : List W} {xs : List V}, RepWs T F ρ ws xs → RepWs T F (ρ ++ List.replicate m 0) ws xs := fun {ws} => by
    induction ws with
    | nil => exact fun r => r
    | cons w ws ih =>
      intro xs r
      obtain ⟨v, us, rfl, p, q⟩ := r
      exact ⟨v, us, rfl, upW p, ih q⟩
  have upN : ∀ {x : Node} {a : Addr}, NodeOk T F ρ H a x → NodeOk T F (ρ ++ List.replicate m 0) H a x := fun {x a} r => by
    cases x with
    | fl _ => exact r
    | fd _ => exact r
    | oo cl ws =>
      obtain ⟨dx, xs, p, q⟩ := r
      exact ⟨dx, xs, p, upWs q⟩
  have ok0 : Ok T F Rs (ρ ++ List.replicate m 0) ⟨ws.map some ++ List.replicate (n - ws.length) none, o ++ List.replicate m none⟩ (start N vs) H := by
    refine ⟨ok.fh, ok.rh, ok.fr, fun k x e => ?_, fun k k' x x' a e1 e2 e3 e4 => ?_, fun i w e => ?_, ?_, ?_⟩
    · obtain ⟨hk, e0⟩ := lt k x e
      obtain ⟨a, h1, h2, h3, h4⟩ := ok.ob k x e0
      exact ⟨a, by rw [g1 k hk]; exact h1, h2, h3, upN h4⟩
    · obtain ⟨hk, f1⟩ := lt k x e1
      obtain ⟨hk', f2⟩ := lt k' x' e2
      exact ok.dj k k' x x' a f1 f2 (by rw [← g1 k hk]; exact e3) (by rw [← g1 k' hk']; exact e4)
    · have e : (ws.map some ++ List.replicate (n - ws.length) none)[i]? = some (some w) := e
      by_cases hi : i < (ws.map some).length
      · rw [List.getElem?_append_left hi] at e
        obtain ⟨v, h1, h2⟩ := ok.sl i w e
        refine ⟨v, ?_, upW h2⟩
        show (vs.map some ++ _)[i]? = _
        rw [List.getElem?_append_left (by rw [List.length_map] at hi ⊢; omega)]
        exact h1
      · rw [List.getElem?_append_right (by omega)] at e
        have := List.mem_of_getElem? e
        rw [List.mem_replicate] at this
        cases this.2
    · show (ws.map some ++ List.replicate (n - ws.length) none).length = (vs.map some ++ List.replicate (N.length - vs.length) none).length
      rw [List.length_append, List.length_append, List.length_map, List.length_map, List.length_replicate, List.length_replicate, hlen, hN]
    · show (ρ ++ List.replicate m 0).length = (o ++ List.replicate m none).length
      rw [List.length_append, List.length_append, List.length_replicate, List.length_replicate, ok.lr]
  refine ⟨F, Rs, _, _, ok0, ?_⟩
  have f : FinF T F Rs ρ Q E (leave nb (body ⟨ws.map some ++ List.replicate (n - ws.length) none, o ++ List.replicate m none⟩)) := f
  have pre : ∀ {ρ' : List Addr}, Pre nb (ρ ++ List.replicate m 0) ρ' → ∀ k, k < nb → ρ'[k]? = ρ[k]? := fun {ρ'} p k hk => (p.2 k hk).trans (g1 k hk)
  have big : ∀ {ρ' : List Addr} {s' : S} {σ' : L2.St} {H' F' : Hp}, Ok T F' Rs ρ' s' σ' H' → Pre nb (ρ ++ List.replicate m 0) ρ' → nb ≤ s'.o.length := fun {ρ' s' σ' H' F'} o p => by
    rw [← o.lr, p.1, List.length_append, hr]
    omega
  revert f
  generalize body ⟨ws.map some ++ List.replicate (n - ws.length) none, o ++ List.replicate m none⟩ = out
  -- a result that is no object of ours
  have fin : ∀ {r : R} {s' : S} {σ' : L2.St} {H' F' : Hp} {ρ' : List Addr} {v : V}, FinF T F Rs ρ Q E (outR nb r s') → Ok T F' Rs ρ' s' σ' H' → Le F F' → Pre nb (ρ ++ List.replicate m 0) ρ' → RepR T F' Rs ρ' s' H' r v → Q v H' := fun {r s' σ' H' F' ρ' v} h o l p hv => by
    cases r with
    | own k => exact h.elim
    | fz d =>
      have h : FinF T F Rs ρ Q E (match cutO nb s' with
        | some o => .ret (.fz d) o
        | none => .stuck) := h
      cases e : cutO nb s' with
      | none => rw [e] at h; exact h.elim
      | some o' =>
        rw [e] at h
        obtain ⟨F2, l2, o2⟩ := cut_ok o hr (pre p) (big o p) e
        exact h v H' F2 o2 (l.trans l2) (Rep.mono l2 d v hv)
    | nw x =>
      have h : FinF T F Rs ρ Q E (if fzN x = true then (match cutO nb s' with
        | some o => .ret (.nw x) o
        | none => .stuck) else .stuck) := h
      split at h
      · rename_i hx
        cases e : cutO nb s' with
        | none => rw [e] at h; exact h.elim
        | some o' =>
          rw [e] at h
          have oa := o.add hv
          obtain ⟨F2, l2, o2⟩ := cut_ok oa hr (pre p) (big o p) e
          obtain ⟨a, rfl, f1, f2, f3, f4⟩ := hv
          have na := f4.there
          have ra : (addR Rs H' (.nw x) (.ref a)) a = H' a := if_pos rfl
          have fa : F2 a = none := by
            cases q : F2 a with
            | none => rfl
            | some u =>
              have z := o2.fr a (by rw [q]; exact fun z => nomatch z)
              rw [ra] at z
              exact absurd z na
          have o3 : Ok T F2 Rs ρ ⟨[], o'⟩ [] H' := by
            refine ⟨o2.fh, o.rh, fun b hb => ?_, fun k y ek => ?_, o2.dj, o2.sl, o2.ln, o2.lr⟩
            · have z := o2.fr b hb
              have z : (if b = a then H' a else Rs b) = none := z
              by_cases q : b = a
              · rw [q]; exact f2
              · rw [if_neg q] at z; exact z
            · obtain ⟨b, e1, e2, e3, e4⟩ := o2.ob k y ek
              have e3 : (if b = a then H' a else Rs b) = none := e3
              refine ⟨b, e1, e2, ?_, e4⟩
              by_cases q : b = a
              · rw [q]; exact f2
              · rw [if_neg q] at e3; exact e3
          refine h (.ref a) H' F2 o3 (l.trans l2) ⟨a, rfl, fa, f2, fun k y ek e1 => ?_, rl_N (n := 0) (fun j hj => absurd hj (Nat.not_lt_zero j)) hx (f4.mono l2 rfl)⟩
          obtain ⟨b, e2, _, e3, _⟩ := o2.ob k y ek
          rw [e1] at e2
          cases e2
          rw [ra] at e3
          exact na e3
      · exact h.elim
  match out with
  | .stuck => exact fun f => f
  | .ok .brk s' => exact fun f => f.elim
  | .ok .cnt s' => exact fun f => f.elim
  | .ok .nx s' => exact fun f σ' H' F' ρ' o l p => fin (r := .fz .non) f o l p rfl
  | .ok (.rt r) s' => exact fun f σ' H' F' ρ' v o l p hv => fin f o l p hv
  | .err k fs s' =>
    intro f cls d σ' H' F' ρ' o l p x
    have f : FinF T F Rs ρ Q E (match cutO nb s' with
      | some o => .err k fs o
      | none => .stuck) := f
    cases e : cutO nb s' with
    | none => rw [e] at f; exact f.elim
    | some o' =>
      rw [e] at f
      obtain ⟨F2, l2, o2⟩ := cut_ok o hr (pre p) (big o p) e
      refine f cls d H' F2 o2 (l.trans l2) ⟨x.1, ?_⟩
      rcases x.2 with z | ⟨y, v, dd, e1, e2, e3, e4⟩
      · exact .inl z
      · exact .inr ⟨y, v, dd, e1, e2, l2 _ _ e3, Rep.mono l2 y v e4⟩
section
variable {P : Program} {w : World} {K : PySem.W.Frag} {mg : Str → Option Value} {base : Heap}
theorem fn_ok {T : Tab} {x qual : Str} {st : Stmt} {f : Addr} {fd : FuncData} {N ps : List Str} {k n nb np m : Nat} {body : M Fl} (F : Fun K x qual st f fd) (Sc : FnScope N ps (defScope st)) (hp : ps.length = np) (hn : N.length = n)
    (hbody : ∀ (cdv : Value) (A : Around) (outer : List Env) (s : Shared) (H : Hp) (E : XK), Room k (A.deeper (envOfC qual (defScope st) s.heap.objs.size f cdv)) →
      PSs (cxOf (L2.CX P w) P w K mg base N qual (defScope st) f cdv A outer s H E) (defBody st) (tS ⟨T, fun cls d _ H => E cls d H, nb⟩ body)) : FnOk P w K mg base (L2.CX P w) (k + 1) f fd ps (spF T nb np (runF n nb m body)) := by
  refine F.okX Sc (fun vs H Q E h => ?_) fun cdv A outer s H vs Q E hr h => ⟨_, hbody cdv A outer s H E hr, body_le hn h⟩
  rw [hp]
  exact h.1
end
end Sx

set_option Elab.async false
set_option linter.all false
set_option maxRecDepth 100000
set_option maxHeartbeats 1000000
/-! Sx, part L: exceptions. -/
namespace PySem
namespace SxE
open PySem.W PySem.Calls PyProof.Rows PySem.HandSPX
/-! ### an own class over ValueError's line whose __init__ stores its one argument in the field of that name -/
def iA (fld : Str) (p1 p2 : Pos) : Arguments := { posonlyargs := [], args := [{ arg := "self", annotation := none, pos := p1 }, { arg := fld, annotation := none, pos := p2 }], vararg := none, kwonlyargs := [], kw_defaults := [], kwarg := none, defaults := [] }
def iB (fld : Str) (q1 q2 q3 q4 : Pos) : List Stmt := [.Assign [.Attribute (.Name "self" q1) fld q2] (.Name fld q3) q4]
def iS (fld : Str) : Scope := { kind := .function, names := [(PySem.Str.ofString "self", .local), (fld, .local)], isGenerator := false, isCoroutine := false, more := [] }
/-- what holds of the two field names (by rfl, for a written name) -/
structure FldOk (fld : Str) : Prop where
  bind : ∀ (qual : Str) (p1 p2 q1 q2 q3 q4 : Pos) (doc pm : Value) (an : Option Addr) (cdv ct x v : Value), bindArgs (fnOf "__init__" qual (iA fld p1 p2) (iB fld q1 q2 q3 q4) (iS fld) .none .none doc pm an cdv ct) ⟨[x, v], []⟩ = pure [((PySem.Str.ofString "self"), x), (fld, v)]
  all : ∀ x v : Value, ([(("self" : Str), x), (fld, v)].all fun y => (iS fld).names.lookup y.1 == some .local || (iS fld).names.lookup y.1 == some .cell) = true
  kf : ∀ (q : Str) (L a : Addr) (cd : Value), (envOfC q (iS fld) L a cd).kindOf fld = some .local
  ks : ∀ (q : Str) (L a : Addr) (cd : Value), (envOfC q (iS fld) L a cd).kindOf "self" = some .local
  mf : ∀ (q : Str) (L a : Addr) (cd x v : Value), bindL (envOfC q (iS fld) L a cd).kindOf [(Str.ofString "self", x), (fld, v)] (fun _ => none) fld = some v
  ms : ∀ (q : Str) (L a : Addr) (cd x v : Value), bindL (envOfC q (iS fld) L a cd).kindOf [(Str.ofString "self", x), (fld, v)] (fun _ => none) "self" = some x
  db : (fld == ("__debug__" : Str)) = false
/-- what is known of an own exception class at C (its line of classes ends in ValueError's) -/
structure ECls (K : Frag) (C : Addr) : Prop where
  ga : findIn K (.ref C) "__getattribute__" = some (some (.builtin "BaseException.__getattribute__"))
  gg : findIn K (.ref C) "__getattr__" = some none
  exC : subIn K (.ref C) (.type "BaseException") = some true
  tyC : typeIn K (.ref C) = some (.type "type")
  hdC : hasDictIn K C = true
  icl : (clsIn K C).isSome = true
  cl : findIn K (.ref C) "__class__" = some (some (.builtin "object.__class__"))
  mo : mroIn K C (.type "object") = some true
structure ETxt (K : Frag) (fld qual : Str) (C fI : Addr) : Prop where
  e : ECls K C
  cls : ∃ nm q N bs bm sn sub ab col dd k0 k1 k2 k3 k5, K.lookup C = some (excClassObj nm q C N bs bm true sn sub ab col dd k0 k1 k2 k3 k5 "ValueError.__new__") ∧ refsVE bm = true
  sa : findIn K (.ref C) "__setattr__" = some (some (.builtin "object.__setattr__"))
  noN : findIn K (.ref C) fld = some none
  iC : findIn K (.ref C) "__init__" = some (some (.ref fI))
  tC : typeIn K (.ref fI) = some (.type "function")
  kC : keepIn K (.ref C) = true
  fo : FldOk fld
  fn : ∃ (oc : Value) (od : Option Addr) (doc pm : Value) (an : Option Addr) (cdv ct : Value) (osl : Array (Option Value)) (p1 p2 q1 q2 q3 q4 : Pos),
    K.lookup fI = some ⟨oc, od, .func (fnOf "__init__" qual (iA fld p1 p2) (iB fld q1 q2 q3 q4) (iS fld) .none .none doc pm an cdv ct), osl⟩ ∧ codeIn K cdv qual = true
theorem one_size (v : Value) : [v].length ≤ sizeLine := by
  rw [sizeLine_eq]
  exact (by decide : 1 ≤ 16777216)
theorem ldC {M : Model} {s : Shared} {name : Str} {scope : Scope} {L a : Addr} {cd : Value} {m : Str → Option Value} {x : Str} {pos : Pos} {v : Value} {Q : Value → Shared → Prop} {A : Around} {E : Value → Shared → Prop} (hn : s.heap.Ns L m) (hv : m x = some v) (h : Q v s)
    (hk : scope.kind = .function) (hl : (envOfC name scope L a cd).kindOf x = some .local) (hd : (x == ("__debug__" : Str)) = false) :
    wpAny M A (eval (.Name x pos) (envOfC name scope L a cd)) Q E s := wpAny_Name (wpAny_loadName_local hk hl hn hv h) hd
/-- what __init__ leaves of a fresh exception at x -/
structure InitEnd (fld : Str) (h h' : Heap) (x C dx t1 : Addr) (v : Value) : Prop where
  keep : ∀ b o, b ≠ x → h.get? b = some o → h'.get? b = some o
  obj : h'.get? x = some { cls := .ref C, dict := some dx, data := .fields #[.ref t1, .none, .none, .none, .bool false, .none] }
  dbig : h.objs.size ≤ dx
  dne : dx ≠ x
  ns : h'.Ns1 dx (fun y => if y = fld then some v else none)
structure OwnMade (fld : Str) (h h' : Heap) (e C d : Addr) (v : Value) : Prop where
  keep : ∀ b o, h.get? b = some o → h'.get? b = some o
  new : h.objs.size ≤ e
  obj : ∃ oe vs, h'.get? e = some oe ∧ oe.cls = .ref C ∧ oe.dict = some d ∧ oe.data = .fields vs ∧ vs[1]? = some .none
  dbig : h.objs.size ≤ d
  dne : d ≠ e
  ns : h'.Ns1 d (fun y => if y = fld then some v else none)
section
variable {prog : Program} {w : World} {A : Around} {E : Value → Shared → Prop} {R : Result → Shared → Prop} {s : Shared} {K : Frag} {C fI : Addr} {fld qual : Str}
theorem low_init (T : ETxt K fld qual C fI) {x t0 : Addr} {v : Value} (X : K.In s.heap) (hlim : s.heap.NoLimit) (hx : s.heap.get? x = some (excO C t0)) (hnx : K.lookup x = none) (hroom : A.depth < recursionLimit)
    (hq : ∀ h' tk dx, InitEnd fld s.heap h' x C dx t0 v → R (.ok (.ret .none)) { s with heap := h', toks := tk }) :
    codeAny (model prog w) A (.call (.ref fI) ⟨[.ref x, v], []⟩) R s := by
  obtain ⟨oc, od, doc, pm, an, cdv, ct, osl, p1, p2, q1, q2, q3, q4, ho, hcd⟩ := T.fn
  obtain ⟨nm, q, N, bs, bm, sn, sub, ab, col, dd, k0, k1, k2, k3, k5, hC, hbm⟩ := T.cls
  have hcl : clsIn K C = some { name := nm, bases := bs, mro := .ref C :: bm, ns := N, qualname := q, hasDict := true, slotNames := sn, subclasses := sub, abstract := ab, collection := col, hasDel := false } := by unfold clsIn; rw [hC] <;> rfl
  refine Att.call_fn (binds := [("self", .ref x), (fld, v)]) X hlim ho hcd hroom (BindsTo.of_eq (T.fo.bind ..)) (T.fo.all ..) (fun s₁ IC => ?_) rfl rfl rfl
  obtain ⟨h₁, tk₁, rfl⟩ := IC.toInCall.same
  have k : ∀ b o, s.heap.get? b = some o → h₁.get? b = some o := IC.toInCall.keep
  have hn := IC.toInCall.ns
  have hxL : s.heap.objs.size ≠ x := Nat.ne_of_gt (Heap.lt_size hx)
  have X₁ : K.In h₁ := X.keeps k
  have hx₁ := k _ _ hx
  show wpAny _ _ (execs _ _) _ _ _
  refine wpAny_execs_cons (plainObj_wpAny_Assign_Attribute ?_)
  refine ldC (v := v) hn (T.fo.mf ..) (ldC (v := .ref x) hn (T.fo.ms ..) ?_ rfl (T.fo.ks ..) (by decide)) rfl (T.fo.kf ..) T.fo.db
  refine set_plain X₁ (ox := excO C t0) (od := none) ⟨hx₁, rfl, rfl, trivial⟩ T.sa ?_
  refine exc_osa X₁ hx₁ hcl (show refsVE (.ref C :: bm) = true from hbm) rfl T.noN (fun h₃ tk₃ dx k₃ dn dne hx₃ hn₃ => ?_)
  show wpAny _ _ (execs _ _) _ _ _
  have z : s.heap.objs.size < h₁.objs.size := hn.lt
  exact wpAny_execs_nil (hq h₃ tk₃ dx ⟨fun b o hb e => k₃ b o hb (k b o e), hx₃, Nat.le_of_lt (Nat.lt_of_lt_of_le z dn), dne, hn₃⟩)
theorem low_made (T : ETxt K fld qual C fI) {v : Value} (X : K.In s.heap) (hlim : s.heap.NoLimit) (hroom : A.depth + 1 < recursionLimit)
    (hq : ∀ h' tk e d, OwnMade fld s.heap h' e C d v → R (.ok (.ret (.ref e))) { s with heap := h', toks := tk }) :
    codeAny (model prog w) A (.call (.ref C) ⟨[v], []⟩) R s := by
  obtain ⟨nm, q, N, bs, bm, sn, sub, ab, col, dd, k0, k1, k2, k3, k5, hC, hbm⟩ := T.cls
  obtain ⟨hp, g, dr, tk, os⟩ := s
  have k : ∀ b o, hp.get? b = some o → ((hp.push (kdv_tup [v])).push (excO C hp.objs.size)).get? b = some o := fun b o e => Heap.get?_push_of_some _ (Heap.get?_push_of_some _ e)
  have hget : ((hp.push (kdv_tup [v])).push (excO C hp.objs.size)).get? (hp.objs.size + 1) = some (excO C hp.objs.size) := by heap_get
  have hnx : K.lookup (hp.objs.size + 1) = none := by
    cases e : K.lookup (hp.objs.size + 1) with
    | none => rfl
    | some o =>
      have z : hp.get? (hp.objs.size + 1) = some o := X _ _ e
      exact absurd (Nat.lt_of_succ_lt (Heap.lt_size z)) (Nat.lt_irrefl _)
  refine call_own F.excBase_ValueError (fun X => refsVE_contains X bm hbm) (X _ _ hC) (looks_findIn X T.iC) (fun self => bind_fn X self T.tC) (one_size v) ?_
  refine low_init (s := ⟨(hp.push (kdv_tup [v])).push (excO C hp.objs.size), g, dr, tk, os⟩) T (X.keeps k) (hlim.keeps k) hget hnx ?_ fun h' tk' dx ⟨k', hx, dn, dne, hns⟩ => ?_
  · show A.depth + 1 < recursionLimit
    exact hroom
  · have old : ∀ b o, hp.get? b = some o → h'.get? b = some o := fun b o e => k' b o (Nat.ne_of_lt (Nat.lt_succ_of_lt (Heap.lt_size e))) (k b o e)
    have z : hp.objs.size + 1 + 1 ≤ dx := by
      first
        | (simpa only [Heap.size_push] using dn)
        | exact dn
        | (have q := dn; rw [Heap.size_push, Heap.size_push] at q; exact q)
    exact ⟨rfl, hq h' tk' (hp.objs.size + 1) dx ⟨old, Nat.le_succ _, ⟨_, _, hx, rfl, rfl, rfl, rfl⟩, Nat.le_trans (Nat.le_trans (Nat.le_succ _) (Nat.le_succ _)) z, dne, hns⟩⟩
end
theorem fld_spot : FldOk "spot" := ⟨by intros; first | rfl | with_unfolding_all rfl, by intros; first | rfl | decide | with_unfolding_all rfl, by intros; rfl, by intros; rfl, by intros; first | rfl | with_unfolding_all rfl | kernel_rfl, by intros; first | rfl | with_unfolding_all rfl | kernel_rfl, by decide⟩
theorem fld_word : FldOk "word" := ⟨by intros; first | rfl | with_unfolding_all rfl, by intros; first | rfl | decide | with_unfolding_all rfl, by intros; rfl, by intros; rfl, by intros; first | rfl | with_unfolding_all rfl | kernel_rfl, by intros; first | rfl | with_unfolding_all rfl | kernel_rfl, by decide⟩
end SxE
end PySem

namespace Sx
open PySem L2 PySem.Spec PyProof.Rows PySem.SxE
theorem relO_one {fld : Str} {v : V} {v' : Value} (r : RelV v v') (f : Str) : RelO (List.lookup f [(fld, v)]) (if f = fld then some v' else none) := by
  by_cases hw : f = fld
  · subst hw
    rw [if_pos rfl]
    have q : List.lookup f [(f, v)] = some v := by simp [List.lookup]
    rw [q]
    exact r
  · rw [if_neg hw]
    have qw : (f == fld) = false := by simpa using hw
    have q2 : List.lookup f [(fld, v)] = none := by simp [List.lookup, qw]
    rw [q2]
    trivial
section
variable {X : Cx} {c : Cc} {C fI : Addr} {fld qual : Str}
/-- C(e), to be raised -/
def tMkE (C : Addr) (fld : Str) (ta : TA) : L2.St → Hp → XK → Prop := fun σ H Q => ta σ H fun vs H1 => ∃ v, vs = [v] ∧ ∀ d, H1 d = none → Q (.ref C) (some d) (upd H1 d (.xd [(fld, v)]))
theorem pmk_E {x : Str} {a : Expr} {ta : TA} {p pos : Pos} {k : Nat} (T : ETxt X.K fld qual C fI) (gC : X.mg x = some (.ref C)) (hr : Room k X.A) (ha : PA X [a] ta) (hg : Gl X x)
    (hdb : (x == ("__debug__" : Str)) = false := by decide) (he : starEach (a :: []) X.env = (false, eval a X.env) :: starEach [] X.env := by rfl) (hpl : (backTo pos (starEach [] X.env)).any (·.1) = false := by rfl) :
    PMk X (.Call (.Name x p) [a] [] pos) (tMkE C fld ta) := by
  intro pins s σ H Q I h
  refine wpAny_Call_Name_kw (ld_glob I hg gC ?_ hdb)
  refine PySem.W.callWith_K (h₀ := X.base) I.ok.mod.kin T.kC (thn (ha.run pos pins s σ H _ I h) fun us s1 hh => ?_) he hpl
  obtain ⟨vs, H1, I1, r1, v, ev, q1⟩ := hh
  subst ev
  refine ⟨I1.kIn, ?_⟩
  cases r1 with
  | cons rv rn =>
    rename_i v' us'
    cases rn
    show wpAny _ _ (call (.ref C) [v']) _ _ _
    have hlim := I1.nolimit
    obtain ⟨hp, g, dr, tk, os⟩ := s1
    refine wpAny_call (low_made T I1.kIn hlim (by have := hr.dp; omega) fun h' tk' e d M => ?_)
    show MkP X pins σ Q (.ref e) ⟨h', g, dr, tk', os⟩
    obtain ⟨oe, fv, hoe, hc, hd, hdat, h1⟩ := M.obj
    have hns := M.ns
    obtain ⟨G', g1, g2⟩ := restrict h' fun b => decide (b ≠ e)
    have gk : ∀ b, b ≠ e → G'.get? b = h'.get? b := fun b hb => g1 b (decide_eq_true hb)
    have ge : G'.get? e = none := g2 e (by simp)
    have old : ∀ b o, hp.get? b = some o → G'.get? b = some o := fun b o q => (gk b (Nat.ne_of_lt (Nat.lt_of_lt_of_le (Heap.lt_size q) M.new))).trans (M.keep b o q)
    have ob : ObjOk X.prog X.w (upd H1 d (.xd [(fld, v)])) G' d (.xd [(fld, v)]) :=
      ⟨_, hns.at (fun o q => (gk d M.dne).trans q), fun f => relO_one rv f⟩
    have J : Inv X pins σ (upd H1 d (.xd [(fld, v)])) ⟨G', g, dr, tk', os⟩ := I1.laid (t' := tk') old M.dbig ob
    refine ⟨e, oe, fv, ⟨G', g, dr, tk', os⟩, _, .ref C, some d, rfl, J, fun b o q => ?_, ge, hoe, ⟨hc, hd⟩, hdat, h1, ?_, rfl, I1.bare, raises_own T.e.exC T.e.tyC, q1 d (I1.hok.fresh M.dbig)⟩
    · by_cases hb : b = e
      · have q' : G'.get? b = some o := q
        rw [hb, ge] at q'; cases q'
      · exact (gk b hb).symm.trans q
    · rw [upd_ne (Ne.symm M.dne)]
      exact I1.hok.fresh M.new
/-- C(e).fld, the exception made and its field read -/
theorem se_mkfld {x : Str} {a : Expr} {m : M R} {p pos apos : Pos} {k : Nat} (T : ETxt X.K fld qual C fI) (gC : X.mg x = some (.ref C)) (hr : Room k X.A) (ha : PE X a (tE c m)) (hg : Gl X x)
    (hb : attributeBase (.Call (.Name x p) [a] [] pos) fld X.env (eval (.Call (.Name x p) [a] [] pos) X.env) = eval (.Call (.Name x p) [a] [] pos) X.env := by rfl)
    (hdb : (x == ("__debug__" : Str)) = false := by decide) (he : starEach (a :: []) X.env = (false, eval a X.env) :: starEach [] X.env := by rfl) (hpl : (backTo pos (starEach [] X.env)).any (·.1) = false := by rfl) :
    PE X (.Attribute (.Call (.Name x p) [a] [] pos) fld apos) (tE c m) := by
  refine ⟨fun pins s σ H Q I h => ?_⟩
  refine attr_of hb ?_
  refine wpAny_Call_Name_kw (ld_glob I hg gC ?_ hdb)
  refine PySem.W.callWith_K (h₀ := X.base) I.ok.mod.kin T.kC (thn ((pa_cons ha pa_nil he).run pos pins s σ H (fun vs H1 => ∃ v, vs = [v] ∧ Q v H1) I (show tCons (tE c m) tNil σ H (fun vs H1 => ∃ v, vs = [v] ∧ Q v H1) from tE_mono h fun v H1 q => ⟨v, rfl, q⟩)) fun us s1 hh => ?_) he hpl
  obtain ⟨vs, H1, I1, r1, v, ev, q1⟩ := hh
  subst ev
  refine ⟨I1.kIn, ?_⟩
  cases r1 with
  | cons rv rn =>
    rename_i v' us'
    cases rn
    show wpAny _ _ (call (.ref C) [v']) _ _ _
    have hlim := I1.nolimit
    obtain ⟨hp, g, dr, tk, os⟩ := s1
    refine wpAny_call (low_made T I1.kIn hlim (by have := hr.dp; omega) fun h' tk' e d M => ?_)
    obtain ⟨oe, fv, hoe, hc, hd, hdat, h1⟩ := M.obj
    have hns := M.ns
    have I2 : Inv X pins σ H1 ⟨h', g, dr, tk', os⟩ := I1.kept (t' := tk') M.keep
    obtain ⟨od, ho, hl⟩ := lookIn_ns hns
    have J : PySem.W.InstAt h' e oe C (some od) := ⟨hoe, hc, by unfold PySem.W.notCls; rw [hdat] <;> rfl, by rw [hd]; exact ho⟩
    exact HandSPX.exc_get I2.kIn J T.e.ga T.e.gg T.e.exC (PySem.W.findObj_own T.e.hdC T.noN rfl (by rw [hl, if_pos rfl])) (handed_of rv) ⟨v, H1, I2.tok _, rv, q1⟩
/-! ### raise -/
def fRaise (cl : Nat) (m : M R) : M Fl := bnd m fun r s => match r with
  | .fz d => .err cl [d] s
  | _ => .stuck
def fRaise0 (cl : Nat) : M Fl := fun s => .err cl [] s
theorem raise_le {cl : Nat} {m : M R} {D : Ends} {σ : L2.St} {H : Hp} (h : tS c (fRaise cl m) D σ H) : tMkE (c.T.ca cl) (c.T.xn cl) (tCons (tE c m) tNil) σ H fun cls d H' => c.W cls d σ H' := by
  refine tE_mono (tS_sus.mp h).bE fun v H1 ⟨r, F, Rs, ρ, s, o, p, h⟩ => ?_
  have p := RepRs.head (show RepRs c.T F ρ s H1 Rs [r] [v] from p)
  refine ⟨v, rfl, fun d hd => ?_⟩
  cases r with
  | own k => exact h.elim
  | nw n => exact h.elim
  | fz x =>
    have lf : Le F (upd F d (.xd [(c.T.xn cl, v)])) := Le.new (o.fh.free hd)
    exact h _ _ σ _ _ ρ (o.newF hd) lf (Pre.refl _ _) ⟨rfl, .inr ⟨x, v, d, rfl, rfl, upd_same, Rep.mono lf x v p⟩⟩
theorem ss_raise {x : Str} {a : Expr} {m : M R} {p pos pos2 : Pos} {k cl : Nat} {fI : Addr} {qual : Str} (hc : X.calm = true) (T : ETxt X.K (c.T.xn cl) qual (c.T.ca cl) fI) (gC : X.mg x = some (.ref (c.T.ca cl))) (hr : Room k X.A) (tk : Takes X c.W) (ha : PE X a (tE c m)) (hg : Gl X x)
    (hdb : (x == ("__debug__" : Str)) = false := by decide) (he : starEach (a :: []) X.env = (false, eval a X.env) :: starEach [] X.env := by rfl) (hpl : (backTo pos (starEach [] X.env)).any (·.1) = false := by rfl) :
    PS X (.Raise (some (.Call (.Name x p) [a] [] pos)) none pos2) (tS c (fRaise cl m)) := PSof (ps_raise hc tk (pmk_E T gC hr (pa_cons ha pa_nil he) hg hdb he hpl)) fun D σ H z => raise_le z
theorem ss_raise0 {x msg : Str} {j : Nat} {p p2 pos pos2 : Pos} {cl : Nat} {bmB : List Value} {B newId initId : String} (hc : X.calm = true) (Fb : ExcBaseFacts B newId initId bmB) (q : PySem.W.excIn X.K (c.T.ca cl) bmB newId = true) (gC : X.mg x = some (.ref (c.T.ca cl))) (kC : PySem.W.keepIn X.K (.ref (c.T.ca cl)) = true)
    (r : Raises X (.ref (c.T.ca cl))) (tk : Takes X c.W) (hg : Gl X x) (hdb : (x == ("__debug__" : Str)) = false := by decide) :
    PS X (.Raise (some (.Call (.Name x p) [.Constant (.str msg) j p2] [] pos)) none pos2) (tS c (fRaise0 cl)) := PSof (ps_raise hc tk (pmk_own Fb q gC kC r hg hdb)) fun D σ H ⟨F, Rs, ρ, s, o, h⟩ => h _ _ σ H F ρ o (Le.refl F) (Pre.refl _ _) ⟨rfl, .inl ⟨rfl, rfl⟩⟩
/-! ### an exception's object as a value: its field -/
def xfD (ks : List Nat) : D → Option R
  | .exc k [x] => if k ∈ ks then some (.fz x) else none
  | _ => none
def tXf (K : PySem.W.Frag) (fld : Str) (te : TE) : TE := fun σ H Q => te σ H fun x H1 => ∃ a C dd v, x = .ref a ∧ ECls K C ∧ PySem.W.findIn K (.ref C) fld = some none ∧ H1 a = some (XO (.ref C) a (some dd)) ∧ H1 dd = some (.xd [(fld, v)]) ∧ Q v H1
theorem pe_xf {e : Expr} {te : TE} {pos : Pos} (he : PE X e te) (hb : attributeBase e fld X.env (eval e X.env) = eval e X.env := by rfl) : PE X (.Attribute e fld pos) (tXf X.K fld te) := by
  refine ⟨fun pins s σ H Q I h => ?_⟩
  refine attr_of hb (thn (he.run pins s σ H _ I h) fun u s1 hh => ?_)
  obtain ⟨x, H1, I1, rx, a, C, dd, v, ex, T, noN, ea, ed, q⟩ := hh
  subst ex
  obtain rfl : u = Value.ref a := rx
  obtain ⟨⟨oe, vs, ha, hz, hd⟩, _⟩ := I1.hok a _ ea
  have hx : ObjOk X.prog X.w H1 s1.heap dd (.xd [(fld, v)]) := I1.hok dd _ ed
  obtain ⟨mA, hns, hr⟩ := hx
  obtain ⟨od, ho, hl⟩ := lookIn_ns hns
  have l : List.lookup fld [(fld, v)] = some v := by simp [List.lookup]
  obtain ⟨u, hu, ru⟩ := RelO.some_of (v := v) (o := mA fld) (by rw [← l]; exact hr fld)
  have J : PySem.W.InstAt s1.heap a oe C (some od) := ⟨ha, hz.1, by unfold PySem.W.notCls; rw [hd] <;> rfl, by rw [hz.2]; exact ho⟩
  exact HandSPX.exc_get I1.kIn J T.ga T.gg T.exC (PySem.W.findObj_own T.hdC noN rfl (by rw [hl, hu])) (handed_of ru) ⟨v, H1, I1.tok _, ru, q⟩
theorem se_xf {e : Expr} {m : M R} {pos : Pos} {ks : List Nat} (hK : X.K = c.T.K) (hks : ∀ k ∈ ks, c.T.xn k = fld ∧ ECls X.K (c.T.ca k) ∧ PySem.W.findIn X.K (.ref (c.T.ca k)) fld = some none) (he : PE X e (tE c m)) (hb : attributeBase e fld X.env (eval e X.env) = eval e X.env := by rfl) :
    PE X (.Attribute e fld pos) (tE c (fOp1 (xfD ks) m)) := PEof (pe_xf he hb) fun σ H Q z => by
  refine tE_mono (tE_sus.mp z).bE fun v H1 ⟨r, h1⟩ => ?_
  obtain ⟨F, ds, res, l, p, e, g⟩ := Sus.pk (rs := [r]) (vs := [v]) h1
  match ds, p, e with
  | [d1], p, e =>
    obtain ⟨v', ev, p1⟩ := p.one
    cases ev
    have e : xfD ks d1 = some res := e
    have key : ∃ k x, d1 = .exc k [x] ∧ k ∈ ks ∧ res = .fz x := by
      cases d1 with
      | exc k fs =>
        match fs, e with
        | [x], e =>
          by_cases hk : k ∈ ks
          · have e : (if k ∈ ks then some (R.fz x) else none) = some res := e
            rw [if_pos hk] at e
            cases e
            exact ⟨k, x, rfl, hk, rfl⟩
          · have e : (if k ∈ ks then some (R.fz x) else none) = some res := e
            rw [if_neg hk] at e
            cases e
        | [], e => cases e
        | _ :: _ :: _, e => cases e
      | _ => cases e
    obtain ⟨k, x, rfl, hk, rfl⟩ := key
    obtain ⟨a, d, xs, rfl, h1, h2, h3⟩ := (show Rep c.T F (.exc k [x]) v from p1)
    obtain ⟨w, rfl, h2⟩ := h2.one
    rcases h3 with ⟨h3, _⟩ | ⟨w', dd, e1, e2, e3⟩
    · cases h3
    · cases e1
      subst e2
      obtain ⟨k1, k2, k3⟩ := hks k hk
      rw [k1] at e3
      exact ⟨a, _, dd, w, rfl, k2, k3, l _ _ h1, l _ _ e3, g.1 _ (by obtain ⟨u, r, e, p, q⟩ := h2; cases e; exact p)⟩
end
end Sx

set_option Elab.async false
set_option linter.all false
set_option maxRecDepth 100000
set_option maxHeartbeats 1000000
/-! Sx, part M: try, except as e: x = e. -/
namespace Sx
open PySem L2 PySem.Spec PyProof.Rows
section
variable {X : Cx} {pins : List (Addr × Obj)} {σ : L2.St} {H : Hp} {s : Shared}
/-- an exception's object is tracked from now on -/
theorem track {a : Addr} {oe : Obj} {cls : Value} {d : Option Addr} (I : Inv X ((a, oe) :: pins) σ H s) (h0 : X.s_0.heap.get? a = none) (hz : Zc cls d oe) (hf : ∃ vs, oe.data = .fields vs) (hp : ∀ p ∈ X.pn ++ pins, p.1 ≠ a) : Inv X pins σ (upd H a (XO cls a d)) s := by
  obtain ⟨e, n, ne, nf, dd⟩ := I.pin (a, oe) (List.mem_append.mpr (.inr List.mem_cons_self))
  obtain ⟨vs, hd⟩ := hf
  have n : H a = none := n
  have e : s.heap.get? a = some oe := e
  have ex : Le H (upd H a (XO cls a d)) := Le.new n
  have old : ∀ b o, X.s_0.heap.get? b = some o → b ≠ a := fun b o eb z => by rw [z, h0] at eb; cases eb
  have b := I.base
  refine ⟨I.ok, I.os, I.bare, ⟨b.keep, b.slot, fun c o ec nc hc => ?_, b.there, fun c xs ec => ?_, fun c o xs ec => ?_, fun c ps ec => ?_⟩, I.loc, I.cell, ?_, fun x c ec => ?_, fun p hpp => ?_, fun c o ec => ?_, I.len⟩
  · rw [upd_ne (old c o ec)]
    exact b.free c o ec nc hc
  · exact ex _ _ (b.tups c xs ec)
  · exact ex _ _ (b.frzs c o xs ec)
  · obtain ⟨m, q⟩ := b.tbls c ps ec
    exact ⟨m, ex _ _ q⟩
  · rw [upd_ne (Ne.symm ne)]
    exact I.free
  · rw [upd_ne (fun z => ?_)]
    · exact I.freeC x c ec
    · obtain ⟨v, o', h1, h2⟩ := I.cell x c ec
      rw [z, e] at h1
      cases h1
      exact dd v h2
  · obtain ⟨q1, q2, q3, q4, q5⟩ := I.pin p (by
      rcases List.mem_append.mp hpp with z | z
      · exact List.mem_append_left _ z
      · exact List.mem_append_right _ (List.mem_cons_of_mem _ z))
    exact ⟨q1, by rw [upd_ne (hp p hpp)]; exact q2, q3, q4, q5⟩
  · by_cases z : c = a
    · subst z
      rw [upd_same] at ec
      cases ec
      refine ⟨⟨oe, vs, e, hz, hd⟩, ⟨oe, e⟩, fun h1 h2 ⟨o1, v1, g1, g2, g3⟩ k => ⟨o1, v1, k _ g1, g2, g3⟩⟩
    · rw [upd_ne z] at ec
      exact (I.hok c o ec).stay (fun b u _ q => q) (fun b q => ex _ _ q) fun b xs q => ex _ _ q
end
/-- what the clause 'except x as n: y = n' wishes of an exception of the body -/
def wKeep (K : PySem.W.Frag) (c : Value) (i j : Nat) (Wout : WX) (D : Ends) : WX := fun cls d σ H =>
  ∃ b, PySem.W.exmOne K cls c = some b ∧ (b = true → ∀ a, H a = none → D.nx (((σ.set i (some (.ref a))).set j (some (.ref a))).set i none) (upd H a (XO cls a d))) ∧ (b = false → Wout cls d σ H)
section
variable {X : Cx} {x n y : Str} {c : Value} {i j : Nat} {body : List Stmt} {np yp np2 apos pos pos' : Pos} {tb : WX → TS} {Wout : WX}
theorem ps_try_keep (hs : X.stack = X.env :: X.outer) (hf : X.env.frame = some X.env.locals) (hN : X.N.Nodup) (hi : X.N[i]? = some n) (hj : X.N[j]? = some y) (hex : X.ex = []) (hln : X.env.kindOf n = some .local) (hly : X.env.kindOf y = some .local) (hc : Names X x c) (tk : Takes X Wout)
    (hb : ∀ (W : WX) (pn : List (Addr × Obj)) (xe : Value → Shared → Prop), Takes (X.tr pn xe) W → PassesOwn (model X.prog X.w) X.A X.env xe → PSs (X.tr pn xe) body (tb W))
    (hsu : ∀ (a : Addr) (pn : List (Addr × Obj)), PSs (X.suite a pn) [.Assign [.Name y yp] (.Name n np2) apos] (tAsg (tVar i) (gName j))) :
    PS X (.Try body [.ExceptHandler (some (.Name x np)) (some n) [.Assign [.Name y yp] (.Name n np2) apos] pos'] [] [] pos) (fun D σ H => tb (wKeep X.K c i j Wout D) D σ H) := by
  refine ⟨fun pins s σ H D I h => ?_⟩
  have ok := I.ok
  have hfr : X.A.frames = some (X.env :: X.outer) := by rw [ok.frames, hs]
  have hloc : Loc X.env.scope n := .inl hln
  refine wpAny_Try_except ?_
  refine wpAny_mono ((hb (wKeep X.K c i j Wout D) (X.pn ++ pins) (fun e s₁ => wpAny (model X.prog X.w) X.A (noteFrame e X.env) (fun _ s₂ => wpAny (model X.prog X.w) X.A (setFlight e none) (fun _ s₃ =>
    wpAny (model X.prog X.w) X.A (handleBy e X.env [.ExceptHandler (some (.Name x np)) (some n) [.Assign [.Name y yp] (.Name n np2) apos] pos']) (SP X pins D) X.xe s₃) X.xe s₂) X.xe s₁) (fun u s' xx => ?_) PassesOwn.looking).run [] s σ H D (I.toTry _) h) (fun f s1 hsp => ?_) (fun e s1 he => he)
  · -- the catch
    obtain ⟨a, B, sI, pins', σ', H', cls, d, rfl, J', nb, up, sky, na, os, ag, b, hb1, hyes, hno⟩ := xx
    have J : Inv X pins σ' H' sI := J'.ofTry ok
    have sky' : Sky B (X.env :: X.outer) a (Zc cls d) X.env.locals s'.heap := by rw [← hs]; exact sky
    show wpAny (model X.prog X.w) X.A (noteFrame (.ref a) X.env) _ _ _
    refine Sky.land Zc.steady hfr hf sky' fun h3 fl3 up3 => ?_
    have J3 : Inv X pins σ' H' { s' with heap := h3 } := J.landed nb fl3.1 (up.trans up3) os ag
    obtain ⟨oe3, vs3, he3, hz3, hd3⟩ := fl3.there
    have notFr : ∀ {h : Heap} {o : Obj} {vs : Array Value}, h.FunFrames B (X.env :: X.outer) → h.get? a = some o → o.data = .fields vs → a ∉ frs (X.env :: X.outer) := fun {h o vs} ff e dd hm => by
      obtain ⟨_, o', e', hnf⟩ := ff.mem hm
      rw [e] at e'; cases e'
      exact hnf _ dd
    have nfr := notFr fl3.2.2.1 he3 hd3
    have nL : a ≠ X.env.locals := fun z => nfr (List.mem_filterMap.mpr ⟨X.env, List.mem_cons_self, by rw [hf, z]⟩)
    have nF : a ∉ X.fs := fun hm => by
      obtain ⟨e, he, q⟩ := List.mem_filterMap.mp hm
      exact nfr (List.mem_filterMap.mpr ⟨e, List.mem_cons_of_mem _ he, q⟩)
    have hnI : sI.heap.get? a = none := by
      cases q : sI.heap.get? a with
      | none => rfl
      | some o =>
        have z := nb a o q (by rw [hs]; exact nfr)
        rw [fl3.2.1] at z
        cases z
    have h0 : X.s_0.heap.get? a = none := by
      cases q : X.s_0.heap.get? a with
      | none => rfl
      | some o =>
        obtain ⟨o', z⟩ := J.base.there a o q (by rw [hex]; exact fun z => nomatch z)
        rw [hnI] at z
        cases z
    have npin : ∀ p ∈ X.pn ++ pins, p.1 ≠ a := fun p hp z => by
      obtain ⟨q, _⟩ := J.pin p hp
      rw [z, hnI] at q
      cases q
    have S3 := J3.suite he3 hd3 na nL nF
    refine wpAny_handleBy_cons (codeAny_handlers_test ?_) (by intro q; cases q)
    have LT : PySem.W.Looks (model X.prog X.w) h3 (typeOf (.ref a)) cls := fun A Q E s k q => wpAny_typeOf_ref (k _ _ he3) (by rw [hz3.1]; exact q)
    have LM := PySem.W.exm_one (M := model X.prog X.w) (J3.kIn) LT hb1
    have test : ∀ {Q : Value → Shared → Prop} {E : Value → Shared → Prop}, Q c { s' with heap := h3 } → wpAny (model X.prog X.w) (X.A.mark (some (.ref a))) (eval (.Name x np) X.env) Q E { s' with heap := h3 } := fun {Q E} q => by
      obtain ⟨hg, hdbg, hm | ⟨hm, hv, hnn⟩⟩ := hc
      · exact ld_glob (X := X.suite a ((a, oe3) :: (X.pn ++ pins))) S3 hg hm q hdbg
      · exact ld_blt (X := X.suite a ((a, oe3) :: (X.pn ++ pins))) S3 hg hm hv q hnn hdbg
    refine test (LM.here ?_)
    cases b with
    | true =>
      refine codeAny_handlers_suite_as ?_
      refine HandSPX.lands_againZ fl3 fun h4 fl4 up4 => ?_
      have J4 : Inv X pins σ' H' { s' with heap := h4 } := J.landed nb fl4.1 ((up.trans up3).trans up4) os ag
      obtain ⟨oe4, vs4, he4, hz4, hd4⟩ := fl4.there
      have S4 := J4.suite he4 hd4 na nL nF
      refine store_ok (X := X.suite a ((a, oe4) :: (X.pn ++ pins))) (v := .ref a) S4 hN hi hloc rfl (fun s5 S5 => ?_) (.inr hln)
      have hlt : i < σ'.length := by rw [J.len]; exact (List.getElem?_eq_some_iff.mp hi).1
      have want := hyes rfl a na
      refine wpAny_mono ((hsu a ((a, oe4) :: (X.pn ++ pins))).run [] s5 _ H' { nx := fun σ6 H6 => σ6 = (σ'.set i (some (.ref a))).set j (some (.ref a)) ∧ H6 = H', rt := fun _ _ => False } S5 ⟨.ref a, List.getElem?_set_self hlt, rfl, rfl⟩) (fun f s6 hsp => ?_) (fun _ _ z => False.elim z)
      cases f with
      | next =>
        obtain ⟨σ6, H6, S6, e6, e7⟩ := hsp
        subst e6 e7
        have S7 : Inv X ((a, oe4) :: pins) ((σ'.set i (some (.ref a))).set j (some (.ref a))) H6 s6 := ⟨ok, S6.os, S6.bare, S6.base, S6.loc, S6.cell, S6.free, S6.freeC, fun p hp => S6.pin p (by
          rw [List.append_nil]
          rcases List.mem_append.mp hp with z | z
          · exact List.mem_cons_of_mem _ (List.mem_append_left _ z)
          · rcases List.mem_cons.mp z with z | z
            · rw [z]; exact List.mem_cons_self
            · exact List.mem_cons_of_mem _ (List.mem_append_right _ z)), S6.hok, S6.len⟩
        exact gone_ok S7 hN hi hln fun s7 J7 => ⟨_, _, track J7 h0 hz4 ⟨_, hd4⟩ npin, want⟩
      | brk =>
        obtain ⟨σ6, H6, S6, q6⟩ := hsp
        exact q6.elim
      | cont =>
        obtain ⟨σ6, H6, S6, q6⟩ := hsp
        exact q6.elim
      | ret u =>
        obtain ⟨v6, σ6, H6, S6, r6, q6⟩ := hsp
        exact q6.elim
    | false =>
      show wpAny _ X.A (handleBy (.ref a) X.env []) _ _ _
      refine wpAny_handleBy_nil ?_
      obtain ⟨k1, k2, k3, oe, vs, T, oT, ts', he, hz, hd, h1, hr⟩ := id fl3
      unfold PySem.passOn
      refine wpAny_bind (wpAny_field he hd h1 ?_)
      rw [if_neg (show ¬ ((Value.ref T == Value.none) = true) from by simp)]
      have fin : wpAny (model X.prog X.w) X.A (setFlight (.ref a) X.env.frame) (fun _ s4 => wpAny (model X.prog X.w) X.A (throw (.ref a) : Sem Flow) (SP X pins D) X.xe s4) X.xe { s' with heap := h3 } := by
        rw [hf]
        refine HandSPX.setFlight_upZ fl3 fun h4 hh4 up4 => wpAny_throw (tk _ _ ?_)
        exact ⟨a, B, sI, pins, σ', H', cls, d, rfl, J, nb, (up.trans up3).trans up4, .inr (.inr (by rw [hs]; exact hh4)), na, os, ag, hno rfl⟩
      first
        | exact wpAny_bind (wpAny_pure (wpAny_bind fin))
        | exact wpAny_bind fin
  · cases f with
    | next =>
      obtain ⟨σ', H', J', q⟩ := hsp
      exact wpAny_execs_nil ⟨σ', H', J'.ofTry ok, q⟩
    | brk =>
      obtain ⟨σ', H', J', q⟩ := hsp
      exact ⟨σ', H', J'.ofTry ok, q⟩
    | cont =>
      obtain ⟨σ', H', J', q⟩ := hsp
      exact ⟨σ', H', J'.ofTry ok, q⟩
    | ret u =>
      obtain ⟨v, σ', H', J', r, q⟩ := hsp
      exact ⟨v, σ', H', J'.ofTry ok, r, q⟩
end
/-! the plain try -/
/-- ks: the classes that the clause takes -/
def fTry (ks : List Nat) (i j : Nat) (body : M Fl) : M Fl := fun s => match body s with
  | .err k fs s' => if k ∈ ks then .ok .nx ⟨((s'.g.set i none).set j (some (.fz (.exc k fs)))), s'.o⟩ else .stuck
  | x => x
section
variable {T : Tab} {F Rs : Hp} {ρ : List Addr} {s : S} {σ : L2.St} {H : Hp}
theorem exc_rep {k : Nat} {fs : List D} {cls : Value} {d : Option Addr} {a : Addr} (ha : F a = none) (x : ExcOk T F k fs cls d) : Rep T (upd F a (XO cls a d)) (.exc k fs) (.ref a) := by
  have lf : Le F (upd F a (XO cls a d)) := Le.new ha
  obtain ⟨rfl, z⟩ := x
  rcases z with ⟨rfl, rfl⟩ | ⟨y, v, dd, rfl, rfl, e3, r⟩
  · exact ⟨a, none, [], rfl, upd_same, rfl, .inl ⟨rfl, rfl⟩⟩
  · exact ⟨a, some dd, [v], rfl, upd_same, ⟨v, [], rfl, Rep.mono lf y v r, rfl⟩, .inr ⟨v, dd, rfl, rfl, lf _ _ e3⟩⟩
theorem Ok.caught {i j : Nat} {k : Nat} {fs : List D} {cls : Value} {d : Option Addr} {a : Addr} (hij : i ≠ j) (o : Ok T F Rs ρ s σ H) (ha : H a = none) (x : ExcOk T F k fs cls d) :
    Ok T (upd F a (XO cls a d)) Rs ρ ⟨((s.g.set i none).set j (some (.fz (.exc k fs)))), s.o⟩ (((σ.set i (some (.ref a))).set j (some (.ref a))).set i none) (upd H a (XO cls a d)) := by
  have o1 := o.newF (ho := XO cls a d) ha
  have r := exc_rep (o.fh.free ha) x
  refine ⟨o1.fh, o1.rh, o1.fr, o1.ob, o1.dj, fun l w e => ?_, ?_, o1.lr⟩
  · have e : ((s.g.set i none).set j (some (.fz (.exc k fs))))[l]? = some (some w) := e
    by_cases h1 : j = l
    · subst h1
      by_cases hl : j < s.g.length
      · rw [List.getElem?_set_self (by rw [List.length_set]; exact hl)] at e
        cases e
        refine ⟨.ref a, ?_, r⟩
        rw [List.getElem?_set_ne hij, List.getElem?_set_self (by rw [List.length_set, ← o.ln]; exact hl)]
      · rw [List.getElem?_eq_none (by rw [List.length_set, List.length_set]; omega)] at e
        cases e
    · rw [List.getElem?_set_ne h1] at e
      by_cases h2 : i = l
      · subst h2
        by_cases hl : i < s.g.length
        · rw [List.getElem?_set_self hl] at e
          cases e
        · rw [List.getElem?_eq_none (by rw [List.length_set]; omega)] at e
          cases e
      · rw [List.getElem?_set_ne h2] at e
        obtain ⟨v, e1, e2⟩ := o1.sl l w e
        refine ⟨v, ?_, e2⟩
        rw [List.getElem?_set_ne h2, List.getElem?_set_ne h1, List.getElem?_set_ne h2]
        exact e1
  · show ((s.g.set i none).set j _).length = _
    simp only [List.length_set]
    exact o.ln
end
section
variable {X : Cx} {c : Cc} {D : Ends} {σ : L2.St} {H : Hp}
theorem try_le {ks : List Nat} {i j : Nat} {C : Value} {body : M Fl} (hij : i ≠ j) (hyes : ∀ k, k ∈ ks → PySem.W.exmOne X.K (.ref (c.T.ca k)) C = some true) (h : tS c (fTry ks i j body) D σ H) :
    tS { c with W := wKeep X.K C i j c.W D } body D σ H := by
  obtain ⟨F, Rs, ρ, s, o, h⟩ := h
  refine ⟨F, Rs, ρ, s, o, ?_⟩
  unfold fTry at h
  cases e : body s with
  | stuck => rw [e] at h; exact h.elim
  | ok r s1 =>
    rw [e] at h
    cases r with
    | nx => exact h
    | rt r => exact h
    | brk => exact h
    | cnt => exact h
  | err k fs s1 =>
    rw [e] at h
    dsimp only at h
    by_cases hk : k ∈ ks
    · rw [if_pos hk] at h
      intro cls d σ1 H1 F1 ρ1 o1 l1 p1 x1
      refine ⟨true, by rw [x1.1]; exact hyes k hk, fun _ a ha => ?_, fun z => nomatch z⟩
      exact h _ _ _ ρ1 (o1.caught hij ha x1) (l1.trans (Le.new (o1.fh.free ha))) p1
    · rw [if_neg hk] at h
      exact h.elim
theorem ss_try {x n y : Str} {C : Value} {i j : Nat} {ks : List Nat} {body : List Stmt} {np yp np2 apos pos pos' : Pos} {mb : M Fl} (hs : X.stack = X.env :: X.outer) (hf : X.env.frame = some X.env.locals) (hN : X.N.Nodup) (hi : X.N[i]? = some n) (hj : X.N[j]? = some y) (hij : i ≠ j) (hex : X.ex = [])
    (hln : X.env.kindOf n = some .local) (hly : X.env.kindOf y = some .local) (hc : Names X x C) (tk : Takes X c.W) (hyes : ∀ k, k ∈ ks → PySem.W.exmOne X.K (.ref (c.T.ca k)) C = some true)
    (hb : ∀ (W : WX) (pn : List (Addr × Obj)) (xe : Value → Shared → Prop), Takes (X.tr pn xe) W → PassesOwn (model X.prog X.w) X.A X.env xe → PSs (X.tr pn xe) body (tS { c with W := W } mb))
    (hsu : ∀ (a : Addr) (pn : List (Addr × Obj)), PSs (X.suite a pn) [.Assign [.Name y yp] (.Name n np2) apos] (tAsg (tVar i) (gName j))) :
    PS X (.Try body [.ExceptHandler (some (.Name x np)) (some n) [.Assign [.Name y yp] (.Name n np2) apos] pos'] [] [] pos) (tS c (fTry ks i j mb)) :=
  PSof (ps_try_keep (tb := fun W => tS { c with W := W } mb) hs hf hN hi hj hex hln hly hc tk hb hsu) fun D σ H h => try_le hij hyes h
end
end Sx

set_option Elab.async false
set_option linter.all false
set_option maxRecDepth 100000
set_option maxHeartbeats 1000000
/-! Sx, part N: texts cut at one sign. -/
namespace Sx
open PySem L2 PySem.Spec PyProof.Rows PySem.Builtin PySem.Builtin.Str
def splitL (c : Nat) : Tx → List Tx
  | [] => [[]]
  | x :: xs => if x = c then [] :: splitL c xs else match splitL c xs with
    | w :: ws => (x :: w) :: ws
    | [] => [[x]]
def occL (c : Nat) : Nat → Tx → List Nat
  | _, [] => []
  | i, x :: xs => if x = c then i :: occL c (i + 1) xs else occL c (i + 1) xs
def preL (p : Tx) : List Tx → List Tx
  | w :: ws => (p ++ w) :: ws
  | [] => [p]
theorem splitL_ne (c : Nat) : ∀ xs, splitL c xs ≠ []
  | [] => by simp [splitL]
  | x :: xs => by
    unfold splitL
    split
    · simp
    · cases e : splitL c xs with
      | nil => simp
      | cons w ws => simp
theorem splitL_cons {c x : Nat} {xs : Tx} (h : x ≠ c) : splitL c (x :: xs) = preL [x] (splitL c xs) := by
  show (if x = c then _ else _) = _
  rw [if_neg h]
  cases e : splitL c xs with
  | nil => rfl
  | cons w ws => rfl
theorem preL_pre (p q : Tx) (ws : List Tx) : preL p (preL q ws) = preL (p ++ q) ws := by
  cases ws with
  | nil => rfl
  | cons w ws => simp [preL]
theorem occ_go (a : Tx) (c : Nat) : ∀ (xs : Tx) (i : Nat) (found : Array Nat) (free : Nat), a.drop i = xs → i + xs.length = a.length → free ≤ i → found.size ≤ i →
    (forIn (List.range' i (xs.length + 1)) (found, free) (StrLaws.occBody (stx a) (stx [c]) a.length (a.length + 1))).run.fst.toList = found.toList ++ occL c i xs
  | [], i, found, free, hd, hl, hf, hs => by
    have no : ¬ (((((found, free) : Array Nat × Nat).fst.size < a.length + 1 ∧ ((found, free) : Array Nat × Nat).snd ≤ i) ∧ i + (stx [c]).length ≤ a.length) ∧ subAt (stx a) (stx [c]) i = true) := fun h => by
      have z := h.1.2
      rw [stx_length] at z
      simp at hl z
      omega
    rw [show ([] : Tx).length + 1 = 1 from rfl, List.range'_one, List.forIn_cons]
    unfold StrLaws.occBody
    rw [if_neg no]
    simp [occL]
  | x :: xs, i, found, free, hd, hl, hf, hs => by
    have hi : i < a.length := by simp at hl; omega
    have hx : a[i]? = some x := by
      have z : (a.drop i)[0]? = some x := by rw [hd]; rfl
      rw [List.getElem?_drop] at z
      simpa using z
    have hd' : a.drop (i + 1) = xs := by
      have z : (a.drop i).drop 1 = xs := by rw [hd]; rfl
      rw [List.drop_drop] at z
      exact z
    have hl' : i + 1 + xs.length = a.length := by simp at hl; omega
    have so := StrLaws.subAt_one (stx a) c i
    have e1 : (stx a).cps.toList[i]? = some x := by rw [stx_cps]; exact hx
    have e2 : (⟨#[c]⟩ : Str) = stx [c] := rfl
    have e3 : (stx a).length = a.length := stx_length a
    rw [e2, e3, e1] at so
    rw [List.length_cons, List.range'_succ, List.forIn_cons]
    by_cases h : x = c
    · have yes : ((((found, free) : Array Nat × Nat).fst.size < a.length + 1 ∧ ((found, free) : Array Nat × Nat).snd ≤ i) ∧ i + (stx [c]).length ≤ a.length) ∧ subAt (stx a) (stx [c]) i = true := by
        have z := so.mpr (by rw [h])
        exact ⟨⟨⟨by show found.size < _; omega, hf⟩, z.1⟩, z.2⟩
      have ih := occ_go a c xs (i + 1) (found.push i) (i + (stx [c]).length) hd' hl' (by rw [stx_length]; exact Nat.le_refl _) (by rw [Array.size_push]; omega)
      unfold StrLaws.occBody at ih ⊢
      rw [if_pos yes]
      simp only [pure_bind]
      rw [ih]
      simp [occL, h]
    · have no : ¬ (((((found, free) : Array Nat × Nat).fst.size < a.length + 1 ∧ ((found, free) : Array Nat × Nat).snd ≤ i) ∧ i + (stx [c]).length ≤ a.length) ∧ subAt (stx a) (stx [c]) i = true) := fun z => by
        have q := so.mp ⟨z.1.2, z.2⟩
        exact h (by simpa using q)
      have ih := occ_go a c xs (i + 1) found free hd' hl' (by omega) (by omega)
      unfold StrLaws.occBody at ih ⊢
      rw [if_neg no]
      simp only [pure_bind]
      rw [ih]
      simp [occL, h]
theorem occ_stx (a : Tx) (c : Nat) : occurrences (stx a) (stx [c]) 0 (stx a).length ((stx a).length + 1) = occL c 0 a := by
  rw [StrLaws.occ_eq, stx_length]
  have z := occ_go a c a 0 #[] 0 rfl (by simp) (Nat.le_refl _) (Nat.le_refl _)
  simpa using z
def cutP (a : Tx) (p : Nat × Nat) : Tx := (a.drop p.1).take (p.2 - p.1)
theorem parts_go (a : Tx) (c : Nat) : ∀ (xs : Tx) (i s : Nat), s ≤ i → a.drop i = xs → i + xs.length = a.length →
    ((s :: (occL c i xs).map (· + 1)).zip (occL c i xs ++ [a.length])).map (cutP a) = preL (cutP a (s, i)) (splitL c xs)
  | [], i, s, hs, hd, hl => by
    have : i = a.length := by simpa using hl
    simp [occL, splitL, preL, this]
  | x :: xs, i, s, hs, hd, hl => by
    have hi : i < a.length := by simp at hl; omega
    have hd' : a.drop (i + 1) = xs := by
      have z : (a.drop i).drop 1 = xs := by rw [hd]; rfl
      rw [List.drop_drop] at z
      exact z
    have hl' : i + 1 + xs.length = a.length := by simp at hl; omega
    have one : cutP a (i, i + 1) = [x] := by
      show (a.drop i).take (i + 1 - i) = [x]
      rw [hd, show i + 1 - i = 1 by omega]
      rfl
    by_cases h : x = c
    · have ih := parts_go a c xs (i + 1) (i + 1) (Nat.le_refl _) hd' hl'
      have e0 : cutP a (i + 1, i + 1) = [] := by simp [cutP]
      rw [e0] at ih
      have e1 : occL c i (x :: xs) = i :: occL c (i + 1) xs := if_pos h
      have e2 : splitL c (x :: xs) = [] :: splitL c xs := if_pos h
      rw [e1, e2]
      rw [List.map_cons, List.cons_append, List.zip_cons_cons, List.map_cons, ih]
      cases q : splitL c xs with
      | nil => exact absurd q (splitL_ne c xs)
      | cons w ws => simp [preL]
    · have ih := parts_go a c xs (i + 1) s (by omega) hd' hl'
      have e1 : occL c i (x :: xs) = occL c (i + 1) xs := if_neg h
      rw [e1, ih, splitL_cons h, preL_pre]
      congr 1
      show (a.drop s).take (i + 1 - s) = (a.drop s).take (i - s) ++ [x]
      have hx : (a.drop s)[i - s]? = some x := by
        rw [List.getElem?_drop, show s + (i - s) = i by omega]
        have z : (a.drop i)[0]? = some x := by rw [hd]; rfl
        rw [List.getElem?_drop] at z
        simpa using z
      rw [show i + 1 - s = (i - s) + 1 by omega, List.take_succ, hx]
      rfl
theorem strSub_stx (a : Tx) (p : Nat × Nat) : strSub (stx a) p.1 p.2 = stx (cutP a p) := by
  unfold strSub stx cutP
  congr 1
  apply Array.toList_inj.mp
  simp [List.extract_eq_take_drop]
theorem split_stx (a : Tx) (c : Nat) : Txt.split (stx a) (stx [c]) = (splitL c a).map stx := by
  have key : partsBetween (stx a) (occL c 0 a) (stx [c]).length = (splitL c a).map stx := by
    unfold partsBetween
    have z := parts_go a c a 0 0 (Nat.le_refl _) rfl (by simp)
    have e0 : cutP a (0, 0) = [] := by simp [cutP]
    rw [e0] at z
    have e1 : preL [] (splitL c a) = splitL c a := by
      cases q : splitL c a with
      | nil => exact absurd q (splitL_ne c a)
      | cons w ws => simp [preL]
    rw [e1] at z
    rw [← z, List.map_map, stx_length]
    show _ = List.map (stx ∘ cutP a) _
    have e2 : (stx ∘ cutP a) = fun (p : Nat × Nat) => strSub (stx a) p.1 p.2 := by
      funext p
      exact (strSub_stx a p).symm
    rw [e2, stx_length]
    rfl
  unfold Txt.split
  rw [occ_stx]
  by_cases h : (decide ((stx a).length < (stx [c]).length) || decide (strKind (stx a) < strKind (stx [c]))) = true
  · rw [if_pos h]
    have no : occurrences (stx a) (stx [c]) 0 (stx a).length ((stx a).length + 1) = [] := PySem.W.occ_nil_of_no (stx a) (stx [c]) _ fun i hi => by
      rw [Bool.or_eq_true, decide_eq_true_eq, decide_eq_true_eq] at h
      cases q : subAt (stx a) (stx [c]) i with
      | false => rfl
      | true =>
        have z := PySem.W.kind_le (x := stx a) (y := stx [c]) q
        omega
    rw [occ_stx] at no
    rw [← key, no, PySem.W.parts_nil]
  · rw [if_neg h]
    by_cases h2 : (occL c 0 a).isEmpty = true
    · rw [if_pos h2]
      have no : occL c 0 a = [] := List.isEmpty_iff.mp h2
      rw [← key, no, PySem.W.parts_nil]
    · rw [if_neg h2]
      exact key
end Sx

set_option Elab.async false
set_option linter.all false
set_option maxRecDepth 100000
set_option maxHeartbeats 1000000
/-! Sx, part O: built-in functions and methods. -/
namespace Sx
open PySem L2 PySem.Spec PyProof.Rows
theorem CallR.or {X : Cx} {f : Value} {r r' : List V → Hp → VK → Prop} (h : CallR X f r) (h' : CallR X f r') : CallR X f (fun x H Q => r x H Q ∨ r' x H Q) := by
  intro pins s σ H xs us Q I rx q
  rcases q with q | q
  · exact h pins s σ H xs us Q I rx q
  · exact h' pins s σ H xs us Q I rx q
theorem reps_ints {T : Tab} {F : Hp} : ∀ ns : List Int, Reps T F (ns.map .int) (ns.map V.int)
  | [] => Reps.nil
  | n :: ns => Reps.cons rfl (reps_ints ns)
theorem RepC.sq {T : Tab} {F H : Hp} (l : Le F H) : ∀ {d : D} {v : V} {ds : List D}, (d = .lst ds ∨ (∃ ns, d = .scr ns ∧ ds = ns.map .int)) → RepC T F H d v → ∃ a xs, v = .ref a ∧ SqL T.K H a xs ∧ Reps T F ds xs
  | .lst ds, v, es, h, r => by
    rcases h with h | ⟨_, h, _⟩
    · cases h
      obtain ⟨a, xs, rfl, p, q⟩ := r
      exact ⟨a, xs, rfl, SqL.of p, q⟩
    · cases h
  | .scr ns, v, es, h, r => by
    rcases h with h | ⟨_, h, rfl⟩
    · cases h
    · cases h
      obtain ⟨a, rfl, p⟩ := (show ∃ a, v = .ref a ∧ SqL T.K F a (ns.map V.int) from r)
      refine ⟨a, _, rfl, l.sql p, ?_⟩
      exact reps_ints ns
  | .non, _, _, h, _ => by rcases h with h | ⟨_, h, _⟩ <;> cases h
  | .bl _, _, _, h, _ => by rcases h with h | ⟨_, h, _⟩ <;> cases h
  | .int _, _, _, h, _ => by rcases h with h | ⟨_, h, _⟩ <;> cases h
  | .str _, _, _, h, _ => by rcases h with h | ⟨_, h, _⟩ <;> cases h
  | .tup _, _, _, h, _ => by rcases h with h | ⟨_, h, _⟩ <;> cases h
  | .dic _, _, _, h, _ => by rcases h with h | ⟨_, h, _⟩ <;> cases h
  | .obj _ _, _, _, h, _ => by rcases h with h | ⟨_, h, _⟩ <;> cases h
  | .exc _ _, _, _, h, _ => by rcases h with h | ⟨_, h, _⟩ <;> cases h
/-! ### len, min, max, all -/
def lenD : D → Option R
  | .str s => if s.length ≤ SZ then some (.fz (.int s.length)) else none
  | .lst ds => some (.fz (.int ds.length))
  | .tup ds => some (.fz (.int ds.length))
  | .scr ns => some (.fz (.int ns.length))
  | _ => none
theorem lenOk {T : Tab} : R1Ok T (fun v H Q => ∃ x n, [v] = [x] ∧ LenV T.K x H n ∧ Q (.int n) H) lenD := by
  intro F H d v res Q l p e g
  cases d with
  | str s =>
    have e : (if s.length ≤ SZ then some (R.fz (.int s.length)) else none) = some res := e
    split at e
    · rename_i hz
      cases e
      cases (show v = .str (stx s) from p)
      exact ⟨_, s.length, rfl, ⟨by rw [stx_length, SZ_eq]; exact hz, (stx_length s).symm⟩, g.1 _ rfl⟩
    · cases e
  | lst ds =>
    cases e
    obtain ⟨a, xs, rfl, q, r⟩ := RepC.sq l (.inl rfl) p
    exact ⟨_, ds.length, rfl, .inl ⟨xs, q, r.length⟩, g.1 _ rfl⟩
  | scr ns =>
    cases e
    obtain ⟨a, xs, rfl, q, r⟩ := RepC.sq l (.inr ⟨ns, rfl, rfl⟩) p
    have z := r.length
    rw [List.length_map] at z
    exact ⟨_, ns.length, rfl, .inl ⟨xs, q, z⟩, g.1 _ rfl⟩
  | tup ds =>
    cases e
    obtain ⟨a, xs, rfl, q, r⟩ := p
    exact ⟨_, ds.length, rfl, .inr ⟨xs, l.sqt q, r.length⟩, g.1 _ rfl⟩
  | _ => cases e
def min2D : D → D → Option R
  | .int i, .int j => some (.fz (.int (if j < i then j else i)))
  | _, _ => none
def max2D : D → D → Option R
  | .int i, .int j => some (.fz (.int (if j > i then j else i)))
  | _, _ => none
theorem min2Ok {T : Tab} : R2Ok T (fun v u H Q => ∃ i j, [v, u] = [.int i, .int j] ∧ Q (.int (if j < i then j else i)) H) min2D := by
  intro F H d e v u res Q l p q eq g
  unfold min2D at eq
  split at eq
  · cases eq
    cases (show v = _ from p)
    cases (show u = _ from q)
    exact ⟨_, _, rfl, g.1 _ rfl⟩
  · cases eq
theorem max2Ok {T : Tab} : R2Ok T (fun v u H Q => ∃ i j, [v, u] = [.int i, .int j] ∧ Q (.int (if j > i then j else i)) H) max2D := by
  intro F H d e v u res Q l p q eq g
  unfold max2D at eq
  split at eq
  · cases eq
    cases (show v = _ from p)
    cases (show u = _ from q)
    exact ⟨_, _, rfl, g.1 _ rfl⟩
  · cases eq
def boolsD : List D → Option (List Bool)
  | [] => some []
  | .bl b :: ds => (boolsD ds).map (b :: ·)
  | _ :: _ => none
theorem bools_ok {T : Tab} {F : Hp} : ∀ {ds : List D} {bs : List Bool} {xs : List V}, boolsD ds = some bs → Reps T F ds xs → xs = bs.map V.bl
  | [], _, _, e, r => by cases e; exact r
  | d :: ds, bs, xs, e, r => by
    cases d with
    | bl b =>
      obtain ⟨x, e1, rfl⟩ := map_some (show (boolsD ds).map (b :: ·) = some bs from e)
      obtain ⟨v, us, rfl, p, q⟩ := r
      cases (show v = .bl b from p)
      rw [bools_ok e1 q]
      rfl
    | _ => cases e
def allD : D → Option R
  | .lst ds => (boolsD ds).map fun bs => .fz (.bl (bs.all id))
  | _ => none
def anyD : D → Option R
  | .lst ds => (boolsD ds).map fun bs => .fz (.bl (bs.any id))
  | _ => none
theorem allOk {T : Tab} : R1Ok T (fun v H Q => rAll T.K [v] H Q) allD := by
  intro F H d v res Q l p e g
  cases d with
  | lst ds =>
    obtain ⟨bs, e1, rfl⟩ := map_some (show (boolsD ds).map _ = some res from e)
    obtain ⟨a, xs, rfl, q, r⟩ := RepC.sq l (.inl rfl) p
    rw [bools_ok e1 r] at q
    exact ⟨a, bs, rfl, q, g.1 _ rfl⟩
  | _ => cases e
theorem anyOk {T : Tab} : R1Ok T (fun v H Q => rAny T.K [v] H Q) anyD := by
  intro F H d v res Q l p e g
  cases d with
  | lst ds =>
    obtain ⟨bs, e1, rfl⟩ := map_some (show (boolsD ds).map _ = some res from e)
    obtain ⟨a, xs, rfl, q, r⟩ := RepC.sq l (.inl rfl) p
    rw [bools_ok e1 r] at q
    exact ⟨a, bs, rfl, q, g.1 _ rfl⟩
  | _ => cases e
section
variable {X : Cx} {c : Cc} {p pos : Pos} {a b : Expr} {ma : M (List R)}
theorem se_len (hK : X.K = c.T.K) (hg : Gl X "len") (hm : X.mg "len" = none) (ha : PA X [a] (tA c ma)) (he : starEach [a] X.env = (false, eval a X.env) :: starEach [] X.env := by rfl) (hpl : (backTo pos (starEach [] X.env)).any (·.1) = false := by rfl) :
    PE X (.Call (.Name "len" p) [a] [] pos) (tE c (fCall (l1 lenD) ma)) := se_call (l1_ok lenOk) (pe_callB (by have z := call_len (X := X); rw [hK] at z; exact z) hg hm (by rfl) ha (by decide) (by decide) he hpl)
theorem se_all (hc : X.calm = true) (hK : X.K = c.T.K) (hg : Gl X "all") (hm : X.mg "all" = none) (ha : PA X [a] (tA c ma)) (he : starEach [a] X.env = (false, eval a X.env) :: starEach [] X.env := by rfl) (hpl : (backTo pos (starEach [] X.env)).any (·.1) = false := by rfl) :
    PE X (.Call (.Name "all" p) [a] [] pos) (tE c (fCall (l1 allD) ma)) := se_call (l1_ok allOk) (pe_callB (by have z := cr_all (X := X) hc; rw [hK] at z; exact z) hg hm (by rfl) ha (by decide) (by decide) he hpl)
theorem se_any (hc : X.calm = true) (hK : X.K = c.T.K) (hg : Gl X "any") (hm : X.mg "any" = none) (ha : PA X [a] (tA c ma)) (he : starEach [a] X.env = (false, eval a X.env) :: starEach [] X.env := by rfl) (hpl : (backTo pos (starEach [] X.env)).any (·.1) = false := by rfl) :
    PE X (.Call (.Name "any" p) [a] [] pos) (tE c (fCall (l1 anyD) ma)) := se_call (l1_ok anyOk) (pe_callB (by have z := cr_any (X := X) hc; rw [hK] at z; exact z) hg hm (by rfl) ha (by decide) (by decide) he hpl)
theorem se_min (hc : X.calm = true) (hg : Gl X "min") (hm : X.mg "min" = none) (ha : PA X [a, b] (tA c ma)) (he : starEach [a, b] X.env = (false, eval a X.env) :: starEach [b] X.env := by rfl) (hpl : (backTo pos (starEach [b] X.env)).any (·.1) = false := by rfl) :
    PE X (.Call (.Name "min" p) [a, b] [] pos) (tE c (fCall (l2 min2D) ma)) := se_call (l2_ok min2Ok) (pe_callB (call_min2 hc) hg hm (by rfl) ha (by decide) (by decide) he hpl)
theorem se_max (hc : X.calm = true) (hg : Gl X "max") (hm : X.mg "max" = none) (ha : PA X [a, b] (tA c ma)) (he : starEach [a, b] X.env = (false, eval a X.env) :: starEach [b] X.env := by rfl) (hpl : (backTo pos (starEach [b] X.env)).any (·.1) = false := by rfl) :
    PE X (.Call (.Name "max" p) [a, b] [] pos) (tE c (fCall (l2 max2D) ma)) := se_call (l2_ok max2Ok) (pe_callB (call_max2 hc) hg hm (by rfl) ha (by decide) (by decide) he hpl)
end

/-! ### methods of texts and lists -/
def chkD (p : D → Bool) (r : R) : M Unit := fun s => match peek r s with
  | some d => if p d = true then .ok () s else .stuck
  | none => .stuck
def fMth (p : D → Bool) (op : List D → Option R) (mo : M R) (ma : M (List R)) : M R := bnd mo fun r => bnd (chkD p r) fun _ => bnd ma fun rs => pkN op (r :: rs)
theorem chkD_pure (p : D → Bool) (r : R) : ∀ s, (∃ b, chkD p r s = .ok b s) ∨ chkD p r s = .stuck := fun s => by
  unfold chkD
  split
  · split
    · exact .inl ⟨(), rfl⟩
    · exact .inr rfl
  · exact .inr rfl
section
variable {X : Cx} {c : Cc} {σ : L2.St} {H : Hp}
theorem mth_le {p : D → Bool} {op : List D → Option R} {mo : M R} {ma : M (List R)} {Q : VK} {Ty : V → Hp → Prop} {r : V → List V → Hp → VK → Prop} (hty : ∀ (F H : Hp) (d : D) (v : V), Le F H → RepC c.T F H d v → p d = true → Ty v H)
    (ok : RNOk c.T (fun vs H Q => ∃ x xs, vs = x :: xs ∧ r x xs H Q) op) (h : tE c (fMth p op mo ma) σ H Q) : tE c mo σ H fun x H1 => Ty x H1 ∧ tA c ma σ H1 fun xs H2 => r x xs H2 Q := by
  refine tE_mono (tE_sus.mp h).bE fun v H1 ⟨r1, h1⟩ => ?_
  obtain ⟨u, ⟨F, Rs, ρ, s, e, o, pp⟩, h2⟩ := Sus.chk h1 (chkD_pure p r1)
  refine ⟨?_, tA_mono h2.bA fun vs H2 ⟨rs, h3⟩ => ?_⟩
  · unfold chkD at e
    cases e1 : peek r1 s with
    | none => rw [e1] at e; cases e
    | some d =>
      rw [e1] at e
      dsimp only at e
      split at e
      · rename_i hp
        exact hty F H1 d v o.fh (peek_ok o (RepRs.head (show RepRs c.T F ρ s H1 Rs [r1] [v] from pp)) e1) hp
      · cases e
  · obtain ⟨F2, ds, res, l, pq, eq, g⟩ := Sus.pk (rs := r1 :: rs) (vs := v :: vs) h3
    obtain ⟨x, xs, ev, q⟩ := ok F2 H2 ds (v :: vs) res Q l pq eq g
    cases ev
    exact q
theorem arg_le {m : M R} {P : List V → Hp → Prop} (h : tA c (fCons m fNil) σ H P) : tE c m σ H fun v H1 => P [v] H1 := by
  refine tE_mono (tA_sus.mp h).bE fun v H1 ⟨r, h1⟩ => ?_
  obtain ⟨F, Rs, ρ, s, o, h2⟩ := h1.bA
  have h3 := h2 H1 F o (Le.refl F) [] rfl
  obtain ⟨rs, h3⟩ := h3
  exact (show Sus c (PA_ c P) ([] ++ [r] ++ rs) ([] ++ [v] ++ []) (ret (r :: rs)) σ H1 from h3).fin (P := fun _ _ _ _ _ _ => True) rfl
def isStr : D → Bool
  | .str _ => true
  | _ => false
def isLst : D → Bool
  | .lst _ => true
  | _ => false
theorem isStr_ok {T : Tab} : ∀ (F H : Hp) (d : D) (v : V), Le F H → RepC T F H d v → isStr d = true → ∃ a, v = .str a := fun F H d v _ r e => by
  cases d with
  | str s => exact ⟨_, r⟩
  | _ => cases e
theorem isLst_ok {T : Tab} : ∀ (F H : Hp) (d : D) (v : V), Le F H → RepC T F H d v → isLst d = true → tyV T.K "list" v H := fun F H d v l r e => by
  cases d with
  | lst ds =>
    obtain ⟨a, xs, rfl, q, _⟩ := RepC.sq l (.inl rfl) r
    exact .inl ⟨rfl, xs, q⟩
  | _ => cases e
/-- texts of data -/
def strsD : List D → Option (List Tx)
  | [] => some []
  | .str b :: ds => (strsD ds).map (b :: ·)
  | _ :: _ => none
theorem strs_ok {T : Tab} {F : Hp} : ∀ {ds : List D} {bs : List Tx} {xs : List V}, strsD ds = some bs → Reps T F ds xs → xs = bs.map fun b => V.str (stx b)
  | [], _, _, e, r => by cases e; exact r
  | d :: ds, bs, xs, e, r => by
    cases d with
    | str b =>
      obtain ⟨x, e1, rfl⟩ := map_some (show (strsD ds).map (b :: ·) = some bs from e)
      obtain ⟨v, us, rfl, p, q⟩ := r
      cases (show v = .str (stx b) from p)
      rw [strs_ok e1 q]
      rfl
    | _ => cases e
def joinL (a : Tx) : List Tx → Tx
  | [] => []
  | [x] => x
  | x :: y :: r => x ++ a ++ joinL a (y :: r)
def itemsD : D → Option (List D)
  | .lst ds => some ds
  | .tup ds => some ds
  | _ => none
def joinD : D → D → Option R
  | .str a, e => match (itemsD e).bind strsD with
    | some ys => if (ys.map List.length).sum + ys.length * a.length ≤ SZ then some (.fz (.str (joinL a ys))) else none
    | none => none
  | _, _ => none
theorem glued_stx (a : Tx) : ∀ ys : List Tx, Str.join (stx a) (ys.map stx) = stx (joinL a ys)
  | [] => rfl
  | [x] => rfl
  | x :: y :: r => by
    have ih := glued_stx a (y :: r)
    show stx x ++ stx a ++ Str.join (stx a) ((y :: r).map stx) = _
    rw [ih, stx_append, stx_append]
    rfl
theorem join_stx (a : Tx) (ys : List Tx) : Txt.join (stx a) (ys.map stx) = stx (joinL a ys) := by
  show Builtin.Str.glued (stx a) (ys.map stx) = _
  rw [StrLaws.glued_eq_join]
  exact glued_stx a ys
theorem joinOk {T : Tab} : RNOk T (fun vs H Q => ∃ x xs, vs = x :: xs ∧ ∃ a p, ∃ ys : List Str, x = .str a ∧ xs = [.ref p] ∧ (SqL T.K H p (ys.map V.str) ∨ SqT T.K H p (ys.map V.str)) ∧
      (ys.map (·.length)).sum + ys.length * a.length ≤ 16777216 ∧ Q (.str (Txt.join a ys)) H) (l2 joinD) := by
  intro F H ds vs res Q l p eq g
  match ds, p, eq with
  | [d, e], p, eq =>
    obtain ⟨v, u, rfl, p2, q2⟩ := p.two
    have eq : joinD d e = some res := eq
    cases d with
    | str a =>
      have eq : (match (itemsD e).bind strsD with
        | some ys => if (ys.map List.length).sum + ys.length * a.length ≤ SZ then some (R.fz (.str (joinL a ys))) else none
        | none => none) = some res := eq
      cases e1 : (itemsD e).bind strsD with
      | none => rw [e1] at eq; cases eq
      | some ys =>
        rw [e1] at eq
        dsimp only at eq
        split at eq
        · rename_i hz
          cases eq
          cases (show v = .str (stx a) from p2)
          obtain ⟨es, e2, e3⟩ := Option.bind_eq_some_iff.mp e1
          have key : ∃ p xs, u = .ref p ∧ (SqL T.K H p xs ∨ SqT T.K H p xs) ∧ Reps T F es xs := by
            cases e with
            | lst fs =>
              cases e2
              obtain ⟨a, xs, rfl, q, r⟩ := RepC.sq l (.inl rfl) q2
              exact ⟨a, xs, rfl, .inl q, r⟩
            | tup fs =>
              cases e2
              obtain ⟨a, xs, rfl, q, r⟩ := q2
              exact ⟨a, xs, rfl, .inr (l.sqt q), r⟩
            | _ => cases e2
          obtain ⟨pa, xs, rfl, hs, r⟩ := key
          have ex := strs_ok e3 r
          have ex2 : xs = (ys.map stx).map V.str := by rw [ex, List.map_map]; rfl
          rw [ex2] at hs
          refine ⟨_, _, rfl, stx a, pa, ys.map stx, rfl, rfl, hs, ?_, ?_⟩
          · rw [List.map_map, List.length_map, stx_length]
            have : ((fun x : Str => x.length) ∘ stx) = List.length := by funext x; exact stx_length x
            rw [show (ys.map ((fun x : Str => x.length) ∘ stx)) = ys.map List.length by rw [this]]
            exact hz
          · rw [join_stx]
            exact g.1 _ rfl
        · cases eq
    | _ => cases eq
def splitD : D → D → Option R
  | .str a, .str [c] => if a.length + 2 ≤ SZ then some (.nw (.fl ((splitL c a).map .str))) else none
  | _, _ => none
theorem reps_strs {T : Tab} {F : Hp} : ∀ ys : List Tx, Reps T F (ys.map .str) ((ys.map stx).map V.str)
  | [] => Reps.nil
  | n :: ns => Reps.cons rfl (reps_strs ns)
theorem splitOk {T : Tab} : RNOk T (fun vs H Q => ∃ x xs, vs = x :: xs ∧ ∃ a b, x = .str a ∧ xs = [.str b] ∧ (b.length == 0) = false ∧ a.length + 2 ≤ sizeLine ∧ rNewStrs (Txt.split a b) H Q) (l2 splitD) := by
  intro F H ds vs res Q l p eq g
  match ds, p, eq with
  | [d, e], p, eq =>
    obtain ⟨v, u, rfl, p2, q2⟩ := p.two
    have eq : splitD d e = some res := eq
    unfold splitD at eq
    split at eq
    · rename_i a ch _
      split at eq
      · rename_i hz
        cases eq
        cases (show v = .str (stx a) from p2)
        cases (show u = .str (stx [ch]) from q2)
        refine ⟨_, _, rfl, stx a, stx [ch], rfl, rfl, by rw [stx_length]; rfl, by rw [stx_length, SZ_eq]; exact hz, ?_⟩
        rw [split_stx]
        exact fun p hp => g _ p hp (reps_strs _)
      · cases eq
    · cases eq
theorem se_join {o a : Expr} {mo m : M R} {apos pos : Pos} (hK : X.K = c.T.K) (ho : PE X o (tE c mo)) (ha : PE X a (tE c m)) (hs : starEach [a] X.env = [(false, eval a X.env)] := by rfl) (hbase : attributeBase o "join" X.env (eval o X.env) = eval o X.env := by rfl) (hline : (apos.endLine == pos.line) = true := by rfl) :
    PE X (.Call (.Attribute o "join" apos) [a] [] pos) (tE c (fMth isStr (l2 joinD) mo (fCons m fNil))) := PEof (pe_join ho ha hs hbase hline) fun σ H Q z => by
  rw [hK]
  exact tE_mono (mth_le (Ty := fun x _ => ∃ a, x = .str a) (isStr_ok) joinOk z) fun v H1 ⟨h1, h2⟩ => ⟨h1, arg_le h2⟩
theorem se_split {o a : Expr} {mo m : M R} {apos pos : Pos} (ho : PE X o (tE c mo)) (ha : PE X a (tE c m)) (hs : starEach [a] X.env = [(false, eval a X.env)] := by rfl) (hbase : attributeBase o "split" X.env (eval o X.env) = eval o X.env := by rfl) (hline : (apos.endLine == pos.line) = true := by rfl) :
    PE X (.Call (.Attribute o "split" apos) [a] [] pos) (tE c (fMth isStr (l2 splitD) mo (fCons m fNil))) := PEof (pe_split ho ha hs hbase hline) fun σ H Q z => by
  exact tE_mono (mth_le (Ty := fun x _ => ∃ a, x = .str a) (isStr_ok) splitOk z) fun v H1 ⟨h1, h2⟩ => ⟨h1, arg_le h2⟩
/-! list.count, list.index of flat items -/
def flat1 : D → Bool
  | .non => true
  | .bl _ => true
  | .int _ => true
  | .str _ => true
  | _ => false
theorem flat1_V {T : Tab} {F H : Hp} {d : D} {v : V} (h : flat1 d = true) (r : RepC T F H d v) : flatV v = true := by
  cases d with
  | non => cases (show v = _ from r); rfl
  | bl b => cases (show v = _ from r); rfl
  | int b => cases (show v = _ from r); rfl
  | str b => cases (show v = _ from r); rfl
  | _ => cases h
theorem flat1_eq {T : Tab} {F G H G' : Hp} {d e : D} {v u : V} (h : flat1 d = true) (h' : flat1 e = true) (r : RepC T F H d v) (r' : RepC T G G' e u) : eqV v u = eqD d e := by
  cases d with
  | non => cases (show v = _ from r); cases e with
    | non => cases (show u = _ from r'); rfl
    | bl b => cases (show u = _ from r'); rfl
    | int b => cases (show u = _ from r'); rfl
    | str b => cases (show u = _ from r'); rfl
    | _ => cases h'
  | bl b => cases (show v = _ from r); cases e with
    | non => cases (show u = _ from r'); rfl
    | bl b => cases (show u = _ from r'); rfl
    | int b => cases (show u = _ from r'); rfl
    | str b => cases (show u = _ from r'); rfl
    | _ => cases h'
  | int b => cases (show v = _ from r); cases e with
    | non => cases (show u = _ from r'); rfl
    | bl b => cases (show u = _ from r'); rfl
    | int b => cases (show u = _ from r'); rfl
    | str b => cases (show u = _ from r'); rfl
    | _ => cases h'
  | str b => cases (show v = _ from r); cases e with
    | non => cases (show u = _ from r'); rfl
    | bl b => cases (show u = _ from r'); rfl
    | int b => cases (show u = _ from r'); rfl
    | str b => cases (show u = _ from r'); exact stx_beq _ _
    | _ => cases h'
  | _ => cases h
end
end Sx

set_option Elab.async false
set_option linter.all false
set_option maxRecDepth 100000
set_option maxHeartbeats 1000000
/-! Sx, part P: more statements and expressions. -/
namespace Sx
open PySem L2 PySem.Spec PyProof.Rows
theorem gl_bl {T : Tab} {F H : Hp} {b : Bool} {Q : VK} (h : Q (.bl b) H) : Gives T F H Q (.fz (.bl b)) := ⟨fun v r => by
  cases (show v = .bl b from r)
  exact h, fun ds xs p e => nomatch e⟩
theorem gl_int {T : Tab} {F H : Hp} {b : Int} {Q : VK} (h : Q (.int b) H) : Gives T F H Q (.fz (.int b)) := ⟨fun v r => by
  cases (show v = .int b from r)
  exact h, fun ds xs p e => nomatch e⟩
/-! ### list.count, list.index -/
section
variable {T : Tab} {F H : Hp}
theorem flat_reps : ∀ {ds : List D} {xs : List V}, ds.all flat1 = true → Reps T F ds xs → xs.all flatV = true
  | [], _, _, r => by cases (show _ = [] from r); rfl
  | d :: ds, _, h, r => by
    rw [List.all_cons, Bool.and_eq_true] at h
    obtain ⟨v, us, rfl, p, q⟩ := r
    rw [List.all_cons, flat1_V (H := F) h.1 (Rep.c (Le.refl F) p), flat_reps h.2 q]
    rfl
def rCntV (K : PySem.W.Frag) : V → List V → Hp → VK → Prop := fun x xs H Q => ∃ (a : Addr) (ys : List V) (y : V), x = V.ref a ∧ xs = [y] ∧ SqL K H a ys ∧ flatV y = true ∧ ys.all flatV = true ∧ Q (.int (ys.countP fun z => eqV z y : Nat)) H
theorem count_eqU {x : V} : ∀ {xs : List V} {us : List Value}, Vals xs us → xs.all flatV = true → us.countP (eqU x) = xs.countP fun y => eqV y x
  | _, _, .nil, _ => rfl
  | y :: xs, u :: us, .cons r t, f => by
    rw [List.all_cons, Bool.and_eq_true] at f
    rw [List.countP_cons, List.countP_cons, eqU_of r f.1, count_eqU t f.2]
theorem mt_cntV {X : Cx} : MtR X "list.count" (rCntV X.K) := by
  intro pins s σ H x xs v us Q I rx rxs h
  obtain ⟨p, ys, y, rfl, rfl, hs, fy, fys, q⟩ := h
  cases rx
  obtain ⟨u, rfl, ru⟩ := rxs.one
  obtain ⟨its, rv, ⟨⟨cls, dd, data, sl⟩, n, ho, hc, hdn, hd⟩, hlen⟩ := I.list hs
  simp only at hc hd
  subst hc hd
  refine call_meets PySem.F.slot_list_count ⟨_, ho, rfl⟩ PySem.F.entry_list_count (PySem.F.args_list_count_2 _ _)
    (SeqAt.list_countAt p its.toArray n dd sl u (eqU y)) ⟨ho, fun w hw => mem_eqAt ru fy rv fys w (by simpa using hw), ?_⟩
  have ec : its.toArray.toList.countP (eqU y) = ys.countP fun z => eqV z y := count_eqU rv fys
  refine ⟨.int (ys.countP (fun z => eqV z y) : Nat), H, I.tok _, ⟨s.toks, ?_⟩, q⟩
  show Value.int ((its.toArray.toList.countP (eqU y) : Nat) : Int) s.toks = Value.int ((ys.countP (fun z => eqV z y) : Nat) : Int) s.toks
  rw [ec]
def cntD : D → D → Option R
  | .lst ds, e => if flat1 e = true ∧ ds.all flat1 = true then some (.fz (.int (ds.countP fun d => eqD d e : Nat))) else none
  | _, _ => none
def idxD : D → D → Option R
  | .lst ds, e => if flat1 e = true ∧ ds.all flat1 = true ∧ ds.findIdx (fun d => eqD d e) < ds.length then some (.fz (.int (ds.findIdx fun d => eqD d e : Nat))) else none
  | _, _ => none
theorem count_reps {e : D} {u : V} {G : Hp} (he : flat1 e = true) (re : RepC T F G e u) : ∀ {ds : List D} {xs : List V}, ds.all flat1 = true → Reps T F ds xs → (xs.countP fun z => eqV z u) = ds.countP fun d => eqD d e
  | [], _, _, r => by cases (show _ = [] from r); rfl
  | d :: ds, _, h, r => by
    rw [List.all_cons, Bool.and_eq_true] at h
    obtain ⟨v, us, rfl, p, q⟩ := r
    rw [List.countP_cons, List.countP_cons, count_reps he re h.2 q, flat1_eq h.1 he (Rep.c (Le.refl F) p) re]
theorem cntOk : RNOk T (fun vs H Q => ∃ x xs, vs = x :: xs ∧ rCntV T.K x xs H Q) (l2 cntD) := by
  intro F H ds vs res Q l p eq g
  match ds, p, eq with
  | [d, e], p, eq =>
    obtain ⟨v, u, rfl, p2, q2⟩ := p.two
    have eq : cntD d e = some res := eq
    cases d with
    | lst ds =>
      have eq : (if flat1 e = true ∧ ds.all flat1 = true then some (R.fz (.int (ds.countP fun d => eqD d e : Nat))) else none) = some res := eq
      split at eq
      · rename_i hf
        cases eq
        obtain ⟨a, xs, rfl, q, r⟩ := RepC.sq l (.inl rfl) p2
        refine ⟨_, _, rfl, a, xs, u, rfl, rfl, q, flat1_V hf.1 q2, flat_reps hf.2 r, ?_⟩
        rw [count_reps hf.1 q2 hf.2 r]
        exact g.1 _ rfl
      · cases eq
    | _ => cases eq
theorem idxOk : RNOk T (fun vs H Q => ∃ x xs, vs = x :: xs ∧ rIndex T.K x xs H Q) (l2 idxD) := by
  intro F H ds vs res Q l p eq g
  match ds, p, eq with
  | [d, e], p, eq =>
    obtain ⟨v, u, rfl, p2, q2⟩ := p.two
    have eq : idxD d e = some res := eq
    cases d with
    | lst ds =>
      have eq : (if flat1 e = true ∧ ds.all flat1 = true ∧ ds.findIdx (fun d => eqD d e) < ds.length then some (R.fz (.int (ds.findIdx fun d => eqD d e : Nat))) else none) = some res := eq
      split at eq
      · rename_i hf
        cases eq
        obtain ⟨a, xs, rfl, q, r⟩ := RepC.sq l (.inl rfl) p2
        have el : ∀ (m : Nat) (z : V), xs[m]? = some z → ∃ d, ds[m]? = some d ∧ Rep T F d z := fun m z e => by
          have hm : m < ds.length := by rw [r.length]; exact (List.getElem?_eq_some_iff.mp e).1
          obtain ⟨z', e1, r1⟩ := r.get (List.getElem?_eq_getElem hm)
          rw [e] at e1
          cases e1
          exact ⟨_, List.getElem?_eq_getElem hm, r1⟩
        have ev : ∀ (d : D) (z : V), d ∈ ds → Rep T F d z → eqV z u = eqD d e := fun d z hd r1 => flat1_eq (List.all_eq_true.mp hf.2.1 d hd) hf.1 (Rep.c (Le.refl F) r1) q2
        obtain ⟨z, e1, r1⟩ := r.get (List.getElem?_eq_getElem hf.2.2)
        refine ⟨_, _, rfl, a, xs, u, _, z, rfl, rfl, q, flat1_V hf.1 q2, flat_reps hf.2.1 r, e1, ?_, fun m z' hm ez => ?_, g.1 _ rfl⟩
        · rw [ev _ _ (List.getElem_mem _) r1]
          exact List.findIdx_getElem (w := hf.2.2)
        · obtain ⟨d', e2, r2⟩ := el m z' ez
          obtain ⟨hm2, e3⟩ := List.getElem?_eq_some_iff.mp e2
          rw [ev _ _ (List.mem_of_getElem? e2) r2, ← e3]
          exact List.not_of_lt_findIdx hm
      · cases eq
    | _ => cases eq
end
section
variable {X : Cx} {c : Cc} {D : Ends} {σ : L2.St} {H : Hp}
theorem se_count {o e : Expr} {mo : M R} {ma : M (List R)} {apos cpos : Pos} (hK : X.K = c.T.K) (ho : PE X o (tE c mo)) (ha : PA X [e] (tA c ma)) (hbase : attributeBase o "count" X.env (eval o X.env) = eval o X.env := by rfl)
    (hfew : ((backTo cpos (starEach [e] X.env)).all (fun x => !x.1) && (backToKw cpos (keywordEach [] X.env)).all (fun x => x.1.isSome)
      && decide (([e] : List Expr).length + ([] : List Keyword).length + (if ([] : List Keyword).isEmpty then 0 else 1) < 30)) = true := by rfl)
    (hline : (apos.endLine == cpos.line) = true := by rfl) (hs : starEach [e] X.env = (false, eval e X.env) :: starEach [] X.env := by rfl) (hplain : (backTo cpos (starEach [] X.env)).any (·.1) = false := by rfl) :
    PE X (.Call (.Attribute o "count" apos) [e] [] cpos) (tE c (fMth isLst (l2 cntD) mo ma)) :=
  PEof (pe_bm PySem.F.plainAttrs_list PySem.F.slot_list_count (by rfl) mt_cntV ho ha hbase hfew hline hs hplain) fun σ H Q z => by
    rw [hK]
    exact mth_le isLst_ok cntOk z
theorem se_index {o e : Expr} {mo : M R} {ma : M (List R)} {apos cpos : Pos} (hK : X.K = c.T.K) (ho : PE X o (tE c mo)) (ha : PA X [e] (tA c ma)) (hbase : attributeBase o "index" X.env (eval o X.env) = eval o X.env := by rfl)
    (hfew : ((backTo cpos (starEach [e] X.env)).all (fun x => !x.1) && (backToKw cpos (keywordEach [] X.env)).all (fun x => x.1.isSome)
      && decide (([e] : List Expr).length + ([] : List Keyword).length + (if ([] : List Keyword).isEmpty then 0 else 1) < 30)) = true := by rfl)
    (hline : (apos.endLine == cpos.line) = true := by rfl) (hs : starEach [e] X.env = (false, eval e X.env) :: starEach [] X.env := by rfl) (hplain : (backTo cpos (starEach [] X.env)).any (·.1) = false := by rfl) :
    PE X (.Call (.Attribute o "index" apos) [e] [] cpos) (tE c (fMth isLst (l2 idxD) mo ma)) :=
  PEof (pe_bm PySem.F.plainAttrs_list PySem.F.slot_list_index (by rfl) mt_index ho ha hbase hfew hline hs hplain) fun σ H Q z => by
    rw [hK]
    exact mth_le isLst_ok idxOk z

/-! ### name op= int -/
def augS (f : Int → Int → Int) (i : Nat) (a : Int) (r : R) : M Fl := fun s => match r with
  | .fz (.int b) => .ok .nx (setW i (.fz (.int (f a b))) s)
  | _ => .stuck
def fAug (f : Int → Int → Int) (i : Nat) (m : M R) : M Fl := fun s => match s.g[i]? with
  | some (some (.fz (.int a))) => bnd m (augS f i a) s
  | _ => .stuck
theorem augS_inv {f : Int → Int → Int} {i : Nat} {a : Int} {r : R} {s : S} : (∃ b, r = .fz (.int b)) ∨ augS f i a r s = .stuck := by
  cases r with
  | fz d => cases d with
    | int b => exact .inl ⟨b, rfl⟩
    | _ => exact .inr rfl
  | _ => exact .inr rfl
theorem fAug_inv {f : Int → Int → Int} {i : Nat} {m : M R} {s : S} : (∃ a, s.g[i]? = some (some (.fz (.int a))) ∧ fAug f i m s = bnd m (augS f i a) s) ∨ fAug f i m s = .stuck := by
  unfold fAug
  split
  · rename_i a e
    exact .inl ⟨a, e, rfl⟩
  · exact .inr rfl
theorem aug_le {f : Int → Int → Int} {i : Nat} {m : M R} (h : tS c (fAug f i m) D σ H) : tAug i (tE c m) (ipI f) D σ H := by
  obtain ⟨F, Rs, ρ, s, o, h⟩ := h
  rcases fAug_inv (f := f) (i := i) (m := m) (s := s) with ⟨a, e, e2⟩ | e2
  · rw [e2] at h
    obtain ⟨v, e1, r1⟩ := o.sl i _ e
    cases (show v = .int a from r1)
    refine ⟨_, e1, ?_⟩
    have h2 : SuS c D [] [] (bnd m (augS f i a)) σ H := ⟨F, Rs, ρ, s, o, rfl, h⟩
    refine tE_mono h2.bE fun u H1 ⟨r, F1, Rs1, ρ1, s1, o1, p1, f1⟩ => ?_
    have p1 := RepRs.head (show RepRs c.T F1 ρ1 s1 H1 Rs1 [r] [u] from p1)
    rcases augS_inv (f := f) (i := i) (a := a) (r := r) (s := s1) with ⟨b, e4⟩ | e4
    · subst e4
      cases (show u = .int b from p1)
      exact ⟨a, b, rfl, rfl, f1 _ H1 F1 ρ1 (o1.set (w := .fz (.int (f a b))) rfl) (Le.refl F1) (Pre.refl _ _)⟩
    · rw [e4] at f1
      exact f1.elim
  · rw [e2] at h
    exact h.elim
theorem ss_aug {i : Nat} {x : Str} {e : Expr} {m : M R} {op : Operator} {f : Int → Int → Int} {pos pos' : Pos} (hN : X.N.Nodup) (hi : X.N[i]? = some x) (hx : Loc X.env.scope x) (he : PE X e (tE c m)) (ho : PIp X op (ipI f)) (hf : X.fn x = true ∨ X.env.scope.names.lookup x = some .local := by first | exact .inl rfl | exact .inr rfl | assumption) :
    PS X (.AugAssign (.Name x pos') op e pos) (tS c (fAug f i m)) := PSof (ps_aug hN hi hx he ho hf) fun _ _ _ z => aug_le z

/-! ### a, b = x, y -/
def parS (i j : Nat) (rs : List R) : M Fl := fun s => match allFz rs with
  | some [d, e] => .ok .nx (setW j (.fz e) (setW i (.fz d) s))
  | _ => .stuck
def parS3 (i j l : Nat) (rs : List R) : M Fl := fun s => match allFz rs with
  | some [d, e, f] => .ok .nx (setW l (.fz f) (setW j (.fz e) (setW i (.fz d) s)))
  | _ => .stuck
def fPar (i j : Nat) (ma : M (List R)) : M Fl := bnd ma (parS i j)
def fPar3 (i j l : Nat) (ma : M (List R)) : M Fl := bnd ma (parS3 i j l)
theorem parS_inv {i j : Nat} {rs : List R} {s : S} : (∃ d e, allFz rs = some [d, e] ∧ parS i j rs s = .ok .nx (setW j (.fz e) (setW i (.fz d) s))) ∨ parS i j rs s = .stuck := by
  unfold parS
  split
  · rename_i d e h
    exact .inl ⟨d, e, h, rfl⟩
  · exact .inr rfl
theorem parS3_inv {i j l : Nat} {rs : List R} {s : S} : (∃ d e f, allFz rs = some [d, e, f] ∧ parS3 i j l rs s = .ok .nx (setW l (.fz f) (setW j (.fz e) (setW i (.fz d) s)))) ∨ parS3 i j l rs s = .stuck := by
  unfold parS3
  split
  · rename_i d e f h
    exact .inl ⟨d, e, f, h, rfl⟩
  · exact .inr rfl
theorem par_le {i j : Nat} {ma : M (List R)} (h : tS c (fPar i j ma) D σ H) : tPar i j (tA c ma) D σ H := by
  refine tA_mono (tS_sus.mp h).bA fun vs H1 ⟨rs, F, Rs, ρ, s, o, p, f⟩ => ?_
  have p : RepRs c.T F ρ s H1 Rs rs vs := p
  rcases parS_inv (i := i) (j := j) (rs := rs) (s := s) with ⟨d, e, e1, e2⟩ | e2
  · rw [e2] at f
    obtain ⟨v, us, rfl, q1, w, us2, rfl, q2, e3⟩ := allFz_ok p e1
    cases (show us2 = [] from e3)
    exact ⟨v, w, rfl, f _ H1 F ρ ((o.set (w := .fz d) q1).set (w := .fz e) q2) (Le.refl F) (Pre.refl _ _)⟩
  · rw [e2] at f
    exact f.elim
theorem par3_le {i j l : Nat} {ma : M (List R)} (h : tS c (fPar3 i j l ma) D σ H) : tPar3 i j l (tA c ma) D σ H := by
  refine tA_mono (tS_sus.mp h).bA fun vs H1 ⟨rs, F, Rs, ρ, s, o, p, f⟩ => ?_
  have p : RepRs c.T F ρ s H1 Rs rs vs := p
  rcases parS3_inv (i := i) (j := j) (l := l) (rs := rs) (s := s) with ⟨d, e, g, e1, e2⟩ | e2
  · rw [e2] at f
    obtain ⟨v, us, rfl, q1, w, us2, rfl, q2, x, us3, rfl, q3, e3⟩ := allFz_ok p e1
    cases (show us3 = [] from e3)
    exact ⟨v, w, x, rfl, f _ H1 F ρ (((o.set (w := .fz d) q1).set (w := .fz e) q2).set (w := .fz g) q3) (Le.refl F) (Pre.refl _ _)⟩
  · rw [e2] at f
    exact f.elim
theorem ss_par {i j : Nat} {st : Stmt} {ma : M (List R)} (h : PS X st (tPar i j (tA c ma))) : PS X st (tS c (fPar i j ma)) := PSof h fun _ _ _ z => par_le z
theorem ss_par3 {i j l : Nat} {st : Stmt} {ma : M (List R)} (h : PS X st (tPar3 i j l (tA c ma))) : PS X st (tS c (fPar3 i j l ma)) := PSof h fun _ _ _ z => par3_le z

/-! ### a op b op c -/
def chk2 (op : Sx.D → Sx.D → Option R) (x y : R) : M Bool := fun s => match peeks [x, y] s with
  | some [d, e] => (match op d e with
    | some (.fz (.bl b)) => .ok b s
    | _ => .stuck)
  | _ => .stuck
theorem chk2_inv {op : Sx.D → Sx.D → Option R} {x y : R} {s : S} : (∃ d e b, peeks [x, y] s = some [d, e] ∧ op d e = some (.fz (.bl b)) ∧ chk2 op x y s = .ok b s) ∨ chk2 op x y s = .stuck := by
  unfold chk2
  split
  · rename_i d e h
    split
    · rename_i b h2
      exact .inl ⟨d, e, b, h, h2, rfl⟩
    · exact .inr rfl
  · exact .inr rfl
theorem chk2_pure (op : Sx.D → Sx.D → Option R) (x y : R) : ∀ s, (∃ b, chk2 op x y s = .ok b s) ∨ chk2 op x y s = .stuck := fun s => by
  rcases chk2_inv (op := op) (x := x) (y := y) (s := s) with ⟨_, _, b, _, _, h⟩ | h
  · exact .inl ⟨b, h⟩
  · exact .inr h
def l23 (op : Sx.D → Sx.D → Option R) : List Sx.D → Option R
  | [_, e, f] => op e f
  | _ => none
def chn (op' : Sx.D → Sx.D → Option R) (mc : M R) (x y : R) (k : Bool) : M R := if k = true then bnd mc fun z => pkN (l23 op') [x, y, z] else ret (.fz (.bl false))
def fChain (op op' : Sx.D → Sx.D → Option R) (ma mb mc : M R) : M R := bnd ma fun x => bnd mb fun y => bnd (chk2 op x y) (chn op' mc x y)
theorem chn_le {op' : Sx.D → Sx.D → Option R} {r' : R2} {mc : M R} {Q : VK} {x y : R} {v u : V} {H2 : Hp} {k : Bool} (ok' : R2Ok c.T r' op') (h3 : Sus c (PE_ c Q) [x, y] [v, u] (chn op' mc x y k) σ H2) :
    if k = true then tE c mc σ H2 fun w' H4 => r' u w' H4 Q else Q (.bl false) H2 := by
  cases k with
  | true =>
    rw [if_pos rfl]
    have h3 : Sus c (PE_ c Q) [x, y] [v, u] (bnd mc fun z => pkN (l23 op') [x, y, z]) σ H2 := h3
    refine tE_mono h3.bE fun w H4 ⟨z, h4⟩ => ?_
    obtain ⟨F4, ds, res, l, pq, eq, g⟩ := Sus.pk (rs := [x, y, z]) (vs := [v, u, w]) h4
    have key : ∃ d e f, ds = [d, e, f] ∧ op' e f = some res := by
      unfold l23 at eq
      split at eq
      · rename_i d e f
        exact ⟨d, e, f, rfl, eq⟩
      · cases eq
    obtain ⟨d3, d4, d5, rfl, eo⟩ := key
    obtain ⟨a1, b1, e1, q1, a2, b2, e2, q2, a3, b3, e3, q3, e4⟩ := pq
    cases e1
    cases e2
    cases e3
    exact ok' F4 H4 d4 d5 u w res Q l q2 q3 eo g
  | false =>
    rw [if_neg Bool.false_ne_true]
    obtain ⟨F5, Rs5, ρ5, s5, o5, p5, f5⟩ := h3
    exact f5 H2 F5 o5 (Le.refl F5) (.bl false) rfl
theorem chain_le {op op' : Sx.D → Sx.D → Option R} {r r' : R2} {ma mb mc : M R} {Q : VK} (ok : R2Ok c.T r op) (ok' : R2Ok c.T r' op') (h : tE c (fChain op op' ma mb mc) σ H Q) : tChain r r' (tE c ma) (tE c mb) (tE c mc) σ H Q := by
  refine tE_mono (tE_sus.mp h).bE fun v H1 ⟨x, h1⟩ => tE_mono h1.bE fun u H2 ⟨y, h2⟩ => ?_
  obtain ⟨k, ⟨F, Rs, ρ, s, e, o, p⟩, h3⟩ := Sus.chk h2 (chk2_pure op x y)
  have h3 : Sus c (PE_ c Q) [x, y] [v, u] (chn op' mc x y k) σ H2 := h3
  have p : RepRs c.T F ρ s H2 Rs [x, y] [v, u] := p
  rcases chk2_inv (op := op) (x := x) (y := y) (s := s) with ⟨d1, d2, b, ep, eo, ek⟩ | ek
  · rw [ek] at e
    cases e
    have pc := addR_peeks o p ep
    obtain ⟨v', u', e1, p1, p2⟩ := pc.two
    cases e1
    exact ok F H2 d1 d2 v u _ _ o.fh p1 p2 eo (gl_bl ⟨k, rfl, chn_le ok' h3⟩)
  · rw [ek] at e
    cases e
theorem se_chain {a b d : Expr} {op op' : CmpOp} {r r' : R2} {f f' : Sx.D → Sx.D → Option R} {ma mb mc : M R} {pos : Pos} (ho : OpR X (compareOp op) r) (ok : R2Ok c.T r f) (ho' : OpR X (compareOp op') r') (ok' : R2Ok c.T r' f') (ha : PE X a (tE c ma)) (hb : PE X b (tE c mb)) (hd : PE X d (tE c mc))
    (hm : lastMarks [op, op'] [b, d] = false := by with_unfolding_all rfl) : PE X (.Compare a [op, op'] [b, d] pos) (tE c (fChain f f' ma mb mc)) := PEof (pe_chain ho ho' ha hb hd hm) fun σ H Q z => chain_le ok ok' z
theorem st_chain {a b d : Expr} {op op' : CmpOp} {r r' : R2} {f f' : Sx.D → Sx.D → Option R} {ma mb mc : M R} {pos : Pos} (ho : OpR X (compareOp op) r) (ok : R2Ok c.T r f) (ho' : OpR X (compareOp op') r') (ok' : R2Ok c.T r' f') (ha : PE X a (tE c ma)) (hb : PE X b (tE c mb)) (hd : PE X d (tE c mc))
    (hm : lastMarks [op, op'] [b, d] = false := by with_unfolding_all rfl) : PT X (.Compare a [op, op'] [b, d] pos) (tT c (fTest (fChain f f' ma mb mc))) := PTof (pt_chain ho ho' ha hb hd hm) fun σ H Q z => chain_le ok ok' (test_le z)

/-! ### a module's constant -/
theorem se_glob {x : Str} {v : V} {u : Value} {d : Sx.D} {pos : Pos} (hg : Gl X x) (hm : X.mg x = some u) (r : RelV v u) (rp : ∀ F, Rep c.T F d v) (hd : (x == ("__debug__" : Str)) = false := by decide) : PE X (.Name x pos) (tE c (fC d)) := se_c (pe_glob hg hm r hd) rp
theorem rep_gtup {T : Tab} {a : Addr} {o : Obj} {its : Array Value} {n : Nat} {ds : List Sx.D} {xs : List V} (h : T.K.lookup a = some o) (hc : o.cls = .type "tuple") (hd : o.data = .seq its n) (hz : its.size ≤ SZ) (hv : Vals xs its.toList) (hr : ∀ F, Reps T F ds xs) : ∀ F, Rep T F (.tup ds) (.ref a) :=
  fun F => ⟨a, xs, rfl, .inr ⟨o, its, n, h, hc, hd, by rw [SZ_eq]; exact hz, hv⟩, hr F⟩

/-! ### d[k] = v of an own dict -/
def putD (kvs : List (Sx.D × Sx.D)) (k v : Sx.D) : List (Sx.D × Sx.D) := if (kvs.any fun kv => eqD kv.1 k) = true then kvs.map (fun kv => if eqD kv.1 k = true then (kv.1, v) else kv) else kvs ++ [(k, v)]
def dputS (v r k : R) : M Fl := fun s => match v, r, k with
  | .fz vd, .own j, .fz kd => (match s.o[j]? with
    | some (some (.fd kvs)) => if isKey kd = true ∧ kvs.length < SZ then .ok .nx ⟨s.g, s.o.set j (some (.fd (putD kvs kd vd)))⟩ else .stuck
    | _ => .stuck)
  | _, _, _ => .stuck
def fDPut (md mk mv : M R) : M Fl := bnd mv fun v => bnd md fun r => bnd mk fun k => dputS v r k
theorem dputS_inv {v r k : R} {s : S} : (∃ vd j kd kvs, v = .fz vd ∧ r = .own j ∧ k = .fz kd ∧ s.o[j]? = some (some (.fd kvs)) ∧ isKey kd = true ∧ kvs.length < SZ ∧ dputS v r k s = .ok .nx ⟨s.g, s.o.set j (some (.fd (putD kvs kd vd)))⟩) ∨ dputS v r k s = .stuck := by
  unfold dputS
  split
  · split
    · rename_i e
      split
      · rename_i h
        exact .inl ⟨_, _, _, _, rfl, rfl, rfl, e, h.1, h.2, rfl⟩
      · exact .inr rfl
    · exact .inr rfl
  · exact .inr rfl
theorem put_ok {T : Tab} {F : Hp} {x : Sx.D} {k : Key} {d : Sx.D} {v : V} (hx : (∃ i, x = .int i ∧ k = .inl i) ∨ ∃ s, x = .str s ∧ k = .inr (stx s)) (rx : Rep T F x (kV k)) (rv : Rep T F d v) {kvs : List (Sx.D × Sx.D)} {l : List (Key × V)} (r : RepKs T F kvs l) : RepKs T F (putD kvs x d) (putK l k v) := by
  have hany : ∀ {kvs : List (Sx.D × Sx.D)} {l : List (Key × V)}, RepKs T F kvs l → (kvs.any fun kv => eqD kv.1 x) = l.any fun kv => decide (kv.1 = k) := fun {kvs} => by
    induction kvs with
    | nil => intro l r; cases (show l = [] from r); rfl
    | cons p kvs ih =>
      intro l r
      obtain ⟨p1, p2⟩ := p
      obtain ⟨kv, v', vr, rfl, q0, q1, q2⟩ := r
      rw [List.any_cons, List.any_cons, ih q2, key_eq (G := F) (H := F) q0 hx]
  have hmap : ∀ {kvs : List (Sx.D × Sx.D)} {l : List (Key × V)}, RepKs T F kvs l → RepKs T F (kvs.map fun kv => if eqD kv.1 x = true then (kv.1, d) else kv) (l.map fun kv => if kv.1 = k then (kv.1, v) else kv) := fun {kvs} => by
    induction kvs with
    | nil => intro l r; cases (show l = [] from r); rfl
    | cons p kvs ih =>
      intro l r
      obtain ⟨p1, p2⟩ := p
      obtain ⟨kv, v', vr, rfl, q0, q1, q2⟩ := r
      rw [List.map_cons, List.map_cons]
      have e := key_eq (G := F) (H := F) q0 hx
      by_cases h : kv = k
      · rw [if_pos (show eqD p1 x = true by rw [e]; exact decide_eq_true h), if_pos h]
        exact ⟨kv, v, _, rfl, q0, rv, ih q2⟩
      · rw [if_neg (show ¬ eqD p1 x = true by rw [e]; simpa using h), if_neg h]
        exact ⟨kv, v', _, rfl, q0, q1, ih q2⟩
  have happ : ∀ {kvs : List (Sx.D × Sx.D)} {l : List (Key × V)}, RepKs T F kvs l → RepKs T F (kvs ++ [(x, d)]) (l ++ [(k, v)]) := fun {kvs} => by
    induction kvs with
    | nil => intro l r; cases (show l = [] from r); exact ⟨k, v, [], rfl, rx, rv, rfl⟩
    | cons p kvs ih =>
      intro l r
      obtain ⟨p1, p2⟩ := p
      obtain ⟨kv, v', vr, rfl, q0, q1, q2⟩ := r
      exact ⟨kv, v', _, rfl, q0, q1, ih q2⟩
  unfold putD putK
  rw [hany r]
  by_cases h : (l.any fun kv => decide (kv.1 = k)) = true
  · rw [if_pos h, if_pos h]
    exact hmap r
  · rw [if_neg h, if_neg h]
    exact happ r
theorem repks_len {T : Tab} {F : Hp} : ∀ {kvs : List (Sx.D × Sx.D)} {l : List (Key × V)}, RepKs T F kvs l → kvs.length = l.length
  | [], _, r => by cases (show _ = [] from r); rfl
  | (p1, p2) :: kvs, _, r => by
    obtain ⟨kv, v', vr, rfl, q0, q1, q2⟩ := r
    rw [List.length_cons, List.length_cons, repks_len q2]
theorem dput_le {md mk mv : M R} (h : tS c (fDPut md mk mv) D σ H) : sDPut (tE c md) (tE c mk) (tE c mv) D σ H := by
  refine tE_mono (tS_sus.mp h).bE fun v H1 ⟨rv, h1⟩ => tE_mono h1.bE fun x H2 ⟨rd, h2⟩ => tE_mono h2.bE fun y H3 ⟨rk, F, Rs, ρ, s, o, p, f⟩ => ?_
  obtain ⟨v1, us1, e1, q1, v2, us2, e2, q2, v3, us3, e3, q3, e4⟩ := (show RepRs c.T F ρ s H3 Rs [rv, rd, rk] [v, x, y] from p)
  cases e1
  cases e2
  cases e3
  rcases dputS_inv (v := rv) (r := rd) (k := rk) (s := s) with ⟨vd, j, kd, kvs, rfl, rfl, rfl, e0, hk, hz, ef⟩ | ef
  · rw [ef] at f
    obtain ⟨a, ha, rfl⟩ := (show ∃ a, ρ[j]? = some a ∧ x = .ref a from q2)
    obtain ⟨b, hb, _, _, l, hl, hr⟩ := o.ob j _ e0
    rw [ha] at hb
    cases hb
    have q3 : Rep c.T F kd y := q3
    obtain ⟨k, rfl, hx⟩ := key_v (F := F) (H := F) hk (Rep.c (Le.refl F) q3)
    refine ⟨a, _, rfl, DPut.k hl (by rw [← repks_len hr, SZ_eq]; exact hz), ?_⟩
    exact f σ _ F ρ (o.mut e0 ha ⟨_, upd_same, put_ok hx q3 q1 hr⟩) (Le.refl F) (Pre.refl _ _)
  · rw [ef] at f
    exact f.elim
theorem ss_dput {o i value : Expr} {md mk mv : M R} {pos pos' : Pos} (hu : X.A.units + 1 < cLine) (ho : PE X o (tE c md)) (hi : PE X i (tE c mk)) (hv : PE X value (tE c mv)) (hs : swapsWith value (some (.Subscript o i pos')) pos.line X.env = pure false := by rfl) :
    PS X (.Assign [.Subscript o i pos'] value pos) (tS c (fDPut md mk mv)) := PSof (ps_dput hu ho hi hv hs) fun _ _ _ z => dput_le z
end
end Sx

set_option Elab.async false
set_option linter.all false
set_option maxRecDepth 100000
set_option maxHeartbeats 1000000
/-! Sx, part Q: isinstance. -/
namespace Sx
open PySem L2 PySem.Spec PyProof.Rows
def tyD : D → Option String
  | .non => some "NoneType"
  | .bl _ => some "bool"
  | .int _ => some "int"
  | .str _ => some "str"
  | .tup _ => some "tuple"
  | .lst _ => some "list"
  | .scr _ => some "list"
  | .dic _ => some "dict"
  | _ => none
theorem ty_ok {T : Tab} {F H : Hp} (l : Le F H) {d : D} {v : V} {t : String} (r : RepC T F H d v) (e : tyD d = some t) : TyX T.K H v (.type t) := by
  cases d with
  | non => cases e; cases (show v = _ from r); exact .base .non
  | bl b => cases e; cases (show v = _ from r); exact .base (.bl b)
  | int b => cases e; cases (show v = _ from r); exact .base (.int b)
  | str b => cases e; cases (show v = _ from r); exact .base (.str _)
  | tup ds =>
    cases e
    obtain ⟨a, xs, rfl, p, _⟩ := r
    rcases l.sqt p with p | ⟨o, its, n, h1, h2, _⟩
    · rcases p with p | ⟨o, p⟩
      · exact .base (.tup p)
      · exact .fTuple p
    · exact .kTuple h1 h2
  | lst ds =>
    cases e
    obtain ⟨a, xs, rfl, p, _⟩ := r
    exact .base (.lst p)
  | scr ns =>
    cases e
    obtain ⟨a, rfl, p⟩ := (show ∃ a, v = .ref a ∧ SqL T.K F a (ns.map V.int) from r)
    rcases l.sql p with p | ⟨o, its, n, h1, h2, _⟩
    · rcases p with p | ⟨o, p⟩
      · exact .base (.lst p)
      · exact .base (.frz p)
    · exact .kList h1 h2
  | dic kvs =>
    cases e
    obtain ⟨a, xs, rfl, p, _⟩ := r
    rcases p with p | ⟨o, p⟩
    · exact .base (.dK p)
    · exact .fDict p
  | _ => cases e
def tyIs (t n : String) : Bool := t == n || (t == "bool" && n == "int")
def tyNs : List String := ["NoneType", "bool", "int", "str", "tuple", "list", "dict"]
theorem kit_is : ∀ t ∈ tyNs, ∀ n ∈ tyNs, kitB t n = some (tyIs t n) := by decide +kernel
theorem tyD_mem {d : D} {t : String} (e : tyD d = some t) : t ∈ tyNs := by
  cases d with
  | non => cases e; decide
  | bl _ => cases e; decide
  | int _ => cases e; decide
  | str _ => cases e; decide
  | tup _ => cases e; decide
  | lst _ => cases e; decide
  | scr _ => cases e; decide
  | dic _ => cases e; decide
  | _ => cases e
def isTyD (n : String) (d : D) : Option R := (tyD d).map fun t => .fz (.bl (tyIs t n))
def isTysD (ns : List String) (d : D) : Option R := (tyD d).map fun t => .fz (.bl (ns.any fun n => tyIs t n))
section
variable {X : Cx} {c : Cc} {D : Ends} {σ : L2.St} {H : Hp}
theorem se_isT {e : Expr} {n : String} {x : Str} {m : M R} {p p2 pos : Pos} (hn : n ∈ tyNs) (hK : X.K = c.T.K) (hg : Gl X "isinstance") (hm : X.mg "isinstance" = none) (he : PE X e (tE c m)) (ht : PE X (.Name x p2) (tC (.ty n)))
    (hs : starEach [e, .Name x p2] X.env = (false, eval e X.env) :: starEach [.Name x p2] X.env := by rfl) (hs2 : starEach [.Name x p2] X.env = (false, eval (.Name x p2) X.env) :: starEach [] X.env := by rfl) (hpl : (backTo pos (starEach [.Name x p2] X.env)).any (·.1) = false := by rfl) :
    PE X (.Call (.Name "isinstance" p) [e, .Name x p2] [] pos) (tE c (fOp1 (isTyD n) m)) :=
  PEof (pe_callB call_isi hg hm (by rfl) (pa_cons he (pa_cons ht pa_nil hs2) hs) (by decide) (by decide) hs hpl) fun σ H Q z => by
    refine tE_mono (tE_sus.mp z).bE fun v H1 ⟨r, h1⟩ => ?_
    obtain ⟨F, ds, res, l, p, eq, g⟩ := Sus.pk (rs := [r]) (vs := [v]) h1
    have key : ∃ d t, ds = [d] ∧ tyD d = some t ∧ res = .fz (.bl (tyIs t n)) := by
      unfold l1 at eq
      split at eq
      · obtain ⟨t, e1, e2⟩ := map_some (show (tyD _).map _ = some res from eq)
        exact ⟨_, t, rfl, e1, e2.symm⟩
      · cases eq
    obtain ⟨d, t, rfl, e1, rfl⟩ := key
    obtain ⟨v', ev, p1⟩ := p.one
    cases ev
    refine ⟨v, .ty n, .type t, .type n, tyIs t n, rfl, .ty n, ?_, kit_ty (kit_is t (tyD_mem e1) n hn), g.1 _ rfl⟩
    rw [hK]
    exact ty_ok l p1 e1
theorem kitAny_tys {K : PySem.W.Frag} {t : String} (ht : t ∈ tyNs) : ∀ ns : List String, (∀ n ∈ ns, n ∈ tyNs) → PySem.W.kitAny K (.type t) (ns.map Value.type) = some (ns.any fun n => tyIs t n)
  | [], _ => rfl
  | n :: ns, h => by
    have k := kit_ty (K := K) (kit_is t ht n (h n List.mem_cons_self))
    have ih := kitAny_tys (K := K) ht ns fun m hm => h m (List.mem_cons_of_mem _ hm)
    exact kitAny_cons k (fun hb => by rw [List.any_cons, hb, Bool.false_or]; exact ih) fun hb => by rw [List.any_cons, hb, Bool.true_or]
theorem paired_tys : ∀ ns : List String, Paired ClsV (ns.map V.ty) (ns.map Value.type)
  | [] => .nil
  | n :: ns => .cons (.ty n) (paired_tys ns)
/-- isinstance(e, (T, U, ..)) -/
theorem se_isTs {e tt : Expr} {ns : List String} {m : M R} {p pos : Pos} (hn : ∀ n ∈ ns, n ∈ tyNs) (hz : ns.length ≤ SZ) (hK : X.K = c.T.K) (hg : Gl X "isinstance") (hm : X.mg "isinstance" = none) (he : PE X e (tE c m)) (ht : PE X tt (fun σ H Q => ∀ p, H p = none → Q (.ref p) (upd H p (.tup (ns.map V.ty)))))
    (hs : starEach [e, tt] X.env = (false, eval e X.env) :: starEach [tt] X.env := by rfl) (hs2 : starEach [tt] X.env = (false, eval tt X.env) :: starEach [] X.env := by rfl) (hpl : (backTo pos (starEach [tt] X.env)).any (·.1) = false := by rfl) :
    PE X (.Call (.Name "isinstance" p) [e, tt] [] pos) (tE c (fOp1 (isTysD ns) m)) :=
  PEof (pe_callB call_isiT hg hm (by rfl) (pa_cons he (pa_cons ht pa_nil hs2) hs) (by decide) (by decide) hs hpl) fun σ H Q z => by
    refine tE_mono (tE_sus.mp z).bE fun v H1 ⟨r, F, Rs, ρ, s, o, p, f⟩ => ?_
    have p : RepRs c.T F ρ s H1 Rs [r] [v] := p
    unfold pkN at f
    cases e0 : peeks [r] s with
    | none => rw [e0] at f; exact f.elim
    | some ds =>
      rw [e0] at f
      dsimp only at f
      cases eq : l1 (isTysD ns) ds with
      | none => rw [eq] at f; exact f.elim
      | some res =>
        rw [eq] at f
        have key : ∃ d t, ds = [d] ∧ tyD d = some t ∧ res = .fz (.bl (ns.any fun n => tyIs t n)) := by
          unfold l1 at eq
          split at eq
          · obtain ⟨t, e1, e2⟩ := map_some (show (tyD _).map _ = some res from eq)
            exact ⟨_, t, rfl, e1, e2.symm⟩
          · cases eq
        obtain ⟨d, t, rfl, e1, rfl⟩ := key
        obtain ⟨v', ev, p1⟩ := (addR_peeks o p e0).one
        cases ev
        intro pp hp
        have p2 : TyX X.K H1 v (.type t) := by
          rw [hK]
          exact ty_ok o.fh p1 e1
        have lH : Le H1 (upd H1 pp (.tup (ns.map V.ty))) := Le.new hp
        have p3 : TyX X.K (upd H1 pp (.tup (ns.map V.ty))) v (.type t) := by
          cases p2 with
          | base b =>
            cases b with
            | non => exact .base .non
            | bl y => exact .base (.bl y)
            | int y => exact .base (.int y)
            | str y => exact .base (.str y)
            | flt y => exact .base (.flt y)
            | lst ea => exact .base (.lst (lH _ _ ea))
            | frz ea => exact .base (.frz (lH _ _ ea))
            | tup ea => exact .base (.tup (lH _ _ ea))
            | dK ea => exact .base (.dK (lH _ _ ea))
            | dT ea => exact .base (.dT (lH _ _ ea))
          | byt y => exact .byt y
          | set ea => exact .set (lH _ _ ea)
          | kList a b => exact .kList a b
          | kTuple a b => exact .kTuple a b
          | kDict a b => exact .kDict a b
          | fTuple a => exact .fTuple (lH _ _ a)
          | fDict a => exact .fDict (lH _ _ a)
        refine ⟨v, pp, ns.map V.ty, .type t, ns.map Value.type, _, rfl, upd_same, paired_tys ns, p3, kitAny_tys (tyD_mem e1) ns hn, ?_⟩
        exact f _ F (o.new hp) (Le.refl F) (.bl _) rfl
/-! an exception of an own class -/
/-- what is known of the class C, beyond ECls -/
structure XCls (K : PySem.W.Frag) (C : Addr) : Prop where
  e : SxE.ECls K C
  hn : PySem.W.specialIn K (.builtin "object.__class__") "__get__" = some (some (.builtin "getset_descriptor.__get__"))
  htk : PySem.W.takesIn K (.builtin "object.__class__") = some true
def isXD (ks : List Nat) (f : Nat → Bool) : Sx.D → Option R
  | .exc k _ => if k ∈ ks then some (.fz (.bl (f k))) else none
  | _ => none
def rIsX (K : PySem.W.Frag) (v : V) (cv : Value) : List V → Hp → VK → Prop := fun xs H Q => ∃ a C d b, xs = [V.ref a, v] ∧ XCls K C ∧ H a = some (XO (.ref C) a d) ∧ (∀ dd, d = some dd → ∃ w, H dd = some (.xd w)) ∧ PySem.W.kitOne K (.ref C) cv = some b ∧ Q (.bl b) H
theorem pe_isX {e ce : Expr} {te : TE} {v : V} {cv : Value} {p pos : Pos} (hcv : ∀ u, RelV v u → u = cv) (hg : Gl X "isinstance") (hm : X.mg "isinstance" = none) (he : PE X e te) (ht : PE X ce (tC v))
    (hs : starEach [e, ce] X.env = (false, eval e X.env) :: starEach [ce] X.env := by rfl) (hs2 : starEach [ce] X.env = (false, eval ce X.env) :: starEach [] X.env := by rfl) (hpl : (backTo pos (starEach [ce] X.env)).any (·.1) = false := by rfl) :
    PE X (.Call (.Name "isinstance" p) [e, ce] [] pos) (tCB (rIsX X.K v cv) (tCons te (tCons (tC v) tNil))) := by
  have rule : CallR X (.builtin "isinstance") (rIsX X.K v cv) := by
    intro pins s σ H xs us Q I r h
    obtain ⟨a, C, d, b, rfl, T, ea, ed, ek, q⟩ := h
    obtain ⟨u1, u2, rfl, r1, r2⟩ := vals2 r
    cases (show u1 = Value.ref a from r1)
    have e2 := hcv _ r2
    subst e2
    obtain ⟨⟨oe, vs, ha, hz, hd⟩, _⟩ := I.hok a _ ea
    have fin : ∀ od, PySem.W.InstAt s.heap a oe C od → wpAny (model X.prog X.w) X.A (call (.builtin "isinstance") [.ref a, u2]) (EP X pins σ Q) X.xe s := fun od J =>
      PySem.W.kia_one (PySem.W.kitx_exc T.e.icl T.e.ga T.e.gg T.e.exC T.e.cl T.hn T.htk T.e.mo) I.kIn J ek (fun z => nomatch z) fun tk => ⟨.bl b, H, I.tok tk, rfl, q⟩
    cases d with
    | none => exact fin none ⟨ha, hz.1, by unfold PySem.W.notCls; rw [hd] <;> rfl, by rw [hz.2]; trivial⟩
    | some dd =>
      obtain ⟨w, hw⟩ := ed dd rfl
      have hx : ObjOk X.prog X.w H s.heap dd (.xd w) := I.hok dd _ hw
      obtain ⟨mA, hns, hr⟩ := hx
      obtain ⟨od, ho, hl⟩ := lookIn_ns hns
      exact fin (some od) ⟨ha, hz.1, by unfold PySem.W.notCls; rw [hd] <;> rfl, by rw [hz.2]; exact ho⟩
  exact pe_callB rule hg hm (by rfl) (pa_cons he (pa_cons ht pa_nil hs2) hs) (by decide) (by decide) hs hpl
theorem se_isX {e ce : Expr} {m : M R} {v : V} {cv : Value} {ks : List Nat} {f : Nat → Bool} {p pos : Pos} (hK : X.K = c.T.K) (hks : ∀ k ∈ ks, XCls X.K (c.T.ca k) ∧ PySem.W.kitOne X.K (.ref (c.T.ca k)) cv = some (f k)) (hcv : ∀ u, RelV v u → u = cv) (hg : Gl X "isinstance") (hm : X.mg "isinstance" = none) (he : PE X e (tE c m)) (ht : PE X ce (tC v))
    (hs : starEach [e, ce] X.env = (false, eval e X.env) :: starEach [ce] X.env := by rfl) (hs2 : starEach [ce] X.env = (false, eval ce X.env) :: starEach [] X.env := by rfl) (hpl : (backTo pos (starEach [ce] X.env)).any (·.1) = false := by rfl) :
    PE X (.Call (.Name "isinstance" p) [e, ce] [] pos) (tE c (fOp1 (isXD ks f) m)) := PEof (pe_isX hcv hg hm he ht hs hs2 hpl) fun σ H Q z => by
  refine tE_mono (tE_sus.mp z).bE fun v1 H1 ⟨r, h1⟩ => ?_
  obtain ⟨F, ds, res, l, p, eq, g⟩ := Sus.pk (rs := [r]) (vs := [v1]) h1
  have key : ∃ k fs, ds = [.exc k fs] ∧ k ∈ ks ∧ res = .fz (.bl (f k)) := by
    unfold l1 at eq
    split at eq
    · rename_i d
      cases d with
      | exc k fs =>
        have eq : (if k ∈ ks then some (R.fz (.bl (f k))) else none) = some res := eq
        by_cases hk : k ∈ ks
        · rw [if_pos hk] at eq
          cases eq
          exact ⟨k, fs, rfl, hk, rfl⟩
        · rw [if_neg hk] at eq
          cases eq
      | _ => cases eq
    · cases eq
  obtain ⟨k, fs, rfl, hk, rfl⟩ := key
  obtain ⟨v', ev, p1⟩ := p.one
  cases ev
  obtain ⟨a, d, xs, rfl, h1, h2, h3⟩ := (show Rep c.T F (.exc k fs) v1 from p1)
  obtain ⟨k1, k2⟩ := hks k hk
  refine ⟨a, _, d, f k, rfl, by rw [hK] at k1 ⊢; exact k1, l _ _ h1, fun dd ed => ?_, k2, g.1 _ rfl⟩
  rcases h3 with ⟨_, h3⟩ | ⟨w', dd', e1, e2, e3⟩
  · rw [h3] at ed
    cases ed
  · rw [e2] at ed
    cases ed
    exact ⟨_, l _ _ e3⟩
end
end Sx

set_option Elab.async false
set_option linter.all false
set_option maxRecDepth 100000
set_option maxHeartbeats 1000000
/-! Sx, part R: comprehensions as rules, append, displays of dicts. -/
namespace Sx
open PySem L2 PySem.Spec PyProof.Rows
section
variable {X : Cx} {c : Cc} {σ : L2.St} {H : Hp}
theorem se_lc {elt tg iter : Expr} {ifs : List Expr} {scope : Scope} {own : List (Str × Nat)} {pos : Pos} {m : M (List Sx.D)} {t : Tgt} {g : TG} {tt : M Bool} {te : M R} (cg : CgOk c.T g t (own.map (·.2))) (hc : X.calm = true) (hN : X.N.Nodup) (hi : PI X tg iter (tI c m)) (ok : BlkOk X.N X.env.scope scope own)
    (hg : ∀ (s : Shared) (H : Hp) (C : Addr) (cl : List (Str × Addr)) (fp : List Addr), PG (X.blk s H scope (compEnvC scope cl C X.env) fp) tg g) (ht : ∀ (s : Shared) (H : Hp) (C : Addr) (cl : List (Str × Addr)) (fp : List Addr), PTs (X.blk s H scope (compEnvC scope cl C X.env) fp) ifs (tT c.cut tt))
    (he : ∀ (s : Shared) (H : Hp) (C : Addr) (cl : List (Str × Addr)) (fp : List Addr), PE (X.blk s H scope (compEnvC scope cl C X.env) fp) elt (tE c.cut te)) (hs : ∀ x, foldedSetIterable iter X.env x = pure x := by intro _; rfl) :
    PE X (.ListComp elt [⟨tg, iter, ifs, 0⟩] scope pos) (tE c (fLc m t tt te (own.map (·.2)))) := PEof (pe_lc hc hN hi ok hg ht he hs) fun σ H Q z => lc_le cg z
theorem ps_lcS {i : Nat} {y : Str} {py : Pos} {elt tg iter : Expr} {ifs : List Expr} {scope : Scope} {own : List (Str × Nat)} {pos spos : Pos} {m : M (List Sx.D)} {t : Tgt} {g : TG} {tt : M Bool} {te : M R} (cg : CgOk c.T g t (own.map (·.2))) (hc : X.calm = true) (hN : X.N.Nodup) (hy : X.N[i]? = some y) (hyl : X.env.scope.names.lookup y = some .local)
    (hsw : swapsWith (.ListComp elt [⟨tg, iter, ifs, 0⟩] scope pos) (some (.Name y py)) spos.line X.env = pure true) (hi : PI X tg iter (tI c m)) (ok : BlkOk X.N X.env.scope scope own)
    (hg : ∀ (s : Shared) (H : Hp) (C : Addr) (cl : List (Str × Addr)) (fp : List Addr), PG (X.blk s H scope (compEnvC scope cl C X.env) fp) tg g) (ht : ∀ (s : Shared) (H : Hp) (C : Addr) (cl : List (Str × Addr)) (fp : List Addr), PTs (X.blk s H scope (compEnvC scope cl C X.env) fp) ifs (tT c.cut tt))
    (he : ∀ (s : Shared) (H : Hp) (C : Addr) (cl : List (Str × Addr)) (fp : List Addr), PE (X.blk s H scope (compEnvC scope cl C X.env) fp) elt (tE c.cut te)) (hs : ∀ x, foldedSetIterable iter X.env x = pure x := by intro _; rfl) :
    PS X (.Assign [.Name y py] (.ListComp elt [⟨tg, iter, ifs, 0⟩] scope pos) spos) (tAsg (tE c (fLc m t tt te (own.map (·.2)))) (gName i)) := PSof (ps_setLc hc hN hy hyl hsw hi ok hg ht he hs) fun D σ H z => lc_le cg z
theorem psFz {st : Stmt} {m : M R} {g : TG} (h : PS X st (tAsg (tE c m) g)) : PS X st (tAsg (tE c (fFz m)) g) := PSof h fun D σ H z => fz_le z
theorem sts_one {e : Expr} {m : M Bool} (h : PT X e (tT c m)) : PTs X [e] (tT c m) := pts_one h
theorem se_append {o e : Expr} {mo me : M R} {apos cpos : Pos} (ho : PE X o (tE c mo)) (he : PE X e (tE c me)) (hbase : attributeBase o "append" X.env (eval o X.env) = eval o X.env := by rfl)
    (hfew : ((backTo cpos (starEach [e] X.env)).all (fun x => !x.1) && (backToKw cpos (keywordEach [] X.env)).all (fun x => x.1.isSome)
      && decide (([e] : List Expr).length + ([] : List Keyword).length + (if ([] : List Keyword).isEmpty then 0 else 1) < 30)) = true := by rfl)
    (hline : (apos.endLine == cpos.line) = true := by rfl) (hs : starEach [e] X.env = (false, eval e X.env) :: starEach [] X.env := by rfl) (hplain : (backTo cpos (starEach [] X.env)).any (·.1) = false := by rfl) :
    PE X (.Call (.Attribute o "append" apos) [e] [] cpos) (tE c (fApp mo me)) :=
  se_app (pe_bm PySem.F.plainAttrs_list PySem.F.slot_list_append (by rfl) mt_append ho (pa_cons he pa_nil hs) hbase hfew hline hs hplain)

/-! ### a, b = e by targets -/
def setTS (t : Tgt) (r : R) : M Fl := fun s => match r with
  | .fz d => (match t d s with
    | some s' => .ok .nx s'
    | none => .stuck)
  | _ => .stuck
def fSetT (t : Tgt) (m : M R) : M Fl := bnd m (setTS t)
theorem setTS_inv {t : Tgt} {r : R} {s : S} : (∃ d s', r = .fz d ∧ t d s = some s' ∧ setTS t r s = .ok .nx s') ∨ setTS t r s = .stuck := by
  unfold setTS
  split
  · split
    · rename_i d _ s' e
      exact .inl ⟨_, s', rfl, e, rfl⟩
    · exact .inr rfl
  · exact .inr rfl
theorem setT_le {t : Tgt} {g : TG} {m : M R} {D : Ends} (ok : TgOk c.T g t) (h : tS c (fSetT t m) D σ H) : tAsg (tE c m) g D σ H := by
  refine tE_mono (tS_sus.mp h).bE fun v H1 ⟨r, F, Rs, ρ, s, o, p, h⟩ => ?_
  have p := RepRs.head (show RepRs c.T F ρ s H1 Rs [r] [v] from p)
  rcases setTS_inv (t := t) (r := r) (s := s) with ⟨d, s', rfl, e1, e2⟩ | e2
  · rw [e2] at h
    exact ok F Rs ρ s s' σ H1 d v _ o p e1 fun σ' o' => h σ' H1 F ρ o' (Le.refl F) (Pre.refl _ _)
  · rw [e2] at h
    exact h.elim
theorem ss_setT {st : Stmt} {t : Tgt} {g : TG} {m : M R} (ok : TgOk c.T g t) (h : PS X st (tAsg (tE c m) g)) : PS X st (tS c (fSetT t m)) := PSof h fun _ _ _ z => setT_le ok z
/-! ### {'k': e, ..} -/
def conses : List (M R) → M (List R)
  | [] => fNil
  | m :: ms => fCons m (conses ms)
def dispS (ks : List Tx) (rs : List R) : M R := fun s => match allFz rs with
  | some ds => if ds.length = ks.length ∧ ks.length ≤ 15 then .ok (.nw (.fd ((ks.map Sx.D.str).zip ds))) s else .stuck
  | none => .stuck
def fDisp (ks : List Tx) (ms : List (M R)) : M R := bnd (conses ms) (dispS ks)
def dispT (c : Cc) : List Tx → List (M R) → List (TE × TE)
  | k :: ks, m :: ms => (tC (.str (stx k)), tE c m) :: dispT c ks ms
  | _, _ => []
theorem nil_le {P : List V → Hp → Prop} (h : tA c fNil σ H P) : P [] H := by
  obtain ⟨F, Rs, ρ, s, o, f⟩ := h
  exact f H F o (Le.refl F) [] rfl
theorem cons_le {m : M R} {ms : M (List R)} {P : List V → Hp → Prop} (h : tA c (fCons m ms) σ H P) : tE c m σ H fun v H1 => tA c ms σ H1 fun us H2 => P (v :: us) H2 :=
  tE_mono (tA_sus.mp h).bE fun v H1 ⟨r, h1⟩ => tA_mono h1.bA fun us H2 ⟨rs, h2⟩ => (show Sus c (PA_ c P) ([] ++ [r] ++ rs) ([] ++ [v] ++ us) (ret (r :: rs)) σ H2 from h2).fin (P := fun _ _ _ _ _ _ => True) rfl
theorem pairs_le : ∀ (ks : List Tx) (ms : List (M R)) (H : Hp) (P : List V → Hp → Prop), ms.length = ks.length → tA c (conses ms) σ H P → tPairs (dispT c ks ms) σ H fun ps H2 => ∃ vs, ps = (ks.map fun k => V.str (stx k)).zip vs ∧ vs.length = ks.length ∧ P vs H2
  | [], [], H, P, _, h => ⟨[], rfl, rfl, nil_le h⟩
  | k :: ks, m :: ms, H, P, hl, h => by
    refine tE_mono (cons_le h) fun v H1 h1 => ?_
    have ih := pairs_le ks ms H1 (fun us H2 => P (v :: us) H2) (by simpa using hl) h1
    refine tPairs_mono ih ?_
    rintro ps H2 ⟨vs, rfl, e, p⟩
    exact ⟨v :: vs, rfl, by simp [e], p⟩
  | [], _ :: _, _, _, hl, _ => by cases hl
  | _ :: _, [], _, _, hl, _ => by cases hl
where
  tPairs_mono : ∀ {ks : List Tx} {ms : List (M R)} {H : Hp} {Q Q' : List (V × V) → Hp → Prop}, tPairs (dispT c ks ms) σ H Q → (∀ ps H', Q ps H' → Q' ps H') → tPairs (dispT c ks ms) σ H Q'
  | k :: ks, m :: ms, H, Q, Q', h, w => tE_mono h fun v H1 h1 => tPairs_mono h1 fun ps H2 q => w _ _ q
  | [], _, _, _, _, h, w => w _ _ h
  | _ :: _, [], _, _, _, h, w => w _ _ h
theorem putK_new {kvs : List (Key × V)} {k : Key} {v : V} (h : k ∉ kvs.map (·.1)) : putK kvs k v = kvs ++ [(k, v)] := by
  unfold putK
  rw [if_neg]
  rw [List.any_eq_true]
  rintro ⟨p, hp, e⟩
  exact h (List.mem_map.mpr ⟨p, hp, of_decide_eq_true e⟩)
theorem mergeK_new : ∀ (more kvs : List (Key × V)), ((kvs ++ more).map (·.1)).Nodup → mergeK kvs more = kvs ++ more
  | [], kvs, _ => by simp [mergeK]
  | p :: more, kvs, h => by
    obtain ⟨k, v⟩ := p
    show mergeK (putK kvs k v) more = _
    rw [putK_new, mergeK_new more]
    · simp
    · simpa using h
    · rw [List.map_append, List.nodup_append] at h
      intro hm
      exact h.2.2 _ hm _ (by simp) rfl
theorem kvs_of : ∀ (ks : List Tx) (vs : List V), vs.length = ks.length → ∃ kvs : List (Key × V), (ks.map fun k => V.str (stx k)).zip vs = kvs.map (fun kv => (kV kv.1, kv.2)) ∧ kvs = (ks.map fun k => (Sum.inr (stx k) : Key)).zip vs
  | [], [], _ => ⟨[], rfl, rfl⟩
  | k :: ks, v :: vs, h => by
    obtain ⟨kvs, e1, e2⟩ := kvs_of ks vs (by simpa using h)
    exact ⟨(.inr (stx k), v) :: kvs, by simp [e1]; rfl, by simp [e2]⟩
  | [], _ :: _, h => by cases h
  | _ :: _, [], h => by cases h
theorem repks_zip {T : Tab} {F : Hp} : ∀ (ks : List Tx) (ds : List Sx.D) (vs : List V), ds.length = ks.length → Reps T F ds vs → RepKs T F ((ks.map Sx.D.str).zip ds) ((ks.map fun k => (Sum.inr (stx k) : Key)).zip vs)
  | [], [], _, _, _ => rfl
  | k :: ks, d :: ds, _, h, r => by
    obtain ⟨v, us, rfl, p, q⟩ := r
    exact ⟨.inr (stx k), v, _, rfl, rfl, p, repks_zip ks ds us (by simpa using h) q⟩
  | [], _ :: _, _, h, _ => by cases h
  | _ :: _, [], _, h, _ => by cases h
theorem keys_nodup {ks : List Tx} (h : ks.Nodup) : ∀ {vs : List V}, vs.length = ks.length → (((ks.map fun k => (Sum.inr (stx k) : Key)).zip vs).map (·.1)).Nodup := by
  intro vs hl
  rw [List.map_fst_zip (by simp [hl])]
  rw [List.nodup_iff_pairwise_ne, List.pairwise_map]
  exact (List.nodup_iff_pairwise_ne.mp h).imp fun {a b} hab e => hab (stx_inj (Sum.inr.inj e))
theorem disp_le {ks : List Tx} {ms : List (M R)} {Q : VK} (hn : ks.Nodup) (hl : ms.length = ks.length) (h : tE c (fDisp ks ms) σ H Q) : tDisp (dispT c ks ms) σ H Q := by
  intro p hp
  obtain ⟨F, Rs, ρ, s, o, h⟩ := h
  have rp : Rs p = none := o.rh.free hp
  have o1 : Ok c.T F (upd Rs p (.dK [])) ρ s σ (upd H p (.dK [])) := o.restNew hp
  have key : tA c (conses ms) σ (upd H p (.dK [])) fun vs H2 => H2 p = some (.dK []) ∧ (vs.length = ks.length → Q (.ref p) (upd H2 p (.dK ((ks.map fun k => (Sum.inr (stx k) : Key)).zip vs))) ∧ ks.length ≤ 15) := by
    refine ⟨F, upd Rs p (.dK []), ρ, s, o1, ?_⟩
    unfold fDisp bnd at h
    revert h
    cases conses ms s with
    | stuck => exact fun h => h
    | err k fs s1 =>
      intro h cls d H1 F1 o2 l2 x2
      exact h cls d H1 F1 (o2.restOut rp) l2 x2
    | ok rs s1 =>
      intro h H1 F1 o2 l2 vs hv
      refine ⟨o2.rh p _ upd_same, fun hvl => ?_⟩
      have h : Fin c F Rs ρ σ (PR c Rs ρ Q) (dispS ks rs s1) := h
      unfold dispS at h
      cases e : allFz rs with
      | none => rw [e] at h; exact h.elim
      | some ds =>
        rw [e] at h
        dsimp only at h
        split at h
        · rename_i hh
          have r := allFz_ok hv e
          have o3 : Ok c.T F1 Rs ρ s1 σ (upd H1 p (.dK ((ks.map fun k => (Sum.inr (stx k) : Key)).zip vs))) := (o2.rest (u' := .dK ((ks.map fun k => (Sum.inr (stx k) : Key)).zip vs))).restOut rp
          have fp : F1 p = none := by
            cases q : F1 p with
            | none => rfl
            | some u =>
              have z := o2.fr p (by rw [q]; exact fun z => nomatch z)
              rw [upd_same] at z
              cases z
          refine ⟨h _ F1 o3 l2 (.ref p) ⟨p, rfl, fp, rp, fun k n ek e1 => ?_, _, upd_same, repks_zip ks ds vs hh.1 r⟩, hh.2⟩
          obtain ⟨b, g1, g2, g3, g4⟩ := o2.ob k n ek
          rw [g1] at e1
          cases e1
          rw [upd_same] at g3
          cases g3
        · exact h.elim
  refine pairs_le.tPairs_mono (pairs_le ks ms _ _ hl key) ?_
  rintro ps H2 ⟨vs, rfl, e, h1, h2⟩
  obtain ⟨kvs, e1, e2⟩ := kvs_of ks vs e
  obtain ⟨q, hz⟩ := h2 e
  refine ⟨h1, kvs, e1, ?_, ?_⟩
  · rw [e2, List.length_zip, List.length_map]
    omega
  · rw [mergeK_new kvs [] (by rw [List.nil_append, e2]; exact keys_nodup hn e), List.nil_append, e2]
    exact q
theorem se_disp {pos : Pos} {keys : List (Option Expr)} {values : List Expr} {ks : List Tx} {ms : List (M R)} (h : PPs X pos keys values (dispT c ks ms)) (hn : ks.Nodup) (hl : ms.length = ks.length) (hall : keys.all (·.isSome) = true) (hl2 : keys.length = values.length) (h0 : keys ≠ []) (h15 : keys.length ≤ 15) :
    PE X (.Dict keys values pos) (tE c (fDisp ks ms)) := PEof (pe_disp h hall hl2 h0 h15) fun σ H Q z => disp_le hn hl z
end
end Sx

set_option Elab.async false
set_option linter.all false
set_option maxRecDepth 100000
set_option maxHeartbeats 1000000
/-! Sx, part S: x = f(text), two tests, then the lists told are changed (for row in x: row.append(..); x.append(..)): the list told is new, all of it; nothing else is changed. -/
namespace Sx
open PySem L2 PySem.Spec PyProof.Rows
def strLst : Sx.D → Bool
  | .lst ds => (strsD ds).isSome && decide (ds.length ≤ 5000)
  | _ => false
def nested : Sx.D → Bool
  | .lst rows => rows.all strLst && decide (rows.length ≤ 5000)
  | _ => false
/-- the slots xi (what is told), ri (its row) are wiped -/
def wipe2 (xi ri : Nat) (s : S) : S := ⟨(s.g.set xi none).set ri none, s.o⟩
def askS (g : FnS) (ti xi ri : Nat) (t1 t2 t3 : M Bool) : M Fl := fun s => match s.g[ti]? with
  | some (some (.fz (.str tx))) => (match g [.fz (.str tx)] [] with
    | .ret (.fz d) _ => (match t1 ⟨s.g.set xi (some (.fz d)), s.o.map fun _ => none⟩ with
      | .ok true s1 => (match t2 s1 with
        | .ok false _ => .ok .nx (wipe2 xi ri s)
        | _ => .stuck)
      | .ok false s1 => (match t3 s1 with
        | .ok false _ => if nested d = true then .ok .nx (wipe2 xi ri s) else .stuck
        | _ => .stuck)
      | _ => .stuck)
    | _ => .stuck)
  | _ => .stuck
/-- what askS wants -/
theorem askS_inv {g : FnS} {ti xi ri : Nat} {t1 t2 t3 : M Bool} {s : S} : askS g ti xi ri t1 t2 t3 s = .stuck ∨ (askS g ti xi ri t1 t2 t3 s = .ok .nx (wipe2 xi ri s) ∧ ∃ tx d o, s.g[ti]? = some (some (.fz (.str tx))) ∧ g [.fz (.str tx)] [] = .ret (.fz d) o ∧
    ((∃ s1 s2, t1 ⟨s.g.set xi (some (.fz d)), s.o.map fun _ => none⟩ = .ok true s1 ∧ t2 s1 = .ok false s2) ∨ (∃ s1 s2, t1 ⟨s.g.set xi (some (.fz d)), s.o.map fun _ => none⟩ = .ok false s1 ∧ t3 s1 = .ok false s2 ∧ nested d = true))) := by
  unfold askS
  split
  · rename_i tx e1
    split
    · rename_i d o e2
      split
      · rename_i s1 e3
        split
        · rename_i s2 e4
          exact .inr ⟨rfl, tx, d, o, e1, e2, .inl ⟨s1, s2, e3, e4⟩⟩
        · exact .inl rfl
      · rename_i s1 e3
        split
        · rename_i s2 e4
          split
          · rename_i hn
            exact .inr ⟨rfl, tx, d, o, e1, e2, .inr ⟨s1, s2, e3, e4, hn⟩⟩
          · exact .inl rfl
        · exact .inl rfl
      · exact .inl rfl
    · exact .inl rfl
  · exact .inl rfl
section
variable {T : Tab} {F Rs H H' : Hp} {ρ : List Addr} {s : S} {σ : L2.St}
theorem Ok.wiped {xi ri : Nat} {σ' : L2.St} (o : Ok T F Rs ρ s σ H) (l : Le H H') (hl : σ'.length = σ.length) (hs : ∀ i, i ≠ xi → i ≠ ri → σ'[i]? = σ[i]?) : Ok T F Rs ρ (wipe2 xi ri s) σ' H' := by
  refine ⟨o.fh.trans l, o.rh.trans l, o.fr, fun k n e => ?_, o.dj, fun i w e => ?_, ?_, o.lr⟩
  · obtain ⟨a, e1, e2, e3, e4⟩ := o.ob k n e
    refine ⟨a, e1, e2, e3, e4.mono (Le.refl F) ?_⟩
    cases q : H a with
    | none => exact absurd q e4.there
    | some u => exact l _ _ q
  · have e : ((s.g.set xi none).set ri none)[i]? = some (some w) := e
    by_cases h1 : ri = i
    · subst h1
      by_cases hlt : ri < (s.g.set xi none).length
      · rw [List.getElem?_set_self hlt] at e; cases e
      · rw [List.getElem?_eq_none (by rw [List.length_set]; omega)] at e; cases e
    · rw [List.getElem?_set_ne h1] at e
      by_cases h2 : xi = i
      · subst h2
        by_cases hlt : xi < s.g.length
        · rw [List.getElem?_set_self hlt] at e; cases e
        · rw [List.getElem?_eq_none (by rw [List.length_set]; omega)] at e; cases e
      · rw [List.getElem?_set_ne h2] at e
        rw [hs i (Ne.symm h2) (Ne.symm h1)]
        exact o.sl i w e
  · show ((s.g.set xi none).set ri none).length = _
    rw [List.length_set, List.length_set, hl]
    exact o.ln
/-- all objects of ours hidden, what is told beside F -/
def joinH (F G : Hp) : Hp := fun p => match F p with
  | some u => some u
  | none => G p
theorem Ok.hide {F' : Hp} {xi : Nat} {d : Sx.D} {v : V} (o : Ok T F Rs ρ s σ H) (l : Le H H') (fh : Le F' H') (dis : ∀ p, F' p ≠ none → H p = none) (r : Rep T F' d v) :
    ∃ Rt : Hp, Ok T (joinH F F') Rt ρ ⟨s.g.set xi (some (.fz d)), s.o.map fun _ => none⟩ (σ.set xi (some v)) H' ∧ (∀ H2 F2, Le (joinH F F') F2 → Le F2 H2 → Le Rt H2 → Le H' H2) := by
  have lF : Le F (joinH F F') := fun p u e => by unfold joinH; rw [e]
  have lF' : Le F' (joinH F F') := fun p u e => by
    unfold joinH
    have hp : H p = none := dis p (by rw [e]; exact fun z => nomatch z)
    rw [o.fh.free hp]
    exact e
  refine ⟨fun p => match joinH F F' p with
    | some _ => none
    | none => H' p, ⟨fun p u e => ?_, fun p u e => ?_, fun p hp => ?_, fun k n e => ?_, fun k k' n n' a e => ?_, fun i w e => ?_, ?_, ?_⟩, fun H2 F2 a b c p u e => ?_⟩
  · unfold joinH at e
    cases q : F p with
    | some w =>
      rw [q] at e
      cases e
      exact l _ _ (o.fh _ _ q)
    | none =>
      rw [q] at e
      exact fh _ _ e
  · have e : (match joinH F F' p with
      | some _ => none
      | none => H' p) = some u := e
    cases q : joinH F F' p with
    | some w => rw [q] at e; cases e
    | none => rw [q] at e; exact e
  · show (match joinH F F' p with
      | some _ => none
      | none => H' p) = none
    cases q : joinH F F' p with
    | some w => rfl
    | none => exact absurd q hp
  · have e : (s.o.map fun _ => (none : Option Node))[k]? = some (some n) := e
    rw [List.getElem?_map] at e
    cases q : s.o[k]? with
    | none => rw [q] at e; cases e
    | some w => rw [q] at e; cases e
  · have e : (s.o.map fun _ => (none : Option Node))[k]? = some (some n) := e
    rw [List.getElem?_map] at e
    cases q : s.o[k]? with
    | none => rw [q] at e; cases e
    | some w => rw [q] at e; cases e
  · have e : (s.g.set xi (some (.fz d)))[i]? = some (some w) := e
    by_cases h : xi = i
    · subst h
      by_cases hlt : xi < s.g.length
      · rw [List.getElem?_set_self hlt] at e
        cases e
        exact ⟨v, List.getElem?_set_self (by rw [← o.ln]; exact hlt), Rep.mono lF' d v r⟩
      · rw [List.getElem?_eq_none (by rw [List.length_set]; omega)] at e; cases e
    · rw [List.getElem?_set_ne h] at e ⊢
      obtain ⟨v', e1, e2⟩ := o.sl i w e
      exact ⟨v', e1, e2.mono lF⟩
  · show (s.g.set xi _).length = (σ.set xi _).length
    rw [List.length_set, List.length_set]
    exact o.ln
  · show ρ.length = (s.o.map _).length
    rw [List.length_map]
    exact o.lr
  · cases q : joinH F F' p with
    | some w =>
      have z := b _ _ (a _ _ q)
      have : H' p = some w := by
        unfold joinH at q
        cases q1 : F p with
        | some w1 =>
          rw [q1] at q
          cases q
          exact l _ _ (o.fh _ _ q1)
        | none =>
          rw [q1] at q
          exact fh _ _ q
      rw [this] at e
      cases e
      exact z
    | none =>
      refine c _ _ ?_
      show (match joinH F F' p with
        | some _ => none
        | none => H' p) = _
      rw [q]
      exact e
theorem strs_all : ∀ {ds : List Sx.D} {bs : List Tx}, strsD ds = some bs → ds = bs.map .str
  | [], _, e => by cases e; rfl
  | d :: ds, bs, e => by
    cases d with
    | str b =>
      obtain ⟨x, e1, rfl⟩ := map_some (show (strsD ds).map (b :: ·) = some bs from e)
      rw [strs_all e1]
      rfl
    | _ => cases e
/-- the rows told lie at addresses of F', each a list -/
theorem nested_rows {F' : Hp} {d : Sx.D} {v : V} (h : nested d = true) (r : Rep T F' d v) : ∃ a xs, v = .ref a ∧ F' a = some (.lst xs) ∧ xs.length ≤ 5000 ∧ ∀ x ∈ xs, ∃ b zs, x = .ref b ∧ b ≠ a ∧ F' b = some (.lst zs) ∧ zs.length ≤ 5000 := by
  cases d with
  | lst rows =>
    have h : (rows.all strLst && decide (rows.length ≤ 5000)) = true := h
    rw [Bool.and_eq_true] at h
    obtain ⟨h1, h2⟩ := h
    obtain ⟨a, xs, rfl, ha, q⟩ := r
    refine ⟨a, xs, rfl, ha, by rw [← q.length]; exact of_decide_eq_true h2, fun x hx => ?_⟩
    obtain ⟨i, hi⟩ := List.mem_iff_getElem?.mp hx
    have hlt : i < rows.length := by rw [q.length]; exact (List.getElem?_eq_some_iff.mp hi).1
    obtain ⟨x', e1, r1⟩ := q.get (List.getElem?_eq_getElem hlt)
    rw [hi] at e1
    cases e1
    have hr := List.all_eq_true.mp h1 rows[i] (List.getElem_mem hlt)
    cases e : rows[i] with
    | lst ss =>
      rw [e] at hr r1
      have hr : ((strsD ss).isSome && decide (ss.length ≤ 5000)) = true := hr
      rw [Bool.and_eq_true] at hr
      obtain ⟨b, zs, rfl, hb, q2⟩ := r1
      refine ⟨b, zs, rfl, fun z => ?_, hb, by rw [← q2.length]; exact of_decide_eq_true hr.2⟩
      subst z
      rw [ha] at hb
      cases hb
      obtain ⟨bs, es⟩ := Option.isSome_iff_exists.mp hr.1
      have ez := strs_ok es q2
      rw [ez] at hx
      obtain ⟨y, _, ey⟩ := List.mem_map.mp hx
      cases ey
    | _ => rw [e] at hr; cases hr
  | _ => cases h
end
/-- for row in x: row.append('..'); x.append('..') -/
def tSpoil (K : PySem.W.Frag) (xi ri : Nat) (m1 m2 : Str) : TS :=
  tSeq (tFor (iList K (tVar xi)) (gName ri) (tDrop (tBM K "list" rAppend (tVar ri) (tCons (tC (.str m1)) tNil)))) (tDrop (tBM K "list" rAppend (tVar xi) (tCons (tC (.str m2)) tNil)))
theorem spoil_le {T : Tab} {K : PySem.W.Frag} {F' H2 : Hp} {d : Sx.D} {v : V} {xi ri : Nat} {m1 m2 : Str} {σ : L2.St} {D : Ends} (hne : xi ≠ ri) (hri : ri < σ.length) (hn : nested d = true) (r : Rep T F' d v) (l : Le F' H2) (hv : σ[xi]? = some (some v))
    (k : ∀ σ' H3, (∀ p, F' p = none → H3 p = H2 p) → σ'.length = σ.length → (∀ i, i ≠ ri → σ'[i]? = σ[i]?) → D.nx σ' H3) : tSpoil K xi ri m1 m2 D σ H2 := by
  obtain ⟨a, xs, rfl, ha, hz, rows⟩ := nested_rows hn r
  let Pv : Nat → L2.St → Hp → Prop := fun i σ' H' => H' a = some (.lst xs) ∧ (∀ p, F' p = none → H' p = H2 p) ∧ (∀ b, V.ref b ∈ xs → ∃ zs, H' b = some (.lst zs) ∧ zs.length ≤ 5000 + i) ∧ σ'.length = σ.length ∧ ∀ j, j ≠ ri → σ'[j]? = σ[j]?
  refine ⟨.ref a, hv, a, rfl, ⟨xs, SqL.of (l _ _ ha)⟩, for_list (K := K) (a := a) (xs := xs) Pv ⟨l _ _ ha, fun _ _ => rfl, fun b hb => ?_, rfl, fun _ _ => rfl⟩ (fun i σ' H' _ p => SqL.of p.1) ?_ ?_⟩
  · obtain ⟨b', zs, e, _, hb', hl⟩ := rows _ hb
    cases e
    exact ⟨zs, l _ _ hb', by omega⟩
  · rintro i x σ' H' hi ⟨p1, p2, p3, p4, p5⟩
    have hx : x ∈ xs := List.mem_of_getElem? hi
    obtain ⟨b, zs0, rfl, hba, hb, hl⟩ := rows x hx
    obtain ⟨zs, hzs, hlz⟩ := p3 b hx
    show tDrop _ _ (σ'.set ri (some (.ref b))) H'
    by_cases hlt : ri < σ'.length
    · refine ⟨.ref b, List.getElem?_set_self hlt, .inl ⟨rfl, zs, SqL.of hzs⟩, b, zs, _, rfl, rfl, hzs, ?_, ?_⟩
      · have : i < xs.length := (List.getElem?_eq_some_iff.mp hi).1
        rw [sizeLine_eq]; omega
      · refine ⟨by rw [upd_ne (Ne.symm hba)]; exact p1, fun p hp => ?_, fun b' hb' => ?_, by rw [List.length_set]; exact p4, fun j hj => by rw [List.getElem?_set_ne (Ne.symm hj)]; exact p5 j hj⟩
        · rw [upd_ne (fun z => by rw [z, hb] at hp; cases hp)]
          exact p2 p hp
        · by_cases z : b' = b
          · subst z
            exact ⟨_, upd_same, by simp; omega⟩
          · obtain ⟨zs', h1, h2⟩ := p3 b' hb'
            exact ⟨zs', by rw [upd_ne z]; exact h1, by omega⟩
    · exact absurd (by rw [p4]; exact hri) hlt
  · rintro σ' H' ⟨p1, p2, p3, p4, p5⟩
    refine ⟨.ref a, by rw [p5 xi hne]; exact hv, .inl ⟨rfl, xs, SqL.of p1⟩, a, xs, _, rfl, rfl, p1, by rw [sizeLine_eq]; omega, ?_⟩
    refine k σ' _ (fun p hp => ?_) p4 p5
    rw [upd_ne (fun z => by rw [z, ha] at hp; cases hp)]
    exact p2 p hp
section
variable {X : Cx} {c : Cc} {D : Ends} {σ : L2.St} {H : Hp}
theorem ask_le {g : FnS} {ti xi ri : Nat} {m1 m2 m3 : M Bool} {u1 u2 : TS} {a1 a2 : Str} (hne : xi ≠ ri) (hxi : xi < σ.length) (hri : ri < σ.length) (h : tS c (askS g ti xi ri m1 m2 m3) D σ H) :
    tSeq (tAsg (tCallS (spF c.T 0 1 g) (WE c.W) (tCons (tVar ti) tNil)) (gName xi)) (tIfS (tT c m1) (tIfS (tT c m2) u1 (fun D σ H => D.nx σ H)) (tIfS (tT c m3) u2 (tSpoil c.T.K xi ri a1 a2))) D σ H := by
  obtain ⟨F, Rs, ρ, s, o, h⟩ := h
  rcases askS_inv (g := g) (ti := ti) (xi := xi) (ri := ri) (t1 := m1) (t2 := m2) (t3 := m3) (s := s) with e | ⟨e, tx, d, oo, e1, e2, e3⟩
  · rw [e] at h
    exact h.elim
  · rw [e] at h
    obtain ⟨vt, ht, rt⟩ := o.sl ti _ e1
    cases (show vt = .str (stx tx) from rt)
    refine ⟨_, ht, ?_⟩
    refine ⟨rfl, fun _ => none, H, [], [.fz (.str tx)], [], rfl, ⟨fun p u e => (nomatch e), fun p u e => e, fun p hp => absurd rfl hp, fun k n e => (nomatch (show (none : Option (Option Node)) = some (some n) from e)), fun k k' n n' a e => (nomatch (show (none : Option (Option Node)) = some (some n) from e)), fun i w e => ?_, rfl, rfl⟩, ?_⟩
    · cases i with
      | zero => cases e; exact ⟨_, rfl, rfl⟩
      | succ i => exact nomatch (show (none : Option (Option W)) = some (some w) from e)
    · rw [e2]
      intro v H1 F1 o1 _ rv
      have rv : Rep c.T F1 d v := rv
      have l1 : Le H H1 := o1.rh
      have dis : ∀ p, F1 p ≠ none → H p = none := o1.fr
      obtain ⟨Rt, ot, back⟩ := o.hide (xi := xi) l1 o1.fh dis rv
      have hlen : (σ.set xi (some v)).length = σ.length := List.length_set ..
      have fin : ∀ σ' H3, Le H1 H3 ∨ (∃ H2, Le H1 H2 ∧ ∀ p, F1 p = none → H3 p = H2 p) → σ'.length = σ.length → (∀ i, i ≠ ri → σ'[i]? = (σ.set xi (some v))[i]?) → D.nx σ' H3 := fun σ' H3 hH hl hs => by
        have lH : Le H H3 := by
          rcases hH with l | ⟨H2, l, q⟩
          · exact l1.trans l
          · intro p u ep
            have fp : F1 p = none := by
              cases z : F1 p with
              | none => rfl
              | some w =>
                have := dis p (by rw [z]; exact fun z => nomatch z)
                rw [this] at ep; cases ep
            rw [q p fp]
            exact l _ _ (l1 _ _ ep)
        exact h σ' H3 F ρ (o.wiped lH hl fun i h1 h2 => by rw [hs i h2, List.getElem?_set_ne (Ne.symm h1)]) (Le.refl F) (Pre.refl _ _)
      rcases e3 with ⟨s1, s2, g1, g2⟩ | ⟨s1, s2, g1, g2, hn⟩
      · refine ⟨_, Rt, ρ, _, ot, ?_⟩
        rw [g1]
        intro H2 F2 o2 l2
        show tIfS (tT c m2) u1 (fun D σ H => D.nx σ H) D (σ.set xi (some v)) H2
        refine ⟨F2, Rt, ρ, s1, o2, ?_⟩
        rw [g2]
        intro H3 F3 o3 l3
        show D.nx (σ.set xi (some v)) H3
        exact fin _ H3 (.inl (back H3 F3 (l2.trans l3) o3.fh o3.rh)) hlen fun _ _ => rfl
      · refine ⟨_, Rt, ρ, _, ot, ?_⟩
        rw [g1]
        intro H2 F2 o2 l2
        show tIfS (tT c m3) u2 (tSpoil c.T.K xi ri a1 a2) D (σ.set xi (some v)) H2
        refine ⟨F2, Rt, ρ, s1, o2, ?_⟩
        rw [g2]
        intro H3 F3 o3 l3
        show tSpoil c.T.K xi ri a1 a2 D (σ.set xi (some v)) H3
        have lb := back H3 F3 (l2.trans l3) o3.fh o3.rh
        exact spoil_le hne (by rw [hlen]; exact hri) hn rv (o1.fh.trans lb) (List.getElem?_set_self hxi) fun σ' H4 q hl hs => fin σ' H4 (.inr ⟨H3, lb, q⟩) (hl.trans hlen) hs
theorem ss_ask {g : FnS} {ti xi ri : Nat} {m1 m2 m3 : M Bool} {u1 u2 : TS} {a1 a2 : Str} {st1 st2 : Stmt} (hne : xi ≠ ri) (hxi : xi < X.N.length) (hri : ri < X.N.length) (h1 : PS X st1 (tAsg (tCallS (spF c.T 0 1 g) (WE c.W) (tCons (tVar ti) tNil)) (gName xi)))
    (h2 : PS X st2 (tIfS (tT c m1) (tIfS (tT c m2) u1 (fun D σ H => D.nx σ H)) (tIfS (tT c m3) u2 (tSpoil c.T.K xi ri a1 a2)))) : PSs X [st1, st2] (tS c (askS g ti xi ri m1 m2 m3)) :=
  ⟨fun pins s σ H D I hw => (pss_cons h1 (pss_one h2)).run pins s σ H D I (ask_le hne (by rw [I.len]; exact hxi) (by rw [I.len]; exact hri) hw)⟩
end
end Sx

set_option Elab.async false
set_option linter.all false
set_option maxRecDepth 100000
/-! Sx, part V: how plain runs are shown: Wp m s Q: m at s ends well, with Q. -/
namespace Sx
def Wp {α : Type} (m : M α) (s : S) (Q : α → S → Prop) : Prop := ∃ a s', m s = .ok a s' ∧ Q a s'
section
variable {α β : Type} {s : S}
theorem wp_mono {m : M α} {Q Q' : α → S → Prop} (h : Wp m s Q) (k : ∀ a s', Q a s' → Q' a s') : Wp m s Q' := by
  obtain ⟨a, s', e, q⟩ := h
  exact ⟨a, s', e, k a s' q⟩
theorem wp_bnd {m : M α} {f : α → M β} {Q : β → S → Prop} (h : Wp m s fun a s' => Wp (f a) s' Q) : Wp (bnd m f) s Q := by
  obtain ⟨a, s', e, b, s2, e2, q⟩ := h
  refine ⟨b, s2, ?_, q⟩
  unfold bnd
  rw [e]
  exact e2
theorem wp_ret {a : α} {Q : α → S → Prop} (h : Q a s) : Wp (ret a) s Q := ⟨a, s, rfl, h⟩
variable {Q : R → S → Prop}
theorem wp_var {i : Nat} {d : D} (h : s.g[i]? = some (some (.fz d))) (q : Q (.fz d) s) : Wp (fVar i) s Q := ⟨_, s, by unfold fVar; rw [h], q⟩
theorem wp_varO {i k : Nat} (h : s.g[i]? = some (some (.own k))) (q : Q (.own k) s) : Wp (fVar i) s Q := ⟨_, s, by unfold fVar; rw [h], q⟩
theorem wp_c {d : D} (q : Q (.fz d) s) : Wp (fC d) s Q := ⟨_, s, rfl, q⟩
theorem wp_pk {op : List D → Option R} {rs : List R} {ds : List D} {r : R} (h : peeks rs s = some ds) (e : op ds = some r) (q : Q r s) : Wp (pkN op rs) s Q := ⟨r, s, by unfold pkN; rw [h]; dsimp only; rw [e], q⟩
theorem wp_op2 {op : D → D → Option R} {a b : M R} (h : Wp a s fun x s1 => Wp b s1 fun y s2 => ∃ d e r, peek x s2 = some d ∧ peek y s2 = some e ∧ op d e = some r ∧ Q r s2) : Wp (fOp2 op a b) s Q := by
  refine wp_bnd (wp_mono h fun x s1 h => wp_bnd (wp_mono h fun y s2 ⟨d, e, r, h1, h2, h3, q⟩ => wp_pk (ds := [d, e]) ?_ h3 q))
  show (match peek x s2, peeks [y] s2 with
    | some d, some ds => some (d :: ds)
    | _, _ => none) = _
  rw [h1]
  show (match some d, (match peek y s2, some [] with
    | some d, some ds => some (d :: ds)
    | _, _ => none) with
    | some d, some ds => some (d :: ds)
    | _, _ => none) = _
  rw [h2]
theorem wp_op1 {op : D → Option R} {a : M R} (h : Wp a s fun x s1 => ∃ d r, peek x s1 = some d ∧ op d = some r ∧ Q r s1) : Wp (fOp1 op a) s Q := by
  refine wp_bnd (wp_mono h fun x s1 ⟨d, r, h1, h3, q⟩ => wp_pk (ds := [d]) ?_ h3 q)
  show (match peek x s1, some [] with
    | some d, some ds => some (d :: ds)
    | _, _ => none) = _
  rw [h1]
theorem wp_fz {m : M R} (h : Wp m s fun r s1 => ∃ d s2, frz r s1 = .ok d s2 ∧ Q (.fz d) s2) : Wp (fFz m) s Q := wp_bnd (wp_mono h fun r s1 ⟨d, s2, e, q⟩ => wp_bnd ⟨d, s2, e, wp_ret q⟩)
theorem wp_nil {Q : List R → S → Prop} (q : Q [] s) : Wp fNil s Q := wp_ret q
theorem wp_cons {m : M R} {ms : M (List R)} {Q : List R → S → Prop} (h : Wp m s fun r s1 => Wp ms s1 fun rs s2 => Q (r :: rs) s2) : Wp (fCons m ms) s Q := wp_bnd (wp_mono h fun r s1 h => wp_bnd (wp_mono h fun rs s2 h => wp_ret h))
theorem wp_call {op : List D → Option R} {ma : M (List R)} (h : Wp ma s fun rs s1 => ∃ ds r, peeks rs s1 = some ds ∧ op ds = some r ∧ Q r s1) : Wp (fCall op ma) s Q := wp_bnd (wp_mono h fun rs s1 ⟨ds, r, h1, h2, q⟩ => wp_pk h1 h2 q)
theorem wp_mth {p : D → Bool} {op : List D → Option R} {mo : M R} {ma : M (List R)} (h : Wp mo s fun r s1 => ∃ d, peek r s1 = some d ∧ p d = true ∧ Wp ma s1 fun rs s2 => ∃ ds r', peeks (r :: rs) s2 = some ds ∧ op ds = some r' ∧ Q r' s2) : Wp (fMth p op mo ma) s Q :=
  wp_bnd (wp_mono h fun r s1 ⟨d, h1, h2, h3⟩ => wp_bnd ⟨(), s1, by unfold chkD; rw [h1]; exact if_pos h2, wp_bnd (wp_mono h3 fun rs s2 ⟨ds, r', h4, h5, q⟩ => wp_pk h4 h5 q)⟩)
theorem wp_tup {ma : M (List R)} (h : Wp ma s fun rs s1 => ∃ ds, allFz rs = some ds ∧ ds.length ≤ SZ ∧ Q (.fz (.tup ds)) s1) : Wp (fTup ma) s Q := wp_bnd (wp_mono h fun rs s1 ⟨ds, h1, h2, q⟩ => ⟨_, s1, by rw [h1]; exact if_pos h2, q⟩)
theorem wp_lst {ma : M (List R)} (h : Wp ma s fun rs s1 => ∃ ds, allFz rs = some ds ∧ ds.length ≤ SZ ∧ Q (.nw (.fl ds)) s1) : Wp (fLst ma) s Q := wp_bnd (wp_mono h fun rs s1 ⟨ds, h1, h2, q⟩ => ⟨_, s1, by rw [h1]; exact if_pos h2, q⟩)
theorem wp_dic0 (q : Q (.nw (.fd [])) s) : Wp fDic0 s Q := wp_ret q
theorem wp_test {m : M R} {Q : Bool → S → Prop} (h : Wp m s fun r s1 => ∃ b, r = .fz (.bl b) ∧ Q b s1) : Wp (fTest m) s Q := wp_bnd (wp_mono h fun r s1 ⟨b, e, q⟩ => ⟨b, s1, by rw [e], q⟩)
theorem wp_and {a b : M Bool} {Q : Bool → S → Prop} (h : Wp a s fun x s1 => (x = true → Wp b s1 Q) ∧ (x = false → Q false s1)) : Wp (fAnd a b) s Q := wp_bnd (wp_mono h fun x s1 ⟨h1, h2⟩ => by
  cases x with
  | true => exact h1 rfl
  | false => exact wp_ret (h2 rfl))
theorem wp_or {a b : M Bool} {Q : Bool → S → Prop} (h : Wp a s fun x s1 => (x = false → Wp b s1 Q) ∧ (x = true → Q true s1)) : Wp (fOr a b) s Q := wp_bnd (wp_mono h fun x s1 ⟨h1, h2⟩ => by
  cases x with
  | true => exact wp_ret (h2 rfl)
  | false => exact h1 rfl)
theorem wp_not {a : M Bool} {Q : Bool → S → Prop} (h : Wp a s fun x s1 => Q (!x) s1) : Wp (fNot a) s Q := wp_bnd (wp_mono h fun x s1 q => wp_ret q)
theorem wp_andV {a b : M R} (h : Wp (fTest a) s fun x s1 => (x = true → Wp b s1 Q) ∧ (x = false → Q (.fz (.bl false)) s1)) : Wp (fAndV a b) s Q := wp_bnd (wp_mono h fun x s1 ⟨h1, h2⟩ => by
  cases x with
  | true => exact h1 rfl
  | false => exact wp_ret (h2 rfl))
theorem wp_orV {a b : M R} (h : Wp (fTest a) s fun x s1 => (x = false → Wp b s1 Q) ∧ (x = true → Q (.fz (.bl true)) s1)) : Wp (fOrV a b) s Q := wp_bnd (wp_mono h fun x s1 ⟨h1, h2⟩ => by
  cases x with
  | true => exact wp_ret (h2 rfl)
  | false => exact h1 rfl)
theorem wp_notV {a : M R} (h : Wp (fTest a) s fun x s1 => Q (.fz (.bl (!x))) s1) : Wp (fNotV a) s Q := wp_bnd (wp_mono h fun x s1 q => wp_ret q)
theorem wp_if {γ : Type} {t : M Bool} {a b : M γ} {Q : γ → S → Prop} (h : Wp t s fun x s1 => (x = true → Wp a s1 Q) ∧ (x = false → Wp b s1 Q)) : Wp (fIf t a b) s Q := wp_bnd (wp_mono h fun x s1 ⟨h1, h2⟩ => by
  cases x with
  | true => exact h1 rfl
  | false => exact h2 rfl)
theorem wp_noP {Q : Option Int → S → Prop} (q : Q none s) : Wp fNoP s Q := wp_ret q
theorem wp_part {m : M R} {Q : Option Int → S → Prop} (h : Wp m s fun r s1 => ∃ i, r = .fz (.int i) ∧ Q (some i) s1) : Wp (fPart m) s Q := wp_bnd (wp_mono h fun r s1 ⟨i, e, q⟩ => ⟨some i, s1, by rw [e], q⟩)
theorem wp_sl {m : M R} {lo hi : M (Option Int)} (h : Wp m s fun x s1 => Wp lo s1 fun l s2 => Wp hi s2 fun u s3 => ∃ d r, peek x s3 = some d ∧ slD d l u = some r ∧ Q r s3) : Wp (fSl m lo hi) s Q :=
  wp_bnd (wp_mono h fun x s1 h => wp_bnd (wp_mono h fun l s2 h => wp_bnd (wp_mono h fun u s3 ⟨d, r, h1, h2, q⟩ => wp_pk (ds := [d]) (by
    show (match peek x s3, some [] with
      | some d, some ds => some (d :: ds)
      | _, _ => none) = _
    rw [h1]) h2 q)))
theorem wp_chain {op op' : D → D → Option R} {ma mb mc : M R} (h : Wp ma s fun x s1 => Wp mb s1 fun y s2 => ∃ d e b, peek x s2 = some d ∧ peek y s2 = some e ∧ op d e = some (.fz (.bl b)) ∧ (b = false → Q (.fz (.bl false)) s2) ∧
    (b = true → Wp mc s2 fun z s3 => ∃ d' e' f r, peek x s3 = some d' ∧ peek y s3 = some e' ∧ peek z s3 = some f ∧ op' e' f = some r ∧ Q r s3)) : Wp (fChain op op' ma mb mc) s Q :=
  wp_bnd (wp_mono h fun x s1 h => wp_bnd (wp_mono h fun y s2 ⟨d, e, b, h1, h2, h3, h4, h5⟩ => wp_bnd ⟨b, s2, by
      unfold chk2 peeks peeks peeks
      rw [h1, h2]
      dsimp only
      rw [h3], by
    cases b with
    | false => exact wp_ret (h4 rfl)
    | true =>
      refine wp_bnd (wp_mono (h5 rfl) fun z s3 ⟨d', e', f, r, g1, g2, g3, g4, q⟩ => wp_pk (ds := [d', e', f]) ?_ g4 q)
      unfold peeks peeks peeks peeks
      rw [g1, g2, g3]⟩))
theorem wp_callN {g : FnS} {nb np : Nat} {ma : M (List R)} (h : Wp ma s fun rs s1 => ∃ ws r o', rs.length = np ∧ toWs (min nb s1.o.length) rs = some ws ∧ rlO (min nb s1.o.length) (s1.o.take nb) = true ∧ g ws (padO nb s1.o) = .ret r o' ∧ rOk r = true ∧ rlO (min nb s1.o.length) o' = true ∧ o'.length = nb ∧ Q r ⟨s1.g, backO nb s1.o o'⟩) :
    Wp (fCallN g nb np ma) s Q := wp_bnd (wp_mono h fun rs s1 ⟨ws, r, o', h1, h2, h3, h4, h5, h6, h7, q⟩ => ⟨r, _, by
  show (if rs.length = np then callS g nb rs else stk) s1 = _
  rw [if_pos h1]
  unfold callS
  rw [h2]
  dsimp only
  rw [if_pos h3, h4]
  dsimp only
  rw [if_pos ⟨h5, h6, h7⟩], q⟩)
/-! statements -/
variable {P : Fl → S → Prop}
theorem ws_seq {a b : M Fl} (h : Wp a s fun f s1 => (f = .nx → Wp b s1 P) ∧ (f ≠ .nx → P f s1)) : Wp (fSeq a b) s P := by
  obtain ⟨f, s1, e, h1, h2⟩ := h
  cases f with
  | nx =>
    obtain ⟨f2, s2, e2, q⟩ := h1 rfl
    exact ⟨f2, s2, by unfold fSeq; rw [e]; exact e2, q⟩
  | rt r => exact ⟨_, s1, by unfold fSeq; rw [e], h2 (by nofun)⟩
  | brk => exact ⟨_, s1, by unfold fSeq; rw [e], h2 (by nofun)⟩
  | cnt => exact ⟨_, s1, by unfold fSeq; rw [e], h2 (by nofun)⟩
/-- a ends with nx -/
theorem ws_seqN {a b : M Fl} (h : Wp a s fun f s1 => f = .nx ∧ Wp b s1 P) : Wp (fSeq a b) s P := ws_seq (wp_mono h fun f s1 ⟨e, w⟩ => ⟨fun _ => w, fun n => absurd e n⟩)
theorem ws_skip (q : P .nx s) : Wp fSkip s P := wp_ret q
theorem ws_drop {m : M R} (h : Wp m s fun _ s1 => P .nx s1) : Wp (fDrop m) s P := wp_bnd (wp_mono h fun _ s1 q => wp_ret q)
theorem ws_ret {m : M R} (h : Wp m s fun r s1 => P (.rt r) s1) : Wp (fRet m) s P := wp_bnd (wp_mono h fun _ s1 q => wp_ret q)
theorem ws_set {i : Nat} {m : M R} (h : Wp m s fun r s1 => ∃ d, r = .fz d ∧ P .nx (setW i (.fz d) s1)) : Wp (fSet i m) s P := wp_bnd (wp_mono h fun r s1 ⟨d, e, q⟩ => ⟨_, _, by rw [e], q⟩)
theorem ws_own {b i k : Nat} {m : M R} (h : Wp m s fun r s1 => ∃ n s2, r = .nw n ∧ clr k s1 = some s2 ∧ (b ≤ k ∧ noRef k s2 = true ∧ nrN k n = true) ∧ P .nx ⟨s2.g.set i (some (.own k)), s2.o.set k (some n)⟩) : Wp (fSetOwn b i k m) s P :=
  wp_bnd (wp_mono h fun r s1 ⟨n, s2, e, e2, hh, q⟩ => ⟨_, _, by rw [e]; dsimp only; rw [e2]; dsimp only; rw [if_pos hh], q⟩)
theorem wp_app {mo me : M R} (h : Wp mo s fun r s1 => ∃ k ds, r = .own k ∧ s1.o[k]? = some (some (.fl ds)) ∧ Wp me s1 fun x s2 => ∃ d ds2, x = .fz d ∧ s2.o[k]? = some (some (.fl ds2)) ∧ ds2.length < SZ ∧ Q (.fz .non) ⟨s2.g, s2.o.set k (some (.fl (ds2 ++ [d])))⟩) : Wp (fApp mo me) s Q :=
  wp_bnd (wp_mono h fun r s1 ⟨k, ds, e, e1, h⟩ => wp_bnd ⟨(), s1, by subst e; unfold isFl; dsimp only; rw [e1], wp_bnd (wp_mono h fun x s2 ⟨d, ds2, e2, e3, hz, q⟩ => ⟨_, _, by subst e; subst e2; unfold apTo; dsimp only; rw [e3]; dsimp only; rw [if_pos hz], q⟩)⟩)
theorem ws_aug {f : Int → Int → Int} {i : Nat} {m : M R} (a : Int) (e : s.g[i]? = some (some (.fz (.int a)))) (h : Wp m s fun r s1 => ∃ b, r = .fz (.int b) ∧ P .nx (setW i (.fz (.int (f a b))) s1)) : Wp (fAug f i m) s P := by
  obtain ⟨r, s1, e1, b, rfl, q⟩ := h
  refine ⟨_, _, ?_, q⟩
  unfold fAug
  rw [e]
  dsimp only
  unfold bnd
  rw [e1]
  rfl
theorem ws_par {i j : Nat} {ma : M (List R)} (h : Wp ma s fun rs s1 => ∃ d e, allFz rs = some [d, e] ∧ P .nx (setW j (.fz e) (setW i (.fz d) s1))) : Wp (fPar i j ma) s P := wp_bnd (wp_mono h fun rs s1 ⟨d, e, h1, q⟩ => ⟨_, _, by unfold parS; rw [h1], q⟩)
theorem ws_par3 {i j l : Nat} {ma : M (List R)} (h : Wp ma s fun rs s1 => ∃ d e f, allFz rs = some [d, e, f] ∧ P .nx (setW l (.fz f) (setW j (.fz e) (setW i (.fz d) s1)))) : Wp (fPar3 i j l ma) s P := wp_bnd (wp_mono h fun rs s1 ⟨d, e, f, h1, q⟩ => ⟨_, _, by unfold parS3; rw [h1], q⟩)
theorem ws_setT {t : Tgt} {m : M R} (h : Wp m s fun r s1 => ∃ d s2, r = .fz d ∧ t d s1 = some s2 ∧ P .nx s2) : Wp (fSetT t m) s P := wp_bnd (wp_mono h fun r s1 ⟨d, s2, e, e2, q⟩ => ⟨_, _, by subst e; unfold setTS; dsimp only; rw [e2], q⟩)
theorem ws_dput {md mk mv : M R} (h : Wp mv s fun v s1 => Wp md s1 fun r s2 => Wp mk s2 fun k s3 => ∃ vd j kd kvs, v = .fz vd ∧ r = .own j ∧ k = .fz kd ∧ s3.o[j]? = some (some (.fd kvs)) ∧ isKey kd = true ∧ kvs.length < SZ ∧ P .nx ⟨s3.g, s3.o.set j (some (.fd (putD kvs kd vd)))⟩) : Wp (fDPut md mk mv) s P :=
  wp_bnd (wp_mono h fun v s1 h => wp_bnd (wp_mono h fun r s2 h => wp_bnd (wp_mono h fun k s3 ⟨vd, j, kd, kvs, e1, e2, e3, e4, e5, e6, q⟩ => ⟨_, _, by subst e1 e2 e3; unfold dputS; dsimp only; rw [e4]; dsimp only; rw [if_pos ⟨e5, e6⟩], q⟩)))
/-! loops -/
theorem ws_while {t : M Bool} {b : M Fl} (I : Nat → S → Prop) (n0 n : Nat) (h0 : I n0 s) (hn : n0 < n)
    (hs : ∀ k s, I k s → Wp t s fun x s1 => (x = false → P .nx s1) ∧ (x = true → Wp b s1 fun f s2 => (f = .nx ∨ f = .cnt → ∃ k', k' < k ∧ I k' s2) ∧ (f = .brk → P .nx s2) ∧ ∀ r, f = .rt r → P (.rt r) s2)) : Wp (fWhile n t b) s P := by
  unfold fWhile
  induction n generalizing n0 s with
  | zero => omega
  | succ n ih =>
    refine wp_bnd (wp_mono (hs n0 s h0) fun x s1 ⟨h1, h2⟩ => ?_)
    cases x with
    | false => exact wp_ret (h1 rfl)
    | true =>
      obtain ⟨f, s2, e, g1, g2, g3⟩ := h2 rfl
      have go : ∀ f', f = f' → (f' = .nx ∨ f' = .cnt) → ∃ a s', fWhileN t b n s2 = .ok a s' ∧ P a s' := fun f' e hf => by
        subst e
        obtain ⟨k', hk, hI⟩ := g1 hf
        exact ih k' hI (by omega)
      cases f with
      | nx =>
        obtain ⟨a, s', e3, q⟩ := go .nx rfl (.inl rfl)
        exact ⟨a, s', by rw [if_pos rfl, e]; exact e3, q⟩
      | cnt =>
        obtain ⟨a, s', e3, q⟩ := go .cnt rfl (.inr rfl)
        exact ⟨a, s', by rw [if_pos rfl, e]; exact e3, q⟩
      | brk => exact ⟨_, _, by rw [if_pos rfl, e], g2 rfl⟩
      | rt r => exact ⟨_, _, by rw [if_pos rfl, e], g3 r rfl⟩
theorem ws_loop {t : Tgt} {b : M Fl} (I : Nat → S → Prop) : ∀ (ds : List D) (i : Nat) (s : S), I i s → (∀ j d s, ds[j]? = some d → I (i + j) s → ∃ s1, t d s = some s1 ∧ Wp b s1 fun f s2 => (f = .nx ∨ f = .cnt → I (i + j + 1) s2) ∧ (f = .brk → P .nx s2) ∧ ∀ r, f = .rt r → P (.rt r) s2) → (∀ s, I (i + ds.length) s → P .nx s) → Wp (fLoop t b ds) s P
  | [], i, s, h0, _, hd => ⟨.nx, s, rfl, hd s h0⟩
  | d :: ds, i, s, h0, hs, hd => by
    obtain ⟨s1, e1, f, s2, e2, g1, g2, g3⟩ := hs 0 d s rfl h0
    have rest : (f = .nx ∨ f = .cnt) → Wp (fLoop t b ds) s2 P := fun hf => ws_loop I ds (i + 1) s2 (g1 hf) (fun j d s hj hI => by
      have z := hs (j + 1) d s (by simpa using hj) (by rw [show i + (j + 1) = i + 1 + j by omega]; exact hI)
      rw [show i + (j + 1) + 1 = i + 1 + j + 1 by omega] at z
      exact z) fun s hI => hd s (by rw [List.length_cons, show i + (ds.length + 1) = i + 1 + ds.length by omega]; exact hI)
    cases f with
    | nx =>
      obtain ⟨a, s', e3, q⟩ := rest (.inl rfl)
      exact ⟨a, s', by unfold fLoop; rw [e1]; dsimp only; rw [e2]; exact e3, q⟩
    | cnt =>
      obtain ⟨a, s', e3, q⟩ := rest (.inr rfl)
      exact ⟨a, s', by unfold fLoop; rw [e1]; dsimp only; rw [e2]; exact e3, q⟩
    | brk => exact ⟨_, _, by unfold fLoop; rw [e1]; dsimp only; rw [e2], g2 rfl⟩
    | rt r => exact ⟨_, _, by unfold fLoop; rw [e1]; dsimp only; rw [e2], g3 r rfl⟩
theorem ws_for {m : M (List D)} {t : Tgt} {b : M Fl} (h : Wp m s fun ds s1 => Wp (fLoop t b ds) s1 P) : Wp (fFor m t b) s P := wp_bnd h
theorem wp_it {f : D → Option (List D)} {m : M R} {Q : List D → S → Prop} (h : Wp m s fun r s1 => ∃ d s2 ds, frz r s1 = .ok d s2 ∧ f d = some ds ∧ Q ds s2) : Wp (fIt f m) s Q := wp_bnd (wp_mono h fun r s1 ⟨d, s2, ds, e, e2, q⟩ => wp_bnd ⟨d, s2, e, ds, s2, by unfold ofO; rw [e2], q⟩)
theorem wp_itA {f : List D → Option (List D)} {m : M (List R)} {Q : List D → S → Prop} (h : Wp m s fun rs s1 => ∃ ds es, allFz rs = some ds ∧ f ds = some es ∧ Q es s1) : Wp (fItA f m) s Q := wp_bnd (wp_mono h fun rs s1 ⟨ds, es, e, e2, q⟩ => ⟨es, s1, by rw [e]; dsimp only; unfold ofO; rw [e2], q⟩)
theorem lcGo_pure {t : Tgt} {tt : M Bool} {te : M R} {own : List Nat} (p : D → Bool) (f : D → D) (s0 : S) : ∀ (ds acc : List D) (s : S), wipeS s own = s0 →
    (∀ d, d ∈ ds → ∀ s, wipeS s own = s0 → ∃ s2, t d s0 = some s2 ∧ Wp tt s2 (fun b s3 => b = p d ∧ wipeS s3 own = s0 ∧ (b = true → Wp te s3 fun r s4 => r = .fz (f d) ∧ wipeS s4 own = s0))) → acc.length + ds.length ≤ SZ →
    ∃ s', lcGo t tt te own ds acc s = .ok (acc ++ (ds.filter p).map f) s' ∧ wipeS s' own = s0
  | [], acc, s, h0, _, _ => ⟨s, by simp [lcGo, ret], h0⟩
  | d :: ds, acc, s, h0, hs, hz => by
    obtain ⟨s2, e1, b, s3, e2, rfl, h3, h4⟩ := hs d List.mem_cons_self s h0
    rw [List.length_cons] at hz
    cases hp : p d with
    | false =>
      obtain ⟨s', e, q⟩ := lcGo_pure p f s0 ds acc s3 h3 (fun d' hd s hw => hs d' (List.mem_cons_of_mem _ hd) s hw) (by omega)
      refine ⟨s', ?_, q⟩
      unfold lcGo
      rw [h0, e1]
      dsimp only
      rw [e2, hp]
      dsimp only
      rw [e, List.filter_cons_of_neg (by rw [hp]; decide)]
    | true =>
      obtain ⟨r, s4, e4, rfl, q4⟩ := h4 hp
      obtain ⟨s', e, q⟩ := lcGo_pure p f s0 ds (acc ++ [f d]) s4 q4 (fun d' hd s hw => hs d' (List.mem_cons_of_mem _ hd) s hw) (by simp; omega)
      refine ⟨s', ?_, q⟩
      unfold lcGo
      rw [h0, e1]
      dsimp only
      rw [e2, hp]
      dsimp only
      rw [e4]
      dsimp only
      rw [if_pos (by omega), e, List.filter_cons_of_pos hp]
      simp
/-- a comprehension whose test and item change no object -/
theorem wp_lc {m : M (List D)} {t : Tgt} {tt : M Bool} {te : M R} {own : List Nat} (p : D → Bool) (f : D → D) (h : Wp m s fun ds s1 => ds.length ≤ SZ ∧
    (∀ d, d ∈ ds → ∃ s2, t d (wipeS s1 own) = some s2 ∧ Wp tt s2 (fun b s3 => b = p d ∧ wipeS s3 own = wipeS s1 own ∧ (b = true → Wp te s3 fun r s4 => r = .fz (f d) ∧ wipeS s4 own = wipeS s1 own))) ∧
    ∀ s', wipeS s' own = wipeS s1 own → Q (.nw (.fl ((ds.filter p).map f))) (resS s1 s' own)) : Wp (fLc m t tt te own) s Q :=
  wp_bnd (wp_mono h fun ds s1 ⟨hz, hs, q⟩ => by
    obtain ⟨s', e, w⟩ := lcGo_pure p f (wipeS s1 own) ds [] s1 rfl (fun d hd s hw => hs d hd) (by simpa using hz)
    exact ⟨_, _, by dsimp only; rw [e]; rfl, q s' w⟩)
theorem wipe1_res {s1 s' : S} {i : Nat} (h : wipeS s' [i] = wipeS s1 [i]) : resS s1 s' [i] = s1 := by
  obtain ⟨g, o⟩ := s1
  obtain ⟨g', o'⟩ := s'
  have h : (⟨g'.set i none, o'⟩ : S) = ⟨g.set i none, o⟩ := h
  injection h with h1 h2
  subst h2
  show (⟨g'.set i ((g[i]?).join), o'⟩ : S) = ⟨g, o'⟩
  congr 1
  have e : g'.set i ((g[i]?).join) = (g'.set i none).set i ((g[i]?).join) := by rw [List.set_set]
  rw [e, h1, List.set_set]
  by_cases hl : i < g.length
  · rw [List.getElem?_eq_getElem hl]
    show g.set i (Option.join (some g[i])) = g
    have : Option.join (some g[i]) = g[i] := rfl
    rw [this, List.set_getElem_self]
  · rw [List.set_eq_of_length_le (by omega)]
/-- one name, nothing is changed -/
theorem wp_lc1 {m : M (List D)} {t : Tgt} {tt : M Bool} {te : M R} {i : Nat} (p : D → Bool) (f : D → D) (h : Wp m s fun ds s1 => ds.length ≤ SZ ∧
    (∀ d, d ∈ ds → ∃ s2, t d (wipeS s1 [i]) = some s2 ∧ Wp tt s2 (fun b s3 => b = p d ∧ wipeS s3 [i] = wipeS s1 [i] ∧ (b = true → Wp te s3 fun r s4 => r = .fz (f d) ∧ wipeS s4 [i] = wipeS s1 [i]))) ∧
    Q (.nw (.fl ((ds.filter p).map f))) s1) : Wp (fLc m t tt te [i]) s Q := wp_lc p f (wp_mono h fun ds s1 ⟨h1, h2, h3⟩ => ⟨h1, h2, fun s' e => by rw [wipe1_res e]; exact h3⟩)
/-! a def -/
theorem run_of {n nb m : Nat} {body : M Fl} {ws : List W} {o : List (Option Node)} {C : R → List (Option Node) → Prop} (h : Wp body ⟨ws.map some ++ List.replicate (n - ws.length) none, o ++ List.replicate m none⟩ fun f s => ∃ r o', leave nb (.ok f s) = .ret r o' ∧ C r o') :
    ∃ r o', runF n nb m body ws o = .ret r o' ∧ C r o' := by
  obtain ⟨f, s, e, r, o', e2, c⟩ := h
  refine ⟨r, o', ?_, c⟩
  unfold runF
  rw [e]
  exact e2
end
end Sx

set_option Elab.async false
set_option linter.all false
set_option maxRecDepth 100000
/-! Sx, part X: plain runs that may end by an exception. -/
namespace Sx
def Wx {α : Type} (m : M α) (s : S) (Q : α → S → Prop) (E : Nat → List D → S → Prop) : Prop := (∃ a s', m s = .ok a s' ∧ Q a s') ∨ ∃ c fs s', m s = .err c fs s' ∧ E c fs s'
section
variable {α β : Type} {s : S} {E : Nat → List D → S → Prop}
theorem wx_of {m : M α} {Q : α → S → Prop} (h : Wp m s Q) : Wx m s Q E := .inl h
theorem wx_mono {m : M α} {Q Q' : α → S → Prop} (h : Wx m s Q E) (k : ∀ a s', Q a s' → Q' a s') : Wx m s Q' E := by
  rcases h with ⟨a, s', e, q⟩ | h
  · exact .inl ⟨a, s', e, k a s' q⟩
  · exact .inr h
theorem wx_bnd {m : M α} {f : α → M β} {Q : β → S → Prop} (h : Wx m s (fun a s' => Wx (f a) s' Q E) E) : Wx (bnd m f) s Q E := by
  rcases h with ⟨a, s', e, h⟩ | ⟨c, fs, s', e, q⟩
  · rcases h with ⟨b, s2, e2, q⟩ | ⟨c, fs, s2, e2, q⟩
    · exact .inl ⟨b, s2, by unfold bnd; rw [e]; exact e2, q⟩
    · exact .inr ⟨c, fs, s2, by unfold bnd; rw [e]; exact e2, q⟩
  · exact .inr ⟨c, fs, s', by unfold bnd; rw [e], q⟩
theorem wx_if {γ : Type} {t : M Bool} {a b : M γ} {Q : γ → S → Prop} (h : Wp t s fun x s1 => (x = true → Wx a s1 Q E) ∧ (x = false → Wx b s1 Q E)) : Wx (fIf t a b) s Q E := wx_bnd (wx_of (wp_mono h fun x s1 ⟨h1, h2⟩ => by
  cases x with
  | true => exact h1 rfl
  | false => exact h2 rfl))
variable {P : Fl → S → Prop}
theorem wx_seq {a b : M Fl} (h : Wx a s (fun f s1 => (f = .nx → Wx b s1 P E) ∧ (f ≠ .nx → P f s1)) E) : Wx (fSeq a b) s P E := by
  rcases h with ⟨f, s1, e, h1, h2⟩ | ⟨c, fs, s', e, q⟩
  · cases f with
    | nx =>
      rcases h1 rfl with ⟨f2, s2, e2, q⟩ | ⟨c, fs, s2, e2, q⟩
      · exact .inl ⟨f2, s2, by unfold fSeq; rw [e]; exact e2, q⟩
      · exact .inr ⟨c, fs, s2, by unfold fSeq; rw [e]; exact e2, q⟩
    | rt r => exact .inl ⟨_, s1, by unfold fSeq; rw [e], h2 (by nofun)⟩
    | brk => exact .inl ⟨_, s1, by unfold fSeq; rw [e], h2 (by nofun)⟩
    | cnt => exact .inl ⟨_, s1, by unfold fSeq; rw [e], h2 (by nofun)⟩
  · exact .inr ⟨c, fs, s', by unfold fSeq; rw [e], q⟩
theorem wx_seqN {a b : M Fl} (h : Wx a s (fun f s1 => f = .nx ∧ Wx b s1 P E) E) : Wx (fSeq a b) s P E := wx_seq (wx_mono h fun f s1 ⟨e, w⟩ => ⟨fun _ => w, fun n => absurd e n⟩)
theorem wx_raise {c : Nat} {m : M R} (h : Wp m s fun r s1 => ∃ d, r = .fz d ∧ E c [d] s1) : Wx (fRaise c m) s P E := by
  obtain ⟨r, s1, e, d, rfl, q⟩ := h
  exact .inr ⟨c, [d], s1, by unfold fRaise bnd; rw [e], q⟩
theorem wx_while {t : M Bool} {b : M Fl} (I : Nat → S → Prop) (n0 n : Nat) (h0 : I n0 s) (hn : n0 < n)
    (hs : ∀ k s, I k s → Wp t s fun x s1 => (x = false → P .nx s1) ∧ (x = true → Wx b s1 (fun f s2 => (f = .nx ∨ f = .cnt → ∃ k', k' < k ∧ I k' s2) ∧ (f = .brk → P .nx s2) ∧ ∀ r, f = .rt r → P (.rt r) s2) E)) : Wx (fWhile n t b) s P E := by
  unfold fWhile
  induction n generalizing n0 s with
  | zero => omega
  | succ n ih =>
    refine wx_bnd (wx_of (wp_mono (hs n0 s h0) fun x s1 ⟨h1, h2⟩ => ?_))
    cases x with
    | false => exact wx_of (wp_ret (h1 rfl))
    | true =>
      rcases h2 rfl with ⟨f, s2, e, g1, g2, g3⟩ | ⟨c, fs, s2, e, q⟩
      · have go : f = .nx ∨ f = .cnt → Wx (fWhileN t b n) s2 P E := fun hf => by
          obtain ⟨k', hk, hI⟩ := g1 hf
          exact ih k' hI (by omega)
        cases f with
        | nx =>
          rcases go (.inl rfl) with ⟨a, s', e3, q⟩ | ⟨c, fs, s', e3, q⟩
          · exact .inl ⟨a, s', by rw [if_pos rfl, e]; exact e3, q⟩
          · exact .inr ⟨c, fs, s', by rw [if_pos rfl, e]; exact e3, q⟩
        | cnt =>
          rcases go (.inr rfl) with ⟨a, s', e3, q⟩ | ⟨c, fs, s', e3, q⟩
          · exact .inl ⟨a, s', by rw [if_pos rfl, e]; exact e3, q⟩
          · exact .inr ⟨c, fs, s', by rw [if_pos rfl, e]; exact e3, q⟩
        | brk => exact .inl ⟨_, _, by rw [if_pos rfl, e], g2 rfl⟩
        | rt r => exact .inl ⟨_, _, by rw [if_pos rfl, e], g3 r rfl⟩
      · exact .inr ⟨c, fs, s2, by rw [if_pos rfl, e], q⟩
theorem wx_loop {t : Tgt} {b : M Fl} (I : Nat → S → Prop) : ∀ (ds : List D) (i : Nat) (s : S), I i s → (∀ j d s, ds[j]? = some d → I (i + j) s → ∃ s1, t d s = some s1 ∧ Wx b s1 (fun f s2 => (f = .nx ∨ f = .cnt → I (i + j + 1) s2) ∧ (f = .brk → P .nx s2) ∧ ∀ r, f = .rt r → P (.rt r) s2) E) → (∀ s, I (i + ds.length) s → P .nx s) → Wx (fLoop t b ds) s P E
  | [], i, s, h0, _, hd => .inl ⟨.nx, s, rfl, hd s h0⟩
  | d :: ds, i, s, h0, hs, hd => by
    obtain ⟨s1, e1, h⟩ := hs 0 d s rfl h0
    rcases h with ⟨f, s2, e2, g1, g2, g3⟩ | ⟨c, fs, s2, e2, q⟩
    · have rest : (f = .nx ∨ f = .cnt) → Wx (fLoop t b ds) s2 P E := fun hf => wx_loop I ds (i + 1) s2 (g1 hf) (fun j d s hj hI => by
        have z := hs (j + 1) d s (by simpa using hj) (by rw [show i + (j + 1) = i + 1 + j by omega]; exact hI)
        rw [show i + (j + 1) + 1 = i + 1 + j + 1 by omega] at z
        exact z) fun s hI => hd s (by rw [List.length_cons, show i + (ds.length + 1) = i + 1 + ds.length by omega]; exact hI)
      cases f with
      | nx =>
        rcases rest (.inl rfl) with ⟨a, s', e3, q⟩ | ⟨c, fs, s', e3, q⟩
        · exact .inl ⟨a, s', by unfold fLoop; rw [e1]; dsimp only; rw [e2]; exact e3, q⟩
        · exact .inr ⟨c, fs, s', by unfold fLoop; rw [e1]; dsimp only; rw [e2]; exact e3, q⟩
      | cnt =>
        rcases rest (.inr rfl) with ⟨a, s', e3, q⟩ | ⟨c, fs, s', e3, q⟩
        · exact .inl ⟨a, s', by unfold fLoop; rw [e1]; dsimp only; rw [e2]; exact e3, q⟩
        · exact .inr ⟨c, fs, s', by unfold fLoop; rw [e1]; dsimp only; rw [e2]; exact e3, q⟩
      | brk => exact .inl ⟨_, _, by unfold fLoop; rw [e1]; dsimp only; rw [e2], g2 rfl⟩
      | rt r => exact .inl ⟨_, _, by unfold fLoop; rw [e1]; dsimp only; rw [e2], g3 r rfl⟩
    · exact .inr ⟨c, fs, s2, by unfold fLoop; rw [e1]; dsimp only; rw [e2], q⟩
theorem wx_for {m : M (List D)} {t : Tgt} {b : M Fl} (h : Wp m s fun ds s1 => Wx (fLoop t b ds) s1 P E) : Wx (fFor m t b) s P E := wx_bnd (wx_of h)
theorem wx_drop {m : M R} (h : Wx m s (fun _ s1 => P .nx s1) E) : Wx (fDrop m) s P E := wx_bnd (wx_mono h fun _ s1 q => wx_of (wp_ret q))
theorem wx_set {i : Nat} {m : M R} (h : Wx m s (fun r s1 => ∃ d, r = .fz d ∧ P .nx (setW i (.fz d) s1)) E) : Wx (fSet i m) s P E := wx_bnd (wx_mono h fun r s1 ⟨d, e, q⟩ => wx_of ⟨_, _, by rw [e], q⟩)
variable {Q : R → S → Prop}
theorem wx_fz {m : M R} (h : Wx m s (fun r s1 => ∃ d s2, frz r s1 = .ok d s2 ∧ Q (.fz d) s2) E) : Wx (fFz m) s Q E := wx_bnd (wx_mono h fun r s1 ⟨d, s2, e, q⟩ => wx_of (wp_bnd ⟨d, s2, e, wp_ret q⟩))
theorem wx_app {mo me : M R} (h : Wp mo s fun r s1 => ∃ k ds, r = .own k ∧ s1.o[k]? = some (some (.fl ds)) ∧ Wx me s1 (fun x s2 => ∃ d ds2, x = .fz d ∧ s2.o[k]? = some (some (.fl ds2)) ∧ ds2.length < SZ ∧ Q (.fz .non) ⟨s2.g, s2.o.set k (some (.fl (ds2 ++ [d])))⟩) E) : Wx (fApp mo me) s Q E :=
  wx_bnd (wx_of (wp_mono h fun r s1 ⟨k, ds, e, e1, h⟩ => wx_bnd (wx_of ⟨(), s1, by subst e; unfold isFl; dsimp only; rw [e1], wx_bnd (wx_mono h fun x s2 ⟨d, ds2, e2, e3, hz, q⟩ => wx_of ⟨_, _, by subst e; subst e2; unfold apTo; dsimp only; rw [e3]; dsimp only; rw [if_pos hz], q⟩)⟩)))
theorem wx_callN {g : FnS} {nb np : Nat} {ma : M (List R)} (h : Wp ma s fun rs s1 => ∃ ws, rs.length = np ∧ toWs (min nb s1.o.length) rs = some ws ∧ rlO (min nb s1.o.length) (s1.o.take nb) = true ∧
    ((∃ r o', g ws (padO nb s1.o) = .ret r o' ∧ rOk r = true ∧ rlO (min nb s1.o.length) o' = true ∧ o'.length = nb ∧ Q r ⟨s1.g, backO nb s1.o o'⟩) ∨ ∃ c fs o', g ws (padO nb s1.o) = .err c fs o' ∧ rlO (min nb s1.o.length) o' = true ∧ o'.length = nb ∧ E c fs ⟨s1.g, backO nb s1.o o'⟩)) :
    Wx (fCallN g nb np ma) s Q E := wx_bnd (wx_of (wp_mono h fun rs s1 ⟨ws, h1, h2, h3, h4⟩ => by
  have e : (if rs.length = np then callS g nb rs else stk) s1 = (match g ws (padO nb s1.o) with
    | .ret r o' => if rOk r = true ∧ rlO (min nb s1.o.length) o' = true ∧ o'.length = nb then Out.ok r ⟨s1.g, backO nb s1.o o'⟩ else .stuck
    | .err c fs o' => if rlO (min nb s1.o.length) o' = true ∧ o'.length = nb then .err c fs ⟨s1.g, backO nb s1.o o'⟩ else .stuck
    | .stuck => .stuck) := by
    rw [if_pos h1]
    unfold callS
    rw [h2]
    dsimp only
    rw [if_pos h3] <;> (cases g ws (padO nb s1.o) <;> rfl)
  rcases h4 with ⟨r, o', h4, h5, h6, h7, q⟩ | ⟨c, fs, o', h4, h6, h7, q⟩
  · refine .inl ⟨r, _, ?_, q⟩
    rw [e, h4]
    dsimp only
    rw [if_pos ⟨h5, h6, h7⟩]
  · refine .inr ⟨c, fs, _, ?_, q⟩
    rw [e, h4]
    dsimp only
    rw [if_pos ⟨h6, h7⟩]))
theorem run_wx {n nb m : Nat} {body : M Fl} {ws : List W} {o : List (Option Node)} {C : R → List (Option Node) → Prop} {CE : Nat → List D → List (Option Node) → Prop} (h : Wx body ⟨ws.map some ++ List.replicate (n - ws.length) none, o ++ List.replicate m none⟩ (fun f s => ∃ r o', leave nb (.ok f s) = .ret r o' ∧ C r o') (fun c fs s => ∃ o', leave nb (.err c fs s) = .err c fs o' ∧ CE c fs o')) :
    (∃ r o', runF n nb m body ws o = .ret r o' ∧ C r o') ∨ ∃ c fs o', runF n nb m body ws o = .err c fs o' ∧ CE c fs o' := by
  rcases h with ⟨f, s, e, r, o', e2, c⟩ | ⟨k, fs, s, e, o', e2, c⟩
  · exact .inl ⟨r, o', by unfold runF; rw [e]; exact e2, c⟩
  · exact .inr ⟨k, fs, o', by unfold runF; rw [e]; exact e2, c⟩
/-- the plain try -/
theorem ws_try {ks : List Nat} {i j : Nat} {body : M Fl} (h : Wx body s P fun k fs s' => k ∈ ks ∧ P .nx ⟨((s'.g.set i none).set j (some (.fz (.exc k fs)))), s'.o⟩) : Wp (fTry ks i j body) s P := by
  rcases h with ⟨f, s', e, q⟩ | ⟨k, fs, s', e, hk, q⟩
  · exact ⟨f, s', by unfold fTry; rw [e], q⟩
  · exact ⟨.nx, _, by unfold fTry; rw [e]; dsimp only; rw [if_pos hk], q⟩
end
end Sx

set_option Elab.async false
set_option linter.all false
set_option maxRecDepth 100000
namespace Sx
namespace K01
open PySem L2
def k_TOLD : D := (.tup [(.str [115, 111, 117, 110, 100]), (.str [114, 117, 108, 101]), (.str [108, 101, 102, 116]), (.str [114, 105, 103, 104, 116]), (.str [111, 110, 99, 101]), (.str [103, 111, 110, 101]), (.str [110, 111, 110, 101]), (.str [97, 110, 121])])
def k_LETTERS : D := (.str [97, 98, 99, 100, 101, 102, 103, 104, 105, 106, 107, 108, 109, 110, 111, 112, 113, 114, 115, 116, 117, 118, 119, 120, 121, 122])
def k_MARKS : D := (.str [62, 47, 95, 35, 123, 125, 91, 93, 43, 45])
def k_MOST_SIGNS : D := (.int 4000)
def k_MOST_LETTERS : D := (.int 8)
def FU : Nat := 16777300
def xks : List Nat := [0]
def xks_spot : List Nat := [0]
/-! word_end: 0 row, 1 at, 2 end -/
def b_word_end : M Fl := (fSeq (fIf (fTest (fOp2 inD (fOp2 ixD (fVar 0) (fVar 1)) (fC k_MARKS))) (fRet (fFz (fOp2 addD (fVar 1) (fC (.int 1))))) fSkip)
    (fSeq (fSet 2 (fVar 1))
    (fSeq (fWhile FU (fAnd (fTest (fOp2 ltD (fVar 2) (fCall (l1 lenD) (fCons (fVar 0) fNil)))) (fTest (fOp2 inD (fOp2 ixD (fVar 0) (fVar 2)) (fC k_LETTERS)))) (fAug (fun i j => i + j) 2 (fC (.int 1))))
    (fRet (fFz (fIf (fTest (fChain ltD leD (fC (.int 0)) (fOp2 subD (fVar 2) (fVar 1)) (fC k_MOST_LETTERS))) (fVar 2) (fOp1 negD (fC (.int 1)))))))))
def g_word_end : FnS := runF 3 0 0 b_word_end
/-! row_words: 0 row, 1 begin, 2 found, 3 at, 4 end -/
def b_row_words : M Fl := (fSeq (fSetOwn 0 2 0 (fLst fNil))
    (fSeq (fSet 3 (fC (.int 0)))
    (fSeq (fWhile FU (fTest (fOp2 ltD (fVar 3) (fCall (l1 lenD) (fCons (fVar 0) fNil)))) (fSeq (fIf (fTest (fOp2 eqOp (fOp2 ixD (fVar 0) (fVar 3)) (fC (.str [32])))) (fSeq (fAug (fun i j => i + j) 3 (fC (.int 1)))
    (ret .cnt)) fSkip)
    (fSeq (fSet 4 (fFz (fCallN g_word_end 0 2 (fCons (fVar 0) (fCons (fVar 3) fNil)))))
    (fSeq (fIf (fTest (fOp2 ltD (fVar 4) (fC (.int 0)))) (fRaise 0 (fFz (fOp2 addD (fVar 1) (fVar 3)))) fSkip)
    (fSeq (fDrop (fApp (fVar 2) (fFz (fSl (fVar 0) (fPart (fVar 3)) (fPart (fVar 4))))))
    (fSet 3 (fVar 4)))))))
    (fRet (fFz (fVar 2))))))
def g_row_words : FnS := runF 5 0 1 b_row_words
/-! text_words: 0 text, 1 found, 2 begin, 3 row -/
def b_text_words : M Fl := (fSeq (fIf (fOr (fNot (fTest (fOp1 (isTyD "str") (fVar 0)))) (fTest (fOp2 gtD (fCall (l1 lenD) (fCons (fVar 0) fNil)) (fC k_MOST_SIGNS)))) (fRaise 0 (fC (.int 0))) fSkip)
    (fSeq (fSetOwn 0 1 0 (fLst fNil))
    (fSeq (fSet 2 (fC (.int 0)))
    (fSeq (fFor (fIt lsD (fMth isStr (l2 splitD) (fVar 0) (fCons (fC (.str [10])) fNil))) (tgN 3) (fSeq (fDrop (fApp (fVar 1) (fFz (fCallN g_row_words 0 2 (fCons (fVar 3) (fCons (fVar 2) fNil))))))
    (fAug (fun i j => i + j) 2 (fFz (fOp2 addD (fCall (l1 lenD) (fCons (fVar 3) fNil)) (fC (.int 1)))))))
    (fRet (fFz (fVar 1)))))))
def g_text_words : FnS := runF 4 0 1 b_text_words
/-! is_sound: 0 word -/
def b_is_sound : M Fl := (fRet (fFz (fAndV (fOp2 eqOp (fCall (l1 lenD) (fCons (fVar 0) fNil)) (fC (.int 1))) (fOp2 inD (fVar 0) (fC k_LETTERS)))))
def g_is_sound : FnS := runF 1 0 0 b_is_sound
/-! is_name: 0 word, 1 sign -/
def b_is_name : M Fl := (fSeq (fIf (fOr (fNot (fTest (fChain leD leD (fC (.int 2)) (fCall (l1 lenD) (fCons (fVar 0) fNil)) (fC k_MOST_LETTERS)))) (fTest (fOp2 inD (fVar 0) (fC k_TOLD)))) (fRet (fC (.bl false))) fSkip)
    (fRet (fFz (fCall (l1 allD) (fCons (fLc (fIt stD (fVar 0)) (tgN 1) fYes (fOp2 inD (fVar 1) (fC k_LETTERS)) [1]) fNil)))))
def g_is_name : FnS := runF 2 0 0 b_is_name
/-! _law_next: 0 _law_state, 1 _law_many, 2 _law_k, 3 _law_cells, 4 _law_cell, 5 _law_number -/
def b__law_next : M Fl := (fSeq (fDPut (fVar 0) (fC (.str [97, 116])) (fFz (fOp2 addD (fOp2 ixD (fVar 0) (fC (.str [97, 116]))) (fC (.int 1)))))
    (fSeq (fSet 2 (fFz (fOp2 ixD (fVar 0) (fC (.str [97, 116])))))
    (fSeq (fSet 3 (fFz (fOp2 ixD (fVar 0) (fC (.str [99, 101, 108, 108, 115])))))
    (fSeq (fSet 4 (fFz (fIf (fTest (fOp2 neOp (fVar 3) (fLst fNil))) (fOp2 ixD (fVar 3) (fOp2 modD (fVar 2) (fCall (l1 lenD) (fCons (fVar 3) fNil)))) (fC (.int 0)))))
    (fSeq (fSet 5 (fFz (fOp2 modD (fOp2 addD (fOp2 addD (fOp2 mulD (fOp2 modD (fVar 4) (fC (.int 2147483629))) (fC (.int 48271))) (fOp2 mulD (fOp2 mulD (fC (.int 69621)) (fVar 2)) (fVar 2))) (fC (.int 104729))) (fC (.int 2147483647)))))
    (fRet (fFz (fOp2 modD (fOp2 fdivD (fOp2 modD (fOp2 mulD (fVar 5) (fOp2 addD (fC (.int 16807)) (fOp2 mulD (fC (.int 2)) (fVar 2)))) (fC (.int 2147483629))) (fC (.int 7))) (fVar 1)))))))))
def g__law_next : FnS := runF 6 1 0 b__law_next
/-! _law_told_words:  -/
def b__law_told_words : M Fl := (fRet (fFz (fLst (fCons (fC (.str [115, 111, 117, 110, 100])) (fCons (fC (.str [114, 117, 108, 101])) (fCons (fC (.str [108, 101, 102, 116])) (fCons (fC (.str [114, 105, 103, 104, 116])) (fCons (fC (.str [111, 110, 99, 101])) (fCons (fC (.str [103, 111, 110, 101])) (fCons (fC (.str [110, 111, 110, 101])) (fCons (fC (.str [97, 110, 121])) fNil)))))))))))
def g__law_told_words : FnS := runF 0 0 0 b__law_told_words
/-! _law_piece: 0 _law_state, 1 _law_letters, 2 _law_kind, 3 _law_first, 4 _law_step, 5 _law_k -/
def b__law_piece : M Fl := (fSeq (fSet 1 (fC (.str [97, 98, 99, 100, 101, 102, 103, 104, 105, 106, 107, 108, 109, 110, 111, 112, 113, 114, 115, 116, 117, 118, 119, 120, 121, 122])))
    (fSeq (fSet 2 (fFz (fCallN g__law_next 1 2 (fCons (fVar 0) (fCons (fC (.int 4)) fNil)))))
    (fSeq (fIf (fTest (fOp2 eqOp (fVar 2) (fC (.int 0)))) (fRet (fFz (fOp2 ixD (fCallN g__law_told_words 0 0 fNil) (fCallN g__law_next 1 2 (fCons (fVar 0) (fCons (fC (.int 8)) fNil)))))) fSkip)
    (fSeq (fIf (fTest (fOp2 eqOp (fVar 2) (fC (.int 1)))) (fRet (fFz (fOp2 ixD (fC (.str [62, 47, 95, 35, 123, 125, 91, 93, 43, 45])) (fCallN g__law_next 1 2 (fCons (fVar 0) (fCons (fC (.int 10)) fNil)))))) fSkip)
    (fSeq (fSetT (tgT [3, 4]) (fTup (fCons (fFz (fCallN g__law_next 1 2 (fCons (fVar 0) (fCons (fC (.int 26)) fNil)))) (fCons (fFz (fOp2 addD (fC (.int 1)) (fCallN g__law_next 1 2 (fCons (fVar 0) (fCons (fC (.int 25)) fNil))))) fNil))))
    (fRet (fFz (fMth isStr (l2 joinD) (fC (.str [])) (fCons (fLc (fItA rg1D (fCons (fFz (fOp2 ixD (fLst (fCons (fC (.int 1)) (fCons (fC (.int 1)) (fCons (fC (.int 2)) (fCons (fC (.int 5)) (fCons (fC (.int 8)) fNil)))))) (fCallN g__law_next 1 2 (fCons (fVar 0) (fCons (fC (.int 5)) fNil))))) fNil)) (tgN 5) fYes (fFz (fOp2 ixD (fVar 1) (fOp2 modD (fOp2 addD (fVar 3) (fOp2 mulD (fVar 5) (fVar 4))) (fC (.int 26))))) [5]) fNil)))))))))
def g__law_piece : FnS := runF 6 1 0 b__law_piece
/-! _law_odd: 0 _law_state, 1 _law_some -/
def b__law_odd : M Fl := (fSeq (fSet 1 (fC (.str [33, 34, 36, 38, 39, 40, 41, 42, 44, 46, 58, 59, 60, 61, 63, 64, 65, 66, 67, 68, 69, 70, 71, 72, 73, 74, 75, 76, 77, 78, 79, 80, 81, 82, 83, 84, 85, 86, 87, 88, 89, 90, 92, 94, 96, 124, 126, 48, 49, 50, 51, 52, 53, 54, 55, 56, 57])))
    (fSeq (fIf (fTest (fOp2 gtD (fCallN g__law_next 1 2 (fCons (fVar 0) (fCons (fC (.int 3)) fNil))) (fC (.int 0)))) (fRet (fFz (fOp2 ixD (fVar 1) (fCallN g__law_next 1 2 (fCons (fVar 0) (fCons (fFz (fCall (l1 lenD) (fCons (fVar 1) fNil))) fNil)))))) fSkip)
    (fRet (fFz (fOp2 ixD (fLst (fCons (fC (.str [97, 98, 99, 100, 101, 102, 103, 104, 105])) (fCons (fC (.str [97, 98, 99, 100, 101, 102, 103, 104])) (fCons (fC (.str [97, 98, 99, 100, 101, 102, 103, 104, 105, 106])) (fCons (fC (.str [97, 49])) (fCons (fC (.str [65])) (fCons (fC (.str [97, 98, 32])) (fCons (fC (.str [45, 45])) (fCons (fC (.str [97, 45, 98])) fNil))))))))) (fCallN g__law_next 1 2 (fCons (fVar 0) (fCons (fC (.int 8)) fNil))))))))
def g__law_odd : FnS := runF 2 1 0 b__law_odd
/-! _law_text: 0 _law_state, 1 _law_text_here, 2 _law_k, 3 _law_at -/
def b__law_text : M Fl := (fSeq (fSet 1 (fC (.str [])))
    (fSeq (fFor (fItA rg1D (fCons (fFz (fCall (l2 min2D) (fCons (fC (.int 200)) (fCons (fFz (fCall (l1 lenD) (fCons (fOp2 ixD (fVar 0) (fC (.str [99, 101, 108, 108, 115]))) fNil))) fNil)))) fNil)) (tgN 2) (fSet 1 (fFz (fOp2 addD (fOp2 addD (fVar 1) (fCallN g__law_piece 1 1 (fCons (fVar 0) fNil))) (fOp2 ixD (fLst (fCons (fC (.str [32])) (fCons (fC (.str [10])) (fCons (fC (.str [32, 32])) (fCons (fC (.str [32])) (fCons (fC (.str [10, 32])) (fCons (fC (.str [32])) (fCons (fC (.str [32])) (fCons (fC (.str [])) fNil))))))))) (fCallN g__law_next 1 2 (fCons (fVar 0) (fCons (fC (.int 8)) fNil))))))))
    (fSeq (fFor (fItA rg1D (fCons (fFz (fOp2 ixD (fLst (fCons (fC (.int 0)) (fCons (fC (.int 0)) (fCons (fC (.int 1)) (fCons (fC (.int 2)) fNil))))) (fCallN g__law_next 1 2 (fCons (fVar 0) (fCons (fC (.int 4)) fNil))))) fNil)) (tgN 2) (fSeq (fSet 3 (fFz (fCallN g__law_next 1 2 (fCons (fVar 0) (fCons (fFz (fOp2 addD (fCall (l1 lenD) (fCons (fVar 1) fNil)) (fC (.int 1)))) fNil)))))
    (fSet 1 (fFz (fOp2 addD (fOp2 addD (fOp2 addD (fSl (fVar 1) fNoP (fPart (fVar 3))) (fOp2 ixD (fLst (fCons (fC (.str [32])) (fCons (fC (.str [])) fNil))) (fCallN g__law_next 1 2 (fCons (fVar 0) (fCons (fC (.int 2)) fNil))))) (fCallN g__law_odd 1 1 (fCons (fVar 0) fNil))) (fSl (fVar 1) (fPart (fVar 3)) fNoP))))))
    (fSeq (fIf (fTest (fOp2 eqOp (fCallN g__law_next 1 2 (fCons (fVar 0) (fCons (fC (.int 8)) fNil))) (fC (.int 1)))) (fRet (fFz (fSl (fOp2 addD (fOp2 addD (fVar 1) (fC (.str [32]))) (fOp2 mulD (fC (.str [115, 111, 117, 110, 100, 32, 97, 32, 104, 105, 103, 104, 32, 108, 111, 119, 10])) (fC (.int 250)))) fNoP (fPart (fOp2 addD (fC (.int 3998)) (fCallN g__law_next 1 2 (fCons (fVar 0) (fCons (fC (.int 5)) fNil)))))))) fSkip)
    (fRet (fVar 1))))))
def g__law_text : FnS := runF 4 1 0 b__law_text
/-! _law_due: 0 _law_text_here, 1 _law_found, 2 _law_at, 3 _law_end -/
def b__law_due : M Fl := (fSeq (fIf (fTest (fOp2 gtD (fCall (l1 lenD) (fCons (fVar 0) fNil)) (fC (.int 4000)))) (fRet (fC (.int 0))) fSkip)
    (fSeq (fSetOwn 0 1 0 (fLst (fCons (fFz (fLst fNil)) fNil)))
    (fSeq (fSet 2 (fC (.int 0)))
    (fSeq (fWhile FU (fTest (fOp2 ltD (fVar 2) (fCall (l1 lenD) (fCons (fVar 0) fNil)))) (fSeq (fSet 3 (fVar 2))
    (fSeq (fWhile FU (fAnd (fTest (fOp2 ltD (fVar 3) (fCall (l1 lenD) (fCons (fVar 0) fNil)))) (fTest (fOp2 inD (fOp2 ixD (fVar 0) (fVar 3)) (fC (.str [97, 98, 99, 100, 101, 102, 103, 104, 105, 106, 107, 108, 109, 110, 111, 112, 113, 114, 115, 116, 117, 118, 119, 120, 121, 122]))))) (fSet 3 (fFz (fOp2 addD (fVar 3) (fC (.int 1))))))
    (fSeq (fIf (fOr (fTest (fOp2 gtD (fVar 3) (fOp2 addD (fVar 2) (fC (.int 8))))) (fAnd (fTest (fOp2 eqOp (fVar 3) (fVar 2))) (fTest (fOp2 notInD (fOp2 ixD (fVar 0) (fVar 2)) (fC (.str [32, 10, 62, 47, 95, 35, 123, 125, 91, 93, 43, 45])))))) (fRet (fVar 2)) fSkip)
    (fSeq (fIf (fTest (fOp2 eqOp (fOp2 ixD (fVar 0) (fVar 2)) (fC (.str [10])))) (fDrop (fApp (fVar 1) (fFz (fLst fNil)))) (fIf (fTest (fOp2 neOp (fOp2 ixD (fVar 0) (fVar 2)) (fC (.str [32])))) (fSetOwn 0 1 0 (fOp2 addD (fSl (fVar 1) fNoP (fPart (fOp1 negD (fC (.int 1))))) (fLst (fCons (fFz (fOp2 addD (fOp2 ixD (fVar 1) (fOp1 negD (fC (.int 1)))) (fLst (fCons (fFz (fSl (fVar 0) (fPart (fVar 2)) (fPart (fCall (l2 max2D) (fCons (fVar 3) (fCons (fFz (fOp2 addD (fVar 2) (fC (.int 1)))) fNil)))))) fNil)))) fNil)))) fSkip))
    (fSet 2 (fFz (fCall (l2 max2D) (fCons (fVar 3) (fCons (fFz (fOp2 addD (fVar 2) (fC (.int 1)))) fNil))))))))))
    (fRet (fFz (fVar 1)))))))
def g__law_due : FnS := runF 4 0 1 b__law_due
/-! _law_class: 0 _law_e, 1 _law_told, 2 _law_found -/
def b__law_class : M Fl := (fSeq (fSet 1 (fFz (fLst (fCons (fC (.str [66, 97, 100, 83, 105, 103, 110])) (fCons (fC (.str [66, 97, 100, 84, 101, 120, 116])) (fCons (fC (.str [84, 119, 105, 99, 101])) (fCons (fC (.str [76, 97, 99, 107, 105, 110, 103])) (fCons (fC (.str [78, 111, 83, 111, 117, 110, 100])) (fCons (fC (.str [78, 111, 82, 117, 108, 101])) (fCons (fC (.str [66, 97, 100, 87, 111, 114, 100])) (fCons (fC (.str [66, 97, 100, 78, 117, 109, 98, 101, 114])) (fCons (fC (.str [84, 111, 111, 76, 111, 110, 103])) (fCons (fC (.str [84, 111, 111, 77, 97, 110, 121])) fNil)))))))))))))
    (fSeq (fSet 2 (fFz (fLst (fCons (fFz (fOp1 (isXD xks fun j => j == 0) (fVar 0))) (fCons (fFz (fOp1 (isXD xks fun j => j == 1) (fVar 0))) (fCons (fFz (fOp1 (isXD xks fun j => j == 2) (fVar 0))) (fCons (fFz (fOp1 (isXD xks fun j => j == 3) (fVar 0))) fNil)))))))
    (fSeq (fSet 2 (fFz (fOp2 addD (fVar 2) (fLst (fCons (fFz (fOp1 (isXD xks fun j => j == 4) (fVar 0))) (fCons (fFz (fOp1 (isXD xks fun j => j == 5) (fVar 0))) (fCons (fFz (fOp1 (isXD xks fun j => j == 6) (fVar 0))) (fCons (fFz (fOp1 (isXD xks fun j => j == 7) (fVar 0))) fNil))))))))
    (fSeq (fSet 2 (fFz (fOp2 addD (fVar 2) (fLst (fCons (fFz (fOp1 (isXD xks fun j => j == 8) (fVar 0))) (fCons (fFz (fOp1 (isXD xks fun j => j == 9) (fVar 0))) fNil))))))
    (fSeq (fIf (fOr (fTest (fOp2 neOp (fMth isLst (l2 cntD) (fVar 2) (fCons (fC (.bl true)) fNil)) (fC (.int 1)))) (fNot (fTest (fOp1 (isXD xks fun _ => true) (fVar 0))))) (fRet (fC (.str [115, 101, 118, 101, 114, 97, 108]))) fSkip)
    (fRet (fFz (fOp2 ixD (fVar 1) (fMth isLst (l2 idxD) (fVar 2) (fCons (fC (.bl true)) fNil))))))))))
def g__law_class : FnS := runF 3 0 0 b__law_class
/-! _law_said: 0 _law_thing, 1 _law_error, 2 _law_found, 3 _law_e -/
def b__law_said : M Fl := (fSeq (fSet 1 (fC .non))
    (fSeq (fSet 2 (fC .non))
    (fSeq (fTry xks 3 1 (fSet 2 (fFz (fCallN g_text_words 0 1 (fCons (fVar 0) fNil)))))
    (fSeq (fIf (fTest (fOp2 isD (fVar 1) (fC .non))) (fRet (fVar 2)) fSkip)
    (fRet (fFz (fIf (fAnd (fTest (fOp2 eqOp (fCallN g__law_class 0 1 (fCons (fVar 1) fNil)) (fC (.str [66, 97, 100, 83, 105, 103, 110])))) (fNot (fTest (fOp1 (isTyD "bool") (fOp1 (xfD xks_spot) (fVar 1)))))) (fTup (fCons (fFz (fOp1 (xfD xks_spot) (fVar 1))) fNil)) (fC .non))))))))
def g__law_said : FnS := runF 4 0 0 b__law_said
/-! _law_by_hand: 0 _law_state, 1 _law_spot, 2 _law_pair, 3 _law_word -/
def b__law_by_hand : M Fl := (fSeq (fPar3 1 2 3 (fCons (fFz (fCallN g__law_next 1 2 (fCons (fVar 0) (fCons (fC (.int 4001)) fNil)))) (fCons (fTup (fCons (fFz (fCallN g__law_next 1 2 (fCons (fVar 0) (fCons (fC (.int 100)) fNil)))) (fCons (fFz (fCallN g__law_next 1 2 (fCons (fVar 0) (fCons (fC (.int 50)) fNil)))) fNil))) (fCons (fFz (fCallN g__law_piece 1 1 (fCons (fVar 0) fNil))) fNil))))
    (fSeq (fIf (fOr (fTest (fOp2 neOp (fVar 1) (fVar 1))) (fTest (fOp2 neOp (fVar 2) (fVar 2)))) (fRet (fC (.bl false))) fSkip)
    (fRet (fOp2 eqOp (fLst (fCons (fFz (fVar 3)) (fCons (fFz (fVar 3)) (fCons (fFz (fVar 3)) (fCons (fFz (fVar 3)) fNil))))) (fOp2 mulD (fLst (fCons (fVar 3) fNil)) (fC (.int 4)))))))
def g__law_by_hand : FnS := runF 4 1 0 b__law_by_hand
/-! _law_names_right: 0 _law_word, 1 _law_letters, 2 _law_due_here, 3 _law_found, 4 _law_mark, 5 _law_one -/
def b__law_names_right : M Fl := (fSeq (fSet 1 (fOp2 eqOp (fLc (fIt stD (fVar 0)) (tgN 4) (fTest (fOp2 notInD (fVar 4) (fC (.str [97, 98, 99, 100, 101, 102, 103, 104, 105, 106, 107, 108, 109, 110, 111, 112, 113, 114, 115, 116, 117, 118, 119, 120, 121, 122])))) (fVar 4) [4]) (fLst fNil)))
    (fSeq (fSet 2 (fFz (fLst (fCons (fFz (fAndV (fVar 1) (fAndV (fChain ltD ltD (fC (.int 1)) (fCall (l1 lenD) (fCons (fVar 0) fNil)) (fC (.int 9))) (fOp2 notInD (fVar 0) (fCallN g__law_told_words 0 0 fNil))))) (fCons (fFz (fAndV (fVar 1) (fOp2 eqOp (fCall (l1 lenD) (fCons (fVar 0) fNil)) (fC (.int 1))))) fNil)))))
    (fSeq (fSet 3 (fFz (fLst (fCons (fFz (fCallN g_is_name 0 1 (fCons (fVar 0) fNil))) (fCons (fFz (fCallN g_is_sound 0 1 (fCons (fVar 0) fNil))) fNil)))))
    (fRet (fFz (fAndV (fOp2 eqOp (fVar 3) (fVar 2)) (fCall (l1 allD) (fCons (fLc (fIt lsD (fVar 3)) (tgN 5) fYes (fFz (fOp1 (isTyD "bool") (fVar 5))) [5]) fNil))))))))
def g__law_names_right : FnS := runF 6 0 0 b__law_names_right
/-! law: 0 _law_script, 1 _law_state, 2 _law_text_here, 3 _law_due_here, 4 _law_turn, 5 _law_found, 6 _law_row, 7 _law_odd_here, 8 _law_some, 9 _law_word -/
def b_law : M Fl := (fSeq (fSetOwn 0 1 0 (fDisp [[99, 101, 108, 108, 115], [97, 116]] [(fVar 0), (fC (.int 0))]))
    (fSeq (fSet 2 (fFz (fCallN g__law_text 1 1 (fCons (fVar 1) fNil))))
    (fSeq (fSet 3 (fFz (fCallN g__law_due 0 1 (fCons (fVar 2) fNil))))
    (fSeq (fFor (fItA rg1D (fCons (fC (.int 2)) fNil)) (tgN 4) (askS g__law_said 2 5 6 (fTest (fOp1 (isTyD "int") (fVar 3))) (fTest (fOp2 neOp (fVar 5) (fTup (fCons (fVar 3) fNil)))) (fOr (fNot (fTest (fOp1 (isTyD "list") (fVar 5)))) (fOr (fTest (fOp2 neOp (fVar 5) (fVar 3))) (fNot (fTest (fCall (l1 allD) (fCons (fLc (fIt lsD (fVar 5)) (tgN 6) fYes (fFz (fOp1 (isTyD "list") (fVar 6))) [6]) fNil))))))))
    (fSeq (fSet 7 (fFz (fOp2 ixD (fLst (fCons (fC .non) (fCons (fC (.int 5)) (fCons (fC (.bl true)) (fCons (fFz (fLst (fCons (fC (.str [97])) fNil))) (fCons (fTup (fCons (fC (.str [97])) fNil)) (fCons (fFz fDic0) (fCons (fC (.int 0)) (fCons (fFz (fLst (fCons (fVar 2) fNil))) fNil))))))))) (fCallN g__law_next 1 2 (fCons (fVar 1) (fCons (fC (.int 8)) fNil))))))
    (fSeq (fIf (fOr (fTest (fOp2 neOp (fCallN g__law_said 0 1 (fCons (fVar 7) fNil)) (fTup (fCons (fC (.int 0)) fNil)))) (fNot (fTest (fCallN g__law_by_hand 1 1 (fCons (fVar 1) fNil))))) (fRet (fC (.bl false))) fSkip)
    (fSeq (fSet 8 (fFz (fLst (fCons (fFz (fCallN g__law_piece 1 1 (fCons (fVar 1) fNil))) (fCons (fFz (fCallN g__law_odd 1 1 (fCons (fVar 1) fNil))) (fCons (fFz (fOp2 addD (fCallN g__law_piece 1 1 (fCons (fVar 1) fNil)) (fCallN g__law_piece 1 1 (fCons (fVar 1) fNil)))) (fCons (fC (.str [])) (fCons (fFz (fOp2 addD (fCallN g__law_piece 1 1 (fCons (fVar 1) fNil)) (fC (.str [10])))) fNil))))))))
    (fRet (fOp2 eqOp (fLc (fIt lsD (fOp2 addD (fOp2 addD (fVar 8) (fCallN g__law_told_words 0 0 fNil)) (fLst (fCons (fC (.str [97])) (fCons (fFz (fOp2 mulD (fC (.str [122])) (fC (.int 8)))) (fCons (fFz (fOp2 mulD (fC (.str [122])) (fC (.int 9)))) fNil)))))) (tgN 9) (fNot (fTest (fCallN g__law_names_right 0 1 (fCons (fVar 9) fNil)))) (fVar 9) [9]) (fLst fNil))))))))))
def g_law : FnS := runF 10 0 1 b_law
end K01
end Sx

set_option Elab.async false
set_option linter.all false
set_option maxRecDepth 100000
/-! k01, plain: the law's numbers. -/
namespace Sx
namespace K01
open PySem L2
abbrev tCells : Tx := [99, 101, 108, 108, 115]
abbrev tAt : Tx := [97, 116]
abbrev stN (ns : List Int) (k : Int) : Node := .fd [(.str tCells, .scr ns), (.str tAt, .int k)]
theorem atI_nat {α : Type} {xs : List α} {i : Int} (h0 : 0 ≤ i) : atI xs i = xs[i.toNat]? := by
  unfold atI ixN
  rw [if_pos h0]
  by_cases h : i < xs.length
  · rw [if_pos h]; rfl
  · rw [if_neg h]
    show none = _
    rw [List.getElem?_eq_none (by omega)]
theorem atI_mod {ns : List Int} (h : ns ≠ []) (k : Int) : ∃ x, atI ns (k % (ns.length : Int)) = some x := by
  have hl : 0 < ns.length := List.length_pos_iff.mpr h
  have h0 := Int.emod_nonneg k (show (ns.length : Int) ≠ 0 by omega)
  have h1 := Int.emod_lt_of_pos k (show 0 < (ns.length : Int) by omega)
  rw [atI_nat h0]
  exact ⟨_, List.getElem?_eq_getElem (by omega)⟩
theorem modD_ok {i j : Int} (h : 0 < j) : modD (.int i) (.int j) = some (.fz (.int (i % j))) := if_pos h
theorem mulD_l {i j : Int} (h : smallI i) : mulD (.int i) (.int j) = some (.fz (.int (i * j))) := if_pos (.inl h)
theorem mulD_r {i j : Int} (h : smallI j) : mulD (.int i) (.int j) = some (.fz (.int (i * j))) := if_pos (.inr h)
theorem fdivD_ok {i j : Int} (h : 0 < j) (h2 : j < 1073741824) : fdivD (.int i) (.int j) = some (.fz (.int (i / j))) := if_pos ⟨h, h2⟩
theorem neNil {ns : List Int} : neOp (.scr ns) (.lst []) = some (.fz (.bl (decide (ns ≠ [])))) := by
  have f1 : flatDs (ns.map .int) = true := flat_ints ns
  unfold neOp
  rw [if_pos (by simp [cmpOk, unscr, flatD, f1, flatDs, depD, depDs])]
  cases ns with
  | nil => rfl
  | cons n ns => rfl
theorem next_tail (ns : List Int) (k m c : Int) (hk : 0 ≤ k) (hk2 : k < 1000000000) (hm : 0 < m) : Wp (fSeq (fSet 5 (fFz (fOp2 modD (fOp2 addD (fOp2 addD (fOp2 mulD (fOp2 modD (fVar 4) (fC (.int 2147483629))) (fC (.int 48271))) (fOp2 mulD (fOp2 mulD (fC (.int 69621)) (fVar 2)) (fVar 2))) (fC (.int 104729))) (fC (.int 2147483647)))))
    (fRet (fFz (fOp2 modD (fOp2 fdivD (fOp2 modD (fOp2 mulD (fVar 5) (fOp2 addD (fC (.int 16807)) (fOp2 mulD (fC (.int 2)) (fVar 2)))) (fC (.int 2147483629))) (fC (.int 7))) (fVar 1)))))
    ⟨[some (.own 0), some (.fz (.int m)), some (.fz (.int k)), some (.fz (.scr ns)), some (.fz (.int c)), none], [some (stN ns k)]⟩ (fun f s => ∃ r o', leave 1 (.ok f s) = .ret r o' ∧ ∃ v, r = .fz (.int v) ∧ 0 ≤ v ∧ v < m ∧ o' = [some (stN ns k)]) := by
  refine ws_seqN (ws_set (wp_fz (wp_op2 (wp_op2 (wp_op2 (wp_op2 (wp_op2 (wp_var rfl (wp_c ⟨_, _, _, rfl, rfl, modD_ok (by decide), ?_⟩)))))))))
  refine wp_c ⟨_, _, _, rfl, rfl, mulD_r (by decide), ?_⟩
  refine wp_op2 (wp_op2 (wp_c (wp_var rfl ⟨_, _, _, rfl, rfl, mulD_l (by decide), ?_⟩)))
  refine wp_var rfl ⟨_, _, _, rfl, rfl, mulD_r (by unfold smallI; omega), ?_⟩
  refine ⟨_, _, _, rfl, rfl, rfl, ?_⟩
  refine wp_c ⟨_, _, _, rfl, rfl, rfl, ?_⟩
  refine wp_c ⟨_, _, _, rfl, rfl, modD_ok (by decide), ?_⟩
  refine ⟨_, _, rfl, _, rfl, rfl, ?_⟩
  refine ws_ret (wp_fz (wp_op2 (wp_op2 (wp_op2 (wp_op2 (wp_var rfl (wp_op2 (wp_c ?_))))))))
  refine wp_op2 (wp_c (wp_var rfl ⟨_, _, _, rfl, rfl, mulD_l (by decide), ?_⟩))
  refine ⟨_, _, _, rfl, rfl, rfl, ?_⟩
  refine ⟨_, _, _, rfl, rfl, mulD_r (by unfold smallI; omega), ?_⟩
  refine wp_c ⟨_, _, _, rfl, rfl, modD_ok (by decide), ?_⟩
  refine wp_c ⟨_, _, _, rfl, rfl, fdivD_ok (by decide) (by decide), ?_⟩
  refine wp_var rfl ⟨_, _, _, rfl, rfl, modD_ok hm, ?_⟩
  exact ⟨_, _, rfl, _, _, rfl, _, rfl, Int.emod_nonneg _ (by omega), Int.emod_lt_of_pos _ hm, rfl⟩
theorem next_ok (ns : List Int) (k m : Int) (hk : 0 ≤ k) (hk2 : k < 900000000) (hm : 0 < m) : ∃ r o', g__law_next [.own 0, .fz (.int m)] [some (stN ns k)] = .ret r o' ∧ ∃ v, r = .fz (.int v) ∧ 0 ≤ v ∧ v < m ∧ o' = [some (stN ns (k + 1))] := by
  have f1 : flatDs (ns.map .int) = true := flat_ints ns
  refine run_of ?_
  refine ws_seqN (ws_dput ?_)
  refine wp_fz (wp_op2 (wp_op2 (wp_varO rfl (wp_c ⟨_, _, _, rfl, rfl, rfl, ?_⟩))))
  refine wp_c ⟨_, _, _, rfl, rfl, rfl, _, _, rfl, ?_⟩
  refine wp_varO rfl (wp_c ⟨_, _, _, _, rfl, rfl, rfl, rfl, rfl, (show 2 < SZ by decide), rfl, ?_⟩)
  refine ws_seqN (ws_set (wp_fz (wp_op2 (wp_varO rfl (wp_c ⟨_, _, _, rfl, rfl, rfl, _, _, rfl, _, rfl, rfl, ?_⟩)))))
  refine ws_seqN (ws_set (wp_fz (wp_op2 (wp_varO rfl (wp_c ⟨_, _, _, rfl, rfl, rfl, _, _, rfl, _, rfl, rfl, ?_⟩)))))
  refine ws_seqN (ws_set (wp_fz (wp_if (wp_test (wp_op2 (wp_var rfl (wp_lst (wp_nil ⟨_, rfl, by decide, _, _, _, rfl, rfl, neNil, _, rfl, ?_⟩))))))))
  refine ⟨fun hb => ?_, fun hb => ?_⟩
  · have hne : ns ≠ [] := of_decide_eq_true hb
    obtain ⟨x, hx⟩ := atI_mod hne (k + 1)
    have hl : 0 < ns.length := List.length_pos_iff.mpr hne
    have hix : ixD (.scr ns) (.int ((k + 1) % (ns.length : Int))) = some (.fz (.int x)) := by
      show (atI ns _).map _ = _
      rw [hx]
      rfl
    refine wp_op2 (wp_var rfl (wp_op2 (wp_var rfl (wp_call (wp_cons (wp_var rfl (wp_nil ⟨_, _, rfl, rfl, ?_⟩)))))))
    refine ⟨_, _, _, rfl, rfl, modD_ok (by omega), ?_⟩
    refine ⟨_, _, _, rfl, rfl, hix, _, _, rfl, _, rfl, rfl, ?_⟩
    exact next_tail ns (k + 1) m x (by omega) (by omega) hm
  · refine wp_c ⟨_, _, rfl, _, rfl, rfl, ?_⟩
    exact next_tail ns (k + 1) m 0 (by omega) (by omega) hm
/-- _law_next, as it is called with the state at 0 -/
theorem wp_next {ns : List Int} {k m : Int} {s : S} {Q : R → S → Prop} {rest : List (Option Node)} {i : Nat} (hk : 0 ≤ k) (hk2 : k < 900000000) (hm : 0 < m) (ho : s.o = some (stN ns k) :: rest) (hi : s.g[i]? = some (some (.own 0)))
    (q : ∀ v, 0 ≤ v → v < m → Q (.fz (.int v)) ⟨s.g, some (stN ns (k + 1)) :: rest⟩) : Wp (fCallN g__law_next 1 2 (fCons (fVar i) (fCons (fC (.int m)) fNil))) s Q := by
  obtain ⟨r, o', e, v, rfl, h0, h1, rfl⟩ := next_ok ns k m hk hk2 hm
  have e1 : g__law_next [.own 0, .fz (.int m)] (padO 1 s.o) = .ret (.fz (.int v)) [some (stN ns (k + 1))] := by
    rw [ho]
    have : padO 1 (some (stN ns k) :: rest) = [some (stN ns k)] := by
      unfold padO
      simp
    rw [this]
    exact e
  refine wp_callN (wp_cons (wp_varO hi (wp_cons (wp_c (wp_nil ⟨[.own 0, .fz (.int m)], .fz (.int v), [some (stN ns (k + 1))], rfl, ?_, ?_, e1, rfl, ?_, rfl, ?_⟩)))))
  · rw [ho]; show toWs (min 1 (rest.length + 1)) _ = _
    rw [show min 1 (rest.length + 1) = 1 by omega]
    rfl
  · rw [ho]; show rlO (min 1 (rest.length + 1)) _ = _
    rw [show min 1 (rest.length + 1) = 1 by omega]
    rfl
  · rw [ho]; show rlO (min 1 (rest.length + 1)) _ = _
    rw [show min 1 (rest.length + 1) = 1 by omega]
    rfl
  · have : backO 1 s.o [some (stN ns (k + 1))] = some (stN ns (k + 1)) :: rest := by
      rw [ho]
      unfold backO
      simp
    rw [this]
    exact q v h0 h1
end K01
end Sx

set_option Elab.async false
set_option linter.all false
set_option maxRecDepth 100000
/-! k01, the plain law: rows one by one, and the text sign by sign, tell the same. -/
namespace Sx
namespace K01
abbrev LET : Tx := [97, 98, 99, 100, 101, 102, 103, 104, 105, 106, 107, 108, 109, 110, 111, 112, 113, 114, 115, 116, 117, 118, 119, 120, 121, 122]
abbrev MRK : Tx := [62, 47, 95, 35, 123, 125, 91, 93, 43, 45]
def isL (c : Nat) : Bool := decide (c ∈ LET)
/-- how many letters stand ahead -/
def tw (s : Tx) : Nat := (s.takeWhile isL).length
theorem tw_le (s : Tx) : tw s ≤ s.length := by
  unfold tw
  exact (List.takeWhile_sublist _).length_le
theorem tw_cons_pos {c : Nat} {s : Tx} (h : isL c = true) : tw (c :: s) = tw s + 1 := by
  unfold tw
  rw [List.takeWhile_cons_of_pos h]
  rfl
theorem tw_cons_neg {c : Nat} {s : Tx} (h : isL c = false) : tw (c :: s) = 0 := by
  unfold tw
  rw [List.takeWhile_cons_of_neg (by rw [h]; decide)]
  rfl
abbrev Er := Except Nat (List Tx)
/-- a word in front, the rest begins n further on -/
def put (w : List Tx) (n : Nat) : Er → Er
  | .ok ws => .ok (w ++ ws)
  | .error j => .error (n + j)
/-- a row's words -/
def RW (s : Tx) : Er := match s with
  | [] => .ok []
  | c :: r => if c = 32 then put [] 1 (RW r) else if c ∈ MRK then put [[c]] 1 (RW r) else if h : 0 < tw (c :: r) ∧ tw (c :: r) ≤ 8 then put [(c :: r).take (tw (c :: r))] (tw (c :: r)) (RW ((c :: r).drop (tw (c :: r)))) else .error 0
termination_by s.length
decreasing_by
  all_goals simp only [List.length_cons, List.length_drop]
  all_goals omega
abbrev Et := Except Nat (List (List Tx))
def RS : List Tx → Nat → Et
  | [], _ => .ok []
  | r :: rs, b => match RW r with
    | .error j => .error (b + j)
    | .ok ws => match RS rs (b + r.length + 1) with
      | .error j => .error j
      | .ok wss => .ok (ws :: wss)
/-- words into the first row -/
def puts (w : List Tx) (n : Nat) : Et → Et
  | .ok (ws :: wss) => .ok ((w ++ ws) :: wss)
  | .ok [] => .ok [w]
  | .error j => .error (n + j)
def newRow : Et → Et
  | .ok wss => .ok ([] :: wss)
  | .error j => .error (1 + j)
/-- the text, sign by sign -/
def TW (s : Tx) : Et := match s with
  | [] => .ok [[]]
  | c :: r => if c = 10 then newRow (TW r) else if c = 32 then puts [] 1 (TW r) else if c ∈ MRK then puts [[c]] 1 (TW r) else if h : 0 < tw (c :: r) ∧ tw (c :: r) ≤ 8 then puts [(c :: r).take (tw (c :: r))] (tw (c :: r)) (TW ((c :: r).drop (tw (c :: r)))) else .error 0
termination_by s.length
decreasing_by
  all_goals simp only [List.length_cons, List.length_drop]
  all_goals omega
def addE (n : Nat) : Et → Et
  | .ok w => .ok w
  | .error j => .error (n + j)
theorem RS_add : ∀ (rs : List Tx) (n b : Nat), RS rs (n + b) = addE n (RS rs b)
  | [], n, b => rfl
  | r :: rs, n, b => by
    have ih := RS_add rs n (b + r.length + 1)
    unfold RS
    rw [show n + b + r.length + 1 = n + (b + r.length + 1) by omega, ih]
    cases RW r with
    | error j => show Except.error _ = Except.error _; rw [Nat.add_assoc]
    | ok ws =>
      dsimp only
      cases RS rs (b + r.length + 1) with
      | error j => rfl
      | ok wss => rfl
/-- the first row grows in front by signs that are one thing -/
theorem RS_pre {p : Tx} {w : List Tx} {rows : List Tx} (hne : rows ≠ []) (hp : ∀ r rs, rows = r :: rs → RW (p ++ r) = put w p.length (RW r)) : RS (preL p rows) 0 = puts w p.length (RS rows 0) := by
  cases rows with
  | nil => exact absurd rfl hne
  | cons r rs =>
    have h := hp r rs rfl
    show RS ((p ++ r) :: rs) 0 = _
    unfold RS
    rw [h]
    cases e : RW r with
    | error j => show Except.error _ = Except.error _; simp
    | ok ws =>
      show (match (RS rs (0 + (p ++ r).length + 1) : Et) with
        | .error j => Except.error j
        | .ok wss => .ok ((w ++ ws) :: wss)) = _
      rw [show 0 + (p ++ r).length + 1 = p.length + (0 + r.length + 1) by simp; omega, RS_add]
      dsimp only
      cases RS rs (0 + r.length + 1) with
      | error j => rfl
      | ok wss => rfl
theorem RS_new (rows : List Tx) : RS ([] :: rows) 0 = newRow (RS rows 0) := by
  show (match RW [] with
    | .error j => Except.error (0 + j)
    | .ok ws => match RS rows (0 + 0 + 1) with
      | .error j => .error j
      | .ok wss => .ok (ws :: wss)) = _
  have e : RW [] = .ok [] := by unfold RW; rfl
  rw [e, show 0 + 0 + 1 = 1 + 0 by rfl, RS_add]
  dsimp only
  cases RS rows 0 with
  | error j => rfl
  | ok wss => rfl
theorem isL_ne {c : Nat} (h : isL c = true) : c ≠ 10 ∧ c ≠ 32 ∧ c ∉ MRK := by
  unfold isL at h
  have h := of_decide_eq_true h
  simp only [List.mem_cons, List.not_mem_nil, or_false] at h ⊢
  omega
/-- letters stay together -/
theorem split_let : ∀ (s : Tx), splitL 10 s = preL (s.take (tw s)) (splitL 10 (s.drop (tw s)))
  | [] => rfl
  | c :: r => by
    cases h : isL c with
    | false =>
      rw [tw_cons_neg h]
      show _ = preL [] (splitL 10 (c :: r))
      cases e : splitL 10 (c :: r) with
      | nil => exact absurd e (splitL_ne 10 _)
      | cons w ws => rfl
    | true =>
      rw [tw_cons_pos h, splitL_cons (isL_ne h).1, split_let r, preL_pre]
      rfl
theorem tw_first : ∀ (s : Tx) (r : Tx) (rs : List Tx), splitL 10 s = r :: rs → tw r = tw s
  | [], r, rs, e => by cases e; rfl
  | c :: s, r, rs, e => by
    cases h : isL c with
    | true =>
      rw [splitL_cons (isL_ne h).1] at e
      cases q : splitL 10 s with
      | nil => exact absurd q (splitL_ne 10 _)
      | cons w ws' =>
        have ih := tw_first s w ws' q
        rw [q] at e
        cases e
        rw [tw_cons_pos h]
        show tw (c :: w) = _
        rw [tw_cons_pos h, ih]
    | false =>
      rw [tw_cons_neg h]
      by_cases h10 : c = 10
      · have e2 : splitL 10 (c :: s) = [] :: splitL 10 s := if_pos h10
        rw [e2] at e
        cases e
        rfl
      · rw [splitL_cons h10] at e
        cases q : splitL 10 s with
        | nil => exact absurd q (splitL_ne 10 _)
        | cons w ws =>
          rw [q] at e
          cases e
          exact tw_cons_neg h
theorem tw_rest (s : Tx) : tw (s.drop (tw s)) = 0 := by
  induction s with
  | nil => rfl
  | cons c r ih =>
    cases h : isL c with
    | true => rw [tw_cons_pos h]; exact ih
    | false => rw [tw_cons_neg h]; exact tw_cons_neg h
theorem takeWhile_take : ∀ (s : Tx), ∀ c ∈ s.take (tw s), isL c = true
  | [], c, h => by simp at h
  | x :: s, c, h => by
    cases hx : isL x with
    | false => rw [tw_cons_neg hx] at h; simp at h
    | true =>
      rw [tw_cons_pos hx] at h
      rcases List.mem_cons.mp (show c ∈ x :: s.take (tw s) from h) with e | e
      · rw [e]; exact hx
      · exact takeWhile_take s c e
theorem tw_app : ∀ (p r : Tx), (∀ c ∈ p, isL c = true) → tw (p ++ r) = p.length + tw r
  | [], r, _ => by simp
  | c :: p, r, h => by
    rw [List.cons_append, tw_cons_pos (h c List.mem_cons_self), tw_app p r fun d hd => h d (List.mem_cons_of_mem _ hd), List.length_cons]
    omega
theorem RW_word {p r : Tx} (hp : ∀ c ∈ p, isL c = true) (h0 : 0 < p.length) (h8 : p.length ≤ 8) (hr : tw r = 0) : RW (p ++ r) = put [p] p.length (RW r) := by
  cases p with
  | nil => simp at h0
  | cons c q =>
    have hc := isL_ne (hp c List.mem_cons_self)
    have ht : tw (c :: (q ++ r)) = (c :: q).length := by
      have z := tw_app (c :: q) r hp
      rw [hr] at z
      exact z
    show RW (c :: (q ++ r)) = _
    rw [RW]
    rw [if_neg hc.2.1, if_neg hc.2.2, dif_pos (by rw [ht]; exact ⟨h0, h8⟩), ht]
    have e1 : (c :: (q ++ r)).take (c :: q).length = c :: q := by
      show ((c :: q) ++ r).take (c :: q).length = _
      simp
    have e2 : (c :: (q ++ r)).drop (c :: q).length = r := by
      show ((c :: q) ++ r).drop (c :: q).length = _
      simp
    rw [e1, e2]
theorem TW_RS : ∀ (n : Nat) (s : Tx), s.length ≤ n → TW s = RS (splitL 10 s) 0
  | n, [], _ => by
    rw [TW]
    show _ = RS [[]] 0
    rw [RS_new]
    rfl
  | 0, c :: s, h => by simp at h
  | n + 1, c :: s, h => by
    have ih := TW_RS n s (by simpa using h)
    rw [TW]
    by_cases h10 : c = 10
    · have e2 : splitL 10 (c :: s) = [] :: splitL 10 s := if_pos h10
      rw [if_pos h10, e2, RS_new, ih]
    · rw [if_neg h10]
      by_cases h32 : c = 32
      · rw [if_pos h32, splitL_cons h10, ih]
        exact (RS_pre (p := [c]) (w := []) (splitL_ne 10 s) fun r rs _ => by
          show RW (c :: r) = _
          rw [RW, if_pos h32]
          rfl).symm
      · rw [if_neg h32]
        by_cases hm : c ∈ MRK
        · rw [if_pos hm, splitL_cons h10, ih]
          exact (RS_pre (p := [c]) (w := [[c]]) (splitL_ne 10 s) fun r rs _ => by
            show RW (c :: r) = _
            rw [RW, if_neg h32, if_pos hm]
            rfl).symm
        · rw [if_neg hm]
          by_cases hw : 0 < tw (c :: s) ∧ tw (c :: s) ≤ 8
          · rw [dif_pos hw, split_let (c :: s)]
            have hl : ((c :: s).take (tw (c :: s))).length = tw (c :: s) := by
              rw [List.length_take]
              exact Nat.min_eq_left (tw_le _)
            have ih2 := TW_RS n ((c :: s).drop (tw (c :: s))) (by rw [List.length_drop]; simp only [List.length_cons] at h ⊢; omega)
            rw [ih2]
            have z := RS_pre (p := (c :: s).take (tw (c :: s))) (w := [(c :: s).take (tw (c :: s))]) (splitL_ne 10 ((c :: s).drop (tw (c :: s)))) fun r rs e => RW_word (takeWhile_take (c :: s)) (by rw [hl]; exact hw.1) (by rw [hl]; exact hw.2) (by
              rw [tw_first _ r rs e]
              exact tw_rest _)
            rw [z, hl]
          · rw [dif_neg hw]
            cases e : splitL 10 (c :: s) with
            | nil => exact absurd e (splitL_ne 10 _)
            | cons r rs =>
              have hr : ∃ r', r = c :: r' := by
                rw [splitL_cons h10] at e
                cases q : splitL 10 s with
                | nil => exact absurd q (splitL_ne 10 _)
                | cons w ws =>
                  rw [q] at e
                  cases e
                  exact ⟨w, rfl⟩
              obtain ⟨r', rfl⟩ := hr
              have ht := tw_first _ _ _ e
              show _ = (match RW (c :: r') with
                | .error j => Except.error (0 + j)
                | .ok ws => match RS rs (0 + (c :: r').length + 1) with
                  | .error j => .error j
                  | .ok wss => .ok (ws :: wss))
              rw [RW, if_neg h32, if_neg hm, dif_neg (by rw [ht]; exact hw)]
end K01
end Sx

set_option Elab.async false
set_option linter.all false
set_option maxRecDepth 100000
/-! k01, plain: what the program's readers of words give. -/
namespace Sx
namespace K01
open PySem L2
theorem ix_str {t : Tx} {x : Int} {i c : Nat} (hz : t.length ≤ SZ) (hx : x = (i : Int)) (h : t[i]? = some c) : ixD (.str t) (.int x) = some (.fz (.str [c])) := by
  subst hx
  show (if t.length ≤ SZ then (atI t (i : Int)).map fun ch => R.fz (.str [ch]) else none) = _
  rw [if_pos hz, atI_nat (by omega), show ((i : Int)).toNat = i by omega, h]
  rfl
theorem len_str {t : Tx} (hz : t.length ≤ SZ) : lenD (.str t) = some (.fz (.int (t.length : Int))) := if_pos hz
theorem drop_at {t : Tx} {i : Nat} (h : i < t.length) : ∃ c, t[i]? = some c ∧ t.drop i = c :: t.drop (i + 1) := ⟨t[i], List.getElem?_eq_getElem h, List.drop_eq_getElem_cons h⟩
theorem tw_drop0 {t : Tx} {i : Nat} (h : ¬ i < t.length) : tw (t.drop i) = 0 := by
  rw [List.drop_eq_nil_of_le (by omega)]
  rfl
/-- where a word ends -/
def wend (t : Tx) (i : Nat) : Int := match t[i]? with
  | some c => if c ∈ MRK then (i : Int) + 1 else if 0 < tw (t.drop i) ∧ tw (t.drop i) ≤ 8 then (i : Int) + tw (t.drop i) else -1
  | none => -1
theorem word_end_ok (t : Tx) (i : Nat) (hi : i < t.length) (hz : t.length ≤ SZ) : ∃ r o', g_word_end [.fz (.str t), .fz (.int i)] [] = .ret r o' ∧ r = .fz (.int (wend t i)) ∧ o' = [] := by
  obtain ⟨c, hc, hd⟩ := drop_at hi
  have hw : wend t i = if c ∈ MRK then (i : Int) + 1 else if 0 < tw (t.drop i) ∧ tw (t.drop i) ≤ 8 then (i : Int) + tw (t.drop i) else -1 := by
    unfold wend
    rw [hc]
  have hz' : t.length ≤ 16777216 := hz
  refine run_of ?_
  refine ws_seq (wp_if (wp_test (wp_op2 (wp_op2 (wp_var rfl (wp_var rfl ⟨_, _, _, rfl, rfl, ix_str hz rfl hc, ?_⟩))))))
  refine wp_c ⟨_, _, _, rfl, rfl, rfl, _, rfl, ?_⟩
  refine ⟨fun hm => ?_, fun hm => ?_⟩
  · have hm : c ∈ MRK := of_decide_eq_true hm
    refine ws_ret (wp_fz (wp_op2 (wp_var rfl (wp_c ⟨_, _, _, rfl, rfl, rfl, _, _, rfl, ?_⟩))))
    refine ⟨fun h => (nomatch h), fun _ => ⟨_, _, rfl, ?_, rfl⟩⟩
    rw [hw, if_pos hm]
  · have hm : c ∉ MRK := of_decide_eq_false hm
    refine ws_skip ⟨fun _ => ?_, fun h => absurd rfl h⟩
    refine ws_seqN (ws_set (wp_var rfl ⟨_, rfl, rfl, ?_⟩))
    refine ws_seqN (ws_while (I := fun k s => ∃ (x : Int) (e : Nat), x = ((i + e : Nat) : Int) ∧ i + e ≤ t.length ∧ k = t.length - (i + e) ∧ tw (t.drop i) = e + tw (t.drop (i + e)) ∧ s = ⟨[some (.fz (.str t)), some (.fz (.int i)), some (.fz (.int x))], []⟩) (t.length - i) FU ⟨(i : Int), 0, by omega, by omega, by omega, by simp, rfl⟩ (by unfold FU; omega) ?_)
    rintro k s ⟨x, e, rfl, h1, rfl, h3, rfl⟩
    have done : tw (t.drop (i + e)) = 0 → Wp (fRet (fFz (fIf (fTest (fChain ltD leD (fC (.int 0)) (fOp2 subD (fVar 2) (fVar 1)) (fC k_MOST_LETTERS))) (fVar 2) (fOp1 negD (fC (.int 1)))))) ⟨[some (.fz (.str t)), some (.fz (.int i)), some (.fz (.int ((i + e : Nat) : Int)))], []⟩
        fun f s => ∃ r o', leave 0 (.ok f s) = .ret r o' ∧ r = .fz (.int (wend t i)) ∧ o' = [] := fun h0 => by
      have he : tw (t.drop i) = e := by omega
      rw [he] at hw
      refine ws_ret (wp_fz (wp_if (wp_test (wp_chain (wp_c (wp_op2 (wp_var rfl (wp_var rfl ⟨_, _, _, rfl, rfl, rfl, ?_⟩)))))))) 
      refine ⟨_, _, _, rfl, rfl, rfl, fun hb => ⟨_, rfl, ?_⟩, fun hb => wp_c ⟨_, _, _, _, rfl, rfl, rfl, rfl, _, rfl, ?_⟩⟩
      · have hb := of_decide_eq_false hb
        refine ⟨fun h => (nomatch h), fun _ => wp_op1 (wp_c ⟨_, _, rfl, rfl, _, _, rfl, _, _, rfl, ?_, rfl⟩)⟩
        rw [hw, if_neg hm, if_neg (by omega)]
      · have hb := of_decide_eq_true hb
        refine ⟨fun h8 => wp_var rfl ⟨_, _, rfl, _, _, rfl, ?_, rfl⟩, fun h8 => wp_op1 (wp_c ⟨_, _, rfl, rfl, _, _, rfl, _, _, rfl, ?_, rfl⟩)⟩
        · have h8 := of_decide_eq_true h8
          rw [hw, if_neg hm, if_pos (by omega)]
          congr 2
        · have h8 := of_decide_eq_false h8
          rw [hw, if_neg hm, if_neg (by omega)]
    refine wp_and (wp_test (wp_op2 (wp_var rfl (wp_call (wp_cons (wp_var rfl (wp_nil ⟨_, _, rfl, len_str hz, ?_⟩)))))))
    refine ⟨_, _, _, rfl, rfl, rfl, _, rfl, fun hlt => ?_, fun hlt => ?_⟩
    · have hlt : i + e < t.length := by have := of_decide_eq_true hlt; omega
      obtain ⟨c', hc', hd'⟩ := drop_at hlt
      refine wp_test (wp_op2 (wp_op2 (wp_var rfl (wp_var rfl ⟨_, _, _, rfl, rfl, ix_str hz rfl hc', ?_⟩))))
      refine wp_c ⟨_, _, _, rfl, rfl, rfl, _, rfl, fun hL => ?_, fun hL => ?_⟩
      · have hL : isL c' = false := hL
        exact ⟨rfl, done (by rw [hd']; exact tw_cons_neg hL)⟩
      · have hL : isL c' = true := hL
        refine ws_aug _ rfl (wp_c ⟨_, rfl, fun _ => ⟨t.length - (i + (e + 1)), by omega, _, e + 1, ?_, by omega, rfl, ?_, rfl⟩, fun h => (nomatch h), fun r h => (nomatch h)⟩)
        · omega
        · rw [hd', tw_cons_pos hL] at h3
          rw [show i + (e + 1) = i + e + 1 by omega]
          omega
    · have hlt : ¬ i + e < t.length := by have := of_decide_eq_false hlt; omega
      exact ⟨fun _ => ⟨rfl, done (tw_drop0 hlt)⟩, fun h => (nomatch h)⟩
end K01
end Sx

set_option Elab.async false
set_option linter.all false
set_option maxRecDepth 100000
/-! k01, plain: a row's words, a text's words. -/
namespace Sx
namespace K01
open PySem L2
abbrev dW (w : List Tx) : List D := w.map .str
theorem RW_at {t : Tx} {i c : Nat} (hc : t[i]? = some c) (hd : t.drop i = c :: t.drop (i + 1)) : RW (t.drop i) = if c = 32 then put [] 1 (RW (t.drop (i + 1))) else if wend t i < 0 then .error 0 else put [(t.drop i).take (wend t i - i).toNat] (wend t i - i).toNat (RW (t.drop (wend t i).toNat)) := by
  have hw : wend t i = if c ∈ MRK then (i : Int) + 1 else if 0 < tw (t.drop i) ∧ tw (t.drop i) ≤ 8 then (i : Int) + tw (t.drop i) else -1 := by
    unfold wend
    rw [hc]
  rw [hd, RW]
  by_cases h32 : c = 32
  · rw [if_pos h32, if_pos h32]
  · rw [if_neg h32, if_neg h32]
    by_cases hm : c ∈ MRK
    · rw [if_pos hm] at hw ⊢
      rw [hw, if_neg (by omega), show ((i : Int) + 1 - i).toNat = 1 by omega, show ((i : Int) + 1).toNat = i + 1 by omega]
      rfl
    · rw [if_neg hm] at hw ⊢
      rw [hd] at hw
      by_cases h8 : 0 < tw (c :: t.drop (i + 1)) ∧ tw (c :: t.drop (i + 1)) ≤ 8
      · rw [dif_pos h8]
        rw [if_pos h8] at hw
        rw [hw, if_neg (by omega), show ((i : Int) + (tw (c :: t.drop (i + 1)) : Nat) - i).toNat = tw (c :: t.drop (i + 1)) by omega]
        rw [show ((i : Int) + (tw (c :: t.drop (i + 1)) : Nat)).toNat = i + tw (c :: t.drop (i + 1)) by omega, ← hd, List.drop_drop]
      · rw [dif_neg h8]
        rw [if_neg h8] at hw
        rw [hw, if_pos (by omega)]
theorem wend_bounds {t : Tx} {i : Nat} (hi : i < t.length) : wend t i < 0 ∨ ((i : Int) < wend t i ∧ wend t i ≤ t.length) := by
  obtain ⟨c, hc, hd⟩ := drop_at hi
  unfold wend
  rw [hc]
  dsimp only
  have := tw_le (t.drop i)
  rw [List.length_drop] at this
  split
  · right; omega
  · split
    · right; omega
    · left; omega
theorem put_ok {w a : List Tx} {n : Nat} {e : Er} {ws : List Tx} (h : put w n e = .ok ws) : ∃ v, e = .ok v ∧ ws = w ++ v := by
  cases e with
  | ok v => cases h; exact ⟨v, rfl, rfl⟩
  | error j => cases h
/-- a row's words from i on are added to acc -/
def fin (acc : List Tx) (i : Nat) : Er → Er
  | .ok ws => .ok (acc ++ ws)
  | .error j => .error (i + j)
theorem fin_put (acc w : List Tx) (i n : Nat) (e : Er) : fin acc i (put w n e) = fin (acc ++ w) (i + n) e := by
  cases e with
  | ok v => show Except.ok _ = Except.ok _; rw [List.append_assoc]
  | error j => show Except.error _ = Except.error _; rw [Nat.add_assoc]
theorem cut_mid {t : Tx} {i : Nat} {e : Int} (h1 : (i : Int) ≤ e) (h2 : e ≤ t.length) : cutL t (some (i : Int)) (some e) = (t.drop i).take (e - i).toNat := by
  unfold cutL
  have a1 : HT.sIx t.length 0 (some (i : Int)) = i := by
    show (if (i : Int) < 0 then ((i : Int) + (t.length : Int)).toNat else min (i : Int).toNat t.length) = i
    rw [if_neg (by omega)]
    omega
  have a2 : HT.sIx t.length t.length (some e) = e.toNat := by
    show (if e < 0 then (e + (t.length : Int)).toNat else min e.toNat t.length) = e.toNat
    rw [if_neg (by omega)]
    omega
  rw [a1, a2, show e.toNat - i = (e - i).toNat by omega]
def rwRes (b : Int) : Er → FO → Prop
  | .ok ws, r => r = .ret (.fz (.lst (dW ws))) []
  | .error j, r => r = .err 0 [.int (b + j)] []
theorem row_words_ok (t : Tx) (b : Int) (hz : t.length ≤ 100000) : rwRes b (RW t) (g_row_words [.fz (.str t), .fz (.int b)] []) := by
  have hz' : t.length ≤ SZ := Nat.le_trans hz (by decide)
  have key := run_wx (n := 5) (nb := 0) (m := 1) (body := b_row_words) (ws := [.fz (.str t), .fz (.int b)]) (o := []) (C := fun r o' => ∃ ws, RW t = .ok ws ∧ r = .fz (.lst (dW ws)) ∧ o' = []) (CE := fun c fs o' => ∃ j : Nat, RW t = .error j ∧ c = 0 ∧ fs = [.int (b + j)] ∧ o' = []) ?_
  · rcases key with ⟨r, o', e, ws, h1, rfl, rfl⟩ | ⟨c, fs, o', e, j, h1, rfl, rfl, rfl⟩
    · rw [h1]; exact e
    · rw [h1]; exact e
  refine wx_seqN (wx_of (ws_own (wp_lst (wp_nil ⟨_, rfl, by decide, _, _, rfl, rfl, ⟨by decide, rfl, rfl⟩, rfl, ?_⟩))))
  refine wx_seqN (wx_of (ws_set (wp_c ⟨_, rfl, rfl, ?_⟩)))
  refine wx_seqN (wx_while (I := fun k s => ∃ (x : Int) (i : Nat) (acc : List Tx) (y : Option W), x = (i : Int) ∧ i ≤ t.length ∧ k = t.length - i ∧ acc.length ≤ i ∧ RW t = fin acc i (RW (t.drop i)) ∧ s = ⟨[some (.fz (.str t)), some (.fz (.int b)), some (.own 0), some (.fz (.int x)), y], [some (.fl (dW acc))]⟩) t.length FU ⟨0, 0, [], none, rfl, by omega, by omega, by simp, ?_, rfl⟩ (by unfold FU; omega) ?_)
  · show RW t = fin [] 0 (RW t)
    cases RW t with
    | ok v => rfl
    | error j => show Except.error j = Except.error (0 + j); rw [Nat.zero_add]
  rintro k s ⟨x, i, acc, y, rfl, hi, rfl, ha, hR, rfl⟩
  refine wp_test (wp_op2 (wp_var rfl (wp_call (wp_cons (wp_var rfl (wp_nil ⟨_, _, rfl, len_str hz', ?_⟩))))))
  refine ⟨_, _, _, rfl, rfl, rfl, _, rfl, fun hlt => ?_, fun hlt => ?_⟩
  · -- the end
    have hlt := of_decide_eq_false hlt
    have he : i = t.length := by omega
    refine ⟨rfl, wx_of (ws_ret (wp_fz (wp_varO rfl ⟨_, _, rfl, _, _, rfl, acc, ?_, rfl, rfl⟩)))⟩
    rw [hR, List.drop_eq_nil_of_le (by omega)]
    have : RW [] = .ok [] := by unfold RW; rfl
    rw [this]
    show Except.ok _ = Except.ok _
    rw [List.append_nil]
  · have hlt : i < t.length := by have := of_decide_eq_true hlt; omega
    obtain ⟨c, hc, hd⟩ := drop_at hlt
    have hat := RW_at hc hd
    refine wx_seq (wx_if (wp_test (wp_op2 (wp_op2 (wp_var rfl (wp_var rfl ⟨_, _, _, rfl, rfl, ix_str hz' rfl hc, ?_⟩))))))
    refine wp_c ⟨_, _, _, rfl, rfl, rfl, _, rfl, fun h32 => ?_, fun h32 => ?_⟩
    · have h32 : c = 32 := by
        have z : (eqD (.str [c]) (.str [32])) = true := h32
        have z : ([c] == [32]) = true := z
        simpa using z
      refine wx_seqN (wx_of (ws_aug _ rfl (wp_c ⟨_, rfl, rfl, ?_⟩)))
      refine wx_of (wp_ret ⟨fun h => (nomatch h), fun _ => ⟨fun _ => ⟨t.length - (i + 1), by omega, _, i + 1, acc, y, ?_, by omega, rfl, by omega, ?_, rfl⟩, fun h => (nomatch h), fun r h => (nomatch h)⟩⟩)
      · omega
      · rw [hR, hat, if_pos h32, fin_put, List.append_nil]
    · have h32 : c ≠ 32 := by
        have z : (eqD (.str [c]) (.str [32])) = false := h32
        have z : ([c] == [32]) = false := z
        simpa using z
      rw [if_neg h32] at hat
      refine wx_of (ws_skip ⟨fun _ => ?_, fun h => absurd rfl h⟩)
      obtain ⟨r1, o1, e1, rfl, rfl⟩ := word_end_ok t i hlt hz'
      refine wx_seqN (wx_of (ws_set (wp_fz (wp_callN (wp_cons (wp_var rfl (wp_cons (wp_var rfl (wp_nil ⟨_, _, _, rfl, rfl, rfl, e1, rfl, rfl, rfl, ?_⟩)))))))))
      refine ⟨_, _, rfl, _, rfl, rfl, ?_⟩
      refine wx_seq (wx_if (wp_test (wp_op2 (wp_var rfl (wp_c ⟨_, _, _, rfl, rfl, rfl, _, rfl, fun hn => ?_, fun hn => ?_⟩)))))
      · have hn := of_decide_eq_true hn
        rw [if_pos hn] at hat
        refine wx_raise (wp_fz (wp_op2 (wp_var rfl (wp_var rfl ⟨_, _, _, rfl, rfl, rfl, _, _, rfl, _, rfl, ?_⟩))))
        refine ⟨_, rfl, i, ?_, rfl, rfl, rfl⟩
        rw [hR, hat]
        rfl
      · have hn := of_decide_eq_false hn
        rw [if_neg hn] at hat
        rcases wend_bounds hlt with hb | ⟨hb1, hb2⟩
        · exact absurd hb hn
        refine wx_of (ws_skip ⟨fun _ => ?_, fun h => absurd rfl h⟩)
        refine wx_seqN (wx_of (ws_drop (wp_app (wp_varO rfl ⟨_, _, rfl, rfl, wp_fz (wp_sl (wp_var rfl (wp_part (wp_var rfl ⟨_, rfl, wp_part (wp_var rfl ⟨_, rfl, _, _, rfl, if_pos hz', _, _, rfl, _, _, rfl, rfl, ?_, rfl, ?_⟩)⟩))))⟩))))
        · show (acc.map D.str).length < SZ
          rw [List.length_map]
          show acc.length < 16777216
          omega
        refine wx_of (ws_set (wp_var rfl ⟨_, rfl, fun _ => ⟨t.length - (wend t i).toNat, by omega, wend t i, (wend t i).toNat, acc ++ [(t.drop i).take (wend t i - i).toNat], some (.fz (.int (wend t i))), ?_, by omega, rfl, ?_, ?_, ?_⟩, fun h => (nomatch h), fun r h => (nomatch h)⟩))
        · omega
        · rw [List.length_append]; simp only [List.length_cons, List.length_nil]; omega
        · rw [hR, hat, fin_put, show i + (wend t i - i).toNat = (wend t i).toNat by omega]
        · rw [cut_mid (by omega) hb2]
          unfold dW
          rw [List.map_append]
          rfl
end K01
end Sx

set_option Elab.async false
set_option linter.all false
set_option maxRecDepth 100000
/-! k01, plain: text_words. -/
namespace Sx
namespace K01
open PySem L2
abbrev dR (wss : List (List Tx)) : List D := wss.map fun ws => .lst (dW ws)
theorem split_len : ∀ t : Tx, (splitL 10 t).length ≤ t.length + 1
  | [] => by simp [splitL]
  | c :: t => by
    have ih := split_len t
    by_cases h : c = 10
    · have e : splitL 10 (c :: t) = [] :: splitL 10 t := if_pos h
      rw [e]; simp only [List.length_cons]; omega
    · rw [splitL_cons h]
      cases q : splitL 10 t with
      | nil => exact absurd q (splitL_ne 10 t)
      | cons w ws =>
        rw [q] at ih
        show (([c] ++ w) :: ws).length ≤ _
        simp only [List.length_cons] at ih ⊢
        omega
theorem split_row : ∀ (t : Tx) (r : Tx), r ∈ splitL 10 t → r.length ≤ t.length
  | [], r, h => by
    have h : r ∈ [([] : Tx)] := h
    simp at h
    subst h; simp
  | c :: t, r, h => by
    have ih := split_row t
    by_cases hc : c = 10
    · have e : splitL 10 (c :: t) = [] :: splitL 10 t := if_pos hc
      rw [e] at h
      rcases List.mem_cons.mp h with h | h
      · subst h; simp
      · have := ih r h; simp only [List.length_cons]; omega
    · rw [splitL_cons hc] at h
      cases q : splitL 10 t with
      | nil => exact absurd q (splitL_ne 10 t)
      | cons w ws =>
        rw [q] at h ih
        have h : r ∈ ([c] ++ w) :: ws := h
        rcases List.mem_cons.mp h with h | h
        · have := ih w List.mem_cons_self
          subst h; simp only [List.length_cons, List.length_append, List.length_nil]; omega
        · have := ih r (List.mem_cons_of_mem _ h); simp only [List.length_cons]; omega
def finT (acc : List (List Tx)) : Et → Et
  | .ok wss => .ok (acc ++ wss)
  | .error j => .error j
def twRes : Et → FO → Prop
  | .ok wss, r => r = .ret (.fz (.lst (dR wss))) []
  | .error j, r => r = .err 0 [.int j] []
theorem RS_cons (r : Tx) (rs : List Tx) (b : Nat) : RS (r :: rs) b = match RW r with
    | .error j => .error (b + j)
    | .ok ws => match RS rs (b + r.length + 1) with
      | .error j => .error j
      | .ok wss => .ok (ws :: wss) := rfl
theorem text_bad (d : D) (h : isStr d = false) (ht : (tyD d).isSome = true) : g_text_words [.fz d] [] = .err 0 [.int 0] [] := by
  have key := run_wx (n := 4) (nb := 0) (m := 1) (body := b_text_words) (ws := [.fz d]) (o := []) (C := fun r o' => False) (CE := fun c fs o' => c = 0 ∧ fs = [.int 0] ∧ o' = []) ?_
  · rcases key with ⟨r, o', e, f⟩ | ⟨c, fs, o', e, rfl, rfl, rfl⟩
    · exact f.elim
    · exact e
  obtain ⟨ty, hty⟩ := Option.isSome_iff_exists.mp ht
  have e1 : isTyD "str" d = some (.fz (.bl (tyIs ty "str"))) := by unfold isTyD; rw [hty]; rfl
  have e2 : tyIs ty "str" = false := by
    cases d with
    | str s => cases h
    | non => cases hty; rfl
    | bl _ => cases hty; rfl
    | int _ => cases hty; rfl
    | tup _ => cases hty; rfl
    | lst _ => cases hty; rfl
    | scr _ => cases hty; rfl
    | dic _ => cases hty; rfl
    | _ => cases hty
  rw [e2] at e1
  refine wx_seq (wx_if (wp_or (wp_not (wp_test (wp_op1 (wp_var rfl ⟨_, _, rfl, e1, _, rfl, ?_⟩))))))
  refine ⟨fun h => (nomatch h), fun _ => ⟨fun _ => wx_raise (wp_c ⟨_, rfl, _, rfl, rfl, rfl, rfl⟩), fun h => (nomatch h)⟩⟩
theorem text_long (t : Tx) (h : 4000 < t.length) (hz : t.length ≤ SZ) : g_text_words [.fz (.str t)] [] = .err 0 [.int 0] [] := by
  have key := run_wx (n := 4) (nb := 0) (m := 1) (body := b_text_words) (ws := [.fz (.str t)]) (o := []) (C := fun r o' => False) (CE := fun c fs o' => c = 0 ∧ fs = [.int 0] ∧ o' = []) ?_
  · rcases key with ⟨r, o', e, f⟩ | ⟨c, fs, o', e, rfl, rfl, rfl⟩
    · exact f.elim
    · exact e
  refine wx_seq (wx_if (wp_or (wp_not (wp_test (wp_op1 (wp_var rfl ⟨_, _, rfl, rfl, _, rfl, ?_⟩))))))
  refine ⟨fun _ => wp_test (wp_op2 (wp_call (wp_cons (wp_var rfl (wp_nil ⟨_, _, rfl, len_str hz, wp_c ⟨_, _, _, rfl, rfl, rfl, _, rfl, ?_⟩⟩))))), fun h => (nomatch h)⟩
  refine ⟨fun _ => wx_raise (wp_c ⟨_, rfl, _, rfl, rfl, rfl, rfl⟩), fun h2 => ?_⟩
  have h2 := of_decide_eq_false h2
  omega
theorem text_words_ok (t : Tx) (h : t.length ≤ 4000) : twRes (RS (splitL 10 t) 0) (g_text_words [.fz (.str t)] []) := by
  have hz : t.length ≤ SZ := Nat.le_trans h (by decide)
  have hlen := split_len t
  have hrow := split_row t
  have key := run_wx (n := 4) (nb := 0) (m := 1) (body := b_text_words) (ws := [.fz (.str t)]) (o := []) (C := fun r o' => ∃ wss, RS (splitL 10 t) 0 = .ok wss ∧ r = .fz (.lst (dR wss)) ∧ o' = []) (CE := fun c fs o' => ∃ j : Nat, RS (splitL 10 t) 0 = .error j ∧ c = 0 ∧ fs = [.int j] ∧ o' = []) ?_
  · rcases key with ⟨r, o', e, ws, h1, rfl, rfl⟩ | ⟨c, fs, o', e, j, h1, rfl, rfl, rfl⟩
    · rw [h1]; exact e
    · rw [h1]; exact e
  refine wx_seq (wx_if (wp_or (wp_not (wp_test (wp_op1 (wp_var rfl ⟨_, _, rfl, rfl, _, rfl, ?_⟩))))))
  refine ⟨fun _ => wp_test (wp_op2 (wp_call (wp_cons (wp_var rfl (wp_nil ⟨_, _, rfl, len_str hz, wp_c ⟨_, _, _, rfl, rfl, rfl, _, rfl, ?_⟩⟩))))), fun h => (nomatch h)⟩
  refine ⟨fun h2 => ?_, fun _ => ?_⟩
  · have h2 := of_decide_eq_true h2
    omega
  refine wx_of (ws_skip ⟨fun _ => ?_, fun h => absurd rfl h⟩)
  refine wx_seqN (wx_of (ws_own (wp_lst (wp_nil ⟨_, rfl, by decide, _, _, rfl, rfl, ⟨by decide, rfl, rfl⟩, rfl, ?_⟩))))
  refine wx_seqN (wx_of (ws_set (wp_c ⟨_, rfl, rfl, ?_⟩)))
  have hsp : splitD (.str t) (.str [10]) = some (.nw (.fl ((splitL 10 t).map .str))) := if_pos (by show t.length + 2 ≤ 16777216; omega)
  refine wx_seqN (wx_for (wp_it (wp_mth (wp_var rfl ⟨_, rfl, rfl, wp_cons (wp_c (wp_nil ⟨_, _, rfl, hsp, _, _, _, rfl, rfl, ?_⟩))⟩))))
  refine wx_loop (I := fun i s => ∃ (x : Int) (b : Nat) (acc : List (List Tx)) (y : Option W), x = (b : Int) ∧ acc.length = i ∧ RS (splitL 10 t) 0 = finT acc (RS ((splitL 10 t).drop i) b) ∧ s = ⟨[some (.fz (.str t)), some (.own 0), some (.fz (.int x)), y], [some (.fl (dR acc))]⟩) _ 0 _ ⟨0, 0, [], none, rfl, rfl, ?_, rfl⟩ ?_ ?_
  · show RS (splitL 10 t) 0 = finT [] (RS (splitL 10 t) 0)
    cases RS (splitL 10 t) 0 with
    | ok v => rfl
    | error j => rfl
  · rintro j d s hd ⟨x, b, acc, y, rfl, ha, hR, rfl⟩
    rw [Nat.zero_add] at ha hR ⊢
    rw [List.getElem?_map] at hd
    cases hr : (splitL 10 t)[j]? with
    | none => rw [hr] at hd; cases hd
    | some r =>
      rw [hr] at hd
      cases hd
      have hj : j < (splitL 10 t).length := (List.getElem?_eq_some_iff.mp hr).1
      have hdr : (splitL 10 t).drop j = r :: (splitL 10 t).drop (j + 1) := by
        rw [List.drop_eq_getElem_cons hj, (List.getElem?_eq_some_iff.mp hr).2]
      have hrl : r.length ≤ 4000 := Nat.le_trans (hrow r (List.mem_of_getElem? hr)) h
      have hrz : r.length ≤ SZ := Nat.le_trans hrl (by decide)
      have hrw := row_words_ok r (b : Int) (Nat.le_trans hrl (by decide))
      rw [hdr, RS_cons] at hR
      refine ⟨_, rfl, wx_seqN (wx_drop (wx_app (wp_varO rfl ⟨_, _, rfl, rfl, wx_fz (wx_callN (wp_cons (wp_var rfl (wp_cons (wp_var rfl (wp_nil ⟨_, rfl, rfl, rfl, ?_⟩))))))⟩)))⟩
      cases hw : RW r with
      | error e =>
        rw [hw] at hrw hR
        exact .inr ⟨_, _, _, hrw, rfl, rfl, _, rfl, e + b, by rw [hR]; show Except.error _ = Except.error _; rw [Nat.add_comm], rfl, by rw [show (b : Int) + (e : Int) = ((e + b : Nat) : Int) by omega], rfl⟩
      | ok ws =>
        rw [hw] at hrw hR
        refine .inl ⟨_, _, hrw, rfl, rfl, rfl, _, _, rfl, _, _, rfl, rfl, ?_, rfl, ?_⟩
        · show (acc.map _).length < SZ
          rw [List.length_map]
          show acc.length < 16777216
          omega
        refine wx_of (ws_aug _ rfl (wp_fz (wp_op2 (wp_call (wp_cons (wp_var rfl (wp_nil ⟨_, _, rfl, len_str hrz, wp_c ⟨_, _, _, rfl, rfl, rfl, _, _, rfl, _, rfl, ?_⟩⟩)))))))
        refine ⟨fun _ => ⟨(b : Int) + ((r.length : Int) + 1), b + r.length + 1, acc ++ [ws], some (.fz (.str r)), ?_, ?_, ?_, ?_⟩, fun h => (nomatch h), fun r h => (nomatch h)⟩
        · omega
        · rw [List.length_append, ha]; rfl
        · rw [hR]
          dsimp only
          cases RS ((splitL 10 t).drop (j + 1)) (b + r.length + 1) with
          | error e => rfl
          | ok wss => show Except.ok _ = Except.ok _; rw [List.append_assoc]; rfl
        · unfold dR
          rw [List.map_append]
          rfl
  · rintro s ⟨x, b, acc, y, rfl, ha, hR, rfl⟩
    refine ⟨rfl, wx_of (ws_ret (wp_fz (wp_varO rfl ⟨_, _, rfl, _, _, rfl, acc, ?_, rfl, rfl⟩)))⟩
    rw [hR, List.drop_eq_nil_of_le (by rw [List.length_map]; omega)]
    show Except.ok _ = Except.ok _
    rw [List.append_nil]
end K01
end Sx

set_option Elab.async false
set_option linter.all false
set_option maxRecDepth 100000
/-! k01, plain: the law's own going. -/
namespace Sx
namespace K01
open PySem L2
abbrev ODD : Tx := [32, 10, 62, 47, 95, 35, 123, 125, 91, 93, 43, 45]
theorem atI_last {α : Type} (xs : List α) (x : α) : atI (xs ++ [x]) (-1) = some x := by
  unfold atI ixN
  rw [if_neg (by omega), if_pos (by simp; omega)]
  show (xs ++ [x])[(-1 + ((xs ++ [x]).length : Int)).toNat]? = some x
  have : (-1 + ((xs ++ [x]).length : Int)).toNat = xs.length := by simp; omega
  rw [this]
  simp
theorem cut_init {α : Type} (xs : List α) (x : α) : cutL (xs ++ [x]) none (some (-1)) = xs := by
  unfold cutL
  have a1 : HT.sIx (xs ++ [x]).length 0 none = 0 := rfl
  have a2 : HT.sIx (xs ++ [x]).length (xs ++ [x]).length (some (-1)) = xs.length := by
    show (if (-1 : Int) < 0 then (-1 + ((xs ++ [x]).length : Int)).toNat else min (-1 : Int).toNat (xs ++ [x]).length) = _
    rw [if_pos (by omega)]
    simp
    omega
  rw [a1, a2]
  simp
def finD (done : List (List Tx)) (cur : List Tx) (i : Nat) : Et → Et
  | .ok (w :: wss) => .ok (done ++ (cur ++ w) :: wss)
  | .ok [] => .ok (done ++ [cur])
  | .error j => .error (i + j)
theorem finD_puts (done : List (List Tx)) (cur w : List Tx) (i n : Nat) (e : Et) : finD done cur i (puts w n e) = finD done (cur ++ w) (i + n) e := by
  match e with
  | .ok (v :: vs) => show Except.ok _ = Except.ok _; rw [List.append_assoc]
  | .ok [] => rfl
  | .error j => show Except.error _ = Except.error _; rw [Nat.add_assoc]
theorem finD_new (done : List (List Tx)) (cur : List Tx) (i : Nat) (e : Et) (h : e ≠ .ok []) : finD done cur i (newRow e) = finD (done ++ [cur]) [] (i + 1) e := by
  match e, h with
  | .ok (v :: vs), _ => show Except.ok (done ++ (cur ++ []) :: v :: vs) = Except.ok ((done ++ [cur]) ++ ([] ++ v) :: vs); simp
  | .ok [], h => exact absurd rfl h
  | .error j, _ => show Except.error (i + (1 + j)) = Except.error (i + 1 + j); rw [Nat.add_assoc]
theorem puts_ne (w : List Tx) (n : Nat) (e : Et) : puts w n e ≠ .ok [] := by
  match e with
  | .ok (v :: vs) => exact fun h => by cases h
  | .ok [] => exact fun h => by cases h
  | .error j => exact fun h => by cases h
theorem TW_ne (s : Tx) : TW s ≠ .ok [] := by
  cases s with
  | nil => rw [TW]; exact fun h => by cases h
  | cons c r =>
    rw [TW]
    split
    · cases TW r with
      | ok v => exact fun h => by cases h
      | error j => exact fun h => by cases h
    · split
      · exact puts_ne _ _ _
      · split
        · exact puts_ne _ _ _
        · split
          · exact puts_ne _ _ _
          · exact fun h => by cases h
theorem dR_snoc (xs : List (List Tx)) (x : List Tx) : dR (xs ++ [x]) = dR xs ++ [.lst (dW x)] := by
  unfold dR
  rw [List.map_append]
  rfl
theorem dW_snoc (xs : List Tx) (x : Tx) : dW (xs ++ [x]) = dW xs ++ [.str x] := by
  unfold dW
  rw [List.map_append]
  rfl
theorem due_end (t : Tx) (i : Nat) (hi : i ≤ t.length) (hz : t.length ≤ SZ) (o : List (Option Node)) : Wp (fWhile FU (fAnd (fTest (fOp2 ltD (fVar 3) (fCall (l1 lenD) (fCons (fVar 0) fNil)))) (fTest (fOp2 inD (fOp2 ixD (fVar 0) (fVar 3)) (fC (.str LET))))) (fSet 3 (fFz (fOp2 addD (fVar 3) (fC (.int 1))))))
    ⟨[some (.fz (.str t)), some (.own 0), some (.fz (.int i)), some (.fz (.int i))], o⟩ fun f s => f = .nx ∧ s = ⟨[some (.fz (.str t)), some (.own 0), some (.fz (.int i)), some (.fz (.int ((i + tw (t.drop i) : Nat) : Int)))], o⟩ := by
  have hz' : t.length ≤ 16777216 := hz
  refine ws_while (I := fun k s => ∃ (x : Int) (e : Nat), x = ((i + e : Nat) : Int) ∧ i + e ≤ t.length ∧ k = t.length - (i + e) ∧ tw (t.drop i) = e + tw (t.drop (i + e)) ∧ s = ⟨[some (.fz (.str t)), some (.own 0), some (.fz (.int i)), some (.fz (.int x))], o⟩) (t.length - i) FU ⟨(i : Int), 0, by omega, by omega, by omega, by simp, rfl⟩ (by unfold FU; omega) ?_
  rintro k s ⟨x, e, rfl, h1, rfl, h3, rfl⟩
  refine wp_and (wp_test (wp_op2 (wp_var rfl (wp_call (wp_cons (wp_var rfl (wp_nil ⟨_, _, rfl, len_str hz, ?_⟩)))))))
  refine ⟨_, _, _, rfl, rfl, rfl, _, rfl, fun hlt => ?_, fun hlt => ?_⟩
  · have hlt : i + e < t.length := by have := of_decide_eq_true hlt; omega
    obtain ⟨c', hc', hd'⟩ := drop_at hlt
    refine wp_test (wp_op2 (wp_op2 (wp_var rfl (wp_var rfl ⟨_, _, _, rfl, rfl, ix_str hz rfl hc', ?_⟩))))
    refine wp_c ⟨_, _, _, rfl, rfl, rfl, _, rfl, fun hL => ?_, fun hL => ?_⟩
    · have hL : isL c' = false := hL
      refine ⟨rfl, ?_⟩
      rw [h3, hd', tw_cons_neg hL]
      rfl
    · have hL : isL c' = true := hL
      refine ws_set (wp_fz (wp_op2 (wp_var rfl (wp_c ⟨_, _, _, rfl, rfl, rfl, _, _, rfl, _, rfl, fun _ => ⟨t.length - (i + (e + 1)), by omega, _, e + 1, ?_, by omega, rfl, ?_, rfl⟩, fun h => (nomatch h), fun r h => (nomatch h)⟩))))
      · omega
      · rw [hd', tw_cons_pos hL] at h3
        rw [show i + (e + 1) = i + e + 1 by omega]
        omega
  · have hlt : ¬ i + e < t.length := by have := of_decide_eq_false hlt; omega
    refine ⟨fun _ => ⟨rfl, ?_⟩, fun h => nomatch h⟩
    rw [h3, tw_drop0 hlt]
    rfl
theorem max2_le {a b : Int} (h : b ≤ a) : max2D (.int a) (.int b) = some (.fz (.int a)) := by
  show some (R.fz (.int (if b > a then b else a))) = _
  rw [if_neg (by omega)]
theorem max2_gt {a b : Int} (h : a < b) : max2D (.int a) (.int b) = some (.fz (.int b)) := by
  show some (R.fz (.int (if b > a then b else a))) = _
  rw [if_pos (by omega)]
/-- the next place: i + n -/
theorem max2_n {i e n : Nat} (h : n = max e 1) : max2D (.int ((i + e : Nat) : Int)) (.int ((i : Int) + 1)) = some (.fz (.int ((i + n : Nat) : Int))) := by
  by_cases h1 : 1 ≤ e
  · rw [max2_le (by omega), show n = e by omega]
  · rw [max2_gt (by omega), show n = 1 by omega]
    congr 3
theorem due_good (t : Tx) (i : Nat) (done : List (List Tx)) (cur : List Tx) (c e : Nat) (hlt : i < t.length) (hz : t.length ≤ 100000) (hdl : done.length ≤ i) (hcl : cur.length ≤ i) (hc : t[i]? = some c) (hd : t.drop i = c :: t.drop (i + 1)) (he : tw (t.drop i) = e) (h8 : e ≤ 8) (h0 : e = 0 → c ∈ ODD) :
    Wp (fSeq (fIf (fTest (fOp2 eqOp (fOp2 ixD (fVar 0) (fVar 2)) (fC (.str [10])))) (fDrop (fApp (fVar 1) (fFz (fLst fNil)))) (fIf (fTest (fOp2 neOp (fOp2 ixD (fVar 0) (fVar 2)) (fC (.str [32])))) (fSetOwn 0 1 0 (fOp2 addD (fSl (fVar 1) fNoP (fPart (fOp1 negD (fC (.int 1))))) (fLst (fCons (fFz (fOp2 addD (fOp2 ixD (fVar 1) (fOp1 negD (fC (.int 1)))) (fLst (fCons (fFz (fSl (fVar 0) (fPart (fVar 2)) (fPart (fCall (l2 max2D) (fCons (fVar 3) (fCons (fFz (fOp2 addD (fVar 2) (fC (.int 1)))) fNil)))))) fNil)))) fNil)))) fSkip))
    (fSet 2 (fFz (fCall (l2 max2D) (fCons (fVar 3) (fCons (fFz (fOp2 addD (fVar 2) (fC (.int 1)))) fNil))))))
    ⟨[some (.fz (.str t)), some (.own 0), some (.fz (.int i)), some (.fz (.int ((i + e : Nat) : Int)))], [some (.fl (dR (done ++ [cur])))]⟩
    fun f s => f = .nx ∧ ∃ (n : Nat) (done' : List (List Tx)) (cur' : List Tx), 0 < n ∧ i + n ≤ t.length ∧ done'.length ≤ done.length + 1 ∧ cur'.length ≤ cur.length + 1 ∧ finD done cur i (TW (t.drop i)) = finD done' cur' (i + n) (TW (t.drop (i + n))) ∧
      s = ⟨[some (.fz (.str t)), some (.own 0), some (.fz (.int ((i + n : Nat) : Int))), some (.fz (.int ((i + e : Nat) : Int)))], [some (.fl (dR (done' ++ [cur'])))]⟩ := by
  have hz' : t.length ≤ SZ := Nat.le_trans hz (by decide)
  have hixs : ixD (.str t) (.int (i : Int)) = some (.fz (.str [c])) := ix_str hz' rfl hc
  have hle : e ≤ t.length - i := by rw [← he]; have := tw_le (t.drop i); rw [List.length_drop] at this; exact this
  obtain ⟨n, hn⟩ : ∃ n, n = max e 1 := ⟨_, rfl⟩
  have hmx := max2_n (i := i) hn
  have hm : e = 0 → n = 1 := fun h => by omega
  have hin : i + n ≤ t.length := by omega
  refine ws_seqN (wp_if (wp_test (wp_op2 (wp_op2 (wp_var rfl (wp_var rfl ⟨_, _, _, rfl, rfl, hixs, ?_⟩))))))
  refine wp_c ⟨_, _, _, rfl, rfl, rfl, _, rfl, fun h10 => ?_, fun h10 => ?_⟩
  · have h10 : c = 10 := by
      have z : ([c] == [10]) = true := h10
      simpa using z
    have hL : isL c = false := by subst h10; rfl
    have h0 : e = 0 := by rw [← he, hd]; exact tw_cons_neg hL
    refine ws_drop (wp_app (wp_varO rfl ⟨_, _, rfl, rfl, wp_fz (wp_lst (wp_nil ⟨_, rfl, by decide, _, _, rfl, _, _, rfl, rfl, ?_, rfl, ?_⟩))⟩))
    · show ((done ++ [cur]).map _).length < SZ
      rw [List.length_map, List.length_append]
      show done.length + 1 < 16777216
      omega
    refine ws_set (wp_fz (wp_call (wp_cons (wp_var rfl (wp_cons (wp_fz (wp_op2 (wp_var rfl (wp_c ⟨_, _, _, rfl, rfl, rfl, _, _, rfl, wp_nil ⟨_, _, rfl, hmx, _, _, rfl, _, rfl, ?_⟩⟩))))))))) 
    refine ⟨rfl, n, done ++ [cur], [], by omega, hin, by simp, by simp, ?_, ?_⟩
    · rw [hm h0, hd, TW, if_pos h10, finD_new _ _ _ _ (TW_ne _)]
    · rw [dR_snoc (done ++ [cur]) []]
      rfl
  · have h10 : c ≠ 10 := by
      have z : ([c] == [10]) = false := h10
      simpa using z
    refine wp_if (wp_test (wp_op2 (wp_op2 (wp_var rfl (wp_var rfl ⟨_, _, _, rfl, rfl, hixs, ?_⟩)))))
    refine wp_c ⟨_, _, _, rfl, rfl, rfl, _, rfl, fun h32 => ?_, fun h32 => ?_⟩
    · have h32 : c ≠ 32 := by
        have z : (!([c] == [32])) = true := h32
        simpa using z
      have hcut : slD (.lst (dR (done ++ [cur]))) none (some (-1)) = some (.nw (.fl (dR done))) := by
        show some (R.nw (.fl (cutL (dR (done ++ [cur])) none (some (-1))))) = _
        unfold dR
        rw [List.map_append]
        show some (R.nw (.fl (cutL (done.map _ ++ [D.lst (dW cur)]) none (some (-1))))) = _
        rw [cut_init]
      have hlast : ixD (.lst (dR (done ++ [cur]))) (.int (-1)) = some (.fz (.lst (dW cur))) := by
        show (atI (dR (done ++ [cur])) (-1)).map R.fz = _
        unfold dR
        rw [List.map_append]
        show (atI (done.map _ ++ [D.lst (dW cur)]) (-1)).map R.fz = _
        rw [atI_last]
        rfl
      have hadd1 : addD (.lst (dW cur)) (.lst [.str (cutL t (some (i : Int)) (some ((i + n : Nat) : Int)))]) = some (.nw (.fl (dW cur ++ [.str (cutL t (some (i : Int)) (some ((i + n : Nat) : Int)))]))) := if_pos (by
        show (cur.map D.str).length + 1 ≤ 16777216
        rw [List.length_map]
        omega)
      have hadd2 : addD (.lst (dR done)) (.lst [.lst (dW cur ++ [.str (cutL t (some (i : Int)) (some ((i + n : Nat) : Int)))])]) = some (.nw (.fl (dR done ++ [.lst (dW cur ++ [.str (cutL t (some (i : Int)) (some ((i + n : Nat) : Int)))])]))) := if_pos (by
        show (done.map _).length + 1 ≤ 16777216
        rw [List.length_map]
        omega)
      refine ws_own (wp_op2 (wp_sl (wp_varO rfl (wp_noP (wp_part (wp_op1 ?_))))))
      refine wp_c ⟨_, _, rfl, rfl, _, rfl, ?_⟩
      refine ⟨_, _, rfl, hcut, ?_⟩
      refine wp_lst (wp_cons (wp_fz (wp_op2 (wp_op2 (wp_varO rfl (wp_op1 ?_))))))
      refine wp_c ⟨_, _, rfl, rfl, ?_⟩
      refine ⟨_, _, _, rfl, rfl, hlast, ?_⟩
      refine wp_lst (wp_cons (wp_fz (wp_sl (wp_var rfl (wp_part ?_)))))
      refine wp_var rfl ⟨_, rfl, ?_⟩
      refine wp_part (wp_call (wp_cons (wp_var rfl (wp_cons (wp_fz (wp_op2 (wp_var rfl (wp_c ?_))))))))
      refine ⟨_, _, _, rfl, rfl, rfl, _, _, rfl, ?_⟩
      refine wp_nil ⟨_, _, rfl, hmx, ?_⟩
      refine ⟨_, rfl, _, _, rfl, if_pos hz', ?_⟩
      refine ⟨_, _, rfl, ?_⟩
      refine wp_nil ⟨_, rfl, (show 1 ≤ SZ by decide), ?_⟩
      refine ⟨_, _, _, rfl, rfl, hadd1, ?_⟩
      refine ⟨_, _, rfl, ?_⟩
      refine wp_nil ⟨_, rfl, (show 1 ≤ SZ by decide), ?_⟩
      refine ⟨_, _, _, rfl, rfl, hadd2, ?_⟩
      refine ⟨_, _, rfl, rfl, ⟨by decide, rfl, rfl⟩, rfl, ?_⟩
      refine ws_set (wp_fz (wp_call (wp_cons (wp_var rfl (wp_cons (wp_fz (wp_op2 (wp_var rfl (wp_c ?_)))))))))
      refine ⟨_, _, _, rfl, rfl, rfl, _, _, rfl, ?_⟩
      refine wp_nil ⟨_, _, rfl, hmx, _, _, rfl, _, rfl, ?_⟩
      have hcm : cutL t (some (i : Int)) (some ((i + n : Nat) : Int)) = (t.drop i).take n := by
        rw [cut_mid (by omega) (by omega)]
        congr 1
        omega
      refine ⟨rfl, n, done, cur ++ [(t.drop i).take n], by omega, hin, by omega, by simp, ?_, ?_⟩
      · rw [← finD_puts]
        congr 1
        by_cases hm' : c ∈ MRK
        · have hL : isL c = false := by
            cases hL : isL c with
            | false => rfl
            | true => exact absurd hm' (isL_ne hL).2.2
          have h0 : e = 0 := by rw [← he, hd]; exact tw_cons_neg hL
          rw [hm h0, hd, TW, if_neg h10, if_neg h32, if_pos hm']
          rfl
        · have hpos : 0 < e := by
            rcases Nat.eq_zero_or_pos e with z | z
            · have := h0 z
              simp only [ODD, MRK, List.mem_cons, List.not_mem_nil, or_false] at this hm'
              omega
            · exact z
          have hne : n = e := by omega
          rw [hne]
          conv => lhs; rw [hd, TW]
          rw [← hd, he, if_neg h10, if_neg h32, if_neg hm', dif_pos ⟨hpos, h8⟩, List.drop_drop]
      · rw [hcm, dR_snoc done (cur ++ [(t.drop i).take n]), dW_snoc cur]
        rfl
    · have h32 : c = 32 := by
        have z : (!([c] == [32])) = false := h32
        simpa using z
      have hL : isL c = false := by subst h32; rfl
      have h0 : e = 0 := by rw [← he, hd]; exact tw_cons_neg hL
      refine ws_skip ⟨rfl, ?_⟩
      refine ws_set (wp_fz (wp_call (wp_cons (wp_var rfl (wp_cons (wp_fz (wp_op2 (wp_var rfl (wp_c ⟨_, _, _, rfl, rfl, rfl, _, _, rfl, wp_nil ⟨_, _, rfl, hmx, _, _, rfl, _, rfl, ?_⟩⟩))))))))) 
      refine ⟨rfl, n, done, cur, by omega, hin, by omega, by omega, ?_, rfl⟩
      rw [hm h0, hd, TW, if_neg h10, if_pos h32, finD_puts, List.append_nil]
def dueRes : Et → D
  | .ok wss => .lst (dR wss)
  | .error j => .int j
theorem due_long (t : Tx) (h : 4000 < t.length) (hz : t.length ≤ SZ) : ∃ r o', g__law_due [.fz (.str t)] [] = .ret r o' ∧ r = .fz (.int 0) ∧ o' = [] := by
  refine run_of ?_
  refine ws_seq (wp_if (wp_test (wp_op2 (wp_call (wp_cons (wp_var rfl (wp_nil ⟨_, _, rfl, len_str hz, wp_c ⟨_, _, _, rfl, rfl, rfl, _, rfl, ?_⟩⟩)))))))
  refine ⟨fun _ => ws_ret (wp_c ⟨fun h => (nomatch h), fun _ => ⟨_, _, rfl, rfl, rfl⟩⟩), fun h2 => ?_⟩
  have h2 := of_decide_eq_false h2
  omega
theorem due_ok (t : Tx) (h : t.length ≤ 4000) : ∃ r o', g__law_due [.fz (.str t)] [] = .ret r o' ∧ r = .fz (dueRes (TW t)) ∧ o' = [] := by
  have hz : t.length ≤ SZ := Nat.le_trans h (by decide)
  refine run_of ?_
  refine ws_seq (wp_if (wp_test (wp_op2 (wp_call (wp_cons (wp_var rfl (wp_nil ⟨_, _, rfl, len_str hz, wp_c ⟨_, _, _, rfl, rfl, rfl, _, rfl, ?_⟩⟩)))))))
  refine ⟨fun h2 => ?_, fun _ => ws_skip ⟨fun _ => ?_, fun h => absurd rfl h⟩⟩
  · have h2 := of_decide_eq_true h2
    omega
  refine ws_seqN (ws_own (wp_lst (wp_cons (wp_fz (wp_lst (wp_nil ⟨_, rfl, by decide, _, _, rfl, wp_nil ⟨_, rfl, by decide, _, _, rfl, rfl, ⟨by decide, rfl, rfl⟩, rfl, ?_⟩⟩))))))
  refine ws_seqN (ws_set (wp_c ⟨_, rfl, rfl, ?_⟩))
  refine ws_seq (ws_while (I := fun k s => ∃ (x : Int) (i : Nat) (done : List (List Tx)) (cur : List Tx) (y : Option Int), x = (i : Int) ∧ i ≤ t.length ∧ k = t.length - i ∧ done.length ≤ i ∧ cur.length ≤ i ∧ TW t = finD done cur i (TW (t.drop i)) ∧ s = ⟨[some (.fz (.str t)), some (.own 0), some (.fz (.int x)), y.map fun z => .fz (.int z)], [some (.fl (dR (done ++ [cur])))]⟩) t.length FU ⟨0, 0, [], [], none, rfl, by omega, by omega, by simp, by simp, ?_, rfl⟩ (by unfold FU; omega) ?_)
  · show TW t = finD [] [] 0 (TW t)
    have := TW_ne t
    match hT : TW t with
    | .ok (w :: ws) => rfl
    | .ok [] => exact absurd hT this
    | .error j => show Except.error j = Except.error (0 + j); rw [Nat.zero_add]
  rintro k s ⟨x, i, done, cur, y, rfl, hi, rfl, hdl, hcl, hT, rfl⟩
  refine wp_test (wp_op2 (wp_var rfl (wp_call (wp_cons (wp_var rfl (wp_nil ⟨_, _, rfl, len_str hz, ?_⟩))))))
  refine ⟨_, _, _, rfl, rfl, rfl, _, rfl, fun hlt => ?_, fun hlt => ?_⟩
  · have hlt := of_decide_eq_false hlt
    have he : i = t.length := by omega
    refine ⟨fun _ => ws_ret (wp_fz (wp_varO rfl ⟨_, _, rfl, _, _, rfl, ?_, rfl⟩)), fun h => absurd rfl h⟩
    rw [hT, List.drop_eq_nil_of_le (by omega)]
    have : TW [] = .ok [[]] := by unfold TW; rfl
    rw [this]
    show R.fz (.lst (dR (done ++ [cur]))) = .fz (.lst (dR (done ++ (cur ++ []) :: [])))
    rw [List.append_nil]
  · have hlt : i < t.length := by have := of_decide_eq_true hlt; omega
    obtain ⟨c, hc, hd⟩ := drop_at hlt
    have hixs : ixD (.str t) (.int (i : Int)) = some (.fz (.str [c])) := ix_str hz rfl hc
    generalize he : tw (t.drop i) = e
    have hle : e ≤ t.length - i := by rw [← he]; have := tw_le (t.drop i); rw [List.length_drop] at this; exact this
    have hTc := hT
    rw [hd, TW] at hTc
    rw [← hd, he] at hTc
    refine ws_seqN (ws_set (wp_var rfl ⟨_, rfl, rfl, ?_⟩))
    refine ws_seqN (wp_mono (due_end t i hi hz _) fun f s hfs => ?_)
    obtain ⟨rfl, rfl⟩ := hfs
    rw [he]
    refine ⟨rfl, ?_⟩
    have hbad : TW (t.drop i) = .error 0 → ∀ r, Fl.rt (.fz (.int (i : Int))) = .rt r → (∀ h : Fl.rt r ≠ .nx, ∃ r' o', leave 0 (.ok (.rt r) ⟨[some (.fz (.str t)), some (.own 0), some (.fz (.int i)), some (.fz (.int ((i + e : Nat) : Int)))], [some (.fl (dR (done ++ [cur])))]⟩) = .ret r' o' ∧ r' = .fz (dueRes (TW t)) ∧ o' = []) := fun hb r hr _ => by
      cases hr
      refine ⟨_, _, rfl, ?_, rfl⟩
      rw [hT, hb]
      rfl
    refine ws_seq (wp_if (wp_or (wp_test (wp_op2 (wp_var rfl (wp_op2 (wp_var rfl (wp_c ⟨_, _, _, rfl, rfl, rfl, _, _, _, rfl, rfl, rfl, _, rfl, ?_⟩))))))))
    refine ⟨fun h8 => ?_, fun h8 => ?_⟩
    · have h8 : e ≤ 8 := by have := of_decide_eq_false h8; omega
      have good : (e = 0 → c ∈ ODD) → _ := due_good t i done cur c e hlt (Nat.le_trans h (by decide)) hdl hcl hc hd he h8
      refine wp_and (wp_test (wp_op2 (wp_var rfl (wp_var rfl ⟨_, _, _, rfl, rfl, rfl, _, rfl, fun h0 => ?_, fun h0 => ?_⟩))))
      · have h0 : e = 0 := by
          have z : (((i + e : Nat) : Int) == (i : Int)) = true := h0
          have z := eq_of_beq z
          omega
        refine wp_test (wp_op2 (wp_op2 (wp_var rfl (wp_var rfl ⟨_, _, _, rfl, rfl, hixs, ?_⟩))))
        refine wp_c ⟨_, _, _, rfl, rfl, rfl, _, rfl, fun hb => ?_, fun hb => ?_⟩
        · have hb : c ∉ ODD := by
            have z : (!decide (c ∈ ODD)) = true := hb
            rw [Bool.not_eq_true'] at z
            exact of_decide_eq_false z
          have hb0 : TW (t.drop i) = .error 0 := by
            rw [hd, TW]
            rw [← hd, he]
            simp only [ODD, MRK, List.mem_cons, List.not_mem_nil, or_false] at hb ⊢
            rw [if_neg (by omega), if_neg (by omega), if_neg (by omega), dif_neg (by omega)]
          exact ws_ret (wp_var rfl ⟨fun h => (nomatch h), fun _ => ⟨fun h => (by rcases h with h | h <;> cases h), fun h => (nomatch h), fun r hr => ⟨fun h => (nomatch h), fun h => hbad hb0 r hr h⟩⟩⟩)
        · have hb : c ∈ ODD := by
            have z : (!decide (c ∈ ODD)) = false := hb
            rw [Bool.not_eq_false'] at z
            exact of_decide_eq_true z
          exact ws_skip ⟨fun _ => wp_mono (good fun _ => hb) fun f s ⟨e1, n, d', c', g1, g2, g3, g4, g5, g6⟩ => ⟨fun _ => ⟨t.length - (i + n), by omega, _, i + n, d', c', some ((i + e : Nat) : Int), rfl, g2, rfl, by omega, by omega, by rw [hT]; exact g5, g6⟩, fun h => (by rw [e1] at h; cases h), fun r h => (by rw [e1] at h; cases h)⟩, fun h => absurd rfl h⟩
      · have h0 : e ≠ 0 := by
          have z : (((i + e : Nat) : Int) == (i : Int)) = false := h0
          intro h
          subst h
          simp at z
        exact ⟨fun h => (nomatch h), fun _ => ws_skip ⟨fun _ => wp_mono (good fun h => absurd h h0) fun f s ⟨e1, n, d', c', g1, g2, g3, g4, g5, g6⟩ => ⟨fun _ => ⟨t.length - (i + n), by omega, _, i + n, d', c', some ((i + e : Nat) : Int), rfl, g2, rfl, by omega, by omega, by rw [hT]; exact g5, g6⟩, fun h => (by rw [e1] at h; cases h), fun r h => (by rw [e1] at h; cases h)⟩, fun h => absurd rfl h⟩⟩
    · have h8 : ¬ e ≤ 8 := by have := of_decide_eq_true h8; omega
      have hL : isL c = true := by
        cases hL : isL c with
        | true => rfl
        | false => rw [hd, tw_cons_neg hL] at he; omega
      have hb0 : TW (t.drop i) = .error 0 := by
        have q := isL_ne hL
        rw [hd, TW]
        rw [← hd, he, if_neg q.1, if_neg q.2.1, if_neg q.2.2, dif_neg (by omega)]
      refine ⟨fun _ => ?_, fun h => (nomatch h)⟩
      exact ws_ret (wp_var rfl ⟨fun h => (nomatch h), fun _ => ⟨fun h => (by rcases h with h | h <;> cases h), fun h => (nomatch h), fun r hr => ⟨fun h => (nomatch h), fun h => hbad hb0 r hr h⟩⟩⟩)
end K01
end Sx

set_option Elab.async false
set_option linter.all false
set_option maxRecDepth 100000
/-! k01, plain: said, names. -/
namespace Sx
namespace K01
open PySem L2
theorem class_ok (d : D) : g__law_class [.fz (.exc 0 [d])] [] = .ret (.fz (.str [66, 97, 100, 83, 105, 103, 110])) [] := by rfl
theorem told_ok : g__law_told_words [] [] = .ret (.fz (.lst [.str [115, 111, 117, 110, 100], .str [114, 117, 108, 101], .str [108, 101, 102, 116], .str [114, 105, 103, 104, 116], .str [111, 110, 99, 101], .str [103, 111, 110, 101], .str [110, 111, 110, 101], .str [97, 110, 121]])) [] := by rfl
theorem said_ret (d x : D) (h : g_text_words [.fz d] [] = .ret (.fz x) []) : ∃ r o', g__law_said [.fz d] [] = .ret r o' ∧ r = .fz x ∧ o' = [] := by
  refine run_of ?_
  refine ws_seqN (ws_set (wp_c ⟨_, rfl, rfl, ?_⟩))
  refine ws_seqN (ws_set (wp_c ⟨_, rfl, rfl, ?_⟩))
  refine ws_seqN (ws_try (wx_set (wx_fz (wx_callN (wp_cons (wp_var rfl (wp_nil ⟨_, rfl, rfl, rfl, .inl ⟨_, _, h, rfl, rfl, rfl, _, _, rfl, _, rfl, rfl, ?_⟩⟩)))))))
  refine ws_seq (wp_if (wp_test (wp_op2 (wp_var rfl (wp_c ⟨_, _, _, rfl, rfl, rfl, _, rfl, fun _ => ?_, fun h => (nomatch h)⟩)))))
  exact ws_ret (wp_var rfl ⟨fun h => (nomatch h), fun _ => ⟨_, _, rfl, rfl, rfl⟩⟩)
theorem said_err (d : D) (j : Int) (h : g_text_words [.fz d] [] = .err 0 [.int j] []) : ∃ r o', g__law_said [.fz d] [] = .ret r o' ∧ r = .fz (.tup [.int j]) ∧ o' = [] := by
  refine run_of ?_
  refine ws_seqN (ws_set (wp_c ⟨_, rfl, rfl, ?_⟩))
  refine ws_seqN (ws_set (wp_c ⟨_, rfl, rfl, ?_⟩))
  refine ws_seqN (ws_try (wx_set (wx_fz (wx_callN (wp_cons (wp_var rfl (wp_nil ⟨_, rfl, rfl, rfl, .inr ⟨_, _, _, h, rfl, rfl, by decide, rfl, ?_⟩⟩)))))))
  refine ws_seq (wp_if (wp_test (wp_op2 (wp_var rfl (wp_c ⟨_, _, _, rfl, rfl, rfl, _, rfl, fun h => (nomatch h), fun _ => ws_skip ⟨fun _ => ?_, fun h => absurd rfl h⟩⟩)))))
  refine ws_ret (wp_fz (wp_if (wp_and (wp_test (wp_op2 (wp_callN (wp_cons (wp_var rfl (wp_nil ⟨_, _, _, rfl, rfl, rfl, class_ok _, rfl, rfl, rfl, ?_⟩)))))))))
  refine wp_c ⟨_, _, _, rfl, rfl, rfl, _, rfl, fun _ => ?_, fun h => (nomatch h)⟩
  refine wp_not (wp_test (wp_op1 (wp_op1 (wp_var rfl ⟨_, _, rfl, rfl, _, _, rfl, rfl, _, rfl, fun _ => ?_, fun h => (nomatch h)⟩))))
  refine wp_tup (wp_cons (wp_fz (wp_op1 (wp_var rfl ⟨_, _, rfl, rfl, _, _, rfl, wp_nil ⟨_, rfl, (show 1 ≤ SZ by decide), _, _, rfl, ?_⟩⟩))))
  exact ⟨_, _, rfl, rfl, rfl⟩
abbrev TOLDS : List D := [.str [115, 111, 117, 110, 100], .str [114, 117, 108, 101], .str [108, 101, 102, 116], .str [114, 105, 103, 104, 116], .str [111, 110, 99, 101], .str [103, 111, 110, 101], .str [110, 111, 110, 101], .str [97, 110, 121]]
def inTold (w : Tx) : Bool := TOLDS.any fun d => eqD d (.str w)
def allL (w : Tx) : Bool := w.all isL
theorem is_sound_ok (w : Tx) (hz : w.length ≤ SZ) : ∃ r o', g_is_sound [.fz (.str w)] [] = .ret r o' ∧ r = .fz (.bl (allL w && decide (w.length = 1))) ∧ o' = [] := by
  refine run_of ?_
  refine ws_ret (wp_fz (wp_andV (wp_test (wp_op2 (wp_call (wp_cons (wp_var rfl (wp_nil ⟨_, _, rfl, len_str hz, wp_c ⟨_, _, _, rfl, rfl, rfl, _, rfl, fun h => ?_, fun h => ?_⟩⟩))))))))
  · have h : w.length = 1 := by
      have z : ((w.length : Int) == 1) = true := h
      have z := eq_of_beq z
      omega
    match w, h with
    | [c], _ =>
      refine wp_op2 (wp_var rfl (wp_c ⟨_, _, _, rfl, rfl, rfl, _, _, rfl, _, _, rfl, ?_, rfl⟩))
      show R.fz (.bl (decide (c ∈ LET))) = .fz (.bl ((isL c && true) && true))
      unfold isL
      simp
  · have h : w.length ≠ 1 := by
      intro h1
      have z : ((w.length : Int) == 1) = false := h
      rw [h1] at z
      cases z
    refine ⟨_, _, rfl, _, _, rfl, ?_, rfl⟩
    rw [decide_eq_false h, Bool.and_false]
theorem is_name_ok (w : Tx) (hz : w.length ≤ SZ) : ∃ r o', g_is_name [.fz (.str w)] [] = .ret r o' ∧ r = .fz (.bl (allL w && (decide (2 ≤ w.length ∧ w.length ≤ 8) && !inTold w))) ∧ o' = [] := by
  refine run_of ?_
  have stop : (decide (2 ≤ w.length ∧ w.length ≤ 8) && !inTold w) = false → ∀ s : S, s.o = [] → Wp (fRet (fC (.bl false))) s fun f s1 => (f = .nx → Wp (fRet (fFz (fCall (l1 allD) (fCons (fLc (fIt stD (fVar 0)) (tgN 1) fYes (fOp2 inD (fVar 1) (fC k_LETTERS)) [1]) fNil)))) s1 fun f s => ∃ r o', leave 0 (.ok f s) = .ret r o' ∧ r = .fz (.bl (allL w && (decide (2 ≤ w.length ∧ w.length ≤ 8) && !inTold w))) ∧ o' = []) ∧
      (f ≠ .nx → ∃ r o', leave 0 (.ok f s1) = .ret r o' ∧ r = .fz (.bl (allL w && (decide (2 ≤ w.length ∧ w.length ≤ 8) && !inTold w))) ∧ o' = []) := fun hb s hs => by
    refine ws_ret (wp_c ⟨fun h => (nomatch h), fun _ => ?_⟩)
    rw [hb, Bool.and_false]
    obtain ⟨g, o⟩ := s
    cases hs
    exact ⟨_, _, rfl, rfl, rfl⟩
  refine ws_seq (wp_if (wp_or (wp_not (wp_test (wp_chain (wp_c (wp_call (wp_cons (wp_var rfl (wp_nil ⟨_, _, rfl, len_str hz, ?_⟩))))))))))
  refine ⟨_, _, _, rfl, rfl, rfl, fun h2 => ⟨_, rfl, fun h => (nomatch h), fun _ => ⟨fun _ => stop ?_ _ rfl, fun h => (nomatch h)⟩⟩, fun h2 => wp_c ⟨_, _, _, _, rfl, rfl, rfl, rfl, _, rfl, fun h8 => ?_, fun h8 => ?_⟩⟩
  · have h2 := of_decide_eq_false h2
    rw [decide_eq_false (by omega), Bool.false_and]
  · have h2 := of_decide_eq_true h2
    have h8 : w.length ≤ 8 := by
      have z : (!decide ((w.length : Int) ≤ 8)) = false := h8
      rw [Bool.not_eq_false'] at z
      have := of_decide_eq_true z
      omega
    refine wp_test (wp_op2 (wp_var rfl (wp_c ⟨_, _, _, rfl, rfl, rfl, _, rfl, ?_⟩)))
    refine ⟨fun ht => stop ?_ _ rfl, fun ht => ws_skip ⟨fun _ => ?_, fun h => absurd rfl h⟩⟩
    · have ht : inTold w = true := ht
      rw [ht]
      simp
    · have ht : inTold w = false := ht
      refine ws_ret (wp_fz (wp_call (wp_cons (wp_lc1 (fun _ => true) (fun d => match d with
        | .str [c] => .bl (decide (c ∈ LET))
        | _ => .bl false) (wp_it (wp_var rfl ⟨_, _, _, rfl, rfl, by rw [List.length_map]; exact hz, fun d hd => ?_, ?_⟩))))))
      · obtain ⟨c, hc, rfl⟩ := List.mem_map.mp hd
        exact ⟨_, rfl, wp_ret ⟨rfl, rfl, fun _ => wp_op2 (wp_var rfl (wp_c ⟨_, _, _, rfl, rfl, rfl, rfl, rfl⟩))⟩⟩
      · have hb : ∀ v : Tx, boolsD (((v.map fun ch => D.str [ch]).filter fun _ => true).map fun d => match d with
          | .str [c] => .bl (decide (c ∈ LET))
          | _ => .bl false) = some (v.map isL) := fun v => by
          induction v with
          | nil => rfl
          | cons c v ih =>
            rw [List.map_cons, List.filter_cons_of_pos rfl, List.map_cons]
            show (boolsD _).map _ = _
            rw [ih]
            rfl
        refine wp_nil ⟨_, _, rfl, by show (boolsD _).map _ = _; rw [hb]; rfl, _, _, rfl, _, _, rfl, ?_, rfl⟩
        rw [ht, decide_eq_true (by omega)]
        show R.fz (.bl ((w.map isL).all id)) = .fz (.bl (allL w && (true && !false)))
        unfold allL
        rw [List.all_map]
        simp [Function.comp_def]
  · have h2 := of_decide_eq_true h2
    have h8 : ¬ w.length ≤ 8 := by
      have z : (!decide ((w.length : Int) ≤ 8)) = true := h8
      rw [Bool.not_eq_true'] at z
      have := of_decide_eq_false z
      omega
    refine ⟨fun _ => stop ?_ _ rfl, fun h => (nomatch h)⟩
    rw [decide_eq_false (by omega), Bool.false_and]
end K01
end Sx

set_option Elab.async false
set_option linter.all false
set_option maxRecDepth 100000
/-! k01, plain: names_right. -/
namespace Sx
namespace K01
open PySem L2
def notL : D → Bool
  | .str [c] => !decide (c ∈ LET)
  | _ => true
theorem flat_strs1 : ∀ xs : List D, (∀ d ∈ xs, ∃ c, d = .str c) → flatDs xs = true
  | [], _ => rfl
  | d :: xs, h => by
    obtain ⟨c, rfl⟩ := h d List.mem_cons_self
    show (true && flatDs xs) = true
    rw [flat_strs1 xs fun d hd => h d (List.mem_cons_of_mem _ hd)]
    rfl
theorem odd_ones : ∀ w : Tx, eqDs (((w.map fun ch => D.str [ch]).filter notL).map id) [] = allL w
  | [] => rfl
  | c :: w => by
    have ih := odd_ones w
    rw [List.map_cons]
    cases h : isL c with
    | true =>
      have hn : notL (.str [c]) = false := by
        show (!isL c) = false
        rw [h]; rfl
      rw [List.filter_cons_of_neg (by rw [hn]; decide), ih]
      unfold allL
      rw [List.all_cons, h]
      rfl
    | false =>
      have hn : notL (.str [c]) = true := by
        show (!isL c) = true
        rw [h]; rfl
      rw [List.filter_cons_of_pos hn]
      unfold allL
      rw [List.all_cons, h]
      rfl
abbrev n1 (w : Tx) : Bool := allL w && (decide (2 ≤ w.length ∧ w.length ≤ 8) && !inTold w)
abbrev n2 (w : Tx) : Bool := allL w && decide (w.length = 1)
theorem names_ok (w : Tx) (hz : w.length ≤ SZ) : ∃ r o', g__law_names_right [.fz (.str w)] [] = .ret r o' ∧ r = .fz (.bl true) ∧ o' = [] := by
  refine run_of ?_
  have hc : cmpOk (.lst (((w.map fun ch => D.str [ch]).filter notL).map id)) (.lst []) = true := by
    unfold cmpOk
    have : flatD (unscr (.lst (((w.map fun ch => D.str [ch]).filter notL).map id))) = true := flat_strs1 _ fun d hd => by
      rw [List.map_id] at hd
      obtain ⟨c, _, rfl⟩ := List.mem_map.mp (List.mem_filter.mp hd).1
      exact ⟨_, rfl⟩
    rw [this]
    have : decide (depD (unscr (.lst [])) ≤ 60) = true := by decide
    rw [this]
    simp [unscr, flatD, flatDs]
  have he : eqOp (.lst (((w.map fun ch => D.str [ch]).filter notL).map id)) (.lst []) = some (.fz (.bl (allL w))) := by
    unfold eqOp
    rw [if_pos hc]
    show some (R.fz (.bl (eqDs _ []))) = _
    rw [odd_ones]
  refine ws_seqN (ws_set (wp_op2 (wp_lc1 notL id (wp_it (wp_var rfl ⟨_, _, _, rfl, rfl, by rw [List.length_map]; exact hz, fun d hd => ?_, ?_⟩)))))
  · obtain ⟨c, hc, rfl⟩ := List.mem_map.mp hd
    exact ⟨_, rfl, wp_test (wp_op2 (wp_var rfl (wp_c ⟨_, _, _, rfl, rfl, rfl, _, rfl, rfl, rfl, fun _ => wp_var rfl ⟨rfl, rfl⟩⟩)))⟩
  refine wp_lst (wp_nil ⟨_, rfl, by decide, _, _, _, rfl, rfl, he, _, rfl, rfl, ?_⟩)
  obtain ⟨ra, oa, ea, rfl, rfl⟩ := is_name_ok w hz
  obtain ⟨rb, ob, eb, rfl, rfl⟩ := is_sound_ok w hz
  have v1 : ∀ (Q : R → S → Prop), Q (.fz (.bl (n1 w))) ⟨[some (.fz (.str w)), some (.fz (.bl (allL w))), none, none, none, none], []⟩ → Wp (fAndV (fVar 1) (fAndV (fChain ltD ltD (fC (.int 1)) (fCall (l1 lenD) (fCons (fVar 0) fNil)) (fC (.int 9))) (fOp2 notInD (fVar 0) (fCallN g__law_told_words 0 0 fNil)))) ⟨[some (.fz (.str w)), some (.fz (.bl (allL w))), none, none, none, none], []⟩ Q := fun Q q => by
    refine wp_andV (wp_test (wp_var rfl ⟨_, rfl, fun hL => ?_, fun hL => ?_⟩))
    · refine wp_andV (wp_test (wp_chain (wp_c (wp_call (wp_cons (wp_var rfl (wp_nil ⟨_, _, rfl, len_str hz, ?_⟩)))))))
      refine ⟨_, _, _, rfl, rfl, rfl, fun h1 => ⟨_, rfl, fun h => (nomatch h), fun _ => ?_⟩, fun h1 => wp_c ⟨_, _, _, _, rfl, rfl, rfl, rfl, _, rfl, fun h9 => ?_, fun h9 => ?_⟩⟩
      · have h1 := of_decide_eq_false h1
        have : n1 w = false := by unfold n1; rw [decide_eq_false (by omega)]; simp
        rw [this] at q
        exact q
      · have h1 := of_decide_eq_true h1
        have h9 := of_decide_eq_true h9
        refine wp_op2 (wp_var rfl (wp_callN (wp_nil ⟨_, _, _, rfl, rfl, rfl, told_ok, rfl, rfl, rfl, _, _, _, rfl, rfl, rfl, ?_⟩)))
        have : n1 w = !inTold w := by unfold n1; rw [decide_eq_true (by omega), hL]; simp
        rw [this] at q
        exact q
      · have h1 := of_decide_eq_true h1
        have h9 := of_decide_eq_false h9
        have : n1 w = false := by unfold n1; rw [decide_eq_false (by omega)]; simp
        rw [this] at q
        exact q
    · have : n1 w = false := by unfold n1; rw [hL]; rfl
      rw [this] at q
      exact q
  have v2 : ∀ (Q : R → S → Prop), Q (.fz (.bl (n2 w))) ⟨[some (.fz (.str w)), some (.fz (.bl (allL w))), none, none, none, none], []⟩ → Wp (fAndV (fVar 1) (fOp2 eqOp (fCall (l1 lenD) (fCons (fVar 0) fNil)) (fC (.int 1)))) ⟨[some (.fz (.str w)), some (.fz (.bl (allL w))), none, none, none, none], []⟩ Q := fun Q q => by
    refine wp_andV (wp_test (wp_var rfl ⟨_, rfl, fun hL => ?_, fun hL => ?_⟩))
    · refine wp_op2 (wp_call (wp_cons (wp_var rfl (wp_nil ⟨_, _, rfl, len_str hz, wp_c ⟨_, _, _, rfl, rfl, rfl, ?_⟩⟩))))
      have : n2 w = ((w.length : Int) == 1) := by
        unfold n2
        rw [hL, Bool.true_and]
        by_cases h : w.length = 1
        · rw [decide_eq_true h, h]; rfl
        · rw [decide_eq_false h]
          symm
          exact beq_eq_false_iff_ne.mpr (by omega)
      rw [this] at q
      exact q
    · have : n2 w = false := by unfold n2; rw [hL]; rfl
      rw [this] at q
      exact q
  refine ws_seqN (ws_set (wp_fz (wp_lst (wp_cons (wp_fz (v1 _ ⟨_, _, rfl, wp_cons (wp_fz (v2 _ ⟨_, _, rfl, wp_nil ⟨_, rfl, (show 2 ≤ SZ by decide), _, _, rfl, _, rfl, rfl, ?_⟩⟩))⟩))))))
  refine ws_seqN (ws_set (wp_fz (wp_lst (wp_cons (wp_fz (wp_callN (wp_cons (wp_var rfl (wp_nil ⟨_, _, _, rfl, rfl, rfl, ea, rfl, rfl, rfl, _, _, rfl, ?_⟩)))))))))
  refine wp_cons (wp_fz (wp_callN (wp_cons (wp_var rfl (wp_nil ⟨_, _, _, rfl, rfl, rfl, eb, rfl, rfl, rfl, _, _, rfl, ?_⟩)))))
  refine wp_nil ⟨_, rfl, (show 2 ≤ SZ by decide), _, _, rfl, _, rfl, rfl, ?_⟩
  have hb2 : ∀ b : Bool, (b == b) = true := fun b => by cases b <;> rfl
  refine ws_ret (wp_fz (wp_andV (wp_test (wp_op2 (wp_var rfl (wp_var rfl ⟨_, _, _, rfl, rfl, rfl, _, rfl, fun _ => ?_, fun h => ?_⟩))))))
  · refine wp_call (wp_cons (wp_lc1 (fun _ => true) (fun d => .bl true) (wp_it (wp_var rfl ⟨_, _, _, rfl, rfl, (show 2 ≤ SZ by decide), fun d hd => ?_, ?_⟩))))
    · have hd' : ∃ b, d = .bl b := by
        rcases List.mem_cons.mp hd with h | h
        · exact ⟨_, h⟩
        · rcases List.mem_cons.mp h with h | h
          · exact ⟨_, h⟩
          · cases h
      obtain ⟨b, rfl⟩ := hd'
      exact ⟨_, rfl, wp_ret ⟨rfl, rfl, fun _ => wp_fz (wp_op1 (wp_var rfl ⟨_, _, rfl, rfl, _, _, rfl, rfl, rfl⟩))⟩⟩
    · exact wp_nil ⟨_, _, rfl, rfl, _, _, rfl, _, _, rfl, rfl, rfl⟩
  · have z : ((n1 w == n1 w) && ((n2 w == n2 w) && true)) = false := h
    rw [hb2, hb2] at z
    cases z
end K01
end Sx

set_option Elab.async false
set_option linter.all false
set_option maxRecDepth 100000
/-! k01, plain: the drawn texts. -/
namespace Sx
namespace K01
open PySem L2
theorem ix_lst {ds : List D} {v : Int} (h0 : 0 ≤ v) (h1 : v < (ds.length : Int)) : ∃ d, d ∈ ds ∧ ixD (.lst ds) (.int v) = some (.fz d) := by
  have hl : v.toNat < ds.length := by omega
  refine ⟨ds[v.toNat], List.getElem_mem hl, ?_⟩
  show (atI ds v).map R.fz = _
  rw [atI_nat h0, List.getElem?_eq_getElem hl]
  rfl
theorem ix_txt {t : Tx} {v : Int} (hz : t.length ≤ SZ) (h0 : 0 ≤ v) (h1 : v < (t.length : Int)) : ∃ c, atI t v = some c ∧ ixD (.str t) (.int v) = some (.fz (.str [c])) := by
  have hl : v.toNat < t.length := by omega
  refine ⟨t[v.toNat], ?_, ix_str hz (i := v.toNat) (by omega) (List.getElem?_eq_getElem hl)⟩
  rw [atI_nat h0]
  exact List.getElem?_eq_getElem hl
/-- _law_next with any second argument -/
theorem wp_nextE {ns : List Int} {k m : Int} {m2 : M R} {g : List (Option W)} {Q : R → S → Prop} {rest : List (Option Node)} {i : Nat} (hk : 0 ≤ k) (hk2 : k < 900000000) (hm : 0 < m) (hi : g[i]? = some (some (.own 0)))
    (h2 : Wp m2 ⟨g, some (stN ns k) :: rest⟩ fun r s1 => r = .fz (.int m) ∧ s1 = ⟨g, some (stN ns k) :: rest⟩)
    (q : ∀ v, 0 ≤ v → v < m → Q (.fz (.int v)) ⟨g, some (stN ns (k + 1)) :: rest⟩) : Wp (fCallN g__law_next 1 2 (fCons (fVar i) (fCons m2 fNil))) ⟨g, some (stN ns k) :: rest⟩ Q := by
  obtain ⟨r, o', e, v, rfl, h0, h1, rfl⟩ := next_ok ns k m hk hk2 hm
  have e1 : g__law_next [.own 0, .fz (.int m)] (padO 1 (some (stN ns k) :: rest)) = .ret (.fz (.int v)) [some (stN ns (k + 1))] := by
    have : padO 1 (some (stN ns k) :: rest) = [some (stN ns k)] := by
      unfold padO
      simp
    rw [this]
    exact e
  refine wp_callN (wp_cons (wp_varO hi (wp_cons (wp_mono h2 fun r s1 ⟨e2, e3⟩ => ?_))))
  subst e2 e3
  refine wp_nil ⟨[.own 0, .fz (.int m)], .fz (.int v), [some (stN ns (k + 1))], rfl, ?_, ?_, e1, rfl, ?_, rfl, ?_⟩
  · show toWs (min 1 (rest.length + 1)) _ = _
    rw [show min 1 (rest.length + 1) = 1 by omega]
    rfl
  · show rlO (min 1 (rest.length + 1)) _ = _
    rw [show min 1 (rest.length + 1) = 1 by omega]
    rfl
  · show rlO (min 1 (rest.length + 1)) _ = _
    rw [show min 1 (rest.length + 1) = 1 by omega]
    rfl
  · have : backO 1 (some (stN ns k) :: rest) [some (stN ns (k + 1))] = some (stN ns (k + 1)) :: rest := by
      unfold backO
      simp
    rw [this]
    exact q v h0 h1
/-- a def that takes the state alone -/
theorem wp_stF {g0 : FnS} {ns : List Int} {k : Int} {g : List (Option W)} {C : R → Int → Prop} {Q : R → S → Prop} {rest : List (Option Node)} {i : Nat} (hi : g[i]? = some (some (.own 0)))
    (hg : ∃ r o', g0 [.own 0] [some (stN ns k)] = .ret r o' ∧ ∃ k', rOk r = true ∧ C r k' ∧ o' = [some (stN ns k')])
    (q : ∀ r k', C r k' → Q r ⟨g, some (stN ns k') :: rest⟩) : Wp (fCallN g0 1 1 (fCons (fVar i) fNil)) ⟨g, some (stN ns k) :: rest⟩ Q := by
  obtain ⟨r, o', e, k', hr, hc, rfl⟩ := hg
  have e1 : g0 [.own 0] (padO 1 (some (stN ns k) :: rest)) = .ret r [some (stN ns k')] := by
    have : padO 1 (some (stN ns k) :: rest) = [some (stN ns k)] := by
      unfold padO
      simp
    rw [this]
    exact e
  refine wp_callN (wp_cons (wp_varO hi (wp_nil ⟨[.own 0], r, [some (stN ns k')], rfl, ?_, ?_, e1, hr, ?_, rfl, ?_⟩)))
  · show toWs (min 1 (rest.length + 1)) _ = _
    rw [show min 1 (rest.length + 1) = 1 by omega]
    rfl
  · show rlO (min 1 (rest.length + 1)) _ = _
    rw [show min 1 (rest.length + 1) = 1 by omega]
    rfl
  · show rlO (min 1 (rest.length + 1)) _ = _
    rw [show min 1 (rest.length + 1) = 1 by omega]
    rfl
  · have : backO 1 (some (stN ns k) :: rest) [some (stN ns k')] = some (stN ns k') :: rest := by
      unfold backO
      simp
    rw [this]
    exact q r k' hc
theorem strs_chr (ch : Int → Nat) : ∀ zs : List Int, strsD ((zs.map D.int).map fun d => match d with
    | .int z => .str [ch z]
    | _ => .non) = some (zs.map fun z => [ch z])
  | [] => rfl
  | z :: zs => by
    have ih := strs_chr ch zs
    rw [List.map_cons, List.map_cons]
    show (strsD _).map _ = _
    rw [ih]
    rfl
theorem join_len : ∀ ys : List Tx, (joinL [] ys).length = (ys.map List.length).sum
  | [] => rfl
  | [x] => by simp [joinL]
  | x :: y :: r => by
    have ih := join_len (y :: r)
    show (x ++ [] ++ joinL [] (y :: r)).length = _
    rw [List.length_append, List.length_append, ih]
    simp
theorem sum_ones (ch : Int → Nat) : ∀ zs : List Int, ((zs.map fun z => [ch z]).map List.length).sum = zs.length
  | [] => rfl
  | z :: zs => by
    have ih := sum_ones ch zs
    rw [List.map_cons, List.map_cons, List.sum_cons, ih, List.length_cons]
    simp only [List.length_cons, List.length_nil]
    omega
theorem rg1_ok (n : Nat) (hn : n ≤ 100000) : rg1D [.int (n : Int)] = some (((List.range n).map fun (i : Nat) => (0 + (i : Int))).map D.int) := by
  unfold rg1D
  dsimp only
  rw [if_pos (by constructor <;> omega)]
  unfold rgL
  rw [List.map_map, show (n : Int).toNat = n by omega]
  rfl
/-- what a piece is -/
abbrev pieceC (k : Int) (b : Nat) : R → Int → Prop := fun r k' => ∃ t : Tx, r = .fz (.str t) ∧ t.length ≤ b ∧ k ≤ k' ∧ k' ≤ k + 4
theorem piece_ok (ns : List Int) (k : Int) (hk : 0 ≤ k) (hk2 : k < 800000000) : ∃ r o', g__law_piece [.own 0] [some (stN ns k)] = .ret r o' ∧ ∃ k', rOk r = true ∧ pieceC k 8 r k' ∧ o' = [some (stN ns k')] := by
  refine run_of ?_
  refine ws_seqN (ws_set (wp_c ⟨_, rfl, rfl, ?_⟩))
  refine ws_seqN (ws_set (wp_fz (wp_nextE (ns := ns) (k := k) hk (by omega) (by decide) rfl (wp_c ⟨rfl, rfl⟩) fun v h0 h1 => ⟨_, _, rfl, _, rfl, rfl, ?_⟩)))
  refine ws_seq (wp_if (wp_test (wp_op2 (wp_var rfl (wp_c ⟨_, _, _, rfl, rfl, rfl, _, rfl, fun _ => ?_, fun _ => ?_⟩)))))
  · refine ws_ret (wp_fz (wp_op2 (wp_callN (wp_nil ⟨_, _, _, rfl, rfl, rfl, told_ok, rfl, rfl, rfl, ?_⟩))))
    refine wp_nextE (ns := ns) (k := k + 1) (by omega) (by omega) (by decide) rfl (wp_c ⟨rfl, rfl⟩) fun u g0 g1 => ?_
    obtain ⟨d, hd, hx⟩ := ix_lst (ds := TOLDS) g0 g1
    have hs : ∃ t : Tx, d = .str t ∧ t.length ≤ 8 := by
      simp only [TOLDS, List.mem_cons, List.not_mem_nil, or_false] at hd
      rcases hd with h | h | h | h | h | h | h | h <;> exact ⟨_, h, by decide⟩
    obtain ⟨t, rfl, ht⟩ := hs
    exact ⟨_, _, _, rfl, rfl, hx, _, _, rfl, fun h => (nomatch h), fun _ => ⟨_, _, rfl, k + 1 + 1, rfl, ⟨t, rfl, ht, by omega, by omega⟩, rfl⟩⟩
  refine ws_skip ⟨fun _ => ?_, fun h => absurd rfl h⟩
  refine ws_seq (wp_if (wp_test (wp_op2 (wp_var rfl (wp_c ⟨_, _, _, rfl, rfl, rfl, _, rfl, fun _ => ?_, fun _ => ?_⟩)))))
  · refine ws_ret (wp_fz (wp_op2 (wp_c ?_)))
    refine wp_nextE (ns := ns) (k := k + 1) (by omega) (by omega) (by decide) rfl (wp_c ⟨rfl, rfl⟩) fun u g0 g1 => ?_
    obtain ⟨c, _, hx⟩ := ix_txt (t := MRK) (by decide) g0 g1
    exact ⟨_, _, _, rfl, rfl, hx, _, _, rfl, fun h => (nomatch h), fun _ => ⟨_, _, rfl, k + 1 + 1, rfl, ⟨[c], rfl, (show 1 ≤ 8 by decide), by omega, by omega⟩, rfl⟩⟩
  refine ws_skip ⟨fun _ => ?_, fun h => absurd rfl h⟩
  refine ws_seqN (ws_setT (wp_tup (wp_cons (wp_fz (wp_nextE (ns := ns) (k := k + 1) (by omega) (by omega) (by decide) rfl (wp_c ⟨rfl, rfl⟩) fun a a0 a1 => ⟨_, _, rfl, ?_⟩)))))
  refine wp_cons (wp_fz (wp_op2 (wp_c (wp_nextE (ns := ns) (k := k + 1 + 1) (by omega) (by omega) (by decide) rfl (wp_c ⟨rfl, rfl⟩) fun b b0 b1 => ⟨_, _, _, rfl, rfl, rfl, _, _, rfl, ?_⟩))))
  refine wp_nil ⟨_, rfl, (show 2 ≤ SZ by decide), _, _, rfl, rfl, rfl, ?_⟩
  refine ws_ret (wp_fz (wp_mth (wp_c ⟨_, rfl, rfl, ?_⟩)))
  have lc : ∀ z : Int, ∃ c, atI LET ((a + z * (1 + b)) % 26) = some c ∧ ixD (.str LET) (.int ((a + z * (1 + b)) % 26)) = some (.fz (.str [c])) := fun z =>
    ix_txt (by decide) (Int.emod_nonneg _ (by decide)) (Int.emod_lt_of_pos _ (by decide))
  refine wp_cons (wp_lc1 (fun _ => true) (fun d => match d with
    | .int z => .str [(atI LET ((a + z * (1 + b)) % 26)).getD 0]
    | _ => .non) (wp_itA (wp_cons (wp_fz (wp_op2 (wp_lst (wp_cons (wp_c (wp_cons (wp_c (wp_cons (wp_c (wp_cons (wp_c (wp_cons (wp_c ?_))))))))))))))))
  refine wp_nil ⟨_, rfl, (show 5 ≤ SZ by decide), ?_⟩
  refine wp_nextE (ns := ns) (k := k + 1 + 1 + 1) (by omega) (by omega) (by decide) rfl (wp_c ⟨rfl, rfl⟩) fun u g0 g1 => ?_
  obtain ⟨d, hd, hx⟩ := ix_lst (ds := [D.int 1, .int 1, .int 2, .int 5, .int 8]) g0 g1
  have hs : ∃ n : Nat, d = .int (n : Int) ∧ n ≤ 8 := by
    simp only [List.mem_cons, List.not_mem_nil, or_false] at hd
    rcases hd with h | h | h | h | h
    · exact ⟨1, h, by decide⟩
    · exact ⟨1, h, by decide⟩
    · exact ⟨2, h, by decide⟩
    · exact ⟨5, h, by decide⟩
    · exact ⟨8, h, by decide⟩
  obtain ⟨n, rfl, hn⟩ := hs
  have hrg := rg1_ok n (by omega)
  refine ⟨_, _, _, rfl, rfl, hx, _, _, rfl, wp_nil ⟨_, _, rfl, hrg, ?_, fun d hd => ?_, ?_⟩⟩
  · rw [List.length_map, List.length_map, List.length_range]
    show n ≤ 16777216
    omega
  · obtain ⟨z, hz, rfl⟩ := List.mem_map.mp hd
    obtain ⟨i, hi, rfl⟩ := List.mem_map.mp hz
    have hi := List.mem_range.mp hi
    obtain ⟨c, hc, hcx⟩ := lc (0 + (i : Int))
    refine ⟨_, rfl, wp_ret ⟨rfl, rfl, fun _ => wp_fz (wp_op2 (wp_var rfl (wp_op2 (wp_op2 (wp_var rfl (wp_op2 (wp_var rfl (wp_var rfl ⟨_, _, _, rfl, rfl, mulD_l (by unfold smallI; omega), ?_⟩))))))))⟩⟩
    refine ⟨_, _, _, rfl, rfl, rfl, wp_c ⟨_, _, _, rfl, rfl, modD_ok (by decide), ?_⟩⟩
    refine ⟨_, _, _, rfl, rfl, hcx, _, _, rfl, ?_, rfl⟩
    show R.fz (.str [c]) = .fz (.str [(atI LET _).getD 0])
    rw [hc]
    rfl
  · have hall : (((List.range n).map fun (i : Nat) => (0 + (i : Int))).map D.int).filter (fun _ => true) = (((List.range n).map fun (i : Nat) => (0 + (i : Int))).map D.int) := List.filter_eq_self.mpr fun _ _ => rfl
    rw [hall]
    have hsd := strs_chr (fun z => (atI LET ((a + z * (1 + b)) % 26)).getD 0) ((List.range n).map fun (i : Nat) => (0 + (i : Int)))
    have hj : joinD (.str []) (.lst ((((List.range n).map fun (i : Nat) => (0 + (i : Int))).map D.int).map fun d => match d with
        | .int z => .str [(atI LET ((a + z * (1 + b)) % 26)).getD 0]
        | _ => .non)) = some (.fz (.str (joinL [] (((List.range n).map fun (i : Nat) => (0 + (i : Int))).map fun z => [(atI LET ((a + z * (1 + b)) % 26)).getD 0])))) := by
      unfold joinD
      show (match strsD _ with
        | some ys => if (ys.map List.length).sum + ys.length * 0 ≤ SZ then some (R.fz (.str (joinL [] ys))) else none
        | none => none) = _
      rw [hsd]
      dsimp only
      rw [if_pos]
      rw [sum_ones]
      rw [List.length_map, List.length_map, List.length_range]
      show n + n * 0 ≤ 16777216
      omega
    refine wp_nil ⟨_, _, rfl, hj, _, _, rfl, _, _, rfl, k + 1 + 1 + 1 + 1, rfl, ⟨_, rfl, ?_, by omega, by omega⟩, rfl⟩
    rw [join_len, sum_ones, List.length_map, List.length_range]
    exact hn
end K01
end Sx

set_option Elab.async false
set_option linter.all false
set_option maxRecDepth 100000
/-! k01, plain: the drawn text. -/
namespace Sx
namespace K01
open PySem L2
theorem str_of {ds : List D} {b : Nat} (h : ds.all (fun d => match d with
    | .str t => decide (t.length ≤ b)
    | _ => false) = true) {d : D} (hd : d ∈ ds) : ∃ t, d = .str t ∧ t.length ≤ b := by
  have z := List.all_eq_true.mp h d hd
  cases d with
  | str t => exact ⟨t, rfl, of_decide_eq_true z⟩
  | _ => cases z
abbrev OSG : Tx := [33, 34, 36, 38, 39, 40, 41, 42, 44, 46, 58, 59, 60, 61, 63, 64, 65, 66, 67, 68, 69, 70, 71, 72, 73, 74, 75, 76, 77, 78, 79, 80, 81, 82, 83, 84, 85, 86, 87, 88, 89, 90, 92, 94, 96, 124, 126, 48, 49, 50, 51, 52, 53, 54, 55, 56, 57]
theorem len_osg : l1 lenD [.str OSG] = some (.fz (.int 57)) := len_str (t := OSG) (by decide)
theorem odd_ok (ns : List Int) (k : Int) (hk : 0 ≤ k) (hk2 : k < 800000000) : ∃ r o', g__law_odd [.own 0] [some (stN ns k)] = .ret r o' ∧ ∃ k', rOk r = true ∧ pieceC k 10 r k' ∧ o' = [some (stN ns k')] := by
  refine run_of ?_
  refine ws_seqN (ws_set (wp_c ⟨_, rfl, rfl, ?_⟩))
  refine ws_seq (wp_if (wp_test (wp_op2 (wp_nextE (ns := ns) (k := k) hk (by omega) (by decide) rfl (wp_c ⟨rfl, rfl⟩) fun v h0 h1 => wp_c ⟨_, _, _, rfl, rfl, rfl, _, rfl, fun _ => ?_, fun _ => ws_skip ⟨fun _ => ?_, fun h => absurd rfl h⟩⟩))))
  · refine ws_ret (wp_fz (wp_op2 (wp_var rfl ?_)))
    refine wp_nextE (ns := ns) (k := k + 1) (m := 57) (by omega) (by omega) (by decide) rfl (wp_fz (wp_call (wp_cons (wp_var rfl (wp_nil ⟨[.str OSG], .fz (.int 57), rfl, len_osg, _, _, rfl, rfl, rfl⟩))))) fun u g0 g1 => ?_
    obtain ⟨c, _, hx⟩ := ix_txt (t := OSG) (by decide) g0 g1
    exact ⟨_, _, _, rfl, rfl, hx, _, _, rfl, fun h => (nomatch h), fun _ => ⟨_, _, rfl, k + 1 + 1, rfl, ⟨[c], rfl, (show 1 ≤ 10 by decide), by omega, by omega⟩, rfl⟩⟩
  · refine ws_ret (wp_fz (wp_op2 (wp_lst (wp_cons (wp_c (wp_cons (wp_c (wp_cons (wp_c (wp_cons (wp_c (wp_cons (wp_c (wp_cons (wp_c (wp_cons (wp_c (wp_cons (wp_c ?_)))))))))))))))))))
    refine wp_nil ⟨_, rfl, (show 8 ≤ SZ by decide), ?_⟩
    refine wp_nextE (ns := ns) (k := k + 1) (by omega) (by omega) (by decide) rfl (wp_c ⟨rfl, rfl⟩) fun u g0 g1 => ?_
    obtain ⟨d, hd, hx⟩ := ix_lst (ds := [D.str [97, 98, 99, 100, 101, 102, 103, 104, 105], .str [97, 98, 99, 100, 101, 102, 103, 104], .str [97, 98, 99, 100, 101, 102, 103, 104, 105, 106], .str [97, 49], .str [65], .str [97, 98, 32], .str [45, 45], .str [97, 45, 98]]) g0 g1
    obtain ⟨t, rfl, ht⟩ := str_of (b := 10) (by decide) hd
    exact ⟨_, _, _, rfl, rfl, hx, _, _, rfl, _, _, rfl, k + 1 + 1, rfl, ⟨t, rfl, ht, by omega, by omega⟩, rfl⟩
theorem cut_le (t : Tx) (lo hi : Option Int) : (cutL t lo hi).length ≤ t.length := by
  unfold cutL
  rw [List.length_take, List.length_drop]
  omega
theorem mul_str {a : Tx} {j : Int} (h : a.length * j.toNat ≤ SZ ∧ 0 ≤ j ∧ j ≤ 1048576) : mulD (.str a) (.int j) = some (.fz (.str (repL j.toNat a))) := if_pos h
theorem sl_str' {a : Tx} {lo hi : Option Int} (h : a.length ≤ SZ) : slD (.str a) lo hi = some (.fz (.str (cutL a lo hi))) := if_pos h
theorem add_str {a b : Tx} (h : a.length + b.length ≤ 100000) : addD (.str a) (.str b) = some (.fz (.str (a ++ b))) := if_pos (Nat.le_trans h (by decide))
abbrev textC (k : Int) : R → Int → Prop := fun r k' => ∃ t : Tx, r = .fz (.str t) ∧ t.length ≤ 20000 ∧ k ≤ k' ∧ k' ≤ k + 2000
theorem rng_int {n : Nat} {d : D} (hd : d ∈ ((List.range n).map fun (i : Nat) => (0 + (i : Int))).map D.int) : ∃ z, d = .int z := by
  obtain ⟨z, _, rfl⟩ := List.mem_map.mp hd
  exact ⟨z, rfl⟩
theorem text_ok (ns : List Int) (k : Int) (hk : 0 ≤ k) (hk2 : k < 700000000) : ∃ r o', g__law_text [.own 0] [some (stN ns k)] = .ret r o' ∧ ∃ k', rOk r = true ∧ textC k r k' ∧ o' = [some (stN ns k')] := by
  refine run_of ?_
  refine ws_seqN (ws_set (wp_c ⟨_, rfl, rfl, ?_⟩))
  refine ws_seqN (ws_for (wp_itA (wp_cons (wp_fz (wp_call (wp_cons (wp_c (wp_cons (wp_fz (wp_call (wp_cons (wp_op2 (wp_varO rfl (wp_c ?_))))))))))))))
  refine ⟨_, _, _, rfl, rfl, rfl, wp_nil ⟨_, _, rfl, rfl, _, _, rfl, ?_⟩⟩
  obtain ⟨n, hn, hmin⟩ : ∃ n : Nat, n ≤ 200 ∧ min2D (.int 200) (.int (ns.length : Int)) = some (.fz (.int (n : Int))) := by
    by_cases h : (ns.length : Int) < 200
    · refine ⟨ns.length, by omega, ?_⟩
      show some (R.fz (.int (if (ns.length : Int) < 200 then (ns.length : Int) else 200))) = _
      rw [if_pos h]
    · refine ⟨200, by omega, ?_⟩
      show some (R.fz (.int (if (ns.length : Int) < 200 then (ns.length : Int) else 200))) = _
      rw [if_neg h]
      rfl
  refine wp_nil ⟨_, _, rfl, hmin, _, _, rfl, wp_nil ⟨_, _, rfl, rg1_ok n (by omega), ?_⟩⟩
  refine ws_loop (I := fun i s => ∃ (t : Tx) (k' : Int) (y : Option Int), t.length ≤ 10 * i ∧ k ≤ k' ∧ k' ≤ k + 5 * (i : Int) ∧ s = ⟨[some (.own 0), some (.fz (.str t)), y.map fun z => .fz (.int z), none], [some (stN ns k')]⟩) _ 0 _ ⟨[], k, none, by simp, by omega, by omega, rfl⟩ ?_ ?_
  · rintro j d s hd ⟨t, k', y, h1, h2, h3, rfl⟩
    have hj : j < n := by
      have := (List.getElem?_eq_some_iff.mp hd).1
      rwa [List.length_map, List.length_map, List.length_range] at this
    obtain ⟨z, rfl⟩ := rng_int (List.mem_of_getElem? hd)
    refine ⟨_, rfl, ?_⟩
    refine ws_set (wp_fz (wp_op2 (wp_op2 (wp_var rfl ?_))))
    refine wp_stF (ns := ns) (k := k') (C := pieceC k' 8) rfl (piece_ok ns k' (by omega) (by omega)) fun r k2 ⟨p, hr, hp, a1, a2⟩ => ?_
    subst hr
    refine ⟨_, _, _, rfl, rfl, add_str (by omega), ?_⟩
    refine wp_op2 (wp_lst (wp_cons (wp_c (wp_cons (wp_c (wp_cons (wp_c (wp_cons (wp_c (wp_cons (wp_c (wp_cons (wp_c (wp_cons (wp_c (wp_cons (wp_c ?_)))))))))))))))))
    refine wp_nil ⟨_, rfl, (show 8 ≤ SZ by decide), ?_⟩
    refine wp_nextE (ns := ns) (k := k2) (by omega) (by omega) (by decide) rfl (wp_c ⟨rfl, rfl⟩) fun u g0 g1 => ?_
    obtain ⟨d, hd, hx⟩ := ix_lst (ds := [D.str [32], .str [10], .str [32, 32], .str [32], .str [10, 32], .str [32], .str [32], .str []]) g0 g1
    obtain ⟨q, rfl, hq⟩ := str_of (b := 2) (by decide) hd
    refine ⟨_, _, _, rfl, rfl, hx, _, _, _, rfl, rfl, add_str (by rw [List.length_append]; omega), _, _, rfl, _, rfl, fun _ => ⟨t ++ p ++ q, k2 + 1, some z, ?_, by omega, by omega, rfl⟩, fun h => (nomatch h), fun r h => (nomatch h)⟩
    rw [List.length_append, List.length_append]
    omega
  rintro s ⟨t, k', y, h1, h2, h3, rfl⟩
  rw [List.length_map, List.length_map, List.length_range] at h1 h3
  refine ⟨rfl, ?_⟩
  refine ws_seqN (ws_for (wp_itA (wp_cons (wp_fz (wp_op2 (wp_lst (wp_cons (wp_c (wp_cons (wp_c (wp_cons (wp_c (wp_cons (wp_c ?_))))))))))))))
  refine wp_nil ⟨_, rfl, (show 4 ≤ SZ by decide), ?_⟩
  refine wp_nextE (ns := ns) (k := k') (by omega) (by omega) (by decide) rfl (wp_c ⟨rfl, rfl⟩) fun u g0 g1 => ?_
  obtain ⟨d, hd, hx⟩ := ix_lst (ds := [D.int 0, .int 0, .int 1, .int 2]) g0 g1
  obtain ⟨m, rfl, hm⟩ : ∃ m : Nat, d = .int (m : Int) ∧ m ≤ 2 := by
    simp only [List.mem_cons, List.not_mem_nil, or_false] at hd
    rcases hd with h | h | h | h
    · exact ⟨0, h, by decide⟩
    · exact ⟨0, h, by decide⟩
    · exact ⟨1, h, by decide⟩
    · exact ⟨2, h, by decide⟩
  refine ⟨_, _, _, rfl, rfl, hx, _, _, rfl, wp_nil ⟨_, _, rfl, rg1_ok m (by omega), ?_⟩⟩
  refine ws_loop (I := fun i s => ∃ (t : Tx) (k2 : Int) (y a : Option Int), t.length ≤ 2000 * 2 ^ i + 20 * i * 2 ^ i ∧ k ≤ k2 ∧ k2 ≤ k' + 1 + 10 * (i : Int) ∧ s = ⟨[some (.own 0), some (.fz (.str t)), y.map fun z => .fz (.int z), a.map fun z => .fz (.int z)], [some (stN ns k2)]⟩) _ 0 _ ⟨t, k' + 1, y, none, by simp; omega, by omega, by omega, rfl⟩ ?_ ?_
  · rintro j d s hd ⟨t, k2, y, a, h1, h2, h3, rfl⟩
    have hj : j < m := by
      have := (List.getElem?_eq_some_iff.mp hd).1
      rwa [List.length_map, List.length_map, List.length_range] at this
    rw [Nat.zero_add] at h1 h3 ⊢
    have hb : t.length ≤ 5000 := by
      have hj2 : j = 0 ∨ j = 1 := by omega
      rcases hj2 with rfl | rfl
      · simp at h1; omega
      · simp at h1; omega
    obtain ⟨z, rfl⟩ := rng_int (List.mem_of_getElem? hd)
    refine ⟨_, rfl, ?_⟩
    refine ws_seqN (ws_set (wp_fz ?_))
    refine wp_nextE (ns := ns) (k := k2) (m := (t.length : Int) + 1) (by omega) (by omega) (by omega) rfl (wp_fz (wp_op2 (wp_call (wp_cons (wp_var rfl (wp_nil ⟨_, _, rfl, len_str (show t.length ≤ 16777216 by omega), wp_c ⟨_, _, _, rfl, rfl, rfl, _, _, rfl, rfl, rfl⟩⟩)))))) fun u g0 g1 => ?_
    refine ⟨_, _, rfl, _, rfl, rfl, ?_⟩
    have htz : t.length ≤ SZ := by show t.length ≤ 16777216; omega
    refine ws_set (wp_fz (wp_op2 (wp_op2 (wp_op2 (wp_sl (wp_var rfl (wp_noP (wp_part (wp_var rfl ⟨_, rfl, _, _, rfl, sl_str' htz, ?_⟩)))))))))
    refine wp_op2 (wp_lst (wp_cons (wp_c (wp_cons (wp_c (wp_nil ⟨_, rfl, (show 2 ≤ SZ by decide), ?_⟩))))))
    refine wp_nextE (ns := ns) (k := k2 + 1) (by omega) (by omega) (by decide) rfl (wp_c ⟨rfl, rfl⟩) fun u2 g2 g3 => ?_
    obtain ⟨d, hd, hx⟩ := ix_lst (ds := [D.str [32], .str []]) g2 g3
    obtain ⟨q, rfl, hq⟩ := str_of (b := 1) (by decide) hd
    have hc1 := cut_le t none (some u)
    have hc2 := cut_le t (some u) none
    refine ⟨_, _, _, rfl, rfl, hx, _, _, _, rfl, rfl, add_str (by omega), ?_⟩
    refine wp_stF (ns := ns) (k := k2 + 1 + 1) (C := pieceC (k2 + 1 + 1) 10) rfl (odd_ok ns _ (by omega) (by omega)) fun r k3 ⟨p, hr, hp, a1, a2⟩ => ?_
    subst hr
    refine ⟨_, _, _, rfl, rfl, add_str (by rw [List.length_append]; omega), ?_⟩
    refine wp_sl (wp_var rfl (wp_part (wp_var rfl ⟨_, rfl, wp_noP ⟨_, _, rfl, sl_str' htz, ?_⟩⟩)))
    refine ⟨_, _, _, rfl, rfl, add_str (by rw [List.length_append, List.length_append]; omega), _, _, rfl, _, rfl, fun _ => ⟨_, k3, some z, some u, ?_, by omega, by omega, rfl⟩, fun h => (nomatch h), fun r h => (nomatch h)⟩
    have hj2 : j = 0 ∨ j = 1 := by omega
    rw [List.length_append, List.length_append, List.length_append]
    rcases hj2 with rfl | rfl
    · simp at h1 ⊢; omega
    · simp at h1 ⊢; omega
  rintro s ⟨t2, k2, y2, a, h4, h5, h6, rfl⟩
  rw [List.length_map, List.length_map, List.length_range] at h4 h6
  have hb : t2.length ≤ 9000 := by
    have hj2 : m = 0 ∨ m = 1 ∨ m = 2 := by omega
    rcases hj2 with rfl | rfl | rfl
    · simp at h4; omega
    · simp at h4; omega
    · simp at h4; omega
  refine ⟨rfl, ?_⟩
  refine ws_seq (wp_if (wp_test (wp_op2 ?_)))
  refine wp_nextE (ns := ns) (k := k2) (by omega) (by omega) (by decide) rfl (wp_c ⟨rfl, rfl⟩) fun u2 g2 g3 => ?_
  refine wp_c ⟨_, _, _, rfl, rfl, rfl, _, rfl, fun _ => ?_, fun _ => ws_skip ⟨fun _ => ?_, fun h => absurd rfl h⟩⟩
  · have hm250 : mulD (.str [115, 111, 117, 110, 100, 32, 97, 32, 104, 105, 103, 104, 32, 108, 111, 119, 10]) (.int 250) = some (.fz (.str (repL 250 [115, 111, 117, 110, 100, 32, 97, 32, 104, 105, 103, 104, 32, 108, 111, 119, 10]))) := mul_str (by decide)
    have hr : (repL 250 ([115, 111, 117, 110, 100, 32, 97, 32, 104, 105, 103, 104, 32, 108, 111, 119, 10] : Tx)).length = 17 * 250 := rep_flatten _ _
    generalize repL 250 ([115, 111, 117, 110, 100, 32, 97, 32, 104, 105, 103, 104, 32, 108, 111, 119, 10] : Tx) = big at hm250 hr
    refine ws_ret (wp_fz (wp_sl (wp_op2 (wp_op2 (wp_var rfl (wp_c ⟨_, _, _, rfl, rfl, add_str (by show t2.length + 1 ≤ 100000; omega), ?_⟩))))))
    refine wp_op2 (wp_c (wp_c ⟨_, _, _, rfl, rfl, hm250, _, _, _, rfl, rfl, add_str (by rw [List.length_append, hr]; show t2.length + 1 + 17 * 250 ≤ 100000; omega), ?_⟩))
    refine wp_noP (wp_part (wp_op2 (wp_c ?_)))
    refine wp_nextE (ns := ns) (k := k2 + 1) (by omega) (by omega) (by decide) rfl (wp_c ⟨rfl, rfl⟩) fun u3 g4 g5 => ?_
    have hlen : (t2 ++ [32] ++ big).length = t2.length + 1 + 17 * 250 := by rw [List.length_append, List.length_append, hr]; rfl
    have hcl := cut_le (t2 ++ [32] ++ big) none (some (3998 + u3))
    refine ⟨_, _, _, rfl, rfl, rfl, _, rfl, _, _, rfl, sl_str' (show (t2 ++ [32] ++ big).length ≤ 16777216 by omega), _, _, rfl, fun h => (nomatch h), fun _ => ⟨_, _, rfl, k2 + 1 + 1, rfl, ⟨_, rfl, by omega, by omega, by omega⟩, rfl⟩⟩
  · exact ws_ret (wp_var rfl ⟨_, _, rfl, k2 + 1, rfl, ⟨t2, rfl, by omega, by omega, by omega⟩, rfl⟩)
end K01
end Sx

set_option Elab.async false
set_option linter.all false
set_option maxRecDepth 100000
/-! k01, plain: by_hand, what the loop asks. -/
namespace Sx
namespace K01
open PySem L2
theorem mul_lst {a : List D} {j : Int} (h : a.length * j.toNat ≤ SZ ∧ 0 ≤ j ∧ j ≤ 1048576) : mulD (.lst a) (.int j) = some (.nw (.fl (repL j.toNat a))) := if_pos h
theorem by_hand_ok (ns : List Int) (k : Int) (hk : 0 ≤ k) (hk2 : k < 700000000) : ∃ r o', g__law_by_hand [.own 0] [some (stN ns k)] = .ret r o' ∧ ∃ k', rOk r = true ∧ (r = .fz (.bl true) ∧ k ≤ k' ∧ k' ≤ k + 10) ∧ o' = [some (stN ns k')] := by
  refine run_of ?_
  refine ws_seqN (ws_par3 (wp_cons (wp_fz (wp_nextE (ns := ns) (k := k) hk (by omega) (by decide) rfl (wp_c ⟨rfl, rfl⟩) fun v h0 h1 => ⟨_, _, rfl, ?_⟩))))
  refine wp_cons (wp_tup (wp_cons (wp_fz (wp_nextE (ns := ns) (k := k + 1) (by omega) (by omega) (by decide) rfl (wp_c ⟨rfl, rfl⟩) fun a a0 a1 => ⟨_, _, rfl, ?_⟩))))
  refine wp_cons (wp_fz (wp_nextE (ns := ns) (k := k + 1 + 1) (by omega) (by omega) (by decide) rfl (wp_c ⟨rfl, rfl⟩) fun b b0 b1 => ⟨_, _, rfl, ?_⟩))
  refine wp_nil ⟨_, rfl, (show 2 ≤ SZ by decide), ?_⟩
  refine wp_cons (wp_fz (wp_stF (ns := ns) (k := k + 1 + 1 + 1) (C := pieceC (k + 1 + 1 + 1) 8) rfl (piece_ok ns _ (by omega) (by omega)) fun r k2 ⟨w, hr, hp, c0, c1⟩ => ?_))
  subst hr
  refine ⟨_, _, rfl, wp_nil ⟨_, _, _, rfl, rfl, ?_⟩⟩
  have e1 : ∀ z : Int, (z == z) = true := fun z => beq_self_eq_true z
  refine ws_seq (wp_if (wp_or (wp_test (wp_op2 (wp_var rfl (wp_var rfl ⟨_, _, _, rfl, rfl, rfl, _, rfl, fun _ => ?_, fun h => ?_⟩))))))
  · refine wp_test (wp_op2 (wp_var rfl (wp_var rfl ⟨_, _, _, rfl, rfl, rfl, _, rfl, fun h => ?_, fun _ => ws_skip ⟨fun _ => ?_, fun h => absurd rfl h⟩⟩)))
    · have z : (!((a == a) && ((b == b) && true))) = true := h
      rw [e1, e1] at z
      cases z
    · refine ws_ret (wp_op2 (wp_lst (wp_cons (wp_fz (wp_var rfl ⟨_, _, rfl, wp_cons (wp_fz (wp_var rfl ⟨_, _, rfl, wp_cons (wp_fz (wp_var rfl ⟨_, _, rfl, wp_cons (wp_fz (wp_var rfl ⟨_, _, rfl, ?_⟩))⟩))⟩))⟩)))))
      refine wp_nil ⟨_, rfl, (show 4 ≤ SZ by decide), ?_⟩
      refine wp_op2 (wp_lst (wp_cons (wp_var rfl (wp_nil ⟨_, rfl, (show 1 ≤ SZ by decide), ?_⟩))))
      refine wp_c ⟨_, _, _, rfl, rfl, mul_lst (show 1 * 4 ≤ SZ ∧ (0 : Int) ≤ 4 ∧ (4 : Int) ≤ 1048576 by decide), ?_⟩
      refine ⟨_, _, _, rfl, rfl, rfl, _, _, rfl, k2, rfl, ⟨?_, by omega, by omega⟩, rfl⟩
      show R.fz (.bl ((w == w) && ((w == w) && ((w == w) && ((w == w) && true))))) = .fz (.bl true)
      rw [beq_self_eq_true w]
      rfl
  · have z : (!(v == v)) = true := h
    rw [e1] at z
    cases z
theorem ws_ask {g : FnS} {ti xi ri : Nat} {t1 t2 t3 : M Bool} {s : S} {P : Fl → S → Prop} (tx : Tx) (d : D) (o' : List (Option Node)) (h1 : s.g[ti]? = some (some (.fz (.str tx)))) (h2 : g [.fz (.str tx)] [] = .ret (.fz d) o')
    (h3 : Wp t1 ⟨s.g.set xi (some (.fz d)), s.o.map fun _ => none⟩ fun b s1 => (b = true → Wp t2 s1 fun c _ => c = false) ∧ (b = false → Wp t3 s1 fun c _ => c = false ∧ nested d = true)) (q : P .nx (wipe2 xi ri s)) : Wp (askS g ti xi ri t1 t2 t3) s P := by
  obtain ⟨b, s1, e, g1, g2⟩ := h3
  refine ⟨.nx, wipe2 xi ri s, ?_, q⟩
  unfold askS
  rw [h1]
  dsimp only
  rw [h2]
  dsimp only
  rw [e]
  cases b with
  | true =>
    obtain ⟨c, s2, e2, rfl⟩ := g1 rfl
    dsimp only
    rw [e2]
  | false =>
    obtain ⟨c, s2, e2, rfl, hn⟩ := g2 rfl
    dsimp only
    rw [e2]
    dsimp only
    rw [if_pos hn]
theorem RW_len : ∀ (n : Nat) (s : Tx) (ws : List Tx), s.length ≤ n → RW s = .ok ws → ws.length ≤ s.length
  | _, [], ws, _, h => by
    rw [RW] at h
    cases h
    simp
  | 0, c :: s, ws, hl, h => by simp at hl
  | n + 1, c :: s, ws, hl, h => by
    have hl : s.length ≤ n := by simpa using hl
    rw [RW] at h
    split at h
    · obtain ⟨v, e, hv⟩ := put_ok (a := []) h
      have := RW_len n s v hl e
      rw [hv]
      simp only [List.length_cons, List.nil_append]; omega
    · split at h
      · obtain ⟨v, e, rfl⟩ := put_ok (a := []) h
        have := RW_len n s v hl e
        simp only [List.length_cons, List.length_append, List.length_nil]; omega
      · split at h
        · rename_i hw
          obtain ⟨v, e, rfl⟩ := put_ok (a := []) h
          have hd : ((c :: s).drop (tw (c :: s))).length ≤ n := by rw [List.length_drop, List.length_cons]; omega
          have := RW_len n _ v hd e
          rw [List.length_drop, List.length_cons] at this
          have h2 := tw_le (c :: s)
          rw [List.length_cons] at h2
          simp only [List.length_cons, List.length_append, List.length_nil]
          omega
        · cases h
theorem RS_len : ∀ (rows : List Tx) (b : Nat) (wss : List (List Tx)), RS rows b = .ok wss → wss.length = rows.length ∧ ∀ ws ∈ wss, ∃ r ∈ rows, ws.length ≤ r.length
  | [], b, wss, h => by cases h; exact ⟨rfl, fun ws h => by cases h⟩
  | r :: rs, b, wss, h => by
    rw [RS_cons] at h
    cases e : RW r with
    | error j => rw [e] at h; cases h
    | ok ws =>
      rw [e] at h
      dsimp only at h
      cases e2 : RS rs (b + r.length + 1) with
      | error j => rw [e2] at h; cases h
      | ok v =>
        rw [e2] at h
        cases h
        obtain ⟨h1, h2⟩ := RS_len rs _ v e2
        refine ⟨by simp [h1], fun u hu => ?_⟩
        rcases List.mem_cons.mp hu with rfl | hu
        · exact ⟨r, List.mem_cons_self, RW_len r.length r _ (Nat.le_refl _) e⟩
        · obtain ⟨r', hr, hl⟩ := h2 u hu
          exact ⟨r', List.mem_cons_of_mem _ hr, hl⟩
theorem strs_dW : ∀ ws : List Tx, strsD (dW ws) = some ws
  | [] => rfl
  | w :: ws => by
    have ih := strs_dW ws
    show (strsD (dW ws)).map _ = _
    rw [ih]
    rfl
theorem nested_ok {wss : List (List Tx)} (h1 : wss.length ≤ 5000) (h2 : ∀ ws ∈ wss, ws.length ≤ 5000) : nested (.lst (dR wss)) = true := by
  show ((dR wss).all strLst && decide ((dR wss).length ≤ 5000)) = true
  rw [Bool.and_eq_true]
  refine ⟨List.all_eq_true.mpr fun d hd => ?_, decide_eq_true (by unfold dR; rw [List.length_map]; exact h1)⟩
  obtain ⟨ws, hw, rfl⟩ := List.mem_map.mp hd
  show ((strsD (dW ws)).isSome && decide ((dW ws).length ≤ 5000)) = true
  rw [strs_dW, decide_eq_true (by unfold dW; rw [List.length_map]; exact h2 ws hw)]
  rfl
theorem flat_dW : ∀ ws : List Tx, flatDs (dW ws) = true
  | [] => rfl
  | w :: ws => by
    have ih := flat_dW ws
    show (true && flatDs (dW ws)) = true
    rw [ih]; rfl
theorem flat_dR : ∀ wss : List (List Tx), flatDs (dR wss) = true
  | [] => rfl
  | w :: ws => by
    have ih := flat_dR ws
    show (flatDs (dW w) && flatDs (dR ws)) = true
    rw [ih, flat_dW]; rfl
theorem eq_dW : ∀ ws : List Tx, eqDs (dW ws) (dW ws) = true
  | [] => rfl
  | w :: ws => by
    have ih := eq_dW ws
    show ((w == w) && eqDs (dW ws) (dW ws)) = true
    rw [ih, beq_self_eq_true w]; rfl
theorem eq_dR : ∀ wss : List (List Tx), eqDs (dR wss) (dR wss) = true
  | [] => rfl
  | w :: ws => by
    have ih := eq_dR ws
    show (eqDs (dW w) (dW w) && eqDs (dR ws) (dR ws)) = true
    rw [ih, eq_dW]; rfl
theorem dep_dW : ∀ ws : List Tx, depDs (dW ws) ≤ 1
  | [] => by decide
  | w :: ws => by
    have ih := dep_dW ws
    show max (depD (.str w)) (depDs (dW ws)) ≤ 1
    have : depD (.str w) = 0 := rfl
    omega
theorem dep_dR : ∀ wss : List (List Tx), depDs (dR wss) ≤ 2
  | [] => by decide
  | w :: ws => by
    have ih := dep_dR ws
    show max (depDs (dW w) + 1) (depDs (dR ws)) ≤ 2
    have := dep_dW w
    omega
theorem ne_dR (wss : List (List Tx)) : neOp (.lst (dR wss)) (.lst (dR wss)) = some (.fz (.bl false)) := by
  unfold neOp
  have hc : cmpOk (.lst (dR wss)) (.lst (dR wss)) = true := by
    show (flatDs (dR wss) && flatDs (dR wss) && (decide (depDs (dR wss) + 1 ≤ 60) || decide (depDs (dR wss) + 1 ≤ 60))) = true
    have := dep_dR wss
    rw [flat_dR, decide_eq_true (by omega)]
    rfl
  rw [if_pos hc]
  show some (R.fz (.bl (!eqDs (dR wss) (dR wss)))) = _
  rw [eq_dR]
  rfl
end K01
end Sx

set_option Elab.async false
set_option linter.all false
set_option maxRecDepth 100000
/-! k01, plain: the law tells True. -/
namespace Sx
namespace K01
open PySem L2
/-- what is said of a text, what is due: the same, in its two shapes -/
inductive Told (t : Tx) : D → D → Prop where
  | ok (wss : List (List Tx)) (h1 : wss.length ≤ 5000) (h2 : ∀ ws ∈ wss, ws.length ≤ 5000) : Told t (.lst (dR wss)) (.lst (dR wss))
  | bad (j : Int) : Told t (.tup [.int j]) (.int j)
theorem told_of (t : Tx) (hz : t.length ≤ SZ) : ∃ d dv, Told t d dv ∧ g__law_said [.fz (.str t)] [] = .ret (.fz d) [] ∧ g__law_due [.fz (.str t)] [] = .ret (.fz dv) [] := by
  by_cases h : t.length ≤ 4000
  · have hw := text_words_ok t h
    obtain ⟨r, o', e, rfl, rfl⟩ := due_ok t h
    rw [TW_RS t.length t (Nat.le_refl _)] at e
    cases hR : RS (splitL 10 t) 0 with
    | ok wss =>
      rw [hR] at hw e
      obtain ⟨h1, h2⟩ := RS_len _ _ _ hR
      have h3 := split_len t
      obtain ⟨r2, o2, e2, rfl, rfl⟩ := said_ret _ _ hw
      refine ⟨_, _, .ok wss (by omega) (fun ws hws => ?_), e2, e⟩
      obtain ⟨r, hr, hl⟩ := h2 ws hws
      have := split_row t r hr
      omega
    | error j =>
      rw [hR] at hw e
      obtain ⟨r2, o2, e2, rfl, rfl⟩ := said_err _ _ hw
      exact ⟨_, _, .bad j, e2, e⟩
  · obtain ⟨r, o', e, rfl, rfl⟩ := due_long t (by omega) hz
    obtain ⟨r2, o2, e2, rfl, rfl⟩ := said_err _ _ (text_long t (by omega) hz)
    exact ⟨_, _, .bad 0, e2, e⟩
theorem wp_disp {ks : List Tx} {ms : List (M R)} {s : S} {Q : R → S → Prop} (h : Wp (conses ms) s fun rs s1 => ∃ ds, allFz rs = some ds ∧ (ds.length = ks.length ∧ ks.length ≤ 15) ∧ Q (.nw (.fd ((ks.map D.str).zip ds))) s1) : Wp (fDisp ks ms) s Q :=
  wp_bnd (wp_mono h fun rs s1 ⟨ds, h1, h2, q⟩ => ⟨_, s1, by unfold dispS; rw [h1]; dsimp only; rw [if_pos h2], q⟩)
abbrev T1 : M Bool := fTest (fOp1 (isTyD "int") (fVar 3))
abbrev T2 : M Bool := fTest (fOp2 neOp (fVar 5) (fTup (fCons (fVar 3) fNil)))
abbrev T3 : M Bool := fOr (fNot (fTest (fOp1 (isTyD "list") (fVar 5)))) (fOr (fTest (fOp2 neOp (fVar 5) (fVar 3))) (fNot (fTest (fCall (l1 allD) (fCons (fLc (fIt lsD (fVar 5)) (tgN 6) fYes (fFz (fOp1 (isTyD "list") (fVar 6))) [6]) fNil)))))
theorem bools_true : ∀ wss : List (List Tx), boolsD (((dR wss).filter fun _ => true).map fun _ => D.bl true) = some (wss.map fun _ => true)
  | [] => rfl
  | w :: ws => by
    have ih := bools_true ws
    show (boolsD (((dR ws).filter fun _ => true).map fun _ => D.bl true)).map (true :: ·) = _
    rw [ih]
    rfl
theorem ask_ok {t : Tx} {d dv : D} (h : Told t d dv) (g0 g1 g2 g4 g6 g7 g8 g9 : Option W) (oo : List (Option Node)) : Wp T1 ⟨[g0, g1, g2, some (.fz dv), g4, some (.fz d), g6, g7, g8, g9], oo⟩ fun b s1 => (b = true → Wp T2 s1 fun c _ => c = false) ∧ (b = false → Wp T3 s1 fun c _ => c = false ∧ nested d = true) := by
  cases h with
  | bad j =>
    refine wp_test (wp_op1 (wp_var rfl ⟨_, _, rfl, rfl, _, rfl, fun _ => ?_, fun h => (nomatch h)⟩))
    refine wp_test (wp_op2 (wp_var rfl (wp_tup (wp_cons (wp_var rfl (wp_nil ⟨_, rfl, (show 1 ≤ SZ by decide), _, _, _, rfl, rfl, rfl, _, rfl, ?_⟩))))))
    show (!((j == j) && true)) = false
    rw [beq_self_eq_true j]
    rfl
  | ok wss h1 h2 =>
    refine wp_test (wp_op1 (wp_var rfl ⟨_, _, rfl, rfl, _, rfl, fun h => (nomatch h), fun _ => ?_⟩))
    refine wp_or (wp_not (wp_test (wp_op1 (wp_var rfl ⟨_, _, rfl, rfl, _, rfl, fun _ => ?_, fun h => (nomatch h)⟩))))
    refine wp_or (wp_test (wp_op2 (wp_var rfl (wp_var rfl ⟨_, _, _, rfl, rfl, ne_dR wss, _, rfl, fun _ => ?_, fun h => (nomatch h)⟩))))
    refine wp_not (wp_test (wp_call (wp_cons (wp_lc1 (fun _ => true) (fun _ => .bl true) (wp_it (wp_var rfl ⟨_, _, _, rfl, rfl, ?_, fun d hd => ?_, ?_⟩))))))
    · unfold dR
      rw [List.length_map]
      show wss.length ≤ 16777216
      omega
    · obtain ⟨ws, _, rfl⟩ := List.mem_map.mp hd
      exact ⟨_, rfl, wp_ret ⟨rfl, rfl, fun _ => wp_fz (wp_op1 (wp_var rfl ⟨_, _, rfl, rfl, _, _, rfl, rfl, rfl⟩))⟩⟩
    · refine wp_nil ⟨_, _, rfl, by show (boolsD _).map _ = _; rw [bools_true]; rfl, _, rfl, ?_, nested_ok h1 h2⟩
      have : (wss.map fun _ => true).all id = true := by
        rw [List.all_map]
        exact List.all_eq_true.mpr fun _ _ => rfl
      rw [this]
      rfl
theorem wp_f1 {g0 : FnS} {d x : D} {s : S} {i : Nat} {Q : R → S → Prop} (hi : s.g[i]? = some (some (.fz d))) (hg : g0 [.fz d] [] = .ret (.fz x) []) (q : Q (.fz x) s) : Wp (fCallN g0 0 1 (fCons (fVar i) fNil)) s Q := by
  refine wp_callN (wp_cons (wp_var hi (wp_nil ⟨[.fz d], .fz x, [], rfl, ?_, ?_, ?_, rfl, rfl, rfl, ?_⟩)))
  · rfl
  · show rlO (min 0 s.o.length) (s.o.take 0) = true
    rfl
  · have : padO 0 s.o = [] := by
      unfold padO
      simp
    rw [this]
    exact hg
  · have : backO 0 s.o [] = s.o := by
      unfold backO
      simp
    rw [this]
    exact q
theorem add_lst {a b : List D} (h : a.length + b.length ≤ SZ) : addD (.lst a) (.lst b) = some (.nw (.fl (a ++ b))) := if_pos h
theorem law_true (ns : List Int) (h : ns.length ≤ 63) : ∃ o, g_law [.fz (.scr ns)] [] = .ret (.fz (.bl true)) o := by
  suffices h : ∃ r o', g_law [.fz (.scr ns)] [] = .ret r o' ∧ r = .fz (.bl true) by
    obtain ⟨r, o', e, rfl⟩ := h
    exact ⟨o', e⟩
  refine run_of (C := fun r _ => r = .fz (.bl true)) ?_
  refine ws_seqN (ws_own (wp_disp (wp_cons (wp_var rfl (wp_cons (wp_c (wp_nil ⟨_, rfl, by exact ⟨rfl, by decide⟩, _, _, rfl, rfl, ⟨by decide, rfl, rfl⟩, rfl, ?_⟩)))))))
  refine ws_seqN (ws_set (wp_fz (wp_stF (ns := ns) (k := 0) (C := textC 0) rfl (text_ok ns 0 (by decide) (by decide)) fun r k1 ⟨t, hr, hl, a0, a1⟩ => ?_)))
  subst hr
  refine ⟨_, _, rfl, _, rfl, rfl, ?_⟩
  have htz : t.length ≤ SZ := Nat.le_trans hl (by decide)
  obtain ⟨d, dv, ht, hs, hd⟩ := told_of t htz
  refine ws_seqN (ws_set (wp_fz (wp_f1 (d := .str t) (x := dv) rfl hd ⟨_, _, rfl, _, rfl, rfl, ?_⟩)))
  refine ws_seqN (ws_for (wp_itA (wp_cons (wp_c (wp_nil ⟨_, _, rfl, rg1_ok 2 (by decide), ?_⟩)))))
  refine ws_loop (I := fun i s => ∃ y : Option Int, s = ⟨[some (.fz (.scr ns)), some (.own 0), some (.fz (.str t)), some (.fz dv), y.map fun z => .fz (.int z), none, none, none, none, none], [some (stN ns k1)]⟩) _ 0 _ ⟨none, rfl⟩ ?_ ?_
  · rintro j d2 s hd2 ⟨y, rfl⟩
    obtain ⟨z, rfl⟩ := rng_int (List.mem_of_getElem? hd2)
    refine ⟨_, rfl, ?_⟩
    exact ws_ask t d [] rfl hs (ask_ok ht _ _ _ _ _ _ _ _ _) ⟨fun _ => ⟨some z, rfl⟩, fun h => (nomatch h), fun r h => (nomatch h)⟩
  rintro s ⟨y, rfl⟩
  refine ⟨rfl, ?_⟩
  refine ws_seqN (ws_set (wp_fz (wp_op2 (wp_lst (wp_cons (wp_c (wp_cons (wp_c (wp_cons (wp_c (wp_cons (wp_fz (wp_lst (wp_cons (wp_c (wp_nil ⟨_, rfl, (show 1 ≤ SZ by decide), _, _, rfl, ?_⟩))))))))))))))) )
  refine wp_cons (wp_tup (wp_cons (wp_c (wp_nil ⟨_, rfl, (show 1 ≤ SZ by decide), ?_⟩))))
  refine wp_cons (wp_fz (wp_dic0 ⟨_, _, rfl, ?_⟩))
  refine wp_cons (wp_c (wp_cons (wp_fz (wp_lst (wp_cons (wp_var rfl (wp_nil ⟨_, rfl, (show 1 ≤ SZ by decide), _, _, rfl, ?_⟩)))))))
  refine wp_nil ⟨_, rfl, (show 8 ≤ SZ by decide), ?_⟩
  refine wp_nextE (ns := ns) (k := k1) (by omega) (by omega) (by decide) rfl (wp_c ⟨rfl, rfl⟩) fun u g0 g1 => ?_
  obtain ⟨x, hx, hix⟩ := ix_lst (ds := [D.non, .int 5, .bl true, .lst [.str [97]], .tup [.str [97]], .dic [], .int 0, .lst [.str t]]) g0 g1
  have hxs : isStr x = false ∧ (tyD x).isSome = true := by
    simp only [List.mem_cons, List.not_mem_nil, or_false] at hx
    rcases hx with h | h | h | h | h | h | h | h <;> (subst h; exact ⟨rfl, rfl⟩)
  refine ⟨_, _, _, rfl, rfl, hix, _, _, rfl, _, rfl, rfl, ?_⟩
  obtain ⟨r3, o3, e3, rfl, rfl⟩ := said_err _ _ (text_bad x hxs.1 hxs.2)
  refine ws_seq (wp_if (wp_or (wp_test (wp_op2 (wp_f1 (d := x) rfl e3 (wp_tup (wp_cons (wp_c (wp_nil ⟨_, rfl, (show 1 ≤ SZ by decide), _, _, _, rfl, rfl, rfl, _, rfl, fun _ => ?_, fun h => (nomatch h)⟩)))))))))
  refine wp_not (wp_test (wp_stF (ns := ns) (k := k1 + 1) (C := fun r k' => r = .fz (.bl true) ∧ k1 + 1 ≤ k' ∧ k' ≤ k1 + 1 + 10) rfl (by_hand_ok ns (k1 + 1) (by omega) (by omega)) fun r k2 ⟨hr, b0, b1⟩ => ?_))
  subst hr
  refine ⟨_, rfl, fun h => (nomatch h), fun _ => ws_skip ⟨fun _ => ?_, fun h => absurd rfl h⟩⟩
  refine ws_seqN (ws_set (wp_fz (wp_lst (wp_cons (wp_fz (wp_stF (ns := ns) (k := k2) (C := pieceC k2 8) rfl (piece_ok ns _ (by omega) (by omega)) fun r k3 ⟨p1, hr, l1, c0, c1⟩ => ?_))))))
  subst hr
  refine ⟨_, _, rfl, wp_cons (wp_fz (wp_stF (ns := ns) (k := k3) (C := pieceC k3 10) rfl (odd_ok ns _ (by omega) (by omega)) fun r k4 ⟨p2, hr, l2, c2, c3⟩ => ?_))⟩
  subst hr
  refine ⟨_, _, rfl, wp_cons (wp_fz (wp_op2 (wp_stF (ns := ns) (k := k4) (C := pieceC k4 8) rfl (piece_ok ns _ (by omega) (by omega)) fun r k5 ⟨p3, hr, l3, c4, c5⟩ => ?_)))⟩
  subst hr
  refine wp_stF (ns := ns) (k := k5) (C := pieceC k5 8) rfl (piece_ok ns _ (by omega) (by omega)) fun r k6 ⟨p4, hr, l4, c6, c7⟩ => ?_
  subst hr
  refine ⟨_, _, _, rfl, rfl, add_str (by omega), _, _, rfl, wp_cons (wp_c (wp_cons (wp_fz (wp_op2 (wp_stF (ns := ns) (k := k6) (C := pieceC k6 8) rfl (piece_ok ns _ (by omega) (by omega)) fun r k7 ⟨p5, hr, l5, c8, c9⟩ => ?_)))))⟩
  subst hr
  refine wp_c ⟨_, _, _, rfl, rfl, add_str (by show p5.length + 1 ≤ 100000; omega), _, _, rfl, ?_⟩
  refine wp_nil ⟨_, rfl, (show 5 ≤ SZ by decide), _, _, rfl, _, rfl, rfl, ?_⟩
  have a1 : addD (.lst [.str p1, .str p2, .str (p3 ++ p4), .str [], .str (p5 ++ [10])]) (.lst TOLDS) = some (.nw (.fl ([.str p1, .str p2, .str (p3 ++ p4), .str [], .str (p5 ++ [10])] ++ TOLDS))) := add_lst (show 5 + 8 ≤ SZ by decide)
  have a2 : addD (.lst ([.str p1, .str p2, .str (p3 ++ p4), .str [], .str (p5 ++ [10])] ++ TOLDS)) (.lst [.str [97], .str (repL 8 [122]), .str (repL 9 [122])]) = some (.nw (.fl (([.str p1, .str p2, .str (p3 ++ p4), .str [], .str (p5 ++ [10])] ++ TOLDS) ++ [.str [97], .str (repL 8 [122]), .str (repL 9 [122])]))) := add_lst (show 13 + 3 ≤ SZ by decide)
  have r8 : (repL 8 ([122] : Tx)).length = 8 := rfl
  have r9 : (repL 9 ([122] : Tx)).length = 9 := rfl
  refine ws_ret (wp_op2 (wp_lc1 (fun _ => false) id (wp_it (wp_op2 (wp_op2 (wp_var rfl (wp_callN (wp_nil ⟨_, _, _, rfl, rfl, rfl, told_ok, rfl, rfl, rfl, _, _, _, rfl, rfl, a1, ?_⟩))))))))
  refine wp_lst (wp_cons (wp_c (wp_cons (wp_fz (wp_op2 (wp_c (wp_c ⟨_, _, _, rfl, rfl, mul_str (show 1 * 8 ≤ SZ ∧ (0 : Int) ≤ 8 ∧ (8 : Int) ≤ 1048576 by decide), _, _, rfl, ?_⟩)))))))
  refine wp_cons (wp_fz (wp_op2 (wp_c (wp_c ⟨_, _, _, rfl, rfl, mul_str (show 1 * 9 ≤ SZ ∧ (0 : Int) ≤ 9 ∧ (9 : Int) ≤ 1048576 by decide), _, _, rfl, ?_⟩))))
  refine wp_nil ⟨_, rfl, (show 3 ≤ SZ by decide), _, _, _, rfl, rfl, a2, _, _, _, rfl, rfl, (show 16 ≤ SZ by decide), fun x hx => ?_, ?_⟩
  · have hw : ∃ w : Tx, x = .str w ∧ w.length ≤ 100 := by
      rcases List.mem_append.mp hx with hx | hx
      · rcases List.mem_append.mp hx with hx | hx
        · simp only [List.mem_cons, List.not_mem_nil, or_false] at hx
          rcases hx with h | h | h | h | h
          · exact ⟨_, h, by omega⟩
          · exact ⟨_, h, by omega⟩
          · exact ⟨_, h, by rw [List.length_append]; omega⟩
          · exact ⟨_, h, by simp⟩
          · exact ⟨_, h, by rw [List.length_append]; show p5.length + 1 ≤ 100; omega⟩
        · simp only [TOLDS, List.mem_cons, List.not_mem_nil, or_false] at hx
          rcases hx with h | h | h | h | h | h | h | h <;> exact ⟨_, h, by decide⟩
      · simp only [List.mem_cons, List.not_mem_nil, or_false] at hx
        rcases hx with h | h | h
        · exact ⟨_, h, by decide⟩
        · exact ⟨_, h, by rw [r8]; decide⟩
        · exact ⟨_, h, by rw [r9]; decide⟩
    obtain ⟨w, rfl, hwl⟩ := hw
    obtain ⟨rn, on, en, rfl, rfl⟩ := names_ok w (Nat.le_trans hwl (by decide))
    exact ⟨_, rfl, wp_not (wp_test (wp_f1 (d := .str w) (x := .bl true) rfl en ⟨_, rfl, rfl, rfl, fun h => (nomatch h)⟩))⟩
  · exact wp_lst (wp_nil ⟨_, rfl, by decide, _, _, _, rfl, rfl, rfl, _, _, rfl, rfl⟩)
end K01
end Sx

set_option Elab.async false
set_option linter.all false
set_option maxRecDepth 100000
set_option maxHeartbeats 4000000
namespace Sx
namespace K01
open PySem L2 PySem.Spec PyProof.Rows
open PySem.W (Frag findIn nsIn typeIn subIn keepIn)
def top (i : Nat) : Stmt := PySem.Challenge.pw_soundlaw_k01_words.main.body.getD i (.Pass ⟨0, 0, 0, 0⟩)
abbrev s_word_end : Stmt := top 19
abbrev N_word_end : List Str := ["row", "at", "end"]
theorem sc_word_end : FnScope N_word_end ["row", "at"] (defScope s_word_end) := ⟨rfl, rfl, rfl, by decide +kernel, rfl, by decide +kernel, by decide +kernel⟩
abbrev s_row_words : Stmt := top 20
abbrev N_row_words : List Str := ["row", "begin", "found", "at", "end"]
theorem sc_row_words : FnScope N_row_words ["row", "begin"] (defScope s_row_words) := ⟨rfl, rfl, rfl, by decide +kernel, rfl, by decide +kernel, by decide +kernel⟩
abbrev s_text_words : Stmt := top 21
abbrev N_text_words : List Str := ["text", "found", "begin", "row"]
theorem sc_text_words : FnScope N_text_words ["text"] (defScope s_text_words) := ⟨rfl, rfl, rfl, by decide +kernel, rfl, by decide +kernel, by decide +kernel⟩
abbrev s_is_sound : Stmt := top 22
abbrev N_is_sound : List Str := ["word"]
theorem sc_is_sound : FnScope N_is_sound ["word"] (defScope s_is_sound) := ⟨rfl, rfl, rfl, by decide +kernel, rfl, by decide +kernel, by decide +kernel⟩
abbrev s_is_name : Stmt := top 23
abbrev N_is_name : List Str := ["word", "sign"]
theorem sc_is_name : FnScope N_is_name ["word"] (defScope s_is_name) := ⟨rfl, rfl, rfl, by decide +kernel, rfl, by decide +kernel, by decide +kernel⟩
abbrev s__law_next : Stmt := top 25
abbrev N__law_next : List Str := ["_law_state", "_law_many", "_law_k", "_law_cells", "_law_cell", "_law_number"]
theorem sc__law_next : FnScope N__law_next ["_law_state", "_law_many"] (defScope s__law_next) := ⟨rfl, rfl, rfl, by decide +kernel, rfl, by decide +kernel, by decide +kernel⟩
abbrev s__law_told_words : Stmt := top 26
abbrev N__law_told_words : List Str := []
theorem sc__law_told_words : FnScope N__law_told_words [] (defScope s__law_told_words) := ⟨rfl, rfl, rfl, by decide +kernel, rfl, by decide +kernel, by decide +kernel⟩
abbrev s__law_piece : Stmt := top 27
abbrev N__law_piece : List Str := ["_law_state", "_law_letters", "_law_kind", "_law_first", "_law_step", "_law_k"]
theorem sc__law_piece : FnScope N__law_piece ["_law_state"] (defScope s__law_piece) := ⟨rfl, rfl, rfl, by decide +kernel, rfl, by decide +kernel, by decide +kernel⟩
abbrev s__law_odd : Stmt := top 28
abbrev N__law_odd : List Str := ["_law_state", "_law_some"]
theorem sc__law_odd : FnScope N__law_odd ["_law_state"] (defScope s__law_odd) := ⟨rfl, rfl, rfl, by decide +kernel, rfl, by decide +kernel, by decide +kernel⟩
abbrev s__law_text : Stmt := top 29
abbrev N__law_text : List Str := ["_law_state", "_law_text_here", "_law_k", "_law_at"]
theorem sc__law_text : FnScope N__law_text ["_law_state"] (defScope s__law_text) := ⟨rfl, rfl, rfl, by decide +kernel, rfl, by decide +kernel, by decide +kernel⟩
abbrev s__law_due : Stmt := top 30
abbrev N__law_due : List Str := ["_law_text_here", "_law_found", "_law_at", "_law_end"]
theorem sc__law_due : FnScope N__law_due ["_law_text_here"] (defScope s__law_due) := ⟨rfl, rfl, rfl, by decide +kernel, rfl, by decide +kernel, by decide +kernel⟩
abbrev s__law_class : Stmt := top 31
abbrev N__law_class : List Str := ["_law_e", "_law_told", "_law_found"]
theorem sc__law_class : FnScope N__law_class ["_law_e"] (defScope s__law_class) := ⟨rfl, rfl, rfl, by decide +kernel, rfl, by decide +kernel, by decide +kernel⟩
abbrev s__law_said : Stmt := top 32
abbrev N__law_said : List Str := ["_law_thing", "_law_error", "_law_found", "_law_e"]
theorem sc__law_said : FnScope N__law_said ["_law_thing"] (defScope s__law_said) := ⟨rfl, rfl, rfl, by decide +kernel, rfl, by decide +kernel, by decide +kernel⟩
abbrev s__law_by_hand : Stmt := top 33
abbrev N__law_by_hand : List Str := ["_law_state", "_law_spot", "_law_pair", "_law_word"]
theorem sc__law_by_hand : FnScope N__law_by_hand ["_law_state"] (defScope s__law_by_hand) := ⟨rfl, rfl, rfl, by decide +kernel, rfl, by decide +kernel, by decide +kernel⟩
abbrev s__law_names_right : Stmt := top 34
abbrev N__law_names_right : List Str := ["_law_word", "_law_letters", "_law_due_here", "_law_found", "_law_mark", "_law_one"]
theorem sc__law_names_right : FnScope N__law_names_right ["_law_word"] (defScope s__law_names_right) := ⟨rfl, rfl, rfl, by decide +kernel, rfl, by decide +kernel, by decide +kernel⟩
abbrev s_law : Stmt := top 35
abbrev N_law : List Str := ["_law_script", "_law_state", "_law_text_here", "_law_due_here", "_law_turn", "_law_found", "_law_row", "_law_odd_here", "_law_some", "_law_word"]
theorem sc_law : FnScope N_law ["_law_script"] (defScope s_law) := ⟨rfl, rfl, rfl, by decide +kernel, rfl, by decide +kernel, by decide +kernel⟩
/-- what the top has written -/
structure Tx (K : Frag) (mg : Str → Option Value) where
  f_word_end : Addr
  fd_word_end : FuncData
  F_word_end : Fun K "word_end" "word_end" s_word_end f_word_end fd_word_end
  m_word_end : mg "word_end" = some (.ref f_word_end)
  b_word_end : Binds K fd_word_end ["row", "at"] []
  f_row_words : Addr
  fd_row_words : FuncData
  F_row_words : Fun K "row_words" "row_words" s_row_words f_row_words fd_row_words
  m_row_words : mg "row_words" = some (.ref f_row_words)
  b_row_words : Binds K fd_row_words ["row", "begin"] []
  f_text_words : Addr
  fd_text_words : FuncData
  F_text_words : Fun K "text_words" "text_words" s_text_words f_text_words fd_text_words
  m_text_words : mg "text_words" = some (.ref f_text_words)
  b_text_words : Binds K fd_text_words ["text"] []
  f_is_sound : Addr
  fd_is_sound : FuncData
  F_is_sound : Fun K "is_sound" "is_sound" s_is_sound f_is_sound fd_is_sound
  m_is_sound : mg "is_sound" = some (.ref f_is_sound)
  b_is_sound : Binds K fd_is_sound ["word"] []
  f_is_name : Addr
  fd_is_name : FuncData
  F_is_name : Fun K "is_name" "is_name" s_is_name f_is_name fd_is_name
  m_is_name : mg "is_name" = some (.ref f_is_name)
  b_is_name : Binds K fd_is_name ["word"] []
  f__law_next : Addr
  fd__law_next : FuncData
  F__law_next : Fun K "_law_next" "_law_next" s__law_next f__law_next fd__law_next
  m__law_next : mg "_law_next" = some (.ref f__law_next)
  b__law_next : Binds K fd__law_next ["_law_state", "_law_many"] []
  f__law_told_words : Addr
  fd__law_told_words : FuncData
  F__law_told_words : Fun K "_law_told_words" "_law_told_words" s__law_told_words f__law_told_words fd__law_told_words
  m__law_told_words : mg "_law_told_words" = some (.ref f__law_told_words)
  b__law_told_words : Binds K fd__law_told_words [] []
  f__law_piece : Addr
  fd__law_piece : FuncData
  F__law_piece : Fun K "_law_piece" "_law_piece" s__law_piece f__law_piece fd__law_piece
  m__law_piece : mg "_law_piece" = some (.ref f__law_piece)
  b__law_piece : Binds K fd__law_piece ["_law_state"] []
  f__law_odd : Addr
  fd__law_odd : FuncData
  F__law_odd : Fun K "_law_odd" "_law_odd" s__law_odd f__law_odd fd__law_odd
  m__law_odd : mg "_law_odd" = some (.ref f__law_odd)
  b__law_odd : Binds K fd__law_odd ["_law_state"] []
  f__law_text : Addr
  fd__law_text : FuncData
  F__law_text : Fun K "_law_text" "_law_text" s__law_text f__law_text fd__law_text
  m__law_text : mg "_law_text" = some (.ref f__law_text)
  b__law_text : Binds K fd__law_text ["_law_state"] []
  f__law_due : Addr
  fd__law_due : FuncData
  F__law_due : Fun K "_law_due" "_law_due" s__law_due f__law_due fd__law_due
  m__law_due : mg "_law_due" = some (.ref f__law_due)
  b__law_due : Binds K fd__law_due ["_law_text_here"] []
  f__law_class : Addr
  fd__law_class : FuncData
  F__law_class : Fun K "_law_class" "_law_class" s__law_class f__law_class fd__law_class
  m__law_class : mg "_law_class" = some (.ref f__law_class)
  b__law_class : Binds K fd__law_class ["_law_e"] []
  f__law_said : Addr
  fd__law_said : FuncData
  F__law_said : Fun K "_law_said" "_law_said" s__law_said f__law_said fd__law_said
  m__law_said : mg "_law_said" = some (.ref f__law_said)
  b__law_said : Binds K fd__law_said ["_law_thing"] []
  f__law_by_hand : Addr
  fd__law_by_hand : FuncData
  F__law_by_hand : Fun K "_law_by_hand" "_law_by_hand" s__law_by_hand f__law_by_hand fd__law_by_hand
  m__law_by_hand : mg "_law_by_hand" = some (.ref f__law_by_hand)
  b__law_by_hand : Binds K fd__law_by_hand ["_law_state"] []
  f__law_names_right : Addr
  fd__law_names_right : FuncData
  F__law_names_right : Fun K "_law_names_right" "_law_names_right" s__law_names_right f__law_names_right fd__law_names_right
  m__law_names_right : mg "_law_names_right" = some (.ref f__law_names_right)
  b__law_names_right : Binds K fd__law_names_right ["_law_word"] []
  f_law : Addr
  fd_law : FuncData
  F_law : Fun K "law" "law" s_law f_law fd_law
  m_law : mg "law" = some (.ref f_law)
  b_law : Binds K fd_law ["_law_script"] []
  A_SoundError : Addr
  c_SoundError : mg "SoundError" = some (.ref A_SoundError)
  A_BadSign : Addr
  c_BadSign : mg "BadSign" = some (.ref A_BadSign)
  A_BadText : Addr
  c_BadText : mg "BadText" = some (.ref A_BadText)
  A_Twice : Addr
  c_Twice : mg "Twice" = some (.ref A_Twice)
  A_Lacking : Addr
  c_Lacking : mg "Lacking" = some (.ref A_Lacking)
  A_NoSound : Addr
  c_NoSound : mg "NoSound" = some (.ref A_NoSound)
  A_NoRule : Addr
  c_NoRule : mg "NoRule" = some (.ref A_NoRule)
  A_BadWord : Addr
  c_BadWord : mg "BadWord" = some (.ref A_BadWord)
  A_BadNumber : Addr
  c_BadNumber : mg "BadNumber" = some (.ref A_BadNumber)
  A_TooLong : Addr
  c_TooLong : mg "TooLong" = some (.ref A_TooLong)
  A_TooMany : Addr
  c_TooMany : mg "TooMany" = some (.ref A_TooMany)
  i_BadSign : Addr
  x_BadSign : SxE.ETxt K "spot" "BadSign.__init__" A_BadSign i_BadSign
  y_BadSign : XCls K A_BadSign
  z_BadSign : PySem.W.exmOne K (.ref A_BadSign) (.ref A_SoundError) = some true
  v_BadSign : PySem.W.kitOne K (.ref A_BadSign) (.type "ValueError") = some true
  o_BadSign : findIn K (.ref A_BadSign) "spot" = some none
  q_BadSign_BadSign : PySem.W.kitOne K (.ref A_BadSign) (.ref A_BadSign) = some true
  q_BadSign_BadText : PySem.W.kitOne K (.ref A_BadSign) (.ref A_BadText) = some false
  q_BadSign_Twice : PySem.W.kitOne K (.ref A_BadSign) (.ref A_Twice) = some false
  q_BadSign_Lacking : PySem.W.kitOne K (.ref A_BadSign) (.ref A_Lacking) = some false
  q_BadSign_NoSound : PySem.W.kitOne K (.ref A_BadSign) (.ref A_NoSound) = some false
  q_BadSign_NoRule : PySem.W.kitOne K (.ref A_BadSign) (.ref A_NoRule) = some false
  q_BadSign_BadWord : PySem.W.kitOne K (.ref A_BadSign) (.ref A_BadWord) = some false
  q_BadSign_BadNumber : PySem.W.kitOne K (.ref A_BadSign) (.ref A_BadNumber) = some false
  q_BadSign_TooLong : PySem.W.kitOne K (.ref A_BadSign) (.ref A_TooLong) = some false
  q_BadSign_TooMany : PySem.W.kitOne K (.ref A_BadSign) (.ref A_TooMany) = some false
  i_BadText : Addr
  x_BadText : SxE.ETxt K "spot" "BadText.__init__" A_BadText i_BadText
  i_Twice : Addr
  x_Twice : SxE.ETxt K "word" "Twice.__init__" A_Twice i_Twice
  i_Lacking : Addr
  x_Lacking : SxE.ETxt K "word" "Lacking.__init__" A_Lacking i_Lacking
  i_NoSound : Addr
  x_NoSound : SxE.ETxt K "word" "NoSound.__init__" A_NoSound i_NoSound
  i_NoRule : Addr
  x_NoRule : SxE.ETxt K "word" "NoRule.__init__" A_NoRule i_NoRule
  n_ValueError : mg "ValueError" = none
  n_all : mg "all" = none
  n_bool : mg "bool" = none
  n_int : mg "int" = none
  n_isinstance : mg "isinstance" = none
  n_len : mg "len" = none
  n_list : mg "list" = none
  n_max : mg "max" = none
  n_min : mg "min" = none
  n_range : mg "range" = none
  n_str : mg "str" = none
  V_TOLD : V
  w_TOLD : Value
  c_TOLD : mg "TOLD" = some w_TOLD
  r_TOLD : RelV V_TOLD w_TOLD
  p_TOLD : ∀ (T : Tab), T.K = K → ∀ F, Rep T F k_TOLD V_TOLD
  V_LETTERS : V
  w_LETTERS : Value
  c_LETTERS : mg "LETTERS" = some w_LETTERS
  r_LETTERS : RelV V_LETTERS w_LETTERS
  p_LETTERS : ∀ (T : Tab), T.K = K → ∀ F, Rep T F k_LETTERS V_LETTERS
  V_MARKS : V
  w_MARKS : Value
  c_MARKS : mg "MARKS" = some w_MARKS
  r_MARKS : RelV V_MARKS w_MARKS
  p_MARKS : ∀ (T : Tab), T.K = K → ∀ F, Rep T F k_MARKS V_MARKS
  V_MOST_SIGNS : V
  w_MOST_SIGNS : Value
  c_MOST_SIGNS : mg "MOST_SIGNS" = some w_MOST_SIGNS
  r_MOST_SIGNS : RelV V_MOST_SIGNS w_MOST_SIGNS
  p_MOST_SIGNS : ∀ (T : Tab), T.K = K → ∀ F, Rep T F k_MOST_SIGNS V_MOST_SIGNS
  V_MOST_LETTERS : V
  w_MOST_LETTERS : Value
  c_MOST_LETTERS : mg "MOST_LETTERS" = some w_MOST_LETTERS
  r_MOST_LETTERS : RelV V_MOST_LETTERS w_MOST_LETTERS
  p_MOST_LETTERS : ∀ (T : Tab), T.K = K → ∀ F, Rep T F k_MOST_LETTERS V_MOST_LETTERS
section
variable {P : Program} {w : World} {K : Frag} {mg : Str → Option Value} {base : Heap}
def tb (t : Tx K mg) : Tab := ⟨K, fun k => if k = 0 then t.A_BadSign else if k = 1 then t.A_BadText else if k = 2 then t.A_Twice else if k = 3 then t.A_Lacking else if k = 4 then t.A_NoSound else if k = 5 then t.A_NoRule else if k = 6 then t.A_BadWord else if k = 7 then t.A_BadNumber else if k = 8 then t.A_TooLong else if k = 9 then t.A_TooMany else 0, fun _ => [], fun k => if k = 0 then "spot" else if k = 1 then "spot" else if k = 2 then "word" else if k = 3 then "word" else if k = 4 then "word" else if k = 5 then "word" else ""⟩
theorem xks_VE (t : Tx K mg) : ∀ k ∈ xks, XCls K ((tb t).ca k) ∧ PySem.W.kitOne K (.ref ((tb t).ca k)) (.type "ValueError") = some true := by
  intro k hk
  unfold xks at hk
  simp only [List.mem_cons, List.not_mem_nil, or_false] at hk
  subst hk
  exact ⟨t.y_BadSign, t.v_BadSign⟩
theorem xks_exm_SoundError (t : Tx K mg) : ∀ k, k ∈ xks → PySem.W.exmOne K (.ref ((tb t).ca k)) (.ref t.A_SoundError) = some true := by
  intro k hk
  unfold xks at hk
  simp only [List.mem_cons, List.not_mem_nil, or_false] at hk
  subst hk
  exact t.z_BadSign
theorem xks_BadSign (t : Tx K mg) : ∀ k ∈ xks, XCls K ((tb t).ca k) ∧ PySem.W.kitOne K (.ref ((tb t).ca k)) (.ref t.A_BadSign) = some (k == 0) := by
  intro k hk
  unfold xks at hk
  simp only [List.mem_cons, List.not_mem_nil, or_false] at hk
  subst hk
  exact ⟨t.y_BadSign, t.q_BadSign_BadSign⟩
theorem xks_BadText (t : Tx K mg) : ∀ k ∈ xks, XCls K ((tb t).ca k) ∧ PySem.W.kitOne K (.ref ((tb t).ca k)) (.ref t.A_BadText) = some (k == 1) := by
  intro k hk
  unfold xks at hk
  simp only [List.mem_cons, List.not_mem_nil, or_false] at hk
  subst hk
  exact ⟨t.y_BadSign, t.q_BadSign_BadText⟩
theorem xks_Twice (t : Tx K mg) : ∀ k ∈ xks, XCls K ((tb t).ca k) ∧ PySem.W.kitOne K (.ref ((tb t).ca k)) (.ref t.A_Twice) = some (k == 2) := by
  intro k hk
  unfold xks at hk
  simp only [List.mem_cons, List.not_mem_nil, or_false] at hk
  subst hk
  exact ⟨t.y_BadSign, t.q_BadSign_Twice⟩
theorem xks_Lacking (t : Tx K mg) : ∀ k ∈ xks, XCls K ((tb t).ca k) ∧ PySem.W.kitOne K (.ref ((tb t).ca k)) (.ref t.A_Lacking) = some (k == 3) := by
  intro k hk
  unfold xks at hk
  simp only [List.mem_cons, List.not_mem_nil, or_false] at hk
  subst hk
  exact ⟨t.y_BadSign, t.q_BadSign_Lacking⟩
theorem xks_NoSound (t : Tx K mg) : ∀ k ∈ xks, XCls K ((tb t).ca k) ∧ PySem.W.kitOne K (.ref ((tb t).ca k)) (.ref t.A_NoSound) = some (k == 4) := by
  intro k hk
  unfold xks at hk
  simp only [List.mem_cons, List.not_mem_nil, or_false] at hk
  subst hk
  exact ⟨t.y_BadSign, t.q_BadSign_NoSound⟩
theorem xks_NoRule (t : Tx K mg) : ∀ k ∈ xks, XCls K ((tb t).ca k) ∧ PySem.W.kitOne K (.ref ((tb t).ca k)) (.ref t.A_NoRule) = some (k == 5) := by
  intro k hk
  unfold xks at hk
  simp only [List.mem_cons, List.not_mem_nil, or_false] at hk
  subst hk
  exact ⟨t.y_BadSign, t.q_BadSign_NoRule⟩
theorem xks_BadWord (t : Tx K mg) : ∀ k ∈ xks, XCls K ((tb t).ca k) ∧ PySem.W.kitOne K (.ref ((tb t).ca k)) (.ref t.A_BadWord) = some (k == 6) := by
  intro k hk
  unfold xks at hk
  simp only [List.mem_cons, List.not_mem_nil, or_false] at hk
  subst hk
  exact ⟨t.y_BadSign, t.q_BadSign_BadWord⟩
theorem xks_BadNumber (t : Tx K mg) : ∀ k ∈ xks, XCls K ((tb t).ca k) ∧ PySem.W.kitOne K (.ref ((tb t).ca k)) (.ref t.A_BadNumber) = some (k == 7) := by
  intro k hk
  unfold xks at hk
  simp only [List.mem_cons, List.not_mem_nil, or_false] at hk
  subst hk
  exact ⟨t.y_BadSign, t.q_BadSign_BadNumber⟩
theorem xks_TooLong (t : Tx K mg) : ∀ k ∈ xks, XCls K ((tb t).ca k) ∧ PySem.W.kitOne K (.ref ((tb t).ca k)) (.ref t.A_TooLong) = some (k == 8) := by
  intro k hk
  unfold xks at hk
  simp only [List.mem_cons, List.not_mem_nil, or_false] at hk
  subst hk
  exact ⟨t.y_BadSign, t.q_BadSign_TooLong⟩
theorem xks_TooMany (t : Tx K mg) : ∀ k ∈ xks, XCls K ((tb t).ca k) ∧ PySem.W.kitOne K (.ref ((tb t).ca k)) (.ref t.A_TooMany) = some (k == 9) := by
  intro k hk
  unfold xks at hk
  simp only [List.mem_cons, List.not_mem_nil, or_false] at hk
  subst hk
  exact ⟨t.y_BadSign, t.q_BadSign_TooMany⟩
theorem xks_spot_ok (t : Tx K mg) : ∀ k ∈ xks_spot, (tb t).xn k = "spot" ∧ SxE.ECls K ((tb t).ca k) ∧ findIn K (.ref ((tb t).ca k)) "spot" = some none := by
  intro k hk
  unfold xks_spot at hk
  simp only [List.mem_cons, List.not_mem_nil, or_false] at hk
  subst hk
  exact ⟨rfl, t.y_BadSign.e, t.o_BadSign⟩
theorem ok_word_end (t : Tx K mg) : FnOk P w K mg base (L2.CX P w) 3 t.f_word_end t.fd_word_end ["row", "at"] (spF (tb t) 0 2 g_word_end) :=
  fn_ok t.F_word_end sc_word_end rfl rfl fun cdv A outer s H E hr => by
    have hu := hr.units
    have tk : Takes (cxOf (L2.CX P w) P w K mg base N_word_end "word_end" (defScope s_word_end) t.f_word_end cdv A outer s H E) (fun cls d _ H => E cls d H) := takes_of rfl rfl rfl rfl
    have pa : PassesOwn (model P w) (A.deeper (envOfC "word_end" (defScope s_word_end) s.heap.objs.size t.f_word_end cdv)) (envOfC "word_end" (defScope s_word_end) s.heap.objs.size t.f_word_end cdv) (cxOf (L2.CX P w) P w K mg base N_word_end "word_end" (defScope s_word_end) t.f_word_end cdv A outer s H E).xe := passes_of rfl
    exact (ss_cons (ss_if (st_cmp (op_inU hu) inOk (se_ix rfl hu (se_var (pv 0)) (se_var (pv 1)) (by intro _ _; rfl)) (se_glob rfl t.c_MARKS t.r_MARKS (t.p_MARKS (tb t) rfl)) rfl) (ss_one (ss_ret (se_fz (se_op2 addOk (pe_op op_addU (se_var (pv 1)) se_int))))) ss_nil)
    (ss_cons (ss_set (ps_set (i := 2) sc_word_end.nd rfl (Or.inl rfl) (se_var (pv 1))))
    (ss_cons (ss_while FU pa (PW.pt (sw_and (st_cmp op_lt ordOk (se_var (pv 2)) (se_len rfl rfl t.n_len (sa_cons (se_var (pv 0)) sa_nil)) rfl) (sw_and1 (st_cmp (op_inU hu) inOk (se_ix rfl hu (se_var (pv 0)) (se_var (pv 2)) (by intro _ _; rfl)) (se_glob rfl t.c_LETTERS t.r_LETTERS (t.p_LETTERS (tb t) rfl)) rfl)))) (ss_one (ss_aug (i := 2) sc_word_end.nd rfl (Or.inl rfl) se_int ip_add)))
    (ss_one (ss_ret (se_fz (se_if (st_chain op_lt ordOk op_le ordOk se_int (se_op2 subOk (pe_op op_sub (se_var (pv 2)) (se_var (pv 1)))) (se_glob rfl t.c_MOST_LETTERS t.r_MOST_LETTERS (t.p_MOST_LETTERS (tb t) rfl)) rfl) (se_var (pv 2)) (se_op1 negOk (pe_un un_neg se_int)))))))))
theorem ok_row_words (t : Tx K mg) : FnOk P w K mg base (L2.CX P w) 4 t.f_row_words t.fd_row_words ["row", "begin"] (spF (tb t) 0 2 g_row_words) :=
  fn_ok t.F_row_words sc_row_words rfl rfl fun cdv A outer s H E hr => by
    have hu := hr.units
    have tk : Takes (cxOf (L2.CX P w) P w K mg base N_row_words "row_words" (defScope s_row_words) t.f_row_words cdv A outer s H E) (fun cls d _ H => E cls d H) := takes_of rfl rfl rfl rfl
    have pa : PassesOwn (model P w) (A.deeper (envOfC "row_words" (defScope s_row_words) s.heap.objs.size t.f_row_words cdv)) (envOfC "row_words" (defScope s_row_words) s.heap.objs.size t.f_row_words cdv) (cxOf (L2.CX P w) P w K mg base N_row_words "row_words" (defScope s_row_words) t.f_row_words cdv A outer s H E).xe := passes_of rfl
    exact (ss_cons (ss_setOwn rfl (ps_set (i := 2) sc_row_words.nd rfl (Or.inl rfl) (se_lst sa_nil)))
    (ss_cons (ss_set (ps_set (i := 3) sc_row_words.nd rfl (Or.inl rfl) se_int))
    (ss_cons (ss_while FU pa (st_cmp op_lt ordOk (se_var (pv 3)) (se_len rfl rfl t.n_len (sa_cons (se_var (pv 0)) sa_nil)) rfl) (ss_cons (ss_if (st_cmp (op_eqP hu) eqOk (se_ix rfl hu (se_var (pv 0)) (se_var (pv 3)) (by intro _ _; rfl)) (se_str rfl) rfl) (ss_cons (ss_aug (i := 3) sc_row_words.nd rfl (Or.inl rfl) se_int ip_add)
    (ss_one ss_cont)) ss_nil)
    (ss_cons (ss_set (ps_set (i := 4) sc_row_words.nd rfl (Or.inl rfl) (se_fz (se_callF (ok_word_end t) (hr.mono (by decide)) rfl t.m_word_end t.F_word_end.kp t.b_word_end tk (sa_cons (se_var (pv 0)) (sa_cons (se_var (pv 3)) sa_nil))))))
    (ss_cons (ss_if (st_cmp op_lt ordOk (se_var (pv 4)) se_int rfl) (ss_one (ss_raise (cl := 0) rfl t.x_BadSign t.c_BadSign hr tk (se_fz (se_op2 addOk (pe_op op_addU (se_var (pv 1)) (se_var (pv 3))))) rfl)) ss_nil)
    (ss_cons (ss_expr (se_append (se_var (pv 2)) (se_fz (se_sl rfl (se_var (pv 0)) (so_some (se_var (pv 3))) (so_some (se_var (pv 4)))))))
    (ss_one (ss_set (ps_set (i := 3) sc_row_words.nd rfl (Or.inl rfl) (se_var (pv 4))))))))))
    (ss_one (ss_ret (se_fz (se_var (pv 2))))))))
theorem ok_text_words (t : Tx K mg) : FnOk P w K mg base (L2.CX P w) 5 t.f_text_words t.fd_text_words ["text"] (spF (tb t) 0 1 g_text_words) :=
  fn_ok t.F_text_words sc_text_words rfl rfl fun cdv A outer s H E hr => by
    have hu := hr.units
    have tk : Takes (cxOf (L2.CX P w) P w K mg base N_text_words "text_words" (defScope s_text_words) t.f_text_words cdv A outer s H E) (fun cls d _ H => E cls d H) := takes_of rfl rfl rfl rfl
    have pa : PassesOwn (model P w) (A.deeper (envOfC "text_words" (defScope s_text_words) s.heap.objs.size t.f_text_words cdv)) (envOfC "text_words" (defScope s_text_words) s.heap.objs.size t.f_text_words cdv) (cxOf (L2.CX P w) P w K mg base N_text_words "text_words" (defScope s_text_words) t.f_text_words cdv A outer s H E).xe := passes_of rfl
    exact (ss_cons (ss_if (PW.pt (sw_or (st_not (st_val (se_isT (by decide) rfl rfl t.n_isinstance (se_var (pv 0)) (pe_bltn rfl t.n_str rfl rfl)))) (sw_or1 (st_cmp op_gt ordOk (se_len rfl rfl t.n_len (sa_cons (se_var (pv 0)) sa_nil)) (se_glob rfl t.c_MOST_SIGNS t.r_MOST_SIGNS (t.p_MOST_SIGNS (tb t) rfl)) rfl)))) (ss_one (ss_raise (cl := 0) rfl t.x_BadSign t.c_BadSign hr tk se_int rfl)) ss_nil)
    (ss_cons (ss_setOwn rfl (ps_set (i := 1) sc_text_words.nd rfl (Or.inl rfl) (se_lst sa_nil)))
    (ss_cons (ss_set (ps_set (i := 2) sc_text_words.nd rfl (Or.inl rfl) se_int))
    (ss_cons (ss_for tgN_ok pa rfl (si_list rfl (se_split (se_var (pv 0)) (se_str rfl))) (pg_name (i := 3) sc_text_words.nd rfl (Or.inl rfl)) (ss_cons (ss_expr (se_append (se_var (pv 1)) (se_fz (se_callF (ok_row_words t) (hr.mono (by decide)) rfl t.m_row_words t.F_row_words.kp t.b_row_words tk (sa_cons (se_var (pv 3)) (sa_cons (se_var (pv 2)) sa_nil))))))
    (ss_one (ss_aug (i := 2) sc_text_words.nd rfl (Or.inl rfl) (se_fz (se_op2 addOk (pe_op op_addU (se_len rfl rfl t.n_len (sa_cons (se_var (pv 3)) sa_nil)) se_int))) ip_add))))
    (ss_one (ss_ret (se_fz (se_var (pv 1)))))))))
theorem ok_is_sound (t : Tx K mg) : FnOk P w K mg base (L2.CX P w) 3 t.f_is_sound t.fd_is_sound ["word"] (spF (tb t) 0 1 g_is_sound) :=
  fn_ok t.F_is_sound sc_is_sound rfl rfl fun cdv A outer s H E hr => by
    have hu := hr.units
    have tk : Takes (cxOf (L2.CX P w) P w K mg base N_is_sound "is_sound" (defScope s_is_sound) t.f_is_sound cdv A outer s H E) (fun cls d _ H => E cls d H) := takes_of rfl rfl rfl rfl
    have pa : PassesOwn (model P w) (A.deeper (envOfC "is_sound" (defScope s_is_sound) s.heap.objs.size t.f_is_sound cdv)) (envOfC "is_sound" (defScope s_is_sound) s.heap.objs.size t.f_is_sound cdv) (cxOf (L2.CX P w) P w K mg base N_is_sound "is_sound" (defScope s_is_sound) t.f_is_sound cdv A outer s H E).xe := passes_of rfl
    exact (ss_one (ss_ret (se_fz (se_and (se_cmp (op_eqP hu) eqOk (se_len rfl rfl t.n_len (sa_cons (se_var (pv 0)) sa_nil)) se_int rfl) (se_one (se_cmp (op_inU hu) inOk (se_var (pv 0)) (se_glob rfl t.c_LETTERS t.r_LETTERS (t.p_LETTERS (tb t) rfl)) rfl))))))
theorem ok_is_name (t : Tx K mg) : FnOk P w K mg base (L2.CX P w) 3 t.f_is_name t.fd_is_name ["word"] (spF (tb t) 0 1 g_is_name) :=
  fn_ok t.F_is_name sc_is_name rfl rfl fun cdv A outer s H E hr => by
    have hu := hr.units
    have tk : Takes (cxOf (L2.CX P w) P w K mg base N_is_name "is_name" (defScope s_is_name) t.f_is_name cdv A outer s H E) (fun cls d _ H => E cls d H) := takes_of rfl rfl rfl rfl
    have pa : PassesOwn (model P w) (A.deeper (envOfC "is_name" (defScope s_is_name) s.heap.objs.size t.f_is_name cdv)) (envOfC "is_name" (defScope s_is_name) s.heap.objs.size t.f_is_name cdv) (cxOf (L2.CX P w) P w K mg base N_is_name "is_name" (defScope s_is_name) t.f_is_name cdv A outer s H E).xe := passes_of rfl
    exact (ss_cons (ss_if (PW.pt (sw_or (st_not (st_chain op_le ordOk op_le ordOk se_int (se_len rfl rfl t.n_len (sa_cons (se_var (pv 0)) sa_nil)) (se_glob rfl t.c_MOST_LETTERS t.r_MOST_LETTERS (t.p_MOST_LETTERS (tb t) rfl)) rfl)) (sw_or1 (st_cmp (op_inU hu) inOk (se_var (pv 0)) (se_glob rfl t.c_TOLD t.r_TOLD (t.p_TOLD (tb t) rfl)) rfl)))) (ss_one (ss_ret se_bl)) ss_nil)
    (ss_one (ss_ret (se_fz (se_all rfl rfl rfl t.n_all (sa_cons (se_lc (own := [("sign", 1)]) (cgN_ok (by decide)) rfl sc_is_name.nd (si_str (se_var (pv 0))) (blkOk_by (N := N_is_name) (sc := defScope s_is_name) (by decide +kernel)) (fun _ _ _ _ _ => (pg_name (i := 1) sc_is_name.nd rfl (Or.inl rfl))) (fun _ _ _ _ _ => sts_nil) (fun _ _ _ _ _ => (se_cmp (op_inU hu) inOk (se_var (pv 1)) (se_glob rfl t.c_LETTERS t.r_LETTERS (t.p_LETTERS (tb t) rfl)) rfl))) sa_nil))))))
theorem ok__law_next (t : Tx K mg) : FnOk P w K mg base (L2.CX P w) 3 t.f__law_next t.fd__law_next ["_law_state", "_law_many"] (spF (tb t) 1 2 g__law_next) :=
  fn_ok t.F__law_next sc__law_next rfl rfl fun cdv A outer s H E hr => by
    have hu := hr.units
    have tk : Takes (cxOf (L2.CX P w) P w K mg base N__law_next "_law_next" (defScope s__law_next) t.f__law_next cdv A outer s H E) (fun cls d _ H => E cls d H) := takes_of rfl rfl rfl rfl
    have pa : PassesOwn (model P w) (A.deeper (envOfC "_law_next" (defScope s__law_next) s.heap.objs.size t.f__law_next cdv)) (envOfC "_law_next" (defScope s__law_next) s.heap.objs.size t.f__law_next cdv) (cxOf (L2.CX P w) P w K mg base N__law_next "_law_next" (defScope s__law_next) t.f__law_next cdv A outer s H E).xe := passes_of rfl
    exact (ss_cons (ss_dput (hu_of hr) (se_var (pv 0)) (se_str rfl) (se_fz (se_op2 addOk (pe_op op_addU (se_ix rfl hu (se_var (pv 0)) (se_str rfl) (by intro _ _; rfl)) se_int))))
    (ss_cons (ss_set (ps_set (i := 2) sc__law_next.nd rfl (Or.inl rfl) (se_fz (se_ix rfl hu (se_var (pv 0)) (se_str rfl) (by intro _ _; rfl)))))
    (ss_cons (ss_set (ps_set (i := 3) sc__law_next.nd rfl (Or.inl rfl) (se_fz (se_ix rfl hu (se_var (pv 0)) (se_str rfl) (by intro _ _; rfl)))))
    (ss_cons (ss_set (ps_set (i := 4) sc__law_next.nd rfl (Or.inl rfl) (se_fz (se_if (st_cmp (op_neP hu) neOk (se_var (pv 3)) (se_lst sa_nil) rfl) (se_ix rfl hu (se_var (pv 3)) (se_op2 modOk (pe_op op_mod (se_var (pv 2)) (se_len rfl rfl t.n_len (sa_cons (se_var (pv 3)) sa_nil)))) (by intro _ _; rfl)) se_int))))
    (ss_cons (ss_set (ps_set (i := 5) sc__law_next.nd rfl (Or.inl rfl) (se_fz (se_op2 modOk (pe_op op_mod (se_op2 addOk (pe_op op_addU (se_op2 addOk (pe_op op_addU (se_op2 mulOk (pe_op op_mulU (se_op2 modOk (pe_op op_mod (se_var (pv 4)) se_int)) se_int)) (se_op2 mulOk (pe_op op_mulU (se_op2 mulOk (pe_op op_mulU se_int (se_var (pv 2)))) (se_var (pv 2)))))) se_int)) se_int)))))
    (ss_one (ss_ret (se_fz (se_op2 modOk (pe_op op_mod (se_op2 fdivOk (pe_op op_fdiv (se_op2 modOk (pe_op op_mod (se_op2 mulOk (pe_op op_mulU (se_var (pv 5)) (se_op2 addOk (pe_op op_addU se_int (se_op2 mulOk (pe_op op_mulU se_int (se_var (pv 2)))))))) se_int)) se_int)) (se_var (pv 1))))))))))))
theorem ok__law_told_words (t : Tx K mg) : FnOk P w K mg base (L2.CX P w) 3 t.f__law_told_words t.fd__law_told_words [] (spF (tb t) 0 0 g__law_told_words) :=
  fn_ok t.F__law_told_words sc__law_told_words rfl rfl fun cdv A outer s H E hr => by
    have hu := hr.units
    have tk : Takes (cxOf (L2.CX P w) P w K mg base N__law_told_words "_law_told_words" (defScope s__law_told_words) t.f__law_told_words cdv A outer s H E) (fun cls d _ H => E cls d H) := takes_of rfl rfl rfl rfl
    have pa : PassesOwn (model P w) (A.deeper (envOfC "_law_told_words" (defScope s__law_told_words) s.heap.objs.size t.f__law_told_words cdv)) (envOfC "_law_told_words" (defScope s__law_told_words) s.heap.objs.size t.f__law_told_words cdv) (cxOf (L2.CX P w) P w K mg base N__law_told_words "_law_told_words" (defScope s__law_told_words) t.f__law_told_words cdv A outer s H E).xe := passes_of rfl
    exact (ss_one (ss_ret (se_fz (se_lst (sa_cons (se_str rfl) (sa_cons (se_str rfl) (sa_cons (se_str rfl) (sa_cons (se_str rfl) (sa_cons (se_str rfl) (sa_cons (se_str rfl) (sa_cons (se_str rfl) (sa_cons (se_str rfl) sa_nil))))))))))))
theorem ok__law_piece (t : Tx K mg) : FnOk P w K mg base (L2.CX P w) 4 t.f__law_piece t.fd__law_piece ["_law_state"] (spF (tb t) 1 1 g__law_piece) :=
  fn_ok t.F__law_piece sc__law_piece rfl rfl fun cdv A outer s H E hr => by
    have hu := hr.units
    have tk : Takes (cxOf (L2.CX P w) P w K mg base N__law_piece "_law_piece" (defScope s__law_piece) t.f__law_piece cdv A outer s H E) (fun cls d _ H => E cls d H) := takes_of rfl rfl rfl rfl
    have pa : PassesOwn (model P w) (A.deeper (envOfC "_law_piece" (defScope s__law_piece) s.heap.objs.size t.f__law_piece cdv)) (envOfC "_law_piece" (defScope s__law_piece) s.heap.objs.size t.f__law_piece cdv) (cxOf (L2.CX P w) P w K mg base N__law_piece "_law_piece" (defScope s__law_piece) t.f__law_piece cdv A outer s H E).xe := passes_of rfl
    exact (ss_cons (ss_set (ps_set (i := 1) sc__law_piece.nd rfl (Or.inr rfl) (se_str rfl)))
    (ss_cons (ss_set (ps_set (i := 2) sc__law_piece.nd rfl (Or.inl rfl) (se_fz (se_callF (ok__law_next t) (hr.mono (by decide)) rfl t.m__law_next t.F__law_next.kp t.b__law_next tk (sa_cons (se_var (pv 0)) (sa_cons se_int sa_nil))))))
    (ss_cons (ss_if (st_cmp (op_eqP hu) eqOk (se_var (pv 2)) se_int rfl) (ss_one (ss_ret (se_fz (se_ix rfl hu (se_callF0 (ok__law_told_words t) (hr.mono (by decide)) rfl t.m__law_told_words t.F__law_told_words.kp t.b__law_told_words tk) (se_callF (ok__law_next t) (hr.mono (by decide)) rfl t.m__law_next t.F__law_next.kp t.b__law_next tk (sa_cons (se_var (pv 0)) (sa_cons se_int sa_nil))) (by intro _ _; rfl))))) ss_nil)
    (ss_cons (ss_if (st_cmp (op_eqP hu) eqOk (se_var (pv 2)) se_int rfl) (ss_one (ss_ret (se_fz (se_ix rfl hu (se_str rfl) (se_callF (ok__law_next t) (hr.mono (by decide)) rfl t.m__law_next t.F__law_next.kp t.b__law_next tk (sa_cons (se_var (pv 0)) (sa_cons se_int sa_nil))) (by intro _ _; rfl))))) ss_nil)
    (ss_cons (ss_setT (tgT_ok rfl) (ps_asg (se_tup (sa_cons (se_fz (se_callF (ok__law_next t) (hr.mono (by decide)) rfl t.m__law_next t.F__law_next.kp t.b__law_next tk (sa_cons (se_var (pv 0)) (sa_cons se_int sa_nil)))) (sa_cons (se_fz (se_op2 addOk (pe_op op_addU se_int (se_callF (ok__law_next t) (hr.mono (by decide)) rfl t.m__law_next t.F__law_next.kp t.b__law_next tk (sa_cons (se_var (pv 0)) (sa_cons se_int sa_nil)))))) sa_nil))) (pg_tup rfl (pgs_cons (pg_name (i := 3) sc__law_piece.nd rfl (Or.inr rfl)) (pgs_cons (pg_name (i := 4) sc__law_piece.nd rfl (Or.inr rfl)) pgs_nil)))))
    (ss_one (ss_ret (se_fz (se_join rfl (se_str rfl) (se_lc (own := [("_law_k", 5)]) (cgN_ok (by decide)) rfl sc__law_piece.nd (si_rg1 rfl t.n_range (sa_cons (se_fz (se_ix rfl hu (se_lst (sa_cons se_int (sa_cons se_int (sa_cons se_int (sa_cons se_int (sa_cons se_int sa_nil)))))) (se_callF (ok__law_next t) (hr.mono (by decide)) rfl t.m__law_next t.F__law_next.kp t.b__law_next tk (sa_cons (se_var (pv 0)) (sa_cons se_int sa_nil))) (by intro _ _; rfl))) sa_nil)) (blkOk_by (N := N__law_piece) (sc := defScope s__law_piece) (by decide +kernel)) (fun _ _ _ _ _ => (pg_name (i := 5) sc__law_piece.nd rfl (Or.inl rfl))) (fun _ _ _ _ _ => sts_nil) (fun _ _ _ _ _ => (se_fz (se_ix rfl hu (se_var (pv 1)) (se_op2 modOk (pe_op op_mod (se_op2 addOk (pe_op op_addU (se_var (pv 3)) (se_op2 mulOk (pe_op op_mulU (se_var (pv 5)) (se_var (pv 4)))))) se_int)) (by intro _ _; rfl))))))))))))))
theorem ok__law_odd (t : Tx K mg) : FnOk P w K mg base (L2.CX P w) 4 t.f__law_odd t.fd__law_odd ["_law_state"] (spF (tb t) 1 1 g__law_odd) :=
  fn_ok t.F__law_odd sc__law_odd rfl rfl fun cdv A outer s H E hr => by
    have hu := hr.units
    have tk : Takes (cxOf (L2.CX P w) P w K mg base N__law_odd "_law_odd" (defScope s__law_odd) t.f__law_odd cdv A outer s H E) (fun cls d _ H => E cls d H) := takes_of rfl rfl rfl rfl
    have pa : PassesOwn (model P w) (A.deeper (envOfC "_law_odd" (defScope s__law_odd) s.heap.objs.size t.f__law_odd cdv)) (envOfC "_law_odd" (defScope s__law_odd) s.heap.objs.size t.f__law_odd cdv) (cxOf (L2.CX P w) P w K mg base N__law_odd "_law_odd" (defScope s__law_odd) t.f__law_odd cdv A outer s H E).xe := passes_of rfl
    exact (ss_cons (ss_set (ps_set (i := 1) sc__law_odd.nd rfl (Or.inl rfl) (se_str rfl)))
    (ss_cons (ss_if (st_cmp op_gt ordOk (se_callF (ok__law_next t) (hr.mono (by decide)) rfl t.m__law_next t.F__law_next.kp t.b__law_next tk (sa_cons (se_var (pv 0)) (sa_cons se_int sa_nil))) se_int rfl) (ss_one (ss_ret (se_fz (se_ix rfl hu (se_var (pv 1)) (se_callF (ok__law_next t) (hr.mono (by decide)) rfl t.m__law_next t.F__law_next.kp t.b__law_next tk (sa_cons (se_var (pv 0)) (sa_cons (se_fz (se_len rfl rfl t.n_len (sa_cons (se_var (pv 1)) sa_nil))) sa_nil))) (by intro _ _; rfl))))) ss_nil)
    (ss_one (ss_ret (se_fz (se_ix rfl hu (se_lst (sa_cons (se_str rfl) (sa_cons (se_str rfl) (sa_cons (se_str rfl) (sa_cons (se_str rfl) (sa_cons (se_str rfl) (sa_cons (se_str rfl) (sa_cons (se_str rfl) (sa_cons (se_str rfl) sa_nil))))))))) (se_callF (ok__law_next t) (hr.mono (by decide)) rfl t.m__law_next t.F__law_next.kp t.b__law_next tk (sa_cons (se_var (pv 0)) (sa_cons se_int sa_nil))) (by intro _ _; rfl)))))))
theorem ok__law_text (t : Tx K mg) : FnOk P w K mg base (L2.CX P w) 5 t.f__law_text t.fd__law_text ["_law_state"] (spF (tb t) 1 1 g__law_text) :=
  fn_ok t.F__law_text sc__law_text rfl rfl fun cdv A outer s H E hr => by
    have hu := hr.units
    have tk : Takes (cxOf (L2.CX P w) P w K mg base N__law_text "_law_text" (defScope s__law_text) t.f__law_text cdv A outer s H E) (fun cls d _ H => E cls d H) := takes_of rfl rfl rfl rfl
    have pa : PassesOwn (model P w) (A.deeper (envOfC "_law_text" (defScope s__law_text) s.heap.objs.size t.f__law_text cdv)) (envOfC "_law_text" (defScope s__law_text) s.heap.objs.size t.f__law_text cdv) (cxOf (L2.CX P w) P w K mg base N__law_text "_law_text" (defScope s__law_text) t.f__law_text cdv A outer s H E).xe := passes_of rfl
    exact (ss_cons (ss_set (ps_set (i := 1) sc__law_text.nd rfl (Or.inl rfl) (se_str rfl)))
    (ss_cons (ss_for tgN_ok pa rfl (si_rg1 rfl t.n_range (sa_cons (se_fz (se_min rfl rfl t.n_min (sa_cons se_int (sa_cons (se_fz (se_len rfl rfl t.n_len (sa_cons (se_ix rfl hu (se_var (pv 0)) (se_str rfl) (by intro _ _; rfl)) sa_nil))) sa_nil)))) sa_nil)) (pg_name (i := 2) sc__law_text.nd rfl (Or.inl rfl)) (ss_one (ss_set (ps_set (i := 1) sc__law_text.nd rfl (Or.inl rfl) (se_fz (se_op2 addOk (pe_op op_addU (se_op2 addOk (pe_op op_addU (se_var (pv 1)) (se_callF (ok__law_piece t) (hr.mono (by decide)) rfl t.m__law_piece t.F__law_piece.kp t.b__law_piece tk (sa_cons (se_var (pv 0)) sa_nil)))) (se_ix rfl hu (se_lst (sa_cons (se_str rfl) (sa_cons (se_str rfl) (sa_cons (se_str rfl) (sa_cons (se_str rfl) (sa_cons (se_str rfl) (sa_cons (se_str rfl) (sa_cons (se_str rfl) (sa_cons (se_str rfl) sa_nil))))))))) (se_callF (ok__law_next t) (hr.mono (by decide)) rfl t.m__law_next t.F__law_next.kp t.b__law_next tk (sa_cons (se_var (pv 0)) (sa_cons se_int sa_nil))) (by intro _ _; rfl)))))))))
    (ss_cons (ss_for tgN_ok pa rfl (si_rg1 rfl t.n_range (sa_cons (se_fz (se_ix rfl hu (se_lst (sa_cons se_int (sa_cons se_int (sa_cons se_int (sa_cons se_int sa_nil))))) (se_callF (ok__law_next t) (hr.mono (by decide)) rfl t.m__law_next t.F__law_next.kp t.b__law_next tk (sa_cons (se_var (pv 0)) (sa_cons se_int sa_nil))) (by intro _ _; rfl))) sa_nil)) (pg_name (i := 2) sc__law_text.nd rfl (Or.inl rfl)) (ss_cons (ss_set (ps_set (i := 3) sc__law_text.nd rfl (Or.inl rfl) (se_fz (se_callF (ok__law_next t) (hr.mono (by decide)) rfl t.m__law_next t.F__law_next.kp t.b__law_next tk (sa_cons (se_var (pv 0)) (sa_cons (se_fz (se_op2 addOk (pe_op op_addU (se_len rfl rfl t.n_len (sa_cons (se_var (pv 1)) sa_nil)) se_int))) sa_nil))))))
    (ss_one (ss_set (ps_set (i := 1) sc__law_text.nd rfl (Or.inl rfl) (se_fz (se_op2 addOk (pe_op op_addU (se_op2 addOk (pe_op op_addU (se_op2 addOk (pe_op op_addU (se_sl rfl (se_var (pv 1)) so_none (so_some (se_var (pv 3)))) (se_ix rfl hu (se_lst (sa_cons (se_str rfl) (sa_cons (se_str rfl) sa_nil))) (se_callF (ok__law_next t) (hr.mono (by decide)) rfl t.m__law_next t.F__law_next.kp t.b__law_next tk (sa_cons (se_var (pv 0)) (sa_cons se_int sa_nil))) (by intro _ _; rfl)))) (se_callF (ok__law_odd t) (hr.mono (by decide)) rfl t.m__law_odd t.F__law_odd.kp t.b__law_odd tk (sa_cons (se_var (pv 0)) sa_nil)))) (se_sl rfl (se_var (pv 1)) (so_some (se_var (pv 3))) so_none)))))))))
    (ss_cons (ss_if (st_cmp (op_eqP hu) eqOk (se_callF (ok__law_next t) (hr.mono (by decide)) rfl t.m__law_next t.F__law_next.kp t.b__law_next tk (sa_cons (se_var (pv 0)) (sa_cons se_int sa_nil))) se_int rfl) (ss_one (ss_ret (se_fz (se_sl rfl (se_op2 addOk (pe_op op_addU (se_op2 addOk (pe_op op_addU (se_var (pv 1)) (se_str rfl))) (se_op2 mulOk (pe_op op_mulU (se_str rfl) se_int)))) so_none (so_some (se_op2 addOk (pe_op op_addU se_int (se_callF (ok__law_next t) (hr.mono (by decide)) rfl t.m__law_next t.F__law_next.kp t.b__law_next tk (sa_cons (se_var (pv 0)) (sa_cons se_int sa_nil)))))))))) ss_nil)
    (ss_one (ss_ret (se_var (pv 1))))))))
theorem ok__law_due (t : Tx K mg) : FnOk P w K mg base (L2.CX P w) 3 t.f__law_due t.fd__law_due ["_law_text_here"] (spF (tb t) 0 1 g__law_due) :=
  fn_ok t.F__law_due sc__law_due rfl rfl fun cdv A outer s H E hr => by
    have hu := hr.units
    have tk : Takes (cxOf (L2.CX P w) P w K mg base N__law_due "_law_due" (defScope s__law_due) t.f__law_due cdv A outer s H E) (fun cls d _ H => E cls d H) := takes_of rfl rfl rfl rfl
    have pa : PassesOwn (model P w) (A.deeper (envOfC "_law_due" (defScope s__law_due) s.heap.objs.size t.f__law_due cdv)) (envOfC "_law_due" (defScope s__law_due) s.heap.objs.size t.f__law_due cdv) (cxOf (L2.CX P w) P w K mg base N__law_due "_law_due" (defScope s__law_due) t.f__law_due cdv A outer s H E).xe := passes_of rfl
    exact (ss_cons (ss_if (st_cmp op_gt ordOk (se_len rfl rfl t.n_len (sa_cons (se_var (pv 0)) sa_nil)) se_int rfl) (ss_one (ss_ret se_int)) ss_nil)
    (ss_cons (ss_setOwn rfl (ps_set (i := 1) sc__law_due.nd rfl (Or.inl rfl) (se_lst (sa_cons (se_fz (se_lst sa_nil)) sa_nil))))
    (ss_cons (ss_set (ps_set (i := 2) sc__law_due.nd rfl (Or.inl rfl) se_int))
    (ss_cons (ss_while FU pa (st_cmp op_lt ordOk (se_var (pv 2)) (se_len rfl rfl t.n_len (sa_cons (se_var (pv 0)) sa_nil)) rfl) (ss_cons (ss_set (ps_set (i := 3) sc__law_due.nd rfl (Or.inl rfl) (se_var (pv 2))))
    (ss_cons (ss_while FU pa (PW.pt (sw_and (st_cmp op_lt ordOk (se_var (pv 3)) (se_len rfl rfl t.n_len (sa_cons (se_var (pv 0)) sa_nil)) rfl) (sw_and1 (st_cmp (op_inU hu) inOk (se_ix rfl hu (se_var (pv 0)) (se_var (pv 3)) (by intro _ _; rfl)) (se_str rfl) rfl)))) (ss_one (ss_set (ps_set (i := 3) sc__law_due.nd rfl (Or.inl rfl) (se_fz (se_op2 addOk (pe_op op_addU (se_var (pv 3)) se_int)))))))
    (ss_cons (ss_if (PW.pt (sw_or (st_cmp op_gt ordOk (se_var (pv 3)) (se_op2 addOk (pe_op op_addU (se_var (pv 2)) se_int)) rfl) (sw_or1 (PW.pt (sw_and (st_cmp (op_eqP hu) eqOk (se_var (pv 3)) (se_var (pv 2)) rfl) (sw_and1 (st_cmp (op_notInU hu) notInOk (se_ix rfl hu (se_var (pv 0)) (se_var (pv 2)) (by intro _ _; rfl)) (se_str rfl) rfl))))))) (ss_one (ss_ret (se_var (pv 2)))) ss_nil)
    (ss_cons (ss_if (st_cmp (op_eqP hu) eqOk (se_ix rfl hu (se_var (pv 0)) (se_var (pv 2)) (by intro _ _; rfl)) (se_str rfl) rfl) (ss_one (ss_expr (se_append (se_var (pv 1)) (se_fz (se_lst sa_nil))))) (ss_one (ss_if (st_cmp (op_neP hu) neOk (se_ix rfl hu (se_var (pv 0)) (se_var (pv 2)) (by intro _ _; rfl)) (se_str rfl) rfl) (ss_one (ss_setOwn rfl (ps_set (i := 1) sc__law_due.nd rfl (Or.inl rfl) (se_op2 addOk (pe_op op_addU (se_sl rfl (se_var (pv 1)) so_none (so_some (se_op1 negOk (pe_un un_neg se_int)))) (se_lst (sa_cons (se_fz (se_op2 addOk (pe_op op_addU (se_ix rfl hu (se_var (pv 1)) (se_op1 negOk (pe_un un_neg se_int)) (by intro _ _; rfl)) (se_lst (sa_cons (se_fz (se_sl rfl (se_var (pv 0)) (so_some (se_var (pv 2))) (so_some (se_max rfl rfl t.n_max (sa_cons (se_var (pv 3)) (sa_cons (se_fz (se_op2 addOk (pe_op op_addU (se_var (pv 2)) se_int))) sa_nil)))))) sa_nil))))) sa_nil))))))) ss_nil)))
    (ss_one (ss_set (ps_set (i := 2) sc__law_due.nd rfl (Or.inl rfl) (se_fz (se_max rfl rfl t.n_max (sa_cons (se_var (pv 3)) (sa_cons (se_fz (se_op2 addOk (pe_op op_addU (se_var (pv 2)) se_int))) sa_nil))))))))))))
    (ss_one (ss_ret (se_fz (se_var (pv 1)))))))))
theorem ok__law_class (t : Tx K mg) : FnOk P w K mg base (L2.CX P w) 3 t.f__law_class t.fd__law_class ["_law_e"] (spF (tb t) 0 1 g__law_class) :=
  fn_ok t.F__law_class sc__law_class rfl rfl fun cdv A outer s H E hr => by
    have hu := hr.units
    have tk : Takes (cxOf (L2.CX P w) P w K mg base N__law_class "_law_class" (defScope s__law_class) t.f__law_class cdv A outer s H E) (fun cls d _ H => E cls d H) := takes_of rfl rfl rfl rfl
    have pa : PassesOwn (model P w) (A.deeper (envOfC "_law_class" (defScope s__law_class) s.heap.objs.size t.f__law_class cdv)) (envOfC "_law_class" (defScope s__law_class) s.heap.objs.size t.f__law_class cdv) (cxOf (L2.CX P w) P w K mg base N__law_class "_law_class" (defScope s__law_class) t.f__law_class cdv A outer s H E).xe := passes_of rfl
    exact (ss_cons (ss_set (ps_set (i := 1) sc__law_class.nd rfl (Or.inl rfl) (se_fz (se_lst (sa_cons (se_str rfl) (sa_cons (se_str rfl) (sa_cons (se_str rfl) (sa_cons (se_str rfl) (sa_cons (se_str rfl) (sa_cons (se_str rfl) (sa_cons (se_str rfl) (sa_cons (se_str rfl) (sa_cons (se_str rfl) (sa_cons (se_str rfl) sa_nil))))))))))))))
    (ss_cons (ss_set (ps_set (i := 2) sc__law_class.nd rfl (Or.inl rfl) (se_fz (se_lst (sa_cons (se_fz (se_isX (v := .ref t.A_BadSign) rfl (xks_BadSign t) (fun _ h => h) rfl t.n_isinstance (se_var (pv 0)) (pe_glob rfl t.c_BadSign rfl))) (sa_cons (se_fz (se_isX (v := .ref t.A_BadText) rfl (xks_BadText t) (fun _ h => h) rfl t.n_isinstance (se_var (pv 0)) (pe_glob rfl t.c_BadText rfl))) (sa_cons (se_fz (se_isX (v := .ref t.A_Twice) rfl (xks_Twice t) (fun _ h => h) rfl t.n_isinstance (se_var (pv 0)) (pe_glob rfl t.c_Twice rfl))) (sa_cons (se_fz (se_isX (v := .ref t.A_Lacking) rfl (xks_Lacking t) (fun _ h => h) rfl t.n_isinstance (se_var (pv 0)) (pe_glob rfl t.c_Lacking rfl))) sa_nil))))))))
    (ss_cons (ss_set (ps_set (i := 2) sc__law_class.nd rfl (Or.inl rfl) (se_fz (se_op2 addOk (pe_op op_addU (se_var (pv 2)) (se_lst (sa_cons (se_fz (se_isX (v := .ref t.A_NoSound) rfl (xks_NoSound t) (fun _ h => h) rfl t.n_isinstance (se_var (pv 0)) (pe_glob rfl t.c_NoSound rfl))) (sa_cons (se_fz (se_isX (v := .ref t.A_NoRule) rfl (xks_NoRule t) (fun _ h => h) rfl t.n_isinstance (se_var (pv 0)) (pe_glob rfl t.c_NoRule rfl))) (sa_cons (se_fz (se_isX (v := .ref t.A_BadWord) rfl (xks_BadWord t) (fun _ h => h) rfl t.n_isinstance (se_var (pv 0)) (pe_glob rfl t.c_BadWord rfl))) (sa_cons (se_fz (se_isX (v := .ref t.A_BadNumber) rfl (xks_BadNumber t) (fun _ h => h) rfl t.n_isinstance (se_var (pv 0)) (pe_glob rfl t.c_BadNumber rfl))) sa_nil))))))))))
    (ss_cons (ss_set (ps_set (i := 2) sc__law_class.nd rfl (Or.inl rfl) (se_fz (se_op2 addOk (pe_op op_addU (se_var (pv 2)) (se_lst (sa_cons (se_fz (se_isX (v := .ref t.A_TooLong) rfl (xks_TooLong t) (fun _ h => h) rfl t.n_isinstance (se_var (pv 0)) (pe_glob rfl t.c_TooLong rfl))) (sa_cons (se_fz (se_isX (v := .ref t.A_TooMany) rfl (xks_TooMany t) (fun _ h => h) rfl t.n_isinstance (se_var (pv 0)) (pe_glob rfl t.c_TooMany rfl))) sa_nil))))))))
    (ss_cons (ss_if (PW.pt (sw_or (st_cmp (op_neP hu) neOk (se_count rfl (se_var (pv 2)) (sa_cons se_bl sa_nil)) se_int rfl) (sw_or1 (st_not (st_val (se_isX (v := .ty "ValueError") rfl (xks_VE t) (fun _ h => h) rfl t.n_isinstance (se_var (pv 0)) (pe_bltn rfl t.n_ValueError rfl rfl))))))) (ss_one (ss_ret (se_str rfl))) ss_nil)
    (ss_one (ss_ret (se_fz (se_ix rfl hu (se_var (pv 1)) (se_index rfl (se_var (pv 2)) (sa_cons se_bl sa_nil)) (by intro _ _; rfl))))))))))
theorem ok__law_said (t : Tx K mg) : FnOk P w K mg base (L2.CX P w) 6 t.f__law_said t.fd__law_said ["_law_thing"] (spF (tb t) 0 1 g__law_said) :=
  fn_ok t.F__law_said sc__law_said rfl rfl fun cdv A outer s H E hr => by
    have hu := hr.units
    have tk : Takes (cxOf (L2.CX P w) P w K mg base N__law_said "_law_said" (defScope s__law_said) t.f__law_said cdv A outer s H E) (fun cls d _ H => E cls d H) := takes_of rfl rfl rfl rfl
    have pa : PassesOwn (model P w) (A.deeper (envOfC "_law_said" (defScope s__law_said) s.heap.objs.size t.f__law_said cdv)) (envOfC "_law_said" (defScope s__law_said) s.heap.objs.size t.f__law_said cdv) (cxOf (L2.CX P w) P w K mg base N__law_said "_law_said" (defScope s__law_said) t.f__law_said cdv A outer s H E).xe := passes_of rfl
    exact (ss_cons (ss_set (ps_set (i := 1) sc__law_said.nd rfl (Or.inl rfl) se_non))
    (ss_cons (ss_set (ps_set (i := 2) sc__law_said.nd rfl (Or.inl rfl) se_non))
    (ss_cons (ss_try (i := 3) (j := 1) rfl rfl sc__law_said.nd rfl rfl (by decide) rfl rfl rfl ⟨rfl, by decide, .inl t.c_SoundError⟩ tk (xks_exm_SoundError t) (fun W pn xe tk pa => (ss_one (ss_set (ps_set (i := 2) sc__law_said.nd rfl (Or.inl rfl) (se_fz (se_callF (ok_text_words t) (hr.mono (by decide)) rfl t.m_text_words t.F_text_words.kp t.b_text_words tk (sa_cons (se_var (pv 0)) sa_nil))))))) (fun a pn => pss_one (ps_set (i := 1) sc__law_said.nd rfl (Or.inl rfl) (pv 3))))
    (ss_cons (ss_if (st_cmp op_isN isOk (se_var (pv 1)) se_non rfl) (ss_one (ss_ret (se_var (pv 2)))) ss_nil)
    (ss_one (ss_ret (se_fz (se_if (PW.pt (sw_and (st_cmp (op_eqP hu) eqOk (se_callF (ok__law_class t) (hr.mono (by decide)) rfl t.m__law_class t.F__law_class.kp t.b__law_class tk (sa_cons (se_var (pv 1)) sa_nil)) (se_str rfl) rfl) (sw_and1 (st_not (st_val (se_isT (by decide) rfl rfl t.n_isinstance (se_xf rfl (xks_spot_ok t) (se_var (pv 1))) (pe_bltn rfl t.n_bool rfl rfl))))))) (se_tup (sa_cons (se_fz (se_xf rfl (xks_spot_ok t) (se_var (pv 1)))) sa_nil)) se_non))))))))
theorem ok__law_by_hand (t : Tx K mg) : FnOk P w K mg base (L2.CX P w) 5 t.f__law_by_hand t.fd__law_by_hand ["_law_state"] (spF (tb t) 1 1 g__law_by_hand) :=
  fn_ok t.F__law_by_hand sc__law_by_hand rfl rfl fun cdv A outer s H E hr => by
    have hu := hr.units
    have tk : Takes (cxOf (L2.CX P w) P w K mg base N__law_by_hand "_law_by_hand" (defScope s__law_by_hand) t.f__law_by_hand cdv A outer s H E) (fun cls d _ H => E cls d H) := takes_of rfl rfl rfl rfl
    have pa : PassesOwn (model P w) (A.deeper (envOfC "_law_by_hand" (defScope s__law_by_hand) s.heap.objs.size t.f__law_by_hand cdv)) (envOfC "_law_by_hand" (defScope s__law_by_hand) s.heap.objs.size t.f__law_by_hand cdv) (cxOf (L2.CX P w) P w K mg base N__law_by_hand "_law_by_hand" (defScope s__law_by_hand) t.f__law_by_hand cdv A outer s H E).xe := passes_of rfl
    exact (ss_cons (ss_par3 (ps_par3 (i := 1) (j := 2) (l := 3) rfl sc__law_by_hand.nd rfl rfl rfl (by decide) (by decide) (by decide) rfl rfl rfl (sa_cons (se_fz (se_callF (ok__law_next t) (hr.mono (by decide)) rfl t.m__law_next t.F__law_next.kp t.b__law_next tk (sa_cons (se_var (pv 0)) (sa_cons se_int sa_nil)))) (sa_cons (se_tup (sa_cons (se_fz (se_callF (ok__law_next t) (hr.mono (by decide)) rfl t.m__law_next t.F__law_next.kp t.b__law_next tk (sa_cons (se_var (pv 0)) (sa_cons se_int sa_nil)))) (sa_cons (se_fz (se_callF (ok__law_next t) (hr.mono (by decide)) rfl t.m__law_next t.F__law_next.kp t.b__law_next tk (sa_cons (se_var (pv 0)) (sa_cons se_int sa_nil)))) sa_nil))) (sa_cons (se_fz (se_callF (ok__law_piece t) (hr.mono (by decide)) rfl t.m__law_piece t.F__law_piece.kp t.b__law_piece tk (sa_cons (se_var (pv 0)) sa_nil))) sa_nil))) rfl))
    (ss_cons (ss_if (PW.pt (sw_or (st_cmp (op_neP hu) neOk (se_mkfld t.x_BadSign t.c_BadSign hr (se_var (pv 1)) rfl) (se_var (pv 1)) rfl) (sw_or1 (st_cmp (op_neP hu) neOk (se_mkfld t.x_BadText t.c_BadText hr (se_var (pv 2)) rfl) (se_var (pv 2)) rfl)))) (ss_one (ss_ret se_bl)) ss_nil)
    (ss_one (ss_ret (se_cmp (op_eqP hu) eqOk (se_lst (sa_cons (se_fz (se_mkfld t.x_Twice t.c_Twice hr (se_var (pv 3)) rfl)) (sa_cons (se_fz (se_mkfld t.x_Lacking t.c_Lacking hr (se_var (pv 3)) rfl)) (sa_cons (se_fz (se_mkfld t.x_NoSound t.c_NoSound hr (se_var (pv 3)) rfl)) (sa_cons (se_fz (se_mkfld t.x_NoRule t.c_NoRule hr (se_var (pv 3)) rfl)) sa_nil))))) (se_op2 mulOk (pe_op op_mulU (se_lst (sa_cons (se_var (pv 3)) sa_nil)) se_int)) rfl)))))
theorem ok__law_names_right (t : Tx K mg) : FnOk P w K mg base (L2.CX P w) 4 t.f__law_names_right t.fd__law_names_right ["_law_word"] (spF (tb t) 0 1 g__law_names_right) :=
  fn_ok t.F__law_names_right sc__law_names_right rfl rfl fun cdv A outer s H E hr => by
    have hu := hr.units
    have tk : Takes (cxOf (L2.CX P w) P w K mg base N__law_names_right "_law_names_right" (defScope s__law_names_right) t.f__law_names_right cdv A outer s H E) (fun cls d _ H => E cls d H) := takes_of rfl rfl rfl rfl
    have pa : PassesOwn (model P w) (A.deeper (envOfC "_law_names_right" (defScope s__law_names_right) s.heap.objs.size t.f__law_names_right cdv)) (envOfC "_law_names_right" (defScope s__law_names_right) s.heap.objs.size t.f__law_names_right cdv) (cxOf (L2.CX P w) P w K mg base N__law_names_right "_law_names_right" (defScope s__law_names_right) t.f__law_names_right cdv A outer s H E).xe := passes_of rfl
    exact (ss_cons (ss_set (ps_set (i := 1) sc__law_names_right.nd rfl (Or.inl rfl) (se_cmp (op_eqP hu) eqOk (se_lc (own := [("_law_mark", 4)]) (cgN_ok (by decide)) rfl sc__law_names_right.nd (si_str (se_var (pv 0))) (blkOk_by (N := N__law_names_right) (sc := defScope s__law_names_right) (by decide +kernel)) (fun _ _ _ _ _ => (pg_name (i := 4) sc__law_names_right.nd rfl (Or.inl rfl))) (fun _ _ _ _ _ => (sts_one (st_cmp (op_notInU hu) notInOk (se_var (pv 4)) (se_str rfl) rfl))) (fun _ _ _ _ _ => (se_var (pv 4)))) (se_lst sa_nil) rfl)))
    (ss_cons (ss_set (ps_set (i := 2) sc__law_names_right.nd rfl (Or.inl rfl) (se_fz (se_lst (sa_cons (se_fz (se_and (se_var (pv 1)) (se_and (se_chain op_lt ordOk op_lt ordOk se_int (se_len rfl rfl t.n_len (sa_cons (se_var (pv 0)) sa_nil)) se_int rfl) (se_one (se_cmp (op_notInU hu) notInOk (se_var (pv 0)) (se_callF0 (ok__law_told_words t) (hr.mono (by decide)) rfl t.m__law_told_words t.F__law_told_words.kp t.b__law_told_words tk) rfl))))) (sa_cons (se_fz (se_and (se_var (pv 1)) (se_one (se_cmp (op_eqP hu) eqOk (se_len rfl rfl t.n_len (sa_cons (se_var (pv 0)) sa_nil)) se_int rfl)))) sa_nil))))))
    (ss_cons (ss_set (ps_set (i := 3) sc__law_names_right.nd rfl (Or.inl rfl) (se_fz (se_lst (sa_cons (se_fz (se_callF (ok_is_name t) (hr.mono (by decide)) rfl t.m_is_name t.F_is_name.kp t.b_is_name tk (sa_cons (se_var (pv 0)) sa_nil))) (sa_cons (se_fz (se_callF (ok_is_sound t) (hr.mono (by decide)) rfl t.m_is_sound t.F_is_sound.kp t.b_is_sound tk (sa_cons (se_var (pv 0)) sa_nil))) sa_nil))))))
    (ss_one (ss_ret (se_fz (se_and (se_cmp (op_eqP hu) eqOk (se_var (pv 3)) (se_var (pv 2)) rfl) (se_one (se_all rfl rfl rfl t.n_all (sa_cons (se_lc (own := [("_law_one", 5)]) (cgN_ok (by decide)) rfl sc__law_names_right.nd (si_list rfl (se_var (pv 3))) (blkOk_by (N := N__law_names_right) (sc := defScope s__law_names_right) (by decide +kernel)) (fun _ _ _ _ _ => (pg_name (i := 5) sc__law_names_right.nd rfl (Or.inl rfl))) (fun _ _ _ _ _ => sts_nil) (fun _ _ _ _ _ => (se_fz (se_isT (by decide) rfl rfl t.n_isinstance (se_var (pv 5)) (pe_bltn rfl t.n_bool rfl rfl))))) sa_nil))))))))))
theorem ok_law (t : Tx K mg) : FnOk P w K mg base (L2.CX P w) 7 t.f_law t.fd_law ["_law_script"] (spF (tb t) 0 1 g_law) :=
  fn_ok t.F_law sc_law rfl rfl fun cdv A outer s H E hr => by
    have hu := hr.units
    have tk : Takes (cxOf (L2.CX P w) P w K mg base N_law "law" (defScope s_law) t.f_law cdv A outer s H E) (fun cls d _ H => E cls d H) := takes_of rfl rfl rfl rfl
    have pa : PassesOwn (model P w) (A.deeper (envOfC "law" (defScope s_law) s.heap.objs.size t.f_law cdv)) (envOfC "law" (defScope s_law) s.heap.objs.size t.f_law cdv) (cxOf (L2.CX P w) P w K mg base N_law "law" (defScope s_law) t.f_law cdv A outer s H E).xe := passes_of rfl
    exact (ss_cons (ss_setOwn rfl (ps_set (i := 1) sc_law.nd rfl (Or.inl rfl) (se_disp (pps_cons pe_str (se_var (pv 0)) (pps_cons pe_str se_int pps_nil)) (by decide) rfl rfl rfl (by nofun) (by decide))))
    (ss_cons (ss_set (ps_set (i := 2) sc_law.nd rfl (Or.inl rfl) (se_fz (se_callF (ok__law_text t) (hr.mono (by decide)) rfl t.m__law_text t.F__law_text.kp t.b__law_text tk (sa_cons (se_var (pv 1)) sa_nil)))))
    (ss_cons (ss_set (ps_set (i := 3) sc_law.nd rfl (Or.inl rfl) (se_fz (se_callF (ok__law_due t) (hr.mono (by decide)) rfl t.m__law_due t.F__law_due.kp t.b__law_due tk (sa_cons (se_var (pv 2)) sa_nil)))))
    (ss_cons (ss_for tgN_ok pa rfl (si_rg1 rfl t.n_range (sa_cons se_int sa_nil)) (pg_name (i := 4) sc_law.nd rfl (Or.inl rfl)) (ss_ask (by decide) (show 5 < N_law.length by decide) (show 6 < N_law.length by decide) (ps_set (i := 5) sc_law.nd rfl (Or.inl rfl) (pe_callS (ok__law_said t) (hr.mono (by decide)) rfl t.m__law_said t.F__law_said.kp t.b__law_said (fun σ => passAt tk σ) (pa_cons (pv 2) pa_nil))) (ps_if (st_val (se_isT (by decide) rfl rfl t.n_isinstance (se_var (pv 3)) (pe_bltn rfl t.n_int rfl rfl))) (pss_one (ps_if (st_cmp (op_neP hu) neOk (se_var (pv 5)) (se_tup (sa_cons (se_var (pv 3)) sa_nil)) rfl) (pss_one (ps_ret pe_bl)) pss_nil)) (pss_one (ps_if (PW.pt (sw_or (st_not (st_val (se_isT (by decide) rfl rfl t.n_isinstance (se_var (pv 5)) (pe_bltn rfl t.n_list rfl rfl)))) (sw_or (st_cmp (op_neP hu) neOk (se_var (pv 5)) (se_var (pv 3)) rfl) (sw_or1 (st_not (st_val (se_all rfl rfl rfl t.n_all (sa_cons (se_lc (own := [("_law_row", 6)]) (cgN_ok (by decide)) rfl sc_law.nd (si_list rfl (se_var (pv 5))) (blkOk_by (N := N_law) (sc := defScope s_law) (by decide +kernel)) (fun _ _ _ _ _ => (pg_name (i := 6) sc_law.nd rfl (Or.inl rfl))) (fun _ _ _ _ _ => sts_nil) (fun _ _ _ _ _ => (se_fz (se_isT (by decide) rfl rfl t.n_isinstance (se_var (pv 6)) (pe_bltn rfl t.n_list rfl rfl))))) sa_nil)))))))) (pss_one (ps_ret pe_bl)) (pss_cons (ps_for pa rfl (pi_list (pv 5)) (pg_name (i := 6) sc_law.nd rfl (Or.inl rfl)) (pss_one (ps_expr (pe_bm PySem.F.plainAttrs_list PySem.F.slot_list_append (by rfl) mt_append (pv 6) (pa_cons pe_str pa_nil))))) (pss_one (ps_expr (pe_bm PySem.F.plainAttrs_list PySem.F.slot_list_append (by rfl) mt_append (pv 5) (pa_cons pe_str pa_nil))))))))))
    (ss_cons (ss_set (ps_set (i := 7) sc_law.nd rfl (Or.inl rfl) (se_fz (se_ix rfl hu (se_lst (sa_cons se_non (sa_cons se_int (sa_cons se_bl (sa_cons (se_fz (se_lst (sa_cons (se_str rfl) sa_nil))) (sa_cons (se_tup (sa_cons (se_str rfl) sa_nil)) (sa_cons (se_fz se_dic0) (sa_cons se_int (sa_cons (se_fz (se_lst (sa_cons (se_var (pv 2)) sa_nil))) sa_nil))))))))) (se_callF (ok__law_next t) (hr.mono (by decide)) rfl t.m__law_next t.F__law_next.kp t.b__law_next tk (sa_cons (se_var (pv 1)) (sa_cons se_int sa_nil))) (by intro _ _; rfl)))))
    (ss_cons (ss_if (PW.pt (sw_or (st_cmp (op_neP hu) neOk (se_callF (ok__law_said t) (hr.mono (by decide)) rfl t.m__law_said t.F__law_said.kp t.b__law_said tk (sa_cons (se_var (pv 7)) sa_nil)) (se_tup (sa_cons se_int sa_nil)) rfl) (sw_or1 (st_not (st_val (se_callF (ok__law_by_hand t) (hr.mono (by decide)) rfl t.m__law_by_hand t.F__law_by_hand.kp t.b__law_by_hand tk (sa_cons (se_var (pv 1)) sa_nil))))))) (ss_one (ss_ret se_bl)) ss_nil)
    (ss_cons (ss_set (ps_set (i := 8) sc_law.nd rfl (Or.inl rfl) (se_fz (se_lst (sa_cons (se_fz (se_callF (ok__law_piece t) (hr.mono (by decide)) rfl t.m__law_piece t.F__law_piece.kp t.b__law_piece tk (sa_cons (se_var (pv 1)) sa_nil))) (sa_cons (se_fz (se_callF (ok__law_odd t) (hr.mono (by decide)) rfl t.m__law_odd t.F__law_odd.kp t.b__law_odd tk (sa_cons (se_var (pv 1)) sa_nil))) (sa_cons (se_fz (se_op2 addOk (pe_op op_addU (se_callF (ok__law_piece t) (hr.mono (by decide)) rfl t.m__law_piece t.F__law_piece.kp t.b__law_piece tk (sa_cons (se_var (pv 1)) sa_nil)) (se_callF (ok__law_piece t) (hr.mono (by decide)) rfl t.m__law_piece t.F__law_piece.kp t.b__law_piece tk (sa_cons (se_var (pv 1)) sa_nil))))) (sa_cons (se_str rfl) (sa_cons (se_fz (se_op2 addOk (pe_op op_addU (se_callF (ok__law_piece t) (hr.mono (by decide)) rfl t.m__law_piece t.F__law_piece.kp t.b__law_piece tk (sa_cons (se_var (pv 1)) sa_nil)) (se_str rfl)))) sa_nil)))))))))
    (ss_one (ss_ret (se_cmp (op_eqP hu) eqOk (se_lc (own := [("_law_word", 9)]) (cgN_ok (by decide)) rfl sc_law.nd (si_list rfl (se_op2 addOk (pe_op op_addU (se_op2 addOk (pe_op op_addU (se_var (pv 8)) (se_callF0 (ok__law_told_words t) (hr.mono (by decide)) rfl t.m__law_told_words t.F__law_told_words.kp t.b__law_told_words tk))) (se_lst (sa_cons (se_str rfl) (sa_cons (se_fz (se_op2 mulOk (pe_op op_mulU (se_str rfl) se_int))) (sa_cons (se_fz (se_op2 mulOk (pe_op op_mulU (se_str rfl) se_int))) sa_nil))))))) (blkOk_by (N := N_law) (sc := defScope s_law) (by decide +kernel)) (fun _ _ _ _ _ => (pg_name (i := 9) sc_law.nd rfl (Or.inl rfl))) (fun _ _ _ _ _ => (sts_one (st_not (st_val (se_callF (ok__law_names_right t) (hr.mono (by decide)) rfl t.m__law_names_right t.F__law_names_right.kp t.b__law_names_right takes0 (sa_cons (se_var (pv 9)) sa_nil)))))) (fun _ _ _ _ _ => (se_var (pv 9)))) (se_lst sa_nil) rfl))))))))))
end
end K01
end Sx

set_option Elab.async false
set_option linter.all false
set_option maxRecDepth 100000
set_option maxHeartbeats 4000000
namespace Sx
namespace K01
open PySem L2 PySem.Spec PyProof.Rows
open PySem.W (Frag findIn nsIn typeIn subIn keepIn)
theorem rep_str {T : Tab} {F : Hp} {x : Str} {t : Sx.Tx} (h : x = stx t) : Rep T F (.str t) (.str x) := congrArg V.str h
def spLaw (K : Frag) : Sp := fun vs H Q _ => ∃ (a : Addr) (ns : List Int), vs = [.ref a] ∧ SqL K H a (ns.map V.int) ∧ ns.length ≤ 63 ∧ ∀ H', Q (.bl true) H'
theorem law_sp {K : Frag} {mg : Str → Option Value} (t : Tx K mg) (vs : List V) (H : Hp) (Q : VK) (E : XK) (h : spLaw K vs H Q E) : spF (tb t) 0 1 g_law vs H Q E := by
  obtain ⟨a, ns, rfl, hs, hl, k⟩ := h
  obtain ⟨o, e⟩ := law_true ns hl
  refine ⟨rfl, H, fun _ => none, [], [.fz (.scr ns)], [], rfl, ⟨fun p u e => e, fun p u e => (nomatch e), fun p hp => rfl, fun k n e => (nomatch (show (none : Option (Option Node)) = some (some n) from e)), fun k k' n n' a e => (nomatch (show (none : Option (Option Node)) = some (some n) from e)), fun i w e => ?_, rfl, rfl⟩, ?_⟩
  · cases i with
    | zero => cases e; exact ⟨_, rfl, a, rfl, hs⟩
    | succ i => exact nomatch (show (none : Option (Option W)) = some (some w) from e)
  · rw [e]
    intro v H' F' o' l' r
    cases (show v = .bl true from r)
    exact k H'
theorem all_mk {l : PySem.W.OpenLaw} {w : World} {K : Frag} {h : Heap} {mg : Str → Option Value} {fa : Addr} (X : K.In h) (G : h.Ns mainGlobals mg) (hfa : mg "law" = some (.ref fa))
    {f0 : Addr} {od0 an0 : Option Addr} {sl0 : Array (Option Value)} {oc0 kV0 dc0 pm0 cd0 ct0 : Value}
    {f1 : Addr} {od1 an1 : Option Addr} {sl1 : Array (Option Value)} {oc1 kV1 dc1 pm1 cd1 ct1 : Value}
    {f2 : Addr} {od2 an2 : Option Addr} {sl2 : Array (Option Value)} {oc2 kV2 dc2 pm2 cd2 ct2 : Value}
    {f3 : Addr} {od3 an3 : Option Addr} {sl3 : Array (Option Value)} {oc3 kV3 dc3 pm3 cd3 ct3 : Value}
    {f4 : Addr} {od4 an4 : Option Addr} {sl4 : Array (Option Value)} {oc4 kV4 dc4 pm4 cd4 ct4 : Value}
    {f5 : Addr} {od5 an5 : Option Addr} {sl5 : Array (Option Value)} {oc5 kV5 dc5 pm5 cd5 ct5 : Value}
    {f6 : Addr} {od6 an6 : Option Addr} {sl6 : Array (Option Value)} {oc6 kV6 dc6 pm6 cd6 ct6 : Value}
    {f7 : Addr} {od7 an7 : Option Addr} {sl7 : Array (Option Value)} {oc7 kV7 dc7 pm7 cd7 ct7 : Value}
    {f8 : Addr} {od8 an8 : Option Addr} {sl8 : Array (Option Value)} {oc8 kV8 dc8 pm8 cd8 ct8 : Value}
    {f9 : Addr} {od9 an9 : Option Addr} {sl9 : Array (Option Value)} {oc9 kV9 dc9 pm9 cd9 ct9 : Value}
    {f10 : Addr} {od10 an10 : Option Addr} {sl10 : Array (Option Value)} {oc10 kV10 dc10 pm10 cd10 ct10 : Value}
    {f11 : Addr} {od11 an11 : Option Addr} {sl11 : Array (Option Value)} {oc11 kV11 dc11 pm11 cd11 ct11 : Value}
    {f12 : Addr} {od12 an12 : Option Addr} {sl12 : Array (Option Value)} {oc12 kV12 dc12 pm12 cd12 ct12 : Value}
    {f13 : Addr} {od13 an13 : Option Addr} {sl13 : Array (Option Value)} {oc13 kV13 dc13 pm13 cd13 ct13 : Value}
    {f14 : Addr} {od14 an14 : Option Addr} {sl14 : Array (Option Value)} {oc14 kV14 dc14 pm14 cd14 ct14 : Value}
    {fl : Addr} {odl anl : Option Addr} {sll : Array (Option Value)} {ocl kVl dcl pml cdl ctl : Value}
    {SE : Addr}
    {CBadSign : Addr}
    {CBadText : Addr}
    {CTwice : Addr}
    {CLacking : Addr}
    {CNoSound : Addr}
    {CNoRule : Addr}
    {CBadWord : Addr}
    {CBadNumber : Addr}
    {CTooLong : Addr}
    {CTooMany : Addr}
    {nmBadSign qBadSign : Str} {NBadSign IBadSign : Addr} {bsBadSign : List Value} {snBadSign : List Str} {subBadSign : List Value} {abBadSign : Bool} {colBadSign : Option Bool} {ddBadSign : Option Addr} {m0BadSign m1BadSign m2BadSign m3BadSign m5BadSign : Option Value} {odBadSign anBadSign : Option Addr} {slBadSign : Array (Option Value)} {ocBadSign dcBadSign pmBadSign cdBadSign ctBadSign : Value}
    {nmBadText qBadText : Str} {NBadText IBadText : Addr} {bsBadText : List Value} {snBadText : List Str} {subBadText : List Value} {abBadText : Bool} {colBadText : Option Bool} {ddBadText : Option Addr} {m0BadText m1BadText m2BadText m3BadText m5BadText : Option Value} {odBadText anBadText : Option Addr} {slBadText : Array (Option Value)} {ocBadText dcBadText pmBadText cdBadText ctBadText : Value}
    {nmTwice qTwice : Str} {NTwice ITwice : Addr} {bsTwice : List Value} {snTwice : List Str} {subTwice : List Value} {abTwice : Bool} {colTwice : Option Bool} {ddTwice : Option Addr} {m0Twice m1Twice m2Twice m3Twice m5Twice : Option Value} {odTwice anTwice : Option Addr} {slTwice : Array (Option Value)} {ocTwice dcTwice pmTwice cdTwice ctTwice : Value}
    {nmLacking qLacking : Str} {NLacking ILacking : Addr} {bsLacking : List Value} {snLacking : List Str} {subLacking : List Value} {abLacking : Bool} {colLacking : Option Bool} {ddLacking : Option Addr} {m0Lacking m1Lacking m2Lacking m3Lacking m5Lacking : Option Value} {odLacking anLacking : Option Addr} {slLacking : Array (Option Value)} {ocLacking dcLacking pmLacking cdLacking ctLacking : Value}
    {nmNoSound qNoSound : Str} {NNoSound INoSound : Addr} {bsNoSound : List Value} {snNoSound : List Str} {subNoSound : List Value} {abNoSound : Bool} {colNoSound : Option Bool} {ddNoSound : Option Addr} {m0NoSound m1NoSound m2NoSound m3NoSound m5NoSound : Option Value} {odNoSound anNoSound : Option Addr} {slNoSound : Array (Option Value)} {ocNoSound dcNoSound pmNoSound cdNoSound ctNoSound : Value}
    {nmNoRule qNoRule : Str} {NNoRule INoRule : Addr} {bsNoRule : List Value} {snNoRule : List Str} {subNoRule : List Value} {abNoRule : Bool} {colNoRule : Option Bool} {ddNoRule : Option Addr} {m0NoRule m1NoRule m2NoRule m3NoRule m5NoRule : Option Value} {odNoRule anNoRule : Option Addr} {slNoRule : Array (Option Value)} {ocNoRule dcNoRule pmNoRule cdNoRule ctNoRule : Value}
    {tTOLD0 tTOLD1 tTOLD2 tTOLD3 tTOLD4 tTOLD5 tTOLD6 tTOLD7 : Tok} {TTOLD : Addr} {dTOLD : Option Addr} {nTOLD : Nat} {slTOLD : Array (Option Value)}
    {tLETTERS : Tok}
    {tMARKS : Tok}
    {tMOST_SIGNS : Tok}
    {tMOST_LETTERS : Tok}
    (a0 : nsIn K mainGlobals "word_end" = some (some (.ref f0)))
    (l0 : K.lookup f0 = some ⟨oc0, od0, .func (PySem.W.fnOf "word_end" "word_end" (defArgs s_word_end) (defBody s_word_end) (defScope s_word_end) .none kV0 dc0 pm0 an0 cd0 ct0), sl0⟩)
    (c0 : PySem.W.codeIn K cd0 "word_end" = true)
    (k0 : keepIn K (.ref f0) = true)
    (a1 : nsIn K mainGlobals "row_words" = some (some (.ref f1)))
    (l1 : K.lookup f1 = some ⟨oc1, od1, .func (PySem.W.fnOf "row_words" "row_words" (defArgs s_row_words) (defBody s_row_words) (defScope s_row_words) .none kV1 dc1 pm1 an1 cd1 ct1), sl1⟩)
    (c1 : PySem.W.codeIn K cd1 "row_words" = true)
    (k1 : keepIn K (.ref f1) = true)
    (a2 : nsIn K mainGlobals "text_words" = some (some (.ref f2)))
    (l2 : K.lookup f2 = some ⟨oc2, od2, .func (PySem.W.fnOf "text_words" "text_words" (defArgs s_text_words) (defBody s_text_words) (defScope s_text_words) .none kV2 dc2 pm2 an2 cd2 ct2), sl2⟩)
    (c2 : PySem.W.codeIn K cd2 "text_words" = true)
    (k2 : keepIn K (.ref f2) = true)
    (a3 : nsIn K mainGlobals "is_sound" = some (some (.ref f3)))
    (l3 : K.lookup f3 = some ⟨oc3, od3, .func (PySem.W.fnOf "is_sound" "is_sound" (defArgs s_is_sound) (defBody s_is_sound) (defScope s_is_sound) .none kV3 dc3 pm3 an3 cd3 ct3), sl3⟩)
    (c3 : PySem.W.codeIn K cd3 "is_sound" = true)
    (k3 : keepIn K (.ref f3) = true)
    (a4 : nsIn K mainGlobals "is_name" = some (some (.ref f4)))
    (l4 : K.lookup f4 = some ⟨oc4, od4, .func (PySem.W.fnOf "is_name" "is_name" (defArgs s_is_name) (defBody s_is_name) (defScope s_is_name) .none kV4 dc4 pm4 an4 cd4 ct4), sl4⟩)
    (c4 : PySem.W.codeIn K cd4 "is_name" = true)
    (k4 : keepIn K (.ref f4) = true)
    (a5 : nsIn K mainGlobals "_law_next" = some (some (.ref f5)))
    (l5 : K.lookup f5 = some ⟨oc5, od5, .func (PySem.W.fnOf "_law_next" "_law_next" (defArgs s__law_next) (defBody s__law_next) (defScope s__law_next) .none kV5 dc5 pm5 an5 cd5 ct5), sl5⟩)
    (c5 : PySem.W.codeIn K cd5 "_law_next" = true)
    (k5 : keepIn K (.ref f5) = true)
    (a6 : nsIn K mainGlobals "_law_told_words" = some (some (.ref f6)))
    (l6 : K.lookup f6 = some ⟨oc6, od6, .func (PySem.W.fnOf "_law_told_words" "_law_told_words" (defArgs s__law_told_words) (defBody s__law_told_words) (defScope s__law_told_words) .none kV6 dc6 pm6 an6 cd6 ct6), sl6⟩)
    (c6 : PySem.W.codeIn K cd6 "_law_told_words" = true)
    (k6 : keepIn K (.ref f6) = true)
    (a7 : nsIn K mainGlobals "_law_piece" = some (some (.ref f7)))
    (l7 : K.lookup f7 = some ⟨oc7, od7, .func (PySem.W.fnOf "_law_piece" "_law_piece" (defArgs s__law_piece) (defBody s__law_piece) (defScope s__law_piece) .none kV7 dc7 pm7 an7 cd7 ct7), sl7⟩)
    (c7 : PySem.W.codeIn K cd7 "_law_piece" = true)
    (k7 : keepIn K (.ref f7) = true)
    (a8 : nsIn K mainGlobals "_law_odd" = some (some (.ref f8)))
    (l8 : K.lookup f8 = some ⟨oc8, od8, .func (PySem.W.fnOf "_law_odd" "_law_odd" (defArgs s__law_odd) (defBody s__law_odd) (defScope s__law_odd) .none kV8 dc8 pm8 an8 cd8 ct8), sl8⟩)
    (c8 : PySem.W.codeIn K cd8 "_law_odd" = true)
    (k8 : keepIn K (.ref f8) = true)
    (a9 : nsIn K mainGlobals "_law_text" = some (some (.ref f9)))
    (l9 : K.lookup f9 = some ⟨oc9, od9, .func (PySem.W.fnOf "_law_text" "_law_text" (defArgs s__law_text) (defBody s__law_text) (defScope s__law_text) .none kV9 dc9 pm9 an9 cd9 ct9), sl9⟩)
    (c9 : PySem.W.codeIn K cd9 "_law_text" = true)
    (k9 : keepIn K (.ref f9) = true)
    (a10 : nsIn K mainGlobals "_law_due" = some (some (.ref f10)))
    (l10 : K.lookup f10 = some ⟨oc10, od10, .func (PySem.W.fnOf "_law_due" "_law_due" (defArgs s__law_due) (defBody s__law_due) (defScope s__law_due) .none kV10 dc10 pm10 an10 cd10 ct10), sl10⟩)
    (c10 : PySem.W.codeIn K cd10 "_law_due" = true)
    (k10 : keepIn K (.ref f10) = true)
    (a11 : nsIn K mainGlobals "_law_class" = some (some (.ref f11)))
    (l11 : K.lookup f11 = some ⟨oc11, od11, .func (PySem.W.fnOf "_law_class" "_law_class" (defArgs s__law_class) (defBody s__law_class) (defScope s__law_class) .none kV11 dc11 pm11 an11 cd11 ct11), sl11⟩)
    (c11 : PySem.W.codeIn K cd11 "_law_class" = true)
    (k11 : keepIn K (.ref f11) = true)
    (a12 : nsIn K mainGlobals "_law_said" = some (some (.ref f12)))
    (l12 : K.lookup f12 = some ⟨oc12, od12, .func (PySem.W.fnOf "_law_said" "_law_said" (defArgs s__law_said) (defBody s__law_said) (defScope s__law_said) .none kV12 dc12 pm12 an12 cd12 ct12), sl12⟩)
    (c12 : PySem.W.codeIn K cd12 "_law_said" = true)
    (k12 : keepIn K (.ref f12) = true)
    (a13 : nsIn K mainGlobals "_law_by_hand" = some (some (.ref f13)))
    (l13 : K.lookup f13 = some ⟨oc13, od13, .func (PySem.W.fnOf "_law_by_hand" "_law_by_hand" (defArgs s__law_by_hand) (defBody s__law_by_hand) (defScope s__law_by_hand) .none kV13 dc13 pm13 an13 cd13 ct13), sl13⟩)
    (c13 : PySem.W.codeIn K cd13 "_law_by_hand" = true)
    (k13 : keepIn K (.ref f13) = true)
    (a14 : nsIn K mainGlobals "_law_names_right" = some (some (.ref f14)))
    (l14 : K.lookup f14 = some ⟨oc14, od14, .func (PySem.W.fnOf "_law_names_right" "_law_names_right" (defArgs s__law_names_right) (defBody s__law_names_right) (defScope s__law_names_right) .none kV14 dc14 pm14 an14 cd14 ct14), sl14⟩)
    (c14 : PySem.W.codeIn K cd14 "_law_names_right" = true)
    (k14 : keepIn K (.ref f14) = true)
    (al : nsIn K mainGlobals "law" = some (some (.ref fl)))
    (ll : K.lookup fl = some ⟨ocl, odl, .func (PySem.W.fnOf "law" "law" (defArgs s_law) (defBody s_law) (defScope s_law) .none kVl dcl pml anl cdl ctl), sll⟩)
    (cl : PySem.W.codeIn K cdl "law" = true)
    (kl : keepIn K (.ref fl) = true)
    (aS : nsIn K mainGlobals "SoundError" = some (some (.ref SE)))
    (sS1 : subIn K (.ref SE) (.type "BaseException") = some true)
    (sS2 : PySem.W.hasDictIn K SE = true)
    (sS3 : typeIn K (.ref SE) = some (.type "type"))
    (gS1 : PySem.W.specialIn K (.builtin "object.__class__") "__get__" = some (some (.builtin "getset_descriptor.__get__")))
    (gS2 : PySem.W.takesIn K (.builtin "object.__class__") = some true)
    (aCBadSign : nsIn K mainGlobals "BadSign" = some (some (.ref CBadSign)))
    (aCBadText : nsIn K mainGlobals "BadText" = some (some (.ref CBadText)))
    (aCTwice : nsIn K mainGlobals "Twice" = some (some (.ref CTwice)))
    (aCLacking : nsIn K mainGlobals "Lacking" = some (some (.ref CLacking)))
    (aCNoSound : nsIn K mainGlobals "NoSound" = some (some (.ref CNoSound)))
    (aCNoRule : nsIn K mainGlobals "NoRule" = some (some (.ref CNoRule)))
    (aCBadWord : nsIn K mainGlobals "BadWord" = some (some (.ref CBadWord)))
    (aCBadNumber : nsIn K mainGlobals "BadNumber" = some (some (.ref CBadNumber)))
    (aCTooLong : nsIn K mainGlobals "TooLong" = some (some (.ref CTooLong)))
    (aCTooMany : nsIn K mainGlobals "TooMany" = some (some (.ref CTooMany)))
    (e1BadSign : findIn K (.ref CBadSign) "__getattribute__" = some (some (.builtin "BaseException.__getattribute__")))
    (e2BadSign : findIn K (.ref CBadSign) "__getattr__" = some none)
    (e3BadSign : subIn K (.ref CBadSign) (.type "BaseException") = some true)
    (e4BadSign : typeIn K (.ref CBadSign) = some (.type "type"))
    (e5BadSign : PySem.W.hasDictIn K CBadSign = true)
    (e6BadSign : PySem.W.isClsIn K CBadSign = true)
    (e7BadSign : findIn K (.ref CBadSign) "__class__" = some (some (.builtin "object.__class__")))
    (e8BadSign : PySem.W.mroIn K CBadSign (.type "object") = some true)
    (xBadSign : K.lookup CBadSign = some (excClassObj nmBadSign qBadSign CBadSign NBadSign bsBadSign [.ref SE, .type "ValueError", .type "Exception", .type "BaseException", .type "object"] true snBadSign subBadSign abBadSign colBadSign ddBadSign m0BadSign m1BadSign m2BadSign m3BadSign m5BadSign "ValueError.__new__"))
    (sBadSign : findIn K (.ref CBadSign) "__setattr__" = some (some (.builtin "object.__setattr__")))
    (nBadSign : findIn K (.ref CBadSign) "spot" = some none)
    (iBadSign : findIn K (.ref CBadSign) "__init__" = some (some (.ref IBadSign)))
    (tBadSign : typeIn K (.ref IBadSign) = some (.type "function"))
    (lBadSign : K.lookup IBadSign = some ⟨ocBadSign, odBadSign, .func (PySem.W.fnOf "__init__" "BadSign.__init__" (SxE.iA "spot" ⟨11, 17, 11, 21⟩ ⟨11, 23, 11, 27⟩) (SxE.iB "spot" ⟨12, 8, 12, 12⟩ ⟨12, 8, 12, 17⟩ ⟨12, 20, 12, 24⟩ ⟨12, 8, 12, 24⟩) (SxE.iS "spot") .none .none dcBadSign pmBadSign anBadSign cdBadSign ctBadSign), slBadSign⟩)
    (dBadSign : PySem.W.codeIn K cdBadSign "BadSign.__init__" = true)
    (kBadSign : keepIn K (.ref CBadSign) = true)
    (uBadSign : subIn K (.ref CBadSign) (.ref SE) = some true)
    (vBadSign : PySem.W.kitOne K (.ref CBadSign) (.type "ValueError") = some true)
    (qBadSignBadSign : PySem.W.kitOne K (.ref CBadSign) (.ref CBadSign) = some true)
    (qBadSignBadText : PySem.W.kitOne K (.ref CBadSign) (.ref CBadText) = some false)
    (qBadSignTwice : PySem.W.kitOne K (.ref CBadSign) (.ref CTwice) = some false)
    (qBadSignLacking : PySem.W.kitOne K (.ref CBadSign) (.ref CLacking) = some false)
    (qBadSignNoSound : PySem.W.kitOne K (.ref CBadSign) (.ref CNoSound) = some false)
    (qBadSignNoRule : PySem.W.kitOne K (.ref CBadSign) (.ref CNoRule) = some false)
    (qBadSignBadWord : PySem.W.kitOne K (.ref CBadSign) (.ref CBadWord) = some false)
    (qBadSignBadNumber : PySem.W.kitOne K (.ref CBadSign) (.ref CBadNumber) = some false)
    (qBadSignTooLong : PySem.W.kitOne K (.ref CBadSign) (.ref CTooLong) = some false)
    (qBadSignTooMany : PySem.W.kitOne K (.ref CBadSign) (.ref CTooMany) = some false)
    (e1BadText : findIn K (.ref CBadText) "__getattribute__" = some (some (.builtin "BaseException.__getattribute__")))
    (e2BadText : findIn K (.ref CBadText) "__getattr__" = some none)
    (e3BadText : subIn K (.ref CBadText) (.type "BaseException") = some true)
    (e4BadText : typeIn K (.ref CBadText) = some (.type "type"))
    (e5BadText : PySem.W.hasDictIn K CBadText = true)
    (e6BadText : PySem.W.isClsIn K CBadText = true)
    (e7BadText : findIn K (.ref CBadText) "__class__" = some (some (.builtin "object.__class__")))
    (e8BadText : PySem.W.mroIn K CBadText (.type "object") = some true)
    (xBadText : K.lookup CBadText = some (excClassObj nmBadText qBadText CBadText NBadText bsBadText [.ref SE, .type "ValueError", .type "Exception", .type "BaseException", .type "object"] true snBadText subBadText abBadText colBadText ddBadText m0BadText m1BadText m2BadText m3BadText m5BadText "ValueError.__new__"))
    (sBadText : findIn K (.ref CBadText) "__setattr__" = some (some (.builtin "object.__setattr__")))
    (nBadText : findIn K (.ref CBadText) "spot" = some none)
    (iBadText : findIn K (.ref CBadText) "__init__" = some (some (.ref IBadText)))
    (tBadText : typeIn K (.ref IBadText) = some (.type "function"))
    (lBadText : K.lookup IBadText = some ⟨ocBadText, odBadText, .func (PySem.W.fnOf "__init__" "BadText.__init__" (SxE.iA "spot" ⟨18, 17, 18, 21⟩ ⟨18, 23, 18, 27⟩) (SxE.iB "spot" ⟨19, 8, 19, 12⟩ ⟨19, 8, 19, 17⟩ ⟨19, 20, 19, 24⟩ ⟨19, 8, 19, 24⟩) (SxE.iS "spot") .none .none dcBadText pmBadText anBadText cdBadText ctBadText), slBadText⟩)
    (dBadText : PySem.W.codeIn K cdBadText "BadText.__init__" = true)
    (kBadText : keepIn K (.ref CBadText) = true)
    (e1Twice : findIn K (.ref CTwice) "__getattribute__" = some (some (.builtin "BaseException.__getattribute__")))
    (e2Twice : findIn K (.ref CTwice) "__getattr__" = some none)
    (e3Twice : subIn K (.ref CTwice) (.type "BaseException") = some true)
    (e4Twice : typeIn K (.ref CTwice) = some (.type "type"))
    (e5Twice : PySem.W.hasDictIn K CTwice = true)
    (e6Twice : PySem.W.isClsIn K CTwice = true)
    (e7Twice : findIn K (.ref CTwice) "__class__" = some (some (.builtin "object.__class__")))
    (e8Twice : PySem.W.mroIn K CTwice (.type "object") = some true)
    (xTwice : K.lookup CTwice = some (excClassObj nmTwice qTwice CTwice NTwice bsTwice [.ref SE, .type "ValueError", .type "Exception", .type "BaseException", .type "object"] true snTwice subTwice abTwice colTwice ddTwice m0Twice m1Twice m2Twice m3Twice m5Twice "ValueError.__new__"))
    (sTwice : findIn K (.ref CTwice) "__setattr__" = some (some (.builtin "object.__setattr__")))
    (nTwice : findIn K (.ref CTwice) "word" = some none)
    (iTwice : findIn K (.ref CTwice) "__init__" = some (some (.ref ITwice)))
    (tTwice : typeIn K (.ref ITwice) = some (.type "function"))
    (lTwice : K.lookup ITwice = some ⟨ocTwice, odTwice, .func (PySem.W.fnOf "__init__" "Twice.__init__" (SxE.iA "word" ⟨25, 17, 25, 21⟩ ⟨25, 23, 25, 27⟩) (SxE.iB "word" ⟨26, 8, 26, 12⟩ ⟨26, 8, 26, 17⟩ ⟨26, 20, 26, 24⟩ ⟨26, 8, 26, 24⟩) (SxE.iS "word") .none .none dcTwice pmTwice anTwice cdTwice ctTwice), slTwice⟩)
    (dTwice : PySem.W.codeIn K cdTwice "Twice.__init__" = true)
    (kTwice : keepIn K (.ref CTwice) = true)
    (e1Lacking : findIn K (.ref CLacking) "__getattribute__" = some (some (.builtin "BaseException.__getattribute__")))
    (e2Lacking : findIn K (.ref CLacking) "__getattr__" = some none)
    (e3Lacking : subIn K (.ref CLacking) (.type "BaseException") = some true)
    (e4Lacking : typeIn K (.ref CLacking) = some (.type "type"))
    (e5Lacking : PySem.W.hasDictIn K CLacking = true)
    (e6Lacking : PySem.W.isClsIn K CLacking = true)
    (e7Lacking : findIn K (.ref CLacking) "__class__" = some (some (.builtin "object.__class__")))
    (e8Lacking : PySem.W.mroIn K CLacking (.type "object") = some true)
    (xLacking : K.lookup CLacking = some (excClassObj nmLacking qLacking CLacking NLacking bsLacking [.ref SE, .type "ValueError", .type "Exception", .type "BaseException", .type "object"] true snLacking subLacking abLacking colLacking ddLacking m0Lacking m1Lacking m2Lacking m3Lacking m5Lacking "ValueError.__new__"))
    (sLacking : findIn K (.ref CLacking) "__setattr__" = some (some (.builtin "object.__setattr__")))
    (nLacking : findIn K (.ref CLacking) "word" = some none)
    (iLacking : findIn K (.ref CLacking) "__init__" = some (some (.ref ILacking)))
    (tLacking : typeIn K (.ref ILacking) = some (.type "function"))
    (lLacking : K.lookup ILacking = some ⟨ocLacking, odLacking, .func (PySem.W.fnOf "__init__" "Lacking.__init__" (SxE.iA "word" ⟨32, 17, 32, 21⟩ ⟨32, 23, 32, 27⟩) (SxE.iB "word" ⟨33, 8, 33, 12⟩ ⟨33, 8, 33, 17⟩ ⟨33, 20, 33, 24⟩ ⟨33, 8, 33, 24⟩) (SxE.iS "word") .none .none dcLacking pmLacking anLacking cdLacking ctLacking), slLacking⟩)
    (dLacking : PySem.W.codeIn K cdLacking "Lacking.__init__" = true)
    (kLacking : keepIn K (.ref CLacking) = true)
    (e1NoSound : findIn K (.ref CNoSound) "__getattribute__" = some (some (.builtin "BaseException.__getattribute__")))
    (e2NoSound : findIn K (.ref CNoSound) "__getattr__" = some none)
    (e3NoSound : subIn K (.ref CNoSound) (.type "BaseException") = some true)
    (e4NoSound : typeIn K (.ref CNoSound) = some (.type "type"))
    (e5NoSound : PySem.W.hasDictIn K CNoSound = true)
    (e6NoSound : PySem.W.isClsIn K CNoSound = true)
    (e7NoSound : findIn K (.ref CNoSound) "__class__" = some (some (.builtin "object.__class__")))
    (e8NoSound : PySem.W.mroIn K CNoSound (.type "object") = some true)
    (xNoSound : K.lookup CNoSound = some (excClassObj nmNoSound qNoSound CNoSound NNoSound bsNoSound [.ref SE, .type "ValueError", .type "Exception", .type "BaseException", .type "object"] true snNoSound subNoSound abNoSound colNoSound ddNoSound m0NoSound m1NoSound m2NoSound m3NoSound m5NoSound "ValueError.__new__"))
    (sNoSound : findIn K (.ref CNoSound) "__setattr__" = some (some (.builtin "object.__setattr__")))
    (nNoSound : findIn K (.ref CNoSound) "word" = some none)
    (iNoSound : findIn K (.ref CNoSound) "__init__" = some (some (.ref INoSound)))
    (tNoSound : typeIn K (.ref INoSound) = some (.type "function"))
    (lNoSound : K.lookup INoSound = some ⟨ocNoSound, odNoSound, .func (PySem.W.fnOf "__init__" "NoSound.__init__" (SxE.iA "word" ⟨39, 17, 39, 21⟩ ⟨39, 23, 39, 27⟩) (SxE.iB "word" ⟨40, 8, 40, 12⟩ ⟨40, 8, 40, 17⟩ ⟨40, 20, 40, 24⟩ ⟨40, 8, 40, 24⟩) (SxE.iS "word") .none .none dcNoSound pmNoSound anNoSound cdNoSound ctNoSound), slNoSound⟩)
    (dNoSound : PySem.W.codeIn K cdNoSound "NoSound.__init__" = true)
    (kNoSound : keepIn K (.ref CNoSound) = true)
    (e1NoRule : findIn K (.ref CNoRule) "__getattribute__" = some (some (.builtin "BaseException.__getattribute__")))
    (e2NoRule : findIn K (.ref CNoRule) "__getattr__" = some none)
    (e3NoRule : subIn K (.ref CNoRule) (.type "BaseException") = some true)
    (e4NoRule : typeIn K (.ref CNoRule) = some (.type "type"))
    (e5NoRule : PySem.W.hasDictIn K CNoRule = true)
    (e6NoRule : PySem.W.isClsIn K CNoRule = true)
    (e7NoRule : findIn K (.ref CNoRule) "__class__" = some (some (.builtin "object.__class__")))
    (e8NoRule : PySem.W.mroIn K CNoRule (.type "object") = some true)
    (xNoRule : K.lookup CNoRule = some (excClassObj nmNoRule qNoRule CNoRule NNoRule bsNoRule [.ref SE, .type "ValueError", .type "Exception", .type "BaseException", .type "object"] true snNoRule subNoRule abNoRule colNoRule ddNoRule m0NoRule m1NoRule m2NoRule m3NoRule m5NoRule "ValueError.__new__"))
    (sNoRule : findIn K (.ref CNoRule) "__setattr__" = some (some (.builtin "object.__setattr__")))
    (nNoRule : findIn K (.ref CNoRule) "word" = some none)
    (iNoRule : findIn K (.ref CNoRule) "__init__" = some (some (.ref INoRule)))
    (tNoRule : typeIn K (.ref INoRule) = some (.type "function"))
    (lNoRule : K.lookup INoRule = some ⟨ocNoRule, odNoRule, .func (PySem.W.fnOf "__init__" "NoRule.__init__" (SxE.iA "word" ⟨46, 17, 46, 21⟩ ⟨46, 23, 46, 27⟩) (SxE.iB "word" ⟨47, 8, 47, 12⟩ ⟨47, 8, 47, 17⟩ ⟨47, 20, 47, 24⟩ ⟨47, 8, 47, 24⟩) (SxE.iS "word") .none .none dcNoRule pmNoRule anNoRule cdNoRule ctNoRule), slNoRule⟩)
    (dNoRule : PySem.W.codeIn K cdNoRule "NoRule.__init__" = true)
    (kNoRule : keepIn K (.ref CNoRule) = true)
    (zValueError : nsIn K mainGlobals "ValueError" = some none)
    (zall : nsIn K mainGlobals "all" = some none)
    (zbool : nsIn K mainGlobals "bool" = some none)
    (zint : nsIn K mainGlobals "int" = some none)
    (zisinstance : nsIn K mainGlobals "isinstance" = some none)
    (zlen : nsIn K mainGlobals "len" = some none)
    (zlist : nsIn K mainGlobals "list" = some none)
    (zmax : nsIn K mainGlobals "max" = some none)
    (zmin : nsIn K mainGlobals "min" = some none)
    (zrange : nsIn K mainGlobals "range" = some none)
    (zstr : nsIn K mainGlobals "str" = some none)
    (gTOLD : nsIn K mainGlobals "TOLD" = some (some (.ref TTOLD)))
    (hTOLD : K.lookup TTOLD = some ⟨.type "tuple", dTOLD, .seq #[.str "sound" tTOLD0, .str "rule" tTOLD1, .str "left" tTOLD2, .str "right" tTOLD3, .str "once" tTOLD4, .str "gone" tTOLD5, .str "none" tTOLD6, .str "any" tTOLD7] nTOLD, slTOLD⟩)
    (gLETTERS : nsIn K mainGlobals "LETTERS" = some (some (.str "abcdefghijklmnopqrstuvwxyz" tLETTERS)))
    (gMARKS : nsIn K mainGlobals "MARKS" = some (some (.str ">/_#{}[]+-" tMARKS)))
    (gMOST_SIGNS : nsIn K mainGlobals "MOST_SIGNS" = some (some (.int 4000 tMOST_SIGNS)))
    (gMOST_LETTERS : nsIn K mainGlobals "MOST_LETTERS" = some (some (.int 8 tMOST_LETTERS)))
    : ∃ fd : FuncData, (∀ (s : Shared) (v : Value), BindsTo s fd ⟨[v], []⟩ [("_law_script", v)]) ∧ ∀ base : Heap, K.In base → base.Ns mainGlobals mg → FnOk l.prog w K mg base (L2.CX l.prog w) 7 fa fd ["_law_script"] (spLaw K) := by
  have e := hfa.symm.trans (PySem.W.mg_of X G al)
  cases e
  have F0 := fun_mk (st := s_word_end) l0 c0 k0
  have b0 := F0.binds (ps := ["row", "at"]) fun _ _ _ _ _ _ us hl => match us, hl with | [_, _], _ => rfl
  have F1 := fun_mk (st := s_row_words) l1 c1 k1
  have b1 := F1.binds (ps := ["row", "begin"]) fun _ _ _ _ _ _ us hl => match us, hl with | [_, _], _ => rfl
  have F2 := fun_mk (st := s_text_words) l2 c2 k2
  have b2 := F2.binds (ps := ["text"]) fun _ _ _ _ _ _ us hl => match us, hl with | [_], _ => rfl
  have F3 := fun_mk (st := s_is_sound) l3 c3 k3
  have b3 := F3.binds (ps := ["word"]) fun _ _ _ _ _ _ us hl => match us, hl with | [_], _ => rfl
  have F4 := fun_mk (st := s_is_name) l4 c4 k4
  have b4 := F4.binds (ps := ["word"]) fun _ _ _ _ _ _ us hl => match us, hl with | [_], _ => rfl
  have F5 := fun_mk (st := s__law_next) l5 c5 k5
  have b5 := F5.binds (ps := ["_law_state", "_law_many"]) fun _ _ _ _ _ _ us hl => match us, hl with | [_, _], _ => rfl
  have F6 := fun_mk (st := s__law_told_words) l6 c6 k6
  have b6 := F6.binds (ps := []) fun _ _ _ _ _ _ us hl => match us, hl with | [], _ => rfl
  have F7 := fun_mk (st := s__law_piece) l7 c7 k7
  have b7 := F7.binds (ps := ["_law_state"]) fun _ _ _ _ _ _ us hl => match us, hl with | [_], _ => rfl
  have F8 := fun_mk (st := s__law_odd) l8 c8 k8
  have b8 := F8.binds (ps := ["_law_state"]) fun _ _ _ _ _ _ us hl => match us, hl with | [_], _ => rfl
  have F9 := fun_mk (st := s__law_text) l9 c9 k9
  have b9 := F9.binds (ps := ["_law_state"]) fun _ _ _ _ _ _ us hl => match us, hl with | [_], _ => rfl
  have F10 := fun_mk (st := s__law_due) l10 c10 k10
  have b10 := F10.binds (ps := ["_law_text_here"]) fun _ _ _ _ _ _ us hl => match us, hl with | [_], _ => rfl
  have F11 := fun_mk (st := s__law_class) l11 c11 k11
  have b11 := F11.binds (ps := ["_law_e"]) fun _ _ _ _ _ _ us hl => match us, hl with | [_], _ => rfl
  have F12 := fun_mk (st := s__law_said) l12 c12 k12
  have b12 := F12.binds (ps := ["_law_thing"]) fun _ _ _ _ _ _ us hl => match us, hl with | [_], _ => rfl
  have F13 := fun_mk (st := s__law_by_hand) l13 c13 k13
  have b13 := F13.binds (ps := ["_law_state"]) fun _ _ _ _ _ _ us hl => match us, hl with | [_], _ => rfl
  have F14 := fun_mk (st := s__law_names_right) l14 c14 k14
  have b14 := F14.binds (ps := ["_law_word"]) fun _ _ _ _ _ _ us hl => match us, hl with | [_], _ => rfl
  have Fl := fun_mk (st := s_law) ll cl kl
  have bl := Fl.binds (ps := ["_law_script"]) fun _ _ _ _ _ _ us hl => match us, hl with | [_], _ => rfl
  have EBadSign : SxE.ECls K CBadSign := ⟨e1BadSign, e2BadSign, e3BadSign, e4BadSign, e5BadSign, e6BadSign, e7BadSign, e8BadSign⟩
  have EBadText : SxE.ECls K CBadText := ⟨e1BadText, e2BadText, e3BadText, e4BadText, e5BadText, e6BadText, e7BadText, e8BadText⟩
  have ETwice : SxE.ECls K CTwice := ⟨e1Twice, e2Twice, e3Twice, e4Twice, e5Twice, e6Twice, e7Twice, e8Twice⟩
  have ELacking : SxE.ECls K CLacking := ⟨e1Lacking, e2Lacking, e3Lacking, e4Lacking, e5Lacking, e6Lacking, e7Lacking, e8Lacking⟩
  have ENoSound : SxE.ECls K CNoSound := ⟨e1NoSound, e2NoSound, e3NoSound, e4NoSound, e5NoSound, e6NoSound, e7NoSound, e8NoSound⟩
  have ENoRule : SxE.ECls K CNoRule := ⟨e1NoRule, e2NoRule, e3NoRule, e4NoRule, e5NoRule, e6NoRule, e7NoRule, e8NoRule⟩
  let t : Tx K mg := {
    f_word_end := f0,
    fd_word_end := _,
    F_word_end := F0,
    m_word_end := PySem.W.mg_of X G a0,
    b_word_end := b0,
    f_row_words := f1,
    fd_row_words := _,
    F_row_words := F1,
    m_row_words := PySem.W.mg_of X G a1,
    b_row_words := b1,
    f_text_words := f2,
    fd_text_words := _,
    F_text_words := F2,
    m_text_words := PySem.W.mg_of X G a2,
    b_text_words := b2,
    f_is_sound := f3,
    fd_is_sound := _,
    F_is_sound := F3,
    m_is_sound := PySem.W.mg_of X G a3,
    b_is_sound := b3,
    f_is_name := f4,
    fd_is_name := _,
    F_is_name := F4,
    m_is_name := PySem.W.mg_of X G a4,
    b_is_name := b4,
    f__law_next := f5,
    fd__law_next := _,
    F__law_next := F5,
    m__law_next := PySem.W.mg_of X G a5,
    b__law_next := b5,
    f__law_told_words := f6,
    fd__law_told_words := _,
    F__law_told_words := F6,
    m__law_told_words := PySem.W.mg_of X G a6,
    b__law_told_words := b6,
    f__law_piece := f7,
    fd__law_piece := _,
    F__law_piece := F7,
    m__law_piece := PySem.W.mg_of X G a7,
    b__law_piece := b7,
    f__law_odd := f8,
    fd__law_odd := _,
    F__law_odd := F8,
    m__law_odd := PySem.W.mg_of X G a8,
    b__law_odd := b8,
    f__law_text := f9,
    fd__law_text := _,
    F__law_text := F9,
    m__law_text := PySem.W.mg_of X G a9,
    b__law_text := b9,
    f__law_due := f10,
    fd__law_due := _,
    F__law_due := F10,
    m__law_due := PySem.W.mg_of X G a10,
    b__law_due := b10,
    f__law_class := f11,
    fd__law_class := _,
    F__law_class := F11,
    m__law_class := PySem.W.mg_of X G a11,
    b__law_class := b11,
    f__law_said := f12,
    fd__law_said := _,
    F__law_said := F12,
    m__law_said := PySem.W.mg_of X G a12,
    b__law_said := b12,
    f__law_by_hand := f13,
    fd__law_by_hand := _,
    F__law_by_hand := F13,
    m__law_by_hand := PySem.W.mg_of X G a13,
    b__law_by_hand := b13,
    f__law_names_right := f14,
    fd__law_names_right := _,
    F__law_names_right := F14,
    m__law_names_right := PySem.W.mg_of X G a14,
    b__law_names_right := b14,
    f_law := fa,
    fd_law := _,
    F_law := Fl,
    m_law := PySem.W.mg_of X G al,
    b_law := bl,
    A_SoundError := SE,
    c_SoundError := PySem.W.mg_of X G aS,
    A_BadSign := CBadSign,
    c_BadSign := PySem.W.mg_of X G aCBadSign,
    A_BadText := CBadText,
    c_BadText := PySem.W.mg_of X G aCBadText,
    A_Twice := CTwice,
    c_Twice := PySem.W.mg_of X G aCTwice,
    A_Lacking := CLacking,
    c_Lacking := PySem.W.mg_of X G aCLacking,
    A_NoSound := CNoSound,
    c_NoSound := PySem.W.mg_of X G aCNoSound,
    A_NoRule := CNoRule,
    c_NoRule := PySem.W.mg_of X G aCNoRule,
    A_BadWord := CBadWord,
    c_BadWord := PySem.W.mg_of X G aCBadWord,
    A_BadNumber := CBadNumber,
    c_BadNumber := PySem.W.mg_of X G aCBadNumber,
    A_TooLong := CTooLong,
    c_TooLong := PySem.W.mg_of X G aCTooLong,
    A_TooMany := CTooMany,
    c_TooMany := PySem.W.mg_of X G aCTooMany,
    i_BadSign := IBadSign,
    x_BadSign := ⟨EBadSign, ⟨_, _, _, _, _, _, _, _, _, _, _, _, _, _, _, xBadSign, rfl⟩, sBadSign, nBadSign, iBadSign, tBadSign, kBadSign, SxE.fld_spot, ⟨_, _, _, _, _, _, _, _, _, _, _, _, _, _, lBadSign, dBadSign⟩⟩,
    y_BadSign := ⟨EBadSign, gS1, gS2⟩,
    z_BadSign := PySem.W.exm_ref sS1 sS2 sS3 uBadSign,
    v_BadSign := vBadSign,
    o_BadSign := nBadSign,
    q_BadSign_BadSign := qBadSignBadSign,
    q_BadSign_BadText := qBadSignBadText,
    q_BadSign_Twice := qBadSignTwice,
    q_BadSign_Lacking := qBadSignLacking,
    q_BadSign_NoSound := qBadSignNoSound,
    q_BadSign_NoRule := qBadSignNoRule,
    q_BadSign_BadWord := qBadSignBadWord,
    q_BadSign_BadNumber := qBadSignBadNumber,
    q_BadSign_TooLong := qBadSignTooLong,
    q_BadSign_TooMany := qBadSignTooMany,
    i_BadText := IBadText,
    x_BadText := ⟨EBadText, ⟨_, _, _, _, _, _, _, _, _, _, _, _, _, _, _, xBadText, rfl⟩, sBadText, nBadText, iBadText, tBadText, kBadText, SxE.fld_spot, ⟨_, _, _, _, _, _, _, _, _, _, _, _, _, _, lBadText, dBadText⟩⟩,
    i_Twice := ITwice,
    x_Twice := ⟨ETwice, ⟨_, _, _, _, _, _, _, _, _, _, _, _, _, _, _, xTwice, rfl⟩, sTwice, nTwice, iTwice, tTwice, kTwice, SxE.fld_word, ⟨_, _, _, _, _, _, _, _, _, _, _, _, _, _, lTwice, dTwice⟩⟩,
    i_Lacking := ILacking,
    x_Lacking := ⟨ELacking, ⟨_, _, _, _, _, _, _, _, _, _, _, _, _, _, _, xLacking, rfl⟩, sLacking, nLacking, iLacking, tLacking, kLacking, SxE.fld_word, ⟨_, _, _, _, _, _, _, _, _, _, _, _, _, _, lLacking, dLacking⟩⟩,
    i_NoSound := INoSound,
    x_NoSound := ⟨ENoSound, ⟨_, _, _, _, _, _, _, _, _, _, _, _, _, _, _, xNoSound, rfl⟩, sNoSound, nNoSound, iNoSound, tNoSound, kNoSound, SxE.fld_word, ⟨_, _, _, _, _, _, _, _, _, _, _, _, _, _, lNoSound, dNoSound⟩⟩,
    i_NoRule := INoRule,
    x_NoRule := ⟨ENoRule, ⟨_, _, _, _, _, _, _, _, _, _, _, _, _, _, _, xNoRule, rfl⟩, sNoRule, nNoRule, iNoRule, tNoRule, kNoRule, SxE.fld_word, ⟨_, _, _, _, _, _, _, _, _, _, _, _, _, _, lNoRule, dNoRule⟩⟩,
    n_ValueError := PySem.W.mg_none_of X G zValueError,
    n_all := PySem.W.mg_none_of X G zall,
    n_bool := PySem.W.mg_none_of X G zbool,
    n_int := PySem.W.mg_none_of X G zint,
    n_isinstance := PySem.W.mg_none_of X G zisinstance,
    n_len := PySem.W.mg_none_of X G zlen,
    n_list := PySem.W.mg_none_of X G zlist,
    n_max := PySem.W.mg_none_of X G zmax,
    n_min := PySem.W.mg_none_of X G zmin,
    n_range := PySem.W.mg_none_of X G zrange,
    n_str := PySem.W.mg_none_of X G zstr,
    V_TOLD := .ref TTOLD,
    w_TOLD := _,
    c_TOLD := PySem.W.mg_of X G gTOLD,
    r_TOLD := rfl,
    p_TOLD := fun T hT F => rep_gtup (T := T) (ds := [.str [115, 111, 117, 110, 100], .str [114, 117, 108, 101], .str [108, 101, 102, 116], .str [114, 105, 103, 104, 116], .str [111, 110, 99, 101], .str [103, 111, 110, 101], .str [110, 111, 110, 101], .str [97, 110, 121]]) (xs := [.str "sound", .str "rule", .str "left", .str "right", .str "once", .str "gone", .str "none", .str "any"]) (by rw [hT]; exact hTOLD) rfl rfl (by exact (show 8 ≤ SZ by decide)) (.cons ⟨_, rfl⟩ (.cons ⟨_, rfl⟩ (.cons ⟨_, rfl⟩ (.cons ⟨_, rfl⟩ (.cons ⟨_, rfl⟩ (.cons ⟨_, rfl⟩ (.cons ⟨_, rfl⟩ (.cons ⟨_, rfl⟩ .nil)))))))) (fun F => (Reps.cons (rep_str (by first | rfl | decide +kernel)) (Reps.cons (rep_str (by first | rfl | decide +kernel)) (Reps.cons (rep_str (by first | rfl | decide +kernel)) (Reps.cons (rep_str (by first | rfl | decide +kernel)) (Reps.cons (rep_str (by first | rfl | decide +kernel)) (Reps.cons (rep_str (by first | rfl | decide +kernel)) (Reps.cons (rep_str (by first | rfl | decide +kernel)) (Reps.cons (rep_str (by first | rfl | decide +kernel)) Reps.nil))))))))) F,
    V_LETTERS := .str "abcdefghijklmnopqrstuvwxyz",
    w_LETTERS := _,
    c_LETTERS := PySem.W.mg_of X G gLETTERS,
    r_LETTERS := ⟨_, rfl⟩,
    p_LETTERS := fun T hT F => rep_str (by first | rfl | decide +kernel),
    V_MARKS := .str ">/_#{}[]+-",
    w_MARKS := _,
    c_MARKS := PySem.W.mg_of X G gMARKS,
    r_MARKS := ⟨_, rfl⟩,
    p_MARKS := fun T hT F => rep_str (by first | rfl | decide +kernel),
    V_MOST_SIGNS := .int 4000,
    w_MOST_SIGNS := _,
    c_MOST_SIGNS := PySem.W.mg_of X G gMOST_SIGNS,
    r_MOST_SIGNS := ⟨_, rfl⟩,
    p_MOST_SIGNS := fun T hT F => rfl,
    V_MOST_LETTERS := .int 8,
    w_MOST_LETTERS := _,
    c_MOST_LETTERS := PySem.W.mg_of X G gMOST_LETTERS,
    r_MOST_LETTERS := ⟨_, rfl⟩,
    p_MOST_LETTERS := fun T hT F => rfl }
  exact ⟨PySem.W.fnOf "law" "law" (defArgs s_law) (defBody s_law) (defScope s_law) .none kVl dcl pml anl cdl ctl, fun s v => .of_eq rfl, fun base _ _ => (ok_law t).imp (law_sp t)⟩
theorem walk {l : PySem.W.OpenLaw} {q : Program} {loose : List Str} {XP : (Str → Option Value) → Heap → Prop} {YP : World → Heap → Prop} {d : DefRec} {K : Params → Frag} (hn : l.most = some 63) (hdf : d.params.defaults = [])
    (hY : ∀ (w : World) (h : Heap), YP w h → (K w.params).In h)
    (F : ∀ (w : World) (mg : Str → Option Value) (fa : Addr) (h : Heap), (K w.params).In h → h.Ns mainGlobals mg → mg d.name = some (.ref fa) →
      ∃ fd : FuncData, (∀ (s : Shared) (u : Value), BindsTo s fd ⟨[u], []⟩ [("_law_script", u)]) ∧ ∀ base : Heap, (K w.params).In base → base.Ns mainGlobals mg → FnOk l.prog w (K w.params) mg base (L2.CX l.prog w) 7 fa fd ["_law_script"] (spLaw (K w.params))) :
    PySem.W.WalkO q loose XP YP l.row.toRowW d [] (fun f vs => PySem.call f vs) :=
  L2.walk_of (n := 63) (k := 7) (x := "_law_script") (CX := fun w => L2.CX l.prog w) (sp := fun w => spLaw (K w.params)) hn (by decide) hdf ⟨rfl, by decide, by decide⟩ hY F (fun _ _ a ns hl _ hS => ⟨a, ns, rfl, hS, hl, fun _ => rfl⟩) (fun _ _ _ _ _ z => by
    obtain ⟨_, _, _, _, _, _, _, _, _, _, _, _, h⟩ := z
    exact h)
end K01
end Sx
open PySem PySem.W PyProof.Rows
set_option maxRecDepth 100000 in
set_option maxHeartbeats 0 in
theorem PySem.Challenge.cw_soundlaw_k01_words_holds : PySem.Challenge.rw_soundlaw_k01_words.Holds := by
  w_on; o_law; k_head; (case hw => w_witness2)
  k_fill
  refine Sx.K01.walk (l := PySem.Challenge.rw_soundlaw_k01_words) rfl rfl (fun w h Y => PySem.W.kIn_of Y) ?F
  case F =>
    intro w mg fa h KX G hmg
    refine' Sx.K01.all_mk KX G hmg ?a0 ?l0 ?c0 ?k0 ?a1 ?l1 ?c1 ?k1 ?a2 ?l2 ?c2 ?k2 ?a3 ?l3 ?c3 ?k3 ?a4 ?l4 ?c4 ?k4 ?a5 ?l5 ?c5 ?k5 ?a6 ?l6 ?c6 ?k6 ?a7 ?l7 ?c7 ?k7 ?a8 ?l8 ?c8 ?k8 ?a9 ?l9 ?c9 ?k9 ?a10 ?l10 ?c10 ?k10 ?a11 ?l11 ?c11 ?k11 ?a12 ?l12 ?c12 ?k12 ?a13 ?l13 ?c13 ?k13 ?a14 ?l14 ?c14 ?k14 ?al ?ll ?cl ?kl ?aS ?sS1 ?sS2 ?sS3 ?gS1 ?gS2 ?aCBadSign ?aCBadText ?aCTwice ?aCLacking ?aCNoSound ?aCNoRule ?aCBadWord ?aCBadNumber ?aCTooLong ?aCTooMany ?e1BadSign ?e2BadSign ?e3BadSign ?e4BadSign ?e5BadSign ?e6BadSign ?e7BadSign ?e8BadSign ?xBadSign ?sBadSign ?nBadSign ?iBadSign ?tBadSign ?lBadSign ?dBadSign ?kBadSign ?uBadSign ?vBadSign ?qBadSignBadSign ?qBadSignBadText ?qBadSignTwice ?qBadSignLacking ?qBadSignNoSound ?qBadSignNoRule ?qBadSignBadWord ?qBadSignBadNumber ?qBadSignTooLong ?qBadSignTooMany ?e1BadText ?e2BadText ?e3BadText ?e4BadText ?e5BadText ?e6BadText ?e7BadText ?e8BadText ?xBadText ?sBadText ?nBadText ?iBadText ?tBadText ?lBadText ?dBadText ?kBadText ?e1Twice ?e2Twice ?e3Twice ?e4Twice ?e5Twice ?e6Twice ?e7Twice ?e8Twice ?xTwice ?sTwice ?nTwice ?iTwice ?tTwice ?lTwice ?dTwice ?kTwice ?e1Lacking ?e2Lacking ?e3Lacking ?e4Lacking ?e5Lacking ?e6Lacking ?e7Lacking ?e8Lacking ?xLacking ?sLacking ?nLacking ?iLacking ?tLacking ?lLacking ?dLacking ?kLacking ?e1NoSound ?e2NoSound ?e3NoSound ?e4NoSound ?e5NoSound ?e6NoSound ?e7NoSound ?e8NoSound ?xNoSound ?sNoSound ?nNoSound ?iNoSound ?tNoSound ?lNoSound ?dNoSound ?kNoSound ?e1NoRule ?e2NoRule ?e3NoRule ?e4NoRule ?e5NoRule ?e6NoRule ?e7NoRule ?e8NoRule ?xNoRule ?sNoRule ?nNoRule ?iNoRule ?tNoRule ?lNoRule ?dNoRule ?kNoRule ?zValueError ?zall ?zbool ?zint ?zisinstance ?zlen ?zlist ?zmax ?zmin ?zrange ?zstr ?gTOLD ?hTOLD ?gLETTERS ?gMARKS ?gMOST_SIGNS ?gMOST_LETTERS
    (case a0 => k_is); (case l0 => k_is); (case c0 => k_is); (case k0 => k_is); (case a1 => k_is)
    (case l1 => k_is); (case c1 => k_is); (case k1 => k_is); (case a2 => k_is); (case l2 => k_is)
    (case c2 => k_is); (case k2 => k_is); (case a3 => k_is); (case l3 => k_is); (case c3 => k_is)
    (case k3 => k_is); (case a4 => k_is); (case l4 => k_is); (case c4 => k_is); (case k4 => k_is)
    (case a5 => k_is); (case l5 => k_is); (case c5 => k_is); (case k5 => k_is); (case a6 => k_is)
    (case l6 => k_is); (case c6 => k_is); (case k6 => k_is); (case a7 => k_is); (case l7 => k_is)
    (case c7 => k_is); (case k7 => k_is); (case a8 => k_is); (case l8 => k_is); (case c8 => k_is)
    (case k8 => k_is); (case a9 => k_is); (case l9 => k_is); (case c9 => k_is); (case k9 => k_is)
    (case a10 => k_is); (case l10 => k_is); (case c10 => k_is); (case k10 => k_is); (case a11 => k_is)
    (case l11 => k_is); (case c11 => k_is); (case k11 => k_is); (case a12 => k_is); (case l12 => k_is)
    (case c12 => k_is); (case k12 => k_is); (case a13 => k_is); (case l13 => k_is); (case c13 => k_is)
    (case k13 => k_is); (case a14 => k_is); (case l14 => k_is); (case c14 => k_is); (case k14 => k_is)
    (case al => k_is); (case ll => k_is); (case cl => k_is); (case kl => k_is); (case aS => k_is)
    (case sS1 => k_is); (case sS2 => k_is); (case sS3 => k_is); (case gS1 => k_is); (case gS2 => k_is)
    (case aCBadSign => k_is); (case aCBadText => k_is); (case aCTwice => k_is); (case aCLacking => k_is); (case aCNoSound => k_is)
    (case aCNoRule => k_is); (case aCBadWord => k_is); (case aCBadNumber => k_is); (case aCTooLong => k_is); (case aCTooMany => k_is)
    (case e1BadSign => k_is); (case e2BadSign => k_is); (case e3BadSign => k_is); (case e4BadSign => k_is); (case e5BadSign => k_is)
    (case e6BadSign => k_is); (case e7BadSign => k_is); (case e8BadSign => k_is); (case xBadSign => k_is); (case sBadSign => k_is)
    (case nBadSign => k_is); (case iBadSign => k_is); (case tBadSign => k_is); (case lBadSign => k_is); (case dBadSign => k_is)
    (case kBadSign => k_is); (case uBadSign => k_is); (case vBadSign => kit_is); (case qBadSignBadSign => kit_is); (case qBadSignBadText => kit_is)
    (case qBadSignTwice => kit_is); (case qBadSignLacking => kit_is); (case qBadSignNoSound => kit_is); (case qBadSignNoRule => kit_is); (case qBadSignBadWord => kit_is)
    (case qBadSignBadNumber => kit_is); (case qBadSignTooLong => kit_is); (case qBadSignTooMany => kit_is); (case e1BadText => k_is); (case e2BadText => k_is)
    (case e3BadText => k_is); (case e4BadText => k_is); (case e5BadText => k_is); (case e6BadText => k_is); (case e7BadText => k_is)
    (case e8BadText => k_is); (case xBadText => k_is); (case sBadText => k_is); (case nBadText => k_is); (case iBadText => k_is)
    (case tBadText => k_is); (case lBadText => k_is); (case dBadText => k_is); (case kBadText => k_is); (case e1Twice => k_is)
    (case e2Twice => k_is); (case e3Twice => k_is); (case e4Twice => k_is); (case e5Twice => k_is); (case e6Twice => k_is)
    (case e7Twice => k_is); (case e8Twice => k_is); (case xTwice => k_is); (case sTwice => k_is); (case nTwice => k_is)
    (case iTwice => k_is); (case tTwice => k_is); (case lTwice => k_is); (case dTwice => k_is); (case kTwice => k_is)
    (case e1Lacking => k_is); (case e2Lacking => k_is); (case e3Lacking => k_is); (case e4Lacking => k_is); (case e5Lacking => k_is)
    (case e6Lacking => k_is); (case e7Lacking => k_is); (case e8Lacking => k_is); (case xLacking => k_is); (case sLacking => k_is)
    (case nLacking => k_is); (case iLacking => k_is); (case tLacking => k_is); (case lLacking => k_is); (case dLacking => k_is)
    (case kLacking => k_is); (case e1NoSound => k_is); (case e2NoSound => k_is); (case e3NoSound => k_is); (case e4NoSound => k_is)
    (case e5NoSound => k_is); (case e6NoSound => k_is); (case e7NoSound => k_is); (case e8NoSound => k_is); (case xNoSound => k_is)
    (case sNoSound => k_is); (case nNoSound => k_is); (case iNoSound => k_is); (case tNoSound => k_is); (case lNoSound => k_is)
    (case dNoSound => k_is); (case kNoSound => k_is); (case e1NoRule => k_is); (case e2NoRule => k_is); (case e3NoRule => k_is)
    (case e4NoRule => k_is); (case e5NoRule => k_is); (case e6NoRule => k_is); (case e7NoRule => k_is); (case e8NoRule => k_is)
    (case xNoRule => k_is); (case sNoRule => k_is); (case nNoRule => k_is); (case iNoRule => k_is); (case tNoRule => k_is)
    (case lNoRule => k_is); (case dNoRule => k_is); (case kNoRule => k_is); (case zValueError => k_is); (case zall => k_is)
    (case zbool => k_is); (case zint => k_is); (case zisinstance => k_is); (case zlen => k_is); (case zlist => k_is)
    (case zmax => k_is); (case zmin => k_is); (case zrange => k_is); (case zstr => k_is); (case gTOLD => k_is)
    (case hTOLD => k_is); (case gLETTERS => k_is); (case gMARKS => k_is); (case gMOST_SIGNS => k_is); (case gMOST_LETTERS => k_is)
