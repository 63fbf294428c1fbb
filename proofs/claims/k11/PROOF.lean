import PyProof.Rows.All
import Wide.All
import OpenK.AllK
import Wide.FinOn
import HandS.ForMost
import HandS.ForExc
import HandS.IsInst
import HandS.ExcInit
import HandS.TupAny
import HandS.TupMul
import HandS.TupLe
import HandS.Wide
import HandS.Codes
import HandS.TupLen
import HandS.Deep
import HandS.Conv
import HandS.Iter
import KE.GoesMore
import KE.GoesEnum
import HandS.CallSlots
import HandS.Defaults
import HandS.WordsExc
import HandS.Words
import HandS.More
import HandS.Dict
import HandS.Text
import HandS.TryOnly
import HandS.ListItems
import HandS.Rev
import HandS.RevTup
import KE.KDictCopyH
import KE.KDictList
import KE.KDictWalk
import KE.SortData
import HandS.RevRange
import PySem.Challenge.RW_onlyheard_k11_bounds
set_option Elab.async false
set_option linter.all false
set_option maxRecDepth 100000
set_option maxHeartbeats 4000000
/-! DL1: data values without addresses, what they are worth on the abstract heap, readings over data. -/
namespace DL
open PySem PySem.Spec PyProof.Rows L2

/-- a value without addresses -/
inductive D where
  | non | bl (b : Bool) | int (i : Int) | str (x : Str)
  | tup (xs : List D) | tupK (xs : List D) | lst (xs : List D)
  | dK (ks : List Key) (xs : List D) | dT (ks : List (List Key)) (xs : List D)
  | ins (c : Nat) (ns : List Str) (xs : List D)

mutual
/-- on the persistent heap G the value v is the data d; cl: the addresses of the own classes by number -/
inductive Rp (K : PySem.W.Frag) (cl : Nat → Addr) (G : Hp) : V → D → Prop
  | non : Rp K cl G .non .non
  | bl (b : Bool) : Rp K cl G (.bl b) (.bl b)
  | int (i : Int) : Rp K cl G (.int i) (.int i)
  | str (x : Str) : Rp K cl G (.str x) (.str x)
  | tup {a : Addr} {vs : List V} {xs : List D} : G a = some (.tup vs) → Rps K cl G vs xs → Rp K cl G (.ref a) (.tup xs)
  | tupK {a : Addr} {vs : List V} {xs : List D} : SqT K (fun _ => none) a vs → Rps K cl G vs xs → Rp K cl G (.ref a) (.tupK xs)
  | lst {a : Addr} {vs : List V} {xs : List D} : G a = some (.lst vs) → Rps K cl G vs xs → Rp K cl G (.ref a) (.lst xs)
  | dK {a : Addr} {ks : List Key} {vs : List V} {xs : List D} : G a = some (.dK (ks.zip vs)) → ks.length = vs.length → Rps K cl G vs xs → Rp K cl G (.ref a) (.dK ks xs)
  | dT {a : Addr} {ks : List (List Key)} {vs : List V} {xs : List D} : G a = some (.dT (ks.zip vs)) → ks.length = vs.length → Rps K cl G vs xs → Rp K cl G (.ref a) (.dT ks xs)
  | ins {a dx : Addr} {c : Nat} {ns : List Str} {vs : List V} {xs : List D} : G a = some (.ins (cl c) dx (ns.zip vs)) → ns.length = vs.length → Rps K cl G vs xs → Rp K cl G (.ref a) (.ins c ns xs)
inductive Rps (K : PySem.W.Frag) (cl : Nat → Addr) (G : Hp) : List V → List D → Prop
  | nil : Rps K cl G [] []
  | cons {v : V} {vs : List V} {x : D} {xs : List D} : Rp K cl G v x → Rps K cl G vs xs → Rps K cl G (v :: vs) (x :: xs)
end

/-- all of G is in G' -/
def Le (G G' : Hp) : Prop := ∀ a o, G a = some o → G' a = some o
theorem Le.refl (G : Hp) : Le G G := fun _ _ h => h
theorem Le.trans {A B C : Hp} (h : Le A B) (k : Le B C) : Le A C := fun a o e => k a o (h a o e)
theorem sqT_le {K : PySem.W.Frag} {G G' : Hp} {a : Addr} {vs : List V} (h : SqT K G a vs) (k : Le G G') : SqT K G' a vs := by
  rcases h with (h | ⟨o, h⟩) | h
  · exact .inl (.inl (k _ _ h))
  · exact .inl (.inr ⟨o, k _ _ h⟩)
  · exact .inr h

section
variable {K : PySem.W.Frag} {cl : Nat → Addr} {G G' : Hp}
mutual
theorem Rp.mono (k : Le G G') : ∀ (d : D) (v : V), Rp K cl G v d → Rp K cl G' v d
  | .non, _, h => by cases h; exact .non
  | .bl b, _, h => by cases h; exact .bl b
  | .int i, _, h => by cases h; exact .int i
  | .str x, _, h => by cases h; exact .str x
  | .tup xs, _, h => by
    cases h with
    | tup h1 h2 => exact .tup (k _ _ h1) (Rps.mono k xs _ h2)
  | .tupK xs, _, h => by
    cases h with
    | tupK h1 h2 => exact .tupK h1 (Rps.mono k xs _ h2)
  | .lst xs, _, h => by
    cases h with
    | lst h1 h2 => exact .lst (k _ _ h1) (Rps.mono k xs _ h2)
  | .dK ks xs, _, h => by
    cases h with
    | dK h1 h2 h3 => exact .dK (k _ _ h1) h2 (Rps.mono k xs _ h3)
  | .dT ks xs, _, h => by
    cases h with
    | dT h1 h2 h3 => exact .dT (k _ _ h1) h2 (Rps.mono k xs _ h3)
  | .ins c ns xs, _, h => by
    cases h with
    | ins h1 h2 h3 => exact .ins (k _ _ h1) h2 (Rps.mono k xs _ h3)
theorem Rps.mono (k : Le G G') : ∀ (ds : List D) (vs : List V), Rps K cl G vs ds → Rps K cl G' vs ds
  | [], _, h => by cases h; exact .nil
  | d :: ds, _, h => by
    cases h with
    | cons h1 h2 => exact .cons (Rp.mono k d _ h1) (Rps.mono k ds _ h2)
end
theorem Rps.length : ∀ {vs : List V} {xs : List D}, Rps K cl G vs xs → vs.length = xs.length
  | _, _, .nil => rfl
  | _, _, .cons _ h => congrArg (· + 1) (Rps.length h)
theorem Rps.get : ∀ {vs : List V} {xs : List D} {i : Nat} {x : D}, Rps K cl G vs xs → xs[i]? = some x → ∃ v, vs[i]? = some v ∧ Rp K cl G v x
  | _, _, _, _, .nil, e => by simp at e
  | _, _, 0, _, .cons r _, e => by simp at e; subst e; exact ⟨_, rfl, r⟩
  | _, _, i + 1, x, .cons _ t, e => by
    obtain ⟨u, h1, h2⟩ := Rps.get (i := i) (x := x) t (by simpa using e)
    exact ⟨u, by simpa using h1, h2⟩
theorem Rps.of_get : ∀ {vs : List V} {xs : List D} {i : Nat} {v : V}, Rps K cl G vs xs → vs[i]? = some v → ∃ x, xs[i]? = some x ∧ Rp K cl G v x
  | _, _, _, _, .nil, e => by simp at e
  | _, _, 0, _, .cons r _, e => by simp at e; subst e; exact ⟨_, rfl, r⟩
  | _, _, i + 1, x, .cons _ t, e => by
    obtain ⟨u, h1, h2⟩ := Rps.of_get (i := i) (v := x) t (by simpa using e)
    exact ⟨u, by simpa using h1, h2⟩
theorem Rps.append : ∀ {vs ws : List V} {xs ys : List D}, Rps K cl G vs xs → Rps K cl G ws ys → Rps K cl G (vs ++ ws) (xs ++ ys)
  | _, _, _, _, .nil, s => s
  | _, _, _, _, .cons r t, s => .cons r (Rps.append t s)
theorem Rps.take : ∀ {vs : List V} {xs : List D} (n : Nat), Rps K cl G vs xs → Rps K cl G (vs.take n) (xs.take n)
  | _, _, 0, _ => .nil
  | _, _, _ + 1, .nil => .nil
  | _, _, n + 1, .cons r t => .cons r (Rps.take n t)
theorem Rps.drop : ∀ {vs : List V} {xs : List D} (n : Nat), Rps K cl G vs xs → Rps K cl G (vs.drop n) (xs.drop n)
  | _, _, 0, r => r
  | _, _, _ + 1, .nil => .nil
  | _, _, n + 1, .cons _ t => Rps.drop n t
theorem Rps.set : ∀ {vs : List V} {xs : List D} {v : V} {x : D} (n : Nat), Rp K cl G v x → Rps K cl G vs xs → Rps K cl G (vs.set n v) (xs.set n x)
  | _, _, _, _, _, _, .nil => .nil
  | _, _, _, _, 0, r, .cons _ t => .cons r t
  | _, _, _, _, n + 1, r, .cons q t => .cons q (Rps.set n r t)
end

/-- what a name of a def may hold: data; a list or a dict of its own, not known to anything else; a value as it is -/
inductive LV where
  | d (x : D) | l (xs : List D) | k (ks : List Key) (xs : List D) | t (ks : List (List Key)) (xs : List D) | o (b : Addr) (c : Nat) (ns : List Str) (xs : List D) | raw (v : V)
def LV.own : LV → Bool
  | .d _ => false
  | .raw _ => false
  | _ => true
abbrev LEnv := List (Option LV)
def LEnv.at : LEnv → Nat → Option LV
  | [], _ => none
  | x :: _, 0 => x
  | _ :: r, n + 1 => LEnv.at r n
theorem LEnv.at_get : ∀ {env : LEnv} {i : Nat} {lv : LV}, env.at i = some lv → env[i]? = some (some lv)
  | [], _, _, h => by cases h
  | x :: _, 0, _, h => by
    have h' : x = _ := h
    subst h'; rfl
  | _ :: r, n + 1, _, h => by
    have := LEnv.at_get (env := r) (i := n) h
    simpa using this

section
variable (K : PySem.W.Frag) (cl : Nat → Addr) (G H : Hp)
def RL (v : V) : LV → Prop
  | .d x => Rp K cl G v x
  | .l xs => ∃ a vs, v = .ref a ∧ G a = none ∧ H a = some (.lst vs) ∧ Rps K cl G vs xs
  | .k ks xs => ∃ a vs, v = .ref a ∧ G a = none ∧ H a = some (.dK (ks.zip vs)) ∧ ks.length = vs.length ∧ Rps K cl G vs xs
  | .t ks xs => ∃ a vs, v = .ref a ∧ G a = none ∧ H a = some (.dT (ks.zip vs)) ∧ ks.length = vs.length ∧ Rps K cl G vs xs
  | .o b c ns xs => ∃ a vs, v = .ref a ∧ G a = none ∧ (∃ dx, H a = some (.ins (cl c) dx (ns.zip vs))) ∧ (ns.length = vs.length ∧ a = b) ∧ Rps K cl G vs xs
  | .raw u => v = u
end
theorem RL.ref {K : PySem.W.Frag} {cl : Nat → Addr} {G H : Hp} {v : V} {lv : LV} (h : RL K cl G H v lv) (o : lv.own = true) : ∃ a, v = .ref a ∧ G a = none ∧ H a ≠ none := by
  cases lv with
  | d x => cases o
  | raw u => cases o
  | l xs => obtain ⟨a, vs, e, n, q, _⟩ := h; exact ⟨a, e, n, by rw [q]; exact fun z => by cases z⟩
  | k ks xs => obtain ⟨a, vs, e, n, q, _⟩ := h; exact ⟨a, e, n, by rw [q]; exact fun z => by cases z⟩
  | t ks xs => obtain ⟨a, vs, e, n, q, _⟩ := h; exact ⟨a, e, n, by rw [q]; exact fun z => by cases z⟩
  | o b c ns xs => obtain ⟨a, vs, e, n, ⟨dx, q⟩, _⟩ := h; exact ⟨a, e, n, by rw [q]; exact fun z => by cases z⟩

/-- a store that is shared: its state, its addresses, how it lies -/
structure Sto (S : Type) where
  F : Addr → Prop
  ok : S → Hp → Prop
  al : ∀ s H a, ok s H → F a → H a ≠ none
  loc : ∀ s H H', ok s H → (∀ a, F a → H' a = H a) → ok s H'
  nt : ∀ s H a vs, ok s H → F a → H a ≠ some (.tup vs)
/-- nothing is shared -/
def Sto.no : Sto Unit := ⟨fun _ => False, fun _ _ => True, fun _ _ _ _ h => h.elim, fun _ _ _ _ _ => True.intro, fun _ _ _ _ _ h => h.elim⟩

/-- a step of an expression: the persistent heap grows at new addresses, all but the shared addresses stay -/
structure Stp {S : Type} (T : Sto S) (G H G' H' : Hp) : Prop where
  g : Le G G'
  le : Le G' H'
  gF : ∀ a, T.F a → G' a = none
  hh : ∀ a o, H a = some o → ¬ T.F a → H' a = some o
  gn : ∀ a, H a ≠ none → G' a ≠ none → G a ≠ none ∨ ∃ vs, H a = some (.tup vs)
section
variable {S : Type} {T : Sto S} {G H G1 H1 G2 H2 : Hp}
theorem Stp.refl (le : Le G H) (gF : ∀ a, T.F a → G a = none) : Stp T G H G H := ⟨Le.refl _, le, gF, fun _ _ h _ => h, fun _ _ h => .inl h⟩
theorem Stp.self (h : Stp T G H G1 H1) : Stp T G1 H1 G1 H1 := .refl h.le h.gF
theorem Stp.trans (a : Stp T G H G1 H1) (b : Stp T G1 H1 G2 H2) : Stp T G H G2 H2 := by
  refine ⟨a.g.trans b.g, b.le, b.gF, fun c o e n => b.hh c o (a.hh c o e n) n, fun c h1 h2 => ?_⟩
  have nF : ¬ T.F c := fun f => h2 (b.gF c f)
  cases e : H c with
  | none => exact absurd e h1
  | some o =>
    have e1 := a.hh c o e nF
    rcases b.gn c (by rw [e1]; exact fun z => by cases z) h2 with q | ⟨vs, q⟩
    · rcases a.gn c h1 q with z | z
      · exact .inl z
      · rw [← e]; exact .inr z
    · rw [e1] at q
      exact .inr ⟨vs, q⟩
theorem Stp.alive (a : Stp T G H G1 H1) {c : Addr} (h : H c ≠ none) (n : ¬ T.F c) : H1 c ≠ none := by
  cases e : H c with
  | none => exact absurd e h
  | some o => rw [a.hh c o e n]; exact fun z => by cases z
theorem Stp.dead (a : Stp T G H G1 H1) {c : Addr} (h : H1 c = none) (n : ¬ T.F c) : H c = none := by
  cases e : H c with
  | none => rfl
  | some o => rw [a.hh c o e n] at h; cases h
/-- a new address is given content o, and it is persistent -/
theorem Stp.new (le : Le G H) (gF : ∀ a, T.F a → G a = none) (al : ∀ a, T.F a → H a ≠ none) {p : Addr} {o : HO} (hp : H p = none) : Stp T G H (upd G p o) (upd H p o) := by
  have gp : G p = none := by
    cases e : G p with
    | none => rfl
    | some u => rw [le p u e] at hp; cases hp
  refine ⟨fun a u e => ?_, fun a u e => ?_, fun a f => ?_, fun a u e _ => ?_, fun a h1 h2 => ?_⟩
  · rw [upd_ne (ne_of_none e gp)]; exact e
  · by_cases h : a = p
    · subst h; rw [upd_same] at e ⊢; exact e
    · rw [upd_ne h] at e ⊢; exact le a u e
  · have : a ≠ p := fun z => al a f (by rw [z]; exact hp)
    rw [upd_ne this]; exact gF a f
  · rw [upd_ne (ne_of_none e hp)]; exact e
  · have : a ≠ p := fun z => h1 (by rw [z]; exact hp)
    rw [upd_ne this] at h2; exact .inl h2
/-- a new address is given content o, and it is nobody's but ours -/
theorem Stp.fresh (le : Le G H) (gF : ∀ a, T.F a → G a = none) {p : Addr} {o : HO} (hp : H p = none) : Stp T G H G (upd H p o) :=
  ⟨Le.refl _, fun a u e => by rw [upd_ne (ne_of_none (le a u e) hp)]; exact le a u e, gF, fun a u e _ => by rw [upd_ne (ne_of_none e hp)]; exact e, fun _ _ h => .inl h⟩
/-- what is ours becomes persistent -/
theorem Stp.keep (a : Stp T G H G1 H1) {p : Addr} {o : HO} (h1 : H1 p = some o) (hg : G1 p = none) (h0 : H p = none) (nF : ¬ T.F p) : Stp T G H (upd G1 p o) H1 := by
  refine ⟨fun c u e => ?_, fun c u e => ?_, fun c f => ?_, a.hh, fun c h2 h3 => ?_⟩
  · have := a.g c u e
    rw [upd_ne (ne_of_none this hg)]; exact this
  · by_cases h : c = p
    · subst h; rw [upd_same] at e; cases e; exact h1
    · rw [upd_ne h] at e; exact a.le c u e
  · have : c ≠ p := fun z => nF (by rw [← z]; exact f)
    rw [upd_ne this]; exact a.gF c f
  · have : c ≠ p := fun z => h2 (by rw [z]; exact h0)
    rw [upd_ne this] at h3; exact a.gn c h2 h3
end
theorem Sto.stays {S : Type} (T : Sto S) {s : S} {H H' : Hp} (ok : T.ok s H) (k : ∀ a o, H a = some o → H' a = some o) : T.ok s H' :=
  T.loc s H H' ok fun a f => by
    cases e : H a with
    | none => exact absurd e (T.al s H a ok f)
    | some o => exact k a o e

/-- the state at a place of a def's body: what the names hold -/
structure Lf {S : Type} (T : Sto S) (K : PySem.W.Frag) (cl : Nat → Addr) (H0 G0 G : Hp) (σ : L2.St) (H : Hp) (env : LEnv) (s : S) : Prop where
  stp : Stp T G0 H0 G H
  ok : T.ok s H
  len : σ.length = env.length
  slot : ∀ (i : Nat) (lv : LV), env[i]? = some (some lv) → ∃ v, σ[i]? = some (some v) ∧ RL K cl G H v lv
  own : ∀ (i : Nat) (lv : LV) (a : Addr), env[i]? = some (some lv) → lv.own = true → σ[i]? = some (some (.ref a)) → H0 a = none ∧ ¬ T.F a
  apart : ∀ (i j : Nat) (lv lv' : LV) (a : Addr), i ≠ j → env[i]? = some (some lv) → env[j]? = some (some lv') → lv.own = true → lv'.own = true → σ[i]? = some (some (.ref a)) → σ[j]? = some (some (.ref a)) → False
section
variable {S : Type} {T : Sto S} {K : PySem.W.Frag} {cl : Nat → Addr} {H0 G0 G G' : Hp} {σ : L2.St} {H H' : Hp} {env : LEnv} {s s' : S}
theorem Lf.le (L : Lf T K cl H0 G0 G σ H env s) : Le G H := L.stp.le
theorem Lf.gF (L : Lf T K cl H0 G0 G σ H env s) : ∀ a, T.F a → G a = none := L.stp.gF
theorem Lf.al (L : Lf T K cl H0 G0 G σ H env s) : ∀ a, T.F a → H a ≠ none := fun a f => T.al s H a L.ok f
theorem Lf.refl (L : Lf T K cl H0 G0 G σ H env s) : Stp T G H G H := .refl L.le L.gF
theorem RL.step {v : V} {lv : LV} (r : RL K cl G H v lv) (a : Stp T G H G' H') (nF : ∀ c, lv.own = true → v = .ref c → ¬ T.F c) : RL K cl G' H' v lv := by
  cases lv with
  | d x => exact Rp.mono a.g x v r
  | raw u => exact r
  | l xs =>
    obtain ⟨c, vs, e, n, q, z⟩ := r
    have f := nF c rfl e
    refine ⟨c, vs, e, ?_, a.hh c _ q f, Rps.mono a.g xs vs z⟩
    cases e' : G' c with
    | none => rfl
    | some o => exact (a.gn c (by rw [q]; exact fun z => by cases z) (by rw [e']; exact fun z => by cases z)).elim (fun z => absurd n z) fun ⟨vs, z⟩ => by rw [q] at z; cases z
  | k ks xs =>
    obtain ⟨c, vs, e, n, q, l, z⟩ := r
    have f := nF c rfl e
    refine ⟨c, vs, e, ?_, a.hh c _ q f, l, Rps.mono a.g xs vs z⟩
    cases e' : G' c with
    | none => rfl
    | some o => exact (a.gn c (by rw [q]; exact fun z => by cases z) (by rw [e']; exact fun z => by cases z)).elim (fun z => absurd n z) fun ⟨vs, z⟩ => by rw [q] at z; cases z
  | t ks xs =>
    obtain ⟨c, vs, e, n, q, l, z⟩ := r
    have f := nF c rfl e
    refine ⟨c, vs, e, ?_, a.hh c _ q f, l, Rps.mono a.g xs vs z⟩
    cases e' : G' c with
    | none => rfl
    | some o => exact (a.gn c (by rw [q]; exact fun z => by cases z) (by rw [e']; exact fun z => by cases z)).elim (fun z => absurd n z) fun ⟨vs, z⟩ => by rw [q] at z; cases z
  | o b0 c0 ns xs =>
    obtain ⟨c, vs, e, n, ⟨dx, q⟩, l, z⟩ := r
    have f := nF c rfl e
    refine ⟨c, vs, e, ?_, ⟨dx, a.hh c _ q f⟩, l, Rps.mono a.g xs vs z⟩
    cases e' : G' c with
    | none => rfl
    | some o => exact (a.gn c (by rw [q]; exact fun z => by cases z) (by rw [e']; exact fun z => by cases z)).elim (fun z => absurd n z) fun ⟨vs, z⟩ => by rw [q] at z; cases z
theorem Lf.step (L : Lf T K cl H0 G0 G σ H env s) (a : Stp T G H G' H') (ok : T.ok s' H') : Lf T K cl H0 G0 G' σ H' env s' := by
  refine ⟨L.stp.trans a, ok, L.len, fun i lv e => ?_, L.own, L.apart⟩
  obtain ⟨v, q, r⟩ := L.slot i lv e
  exact ⟨v, q, r.step a fun c o z => (L.own i lv c e o (by rw [q, z])).2⟩
/-- a name is given a value -/
theorem Lf.set (L : Lf T K cl H0 G0 G σ H env s) {i : Nat} {v : V} {lv : LV} (a : Stp T G H G' H') (ok : T.ok s' H') (r : RL K cl G' H' v lv) (fr : lv.own = true → ∀ c, v = .ref c → H c = none ∧ ¬ T.F c) :
    Lf T K cl H0 G0 G' (σ.set i (some v)) H' (env.set i (some lv)) s' := by
  have L1 := L.step a ok
  have old : ∀ (j : Nat) (lj : LV) (c : Addr), env[j]? = some (some lj) → lj.own = true → σ[j]? = some (some (.ref c)) → H c ≠ none := fun j lj c e o q => by
    obtain ⟨u, q', r'⟩ := L.slot j lj e
    rw [q] at q'; cases q'
    obtain ⟨b, e1, _, e2⟩ := r'.ref o
    cases e1; exact e2
  by_cases hi : i < env.length
  · have hi' : i < σ.length := by rw [L.len]; exact hi
    refine ⟨L1.stp, ok, by simp [L.len], fun j lj e => ?_, fun j lj c e o q => ?_, fun j k lj lk c n e1 e2 o1 o2 q1 q2 => ?_⟩
    · by_cases h : j = i
      · subst h
        rw [List.getElem?_set_self hi] at e
        cases e
        exact ⟨v, by rw [List.getElem?_set_self hi'], r⟩
      · rw [List.getElem?_set_ne (Ne.symm h)] at e ⊢
        exact L1.slot j lj e
    · by_cases h : j = i
      · subst h
        rw [List.getElem?_set_self hi] at e
        cases e
        rw [List.getElem?_set_self hi'] at q
        cases q
        obtain ⟨f1, f2⟩ := fr o c rfl
        exact ⟨L.stp.dead f1 f2, f2⟩
      · rw [List.getElem?_set_ne (Ne.symm h)] at e q
        exact L.own j lj c e o q
    · by_cases h : j = i
      · subst h
        rw [List.getElem?_set_ne n] at e2 q2
        rw [List.getElem?_set_self hi] at e1
        cases e1
        rw [List.getElem?_set_self hi'] at q1
        cases q1
        exact old k lk c e2 o2 q2 (fr o1 c rfl).1
      · rw [List.getElem?_set_ne (Ne.symm h)] at e1 q1
        by_cases h' : k = i
        · subst h'
          rw [List.getElem?_set_self hi] at e2
          cases e2
          rw [List.getElem?_set_self hi'] at q2
          cases q2
          exact old j lj c e1 o1 q1 (fr o2 c rfl).1
        · rw [List.getElem?_set_ne (Ne.symm h')] at e2 q2
          exact L.apart j k lj lk c n e1 e2 o1 o2 q1 q2
  · rw [List.set_eq_of_length_le (Nat.le_of_not_lt hi), List.set_eq_of_length_le (by rw [L.len]; exact Nat.le_of_not_lt hi)]
    exact L1
end

/-! ### readings over data -/
/-- of an expression: the names, the shared state; what is wanted of the value; of an error (its class, what) -/
abbrev W (S : Type) := LEnv → S → (LV → S → Prop) → (Nat → D → S → Prop) → Prop
abbrev WT (S : Type) := LEnv → S → (Bool → S → Prop) → (Nat → D → S → Prop) → Prop
abbrev WA (S : Type) := LEnv → S → (List LV → S → Prop) → (Nat → D → S → Prop) → Prop
structure ED (S : Type) where
  nx : LEnv → S → Prop
  rt : LV → S → Prop
  bk : LEnv → S → Prop
  ct : LEnv → S → Prop
  xn : LEnv → Nat → D → S → Prop
abbrev WS (S : Type) := ED S → LEnv → S → Prop

/-- the surroundings of a body's readings -/
structure Bd (S : Type) where
  cl : Nat → Addr
  xl : Nat → Addr
  T : Sto S
  H0 : Hp
  G0 : Hp
  Wx : WX
section
variable {S : Type} (K : PySem.W.Frag) (B : Bd S)
/-- an error of the class c with what d lies at dd -/
def XnOk (G H : Hp) (σ : L2.St) (N : Nat → D → S → Prop) : Prop :=
  ∀ c d s', N c d s' → ∀ G' H' dd v, Stp B.T G H G' H' → B.T.ok s' H' → H' dd = some (.xd [("what", v)]) → Rp K B.cl G' v d → B.Wx (.ref (B.xl c)) (some dd) σ H'
def tl (w : W S) : TE := fun σ H Q => ∃ G env s P N, Lf B.T K B.cl B.H0 B.G0 G σ H env s ∧ w env s P N ∧
  (∀ lv s', P lv s' → ∀ v G' H', Stp B.T G H G' H' → B.T.ok s' H' → RL K B.cl G' H' v lv → (lv.own = true → ∀ a, v = .ref a → H a = none ∧ ¬ B.T.F a) → Q v H') ∧ XnOk K B G H σ N
/-- .. that may be a name's own list -/
def tlb (w : W S) : TE := fun σ H Q => ∃ G env s P N, Lf B.T K B.cl B.H0 B.G0 G σ H env s ∧ w env s P N ∧
  (∀ lv s', P lv s' → ∀ v G' H', Stp B.T G H G' H' → B.T.ok s' H' → RL K B.cl G' H' v lv → (lv.own = true → ∀ a, v = .ref a → ¬ B.T.F a) → Q v H') ∧ XnOk K B G H σ N
def tlt (w : WT S) : TT := fun σ H Q => ∃ G env s P N, Lf B.T K B.cl B.H0 B.G0 G σ H env s ∧ w env s P N ∧
  (∀ b s', P b s' → ∀ G' H', Stp B.T G H G' H' → B.T.ok s' H' → Q b H') ∧ XnOk K B G H σ N
/-- the values of arguments: none is ours alone any more -/
inductive RLs (K : PySem.W.Frag) (cl : Nat → Addr) (G H : Hp) : List V → List LV → Prop
  | nil : RLs K cl G H [] []
  | cons {v : V} {vs : List V} {lv : LV} {lvs : List LV} : RL K cl G H v lv → lv.own = false → RLs K cl G H vs lvs → RLs K cl G H (v :: vs) (lv :: lvs)
def tla (w : WA S) : TA := fun σ H Q => ∃ G env s P N, Lf B.T K B.cl B.H0 B.G0 G σ H env s ∧ w env s P N ∧
  (∀ lvs s', P lvs s' → ∀ vs G' H', Stp B.T G H G' H' → B.T.ok s' H' → RLs K B.cl G' H' vs lvs → Q vs H') ∧ XnOk K B G H σ N
structure Rel (G : Hp) (M : ED S) (E : Ends) : Prop where
  nx : ∀ G' σ' H' env' s', Le G G' → Lf B.T K B.cl B.H0 B.G0 G' σ' H' env' s' → M.nx env' s' → E.nx σ' H'
  rt : ∀ lv s', M.rt lv s' → ∀ v G' H', Stp B.T B.G0 B.H0 G' H' → B.T.ok s' H' → RL K B.cl G' H' v lv → (lv.own = true → ∀ a, v = .ref a → B.H0 a = none ∧ ¬ B.T.F a) → E.rt v H'
  bk : ∀ G' σ' H' env' s', Le G G' → Lf B.T K B.cl B.H0 B.G0 G' σ' H' env' s' → M.bk env' s' → E.bk σ' H'
  ct : ∀ G' σ' H' env' s', Le G G' → Lf B.T K B.cl B.H0 B.G0 G' σ' H' env' s' → M.ct env' s' → E.ct σ' H'
  xn : ∀ G' σ' H' env' s', Le G G' → Lf B.T K B.cl B.H0 B.G0 G' σ' H' env' s' → XnOk K B G' H' σ' (M.xn env')
def ts (w : WS S) : TS := fun E σ H => ∃ G env s M, Lf B.T K B.cl B.H0 B.G0 G σ H env s ∧ w M env s ∧ Rel K B G M E
end
end DL
/-! DL2: rules of expressions over data. -/
namespace DL
open PySem PySem.Spec PyProof.Rows L2

section
variable {X : Cx}
theorem imp {e : Expr} {t t' : TE} (h : PE X e t) (k : ∀ σ H Q, t' σ H Q → t σ H Q) : PE X e t' := ⟨fun pins s σ H Q I q => h.run pins s σ H Q I (k σ H Q q)⟩
theorem impT {e : Expr} {t t' : TT} (h : PT X e t) (k : ∀ σ H Q, t' σ H Q → t σ H Q) : PT X e t' := ⟨fun pins s σ H Q I q => h.run pins s σ H Q I (k σ H Q q)⟩
theorem impA {es : List Expr} {t t' : TA} (h : PA X es t) (k : ∀ σ H Q, t' σ H Q → t σ H Q) : PA X es t' := ⟨fun pos pins s σ H Q I q => h.run pos pins s σ H Q I (k σ H Q q)⟩
theorem impS {st : Stmt} {t t' : TS} (h : PS X st t) (k : ∀ E σ H, t' E σ H → t E σ H) : PS X st t' := ⟨fun pins s σ H E I q => h.run pins s σ H E I (k E σ H q)⟩
theorem impSs {st : List Stmt} {t t' : TS} (h : PSs X st t) (k : ∀ E σ H, t' E σ H → t E σ H) : PSs X st t' := ⟨fun pins s σ H E I q => h.run pins s σ H E I (k E σ H q)⟩
end

section
variable {S : Type} {K : PySem.W.Frag} {B : Bd S}
theorem XnOk.step {G H G1 H1 : Hp} {σ : L2.St} {N : Nat → D → S → Prop} (h : XnOk K B G H σ N) (a : Stp B.T G H G1 H1) : XnOk K B G1 H1 σ N :=
  fun c d s' n G' H' dd v b ok e r => h c d s' n G' H' dd v (a.trans b) ok e r
/-- a value that is ours alone if it is a list or dict: as one that may be a name's own -/
theorem tl_of_tlb {w : W S} {σ : L2.St} {H : Hp} {Q : VK} (h : tlb K B w σ H Q) : tl K B w σ H Q := by
  obtain ⟨G, env, s, P, N, L, w', c, n⟩ := h
  exact ⟨G, env, s, P, N, L, w', fun lv s' p v G' H' a ok r o => c lv s' p v G' H' a ok r fun z a e => (o z a e).2, n⟩
theorem wb {X : Cx} {e : Expr} {w : W S} (h : PE X e (tl X.K B w)) : PE X e (tlb X.K B w) := imp h fun _ _ _ q => tl_of_tlb q

/-! ### constants, names -/
def wC (x : D) : W S := fun _ s P _ => P (.d x) s
theorem we_lit {X : Cx} {e : Expr} {v : V} {x : D} (h : PE X e (tC v)) (r : ∀ G, Rp X.K B.cl G v x) : PE X e (tl X.K B (wC x)) :=
  imp h fun σ H Q ⟨G, env, s, P, N, L, w, c, _⟩ => c _ _ w v G H L.refl L.ok (r G) (fun o => by cases o)
theorem we_int {X : Cx} {i : Int} {j pos} : PE X (.Constant (.int i) j pos) (tl X.K B (wC (.int i))) := we_lit pe_int fun _ => .int i
theorem we_bl {X : Cx} {b : Bool} {j pos} : PE X (.Constant (.bool b) j pos) (tl X.K B (wC (.bl b))) := we_lit pe_bl fun _ => .bl b
theorem we_non {X : Cx} {j pos} : PE X (.Constant .none j pos) (tl X.K B (wC .non)) := we_lit pe_non fun _ => .non
theorem we_str {X : Cx} {x : Str} {j pos} : PE X (.Constant (.str x) j pos) (tl X.K B (wC (.str x))) := we_lit pe_str fun _ => .str x
/-- a name that holds data -/
def wV (i : Nat) : W S := fun env s P _ => match env.at i with
  | some (.d x) => P (.d x) s
  | some (.raw v) => P (.raw v) s
  | _ => False
theorem we_v {X : Cx} {e : Expr} {i : Nat} (h : PE X e (tVar i)) : PE X e (tl X.K B (wV i)) := imp h fun σ H Q ⟨G, env, s, P, N, L, w, c, _⟩ => by
  unfold wV at w
  cases e : LEnv.at env i with
  | none => rw [e] at w; exact w.elim
  | some lv =>
    rw [e] at w
    obtain ⟨v, q, r⟩ := L.slot i lv (LEnv.at_get e)
    cases lv with
    | d x => exact ⟨v, q, c _ _ w v G H L.refl L.ok r (fun o => by cases o)⟩
    | raw u => exact ⟨v, q, c _ _ w v G H L.refl L.ok r (fun o => by cases o)⟩
    | _ => exact w.elim
/-- a name, whatever it holds -/
def wVb (i : Nat) : W S := fun env s P _ => match env.at i with
  | some lv => P lv s
  | none => False
theorem wb_v {X : Cx} {e : Expr} {i : Nat} (h : PE X e (tVar i)) : PE X e (tlb X.K B (wVb i)) := imp h fun σ H Q ⟨G, env, s, P, N, L, w, c, _⟩ => by
  unfold wVb at w
  cases e : LEnv.at env i with
  | none => rw [e] at w; exact w.elim
  | some lv =>
    rw [e] at w
    obtain ⟨v, q, r⟩ := L.slot i lv (LEnv.at_get e)
    exact ⟨v, q, c _ _ w v G H L.refl L.ok r fun o a z => (L.own i lv a (LEnv.at_get e) o (by rw [q, z])).2⟩

/-! ### two-place operations -/
def OpS (T : Sto S) (K : PySem.W.Frag) (cl : Nat → Addr) (r : R2) (f : LV → LV → (LV → Prop) → Prop) : Prop :=
  ∀ (s : S) (G H : Hp) (x y : V) (lx ly : LV) (Q : VK) (P : LV → Prop), Le G H → (∀ a, T.F a → G a = none) → T.ok s H → RL K cl G H x lx → RL K cl G H y ly → f lx ly P →
    (∀ lz v G' H', P lz → Stp T G H G' H' → T.ok s H' → RL K cl G' H' v lz → (lz.own = true → ∀ a, v = .ref a → H a = none ∧ ¬ T.F a) → Q v H') → r x y H Q
def wOp (f : LV → LV → (LV → Prop) → Prop) (wa wb : W S) : W S := fun env s P N => wa env s (fun x s1 => wb env s1 (fun y s2 => f x y fun z => P z s2) N) N
theorem tOp_le {r : R2} {f : LV → LV → (LV → Prop) → Prop} {wa wb : W S} (hs : OpS B.T K B.cl r f) {σ : L2.St} {H : Hp} {Q : VK} (h : tl K B (wOp f wa wb) σ H Q) : tOp r (tlb K B wa) (tlb K B wb) σ H Q := by
  obtain ⟨G, env, s, P, N, L, w, c, n⟩ := h
  refine ⟨G, env, s, _, N, L, w, fun lx s1 w1 x G1 H1 a1 ok1 r1 o1 => ?_, n⟩
  refine ⟨G1, env, s1, _, N, L.step a1 ok1, w1, fun ly s2 w2 y G2 H2 a2 ok2 r2 o2 => ?_, n.step a1⟩
  refine hs s2 G2 H2 x y lx ly Q _ a2.le a2.gF ok2 (r1.step a2 fun c o e => o1 o c e) r2 w2 fun lz v G3 H3 p a3 ok3 r3 o3 => ?_
  refine c lz s2 p v G3 H3 ((a1.trans a2).trans a3) ok3 r3 fun o a e => ?_
  obtain ⟨f1, f2⟩ := o3 o a e
  exact ⟨(a1.trans a2).dead f1 f2, f2⟩
theorem we_op {X : Cx} {a b : Expr} {op : Operator} {pos : Pos} {r : R2} {f : LV → LV → (LV → Prop) → Prop} {wa wb : W S} (ho : OpR X (binaryOp op) r) (hs : OpS B.T X.K B.cl r f) (ha : PE X a (tlb X.K B wa)) (hb : PE X b (tlb X.K B wb)) :
    PE X (.BinOp a op b pos) (tl X.K B (wOp f wa wb)) := imp (pe_op ho ha hb) fun _ _ _ h => tOp_le hs h
theorem we_cmp {X : Cx} {a b : Expr} {op : CmpOp} {pos : Pos} {r : R2} {f : LV → LV → (LV → Prop) → Prop} {wa wb : W S} (ho : OpR X (compareOp op) r) (hs : OpS B.T X.K B.cl r f) (ha : PE X a (tlb X.K B wa)) (hb : PE X b (tlb X.K B wb))
    (hm : behindInMarks op b = false) : PE X (.Compare a [op] [b] pos) (tl X.K B (wOp f wa wb)) := imp (pe_cmpR ho ha hb hm) fun _ _ _ h => tOp_le hs h
theorem we_ix {X : Cx} {a b : Expr} {pos : Pos} {r : R2} {f : LV → LV → (LV → Prop) → Prop} {wa wb : W S} (ho : IxR X r) (hs : OpS B.T X.K B.cl r f) (ha : PE X a (tlb X.K B wa)) (hb : PE X b (tlb X.K B wb))
    (hm : PlainIx b) : PE X (.Subscript a b pos) (tl X.K B (wOp f wa wb)) := imp (pe_ix ho ha hb hm) fun _ _ _ h => tOp_le hs h
/-- of two rules for one operation the one whose reading holds -/
theorem OpS.or1 {T : Sto S} {cl : Nat → Addr} {r r' : R2} {f : LV → LV → (LV → Prop) → Prop} (h : OpS T K cl r f) : OpS T K cl (fun x y H Q => r x y H Q ∨ r' x y H Q) f :=
  fun s G H x y lx ly Q P a b c d e g k => .inl (h s G H x y lx ly Q P a b c d e g k)
theorem OpS.or2 {T : Sto S} {cl : Nat → Addr} {r r' : R2} {f : LV → LV → (LV → Prop) → Prop} (h : OpS T K cl r' f) : OpS T K cl (fun x y H Q => r x y H Q ∨ r' x y H Q) f :=
  fun s G H x y lx ly Q P a b c d e g k => .inr (h s G H x y lx ly Q P a b c d e g k)
end

/-! ### what a value is, seen as data -/
/-- the items of a list or tuple -/
def LV.seq : LV → Option (List D)
  | .d (.tup xs) => some xs
  | .d (.tupK xs) => some xs
  | .d (.lst xs) => some xs
  | .l xs => some xs
  | _ => none
def LV.lis : LV → Option (List D)
  | .d (.lst xs) => some xs
  | .l xs => some xs
  | _ => none
def LV.tpl : LV → Option (List D)
  | .d (.tup xs) => some xs
  | .d (.tupK xs) => some xs
  | _ => none
def LV.int? : LV → Option Int
  | .d (.int i) => some i
  | _ => none
def LV.str? : LV → Option Str
  | .d (.str i) => some i
  | _ => none
theorem LV.int_eq {lv : LV} {i : Int} (h : lv.int? = some i) : lv = .d (.int i) := by
  cases lv with
  | d x => cases x <;> first | (cases h; rfl) | cases h
  | _ => cases h
theorem LV.str_eq {lv : LV} {i : Str} (h : lv.str? = some i) : lv = .d (.str i) := by
  cases lv with
  | d x => cases x <;> first | (cases h; rfl) | cases h
  | _ => cases h
section
variable {K : PySem.W.Frag} {cl : Nat → Addr} {G H : Hp} {v : V} {lv : LV} {xs : List D}
theorem RL.is_int {i : Int} (r : RL K cl G H v (.d (.int i))) : v = .int i := by cases r; rfl
theorem RL.is_str {i : Str} (r : RL K cl G H v (.d (.str i))) : v = .str i := by cases r; rfl
theorem RL.lis (r : RL K cl G H v lv) (le : Le G H) (h : lv.lis = some xs) : ∃ a vs, v = .ref a ∧ H a = some (.lst vs) ∧ Rps K cl G vs xs := by
  cases lv with
  | d x =>
    cases x with
    | lst ys =>
      cases h
      cases r with
      | lst h1 h2 => exact ⟨_, _, rfl, le _ _ h1, h2⟩
    | _ => cases h
  | l ys =>
    cases h
    obtain ⟨a, vs, e, _, q, z⟩ := r
    exact ⟨a, vs, e, q, z⟩
  | _ => cases h
theorem RL.tpl (r : RL K cl G H v lv) (le : Le G H) (h : lv.tpl = some xs) : ∃ a vs, v = .ref a ∧ SqT K H a vs ∧ Rps K cl G vs xs := by
  cases lv with
  | d x =>
    cases x with
    | tup ys =>
      cases h
      cases r with
      | tup h1 h2 => exact ⟨_, _, rfl, .of (le _ _ h1), h2⟩
    | tupK ys =>
      cases h
      cases r with
      | tupK h1 h2 => exact ⟨_, _, rfl, sqT_le h1 (fun a o z => by cases z), h2⟩
    | _ => cases h
  | _ => cases h
theorem RL.seq (r : RL K cl G H v lv) (le : Le G H) (h : lv.seq = some xs) : ∃ a vs, v = .ref a ∧ (SqL K H a vs ∨ SqT K H a vs) ∧ Rps K cl G vs xs := by
  cases lv with
  | d x =>
    cases x with
    | tup ys => obtain ⟨a, vs, e, q, z⟩ := r.tpl le h; exact ⟨a, vs, e, .inr q, z⟩
    | tupK ys => obtain ⟨a, vs, e, q, z⟩ := r.tpl le h; exact ⟨a, vs, e, .inr q, z⟩
    | lst ys => obtain ⟨a, vs, e, q, z⟩ := r.lis le h; exact ⟨a, vs, e, .inl (.of q), z⟩
    | _ => cases h
  | l ys => obtain ⟨a, vs, e, q, z⟩ := r.lis le h; exact ⟨a, vs, e, .inl (.of q), z⟩
  | _ => cases h
end

/-! ### arithmetic, + -/
/-- two ints under C -/
def iiF (C : Int → Int → Prop) (g : Int → Int → D) : LV → LV → (LV → Prop) → Prop := fun x y P => match x, y with
  | .d (.int i), .d (.int j) => C i j ∧ P (.d (g i j))
  | _, _ => False
def ii0 (g : Int → Int → D) : LV → LV → (LV → Prop) → Prop := fun x y P => match x, y with
  | .d (.int i), .d (.int j) => P (.d (g i j))
  | _, _ => False
section
variable {S : Type} {T : Sto S} {K : PySem.W.Frag} {cl : Nat → Addr}
theorem ii_ok {C : Int → Int → Prop} {g : Int → Int → V} {d : Int → Int → D} (r : ∀ G i j, Rp K cl G (g i j) (d i j)) : OpS T K cl (rI C g) (iiF C d) := by
  intro s G H x y lx ly Q P le gF ok rx ry h q
  unfold iiF at h
  split at h
  · cases rx; cases ry
    exact ⟨_, _, rfl, rfl, h.1, q _ _ G H h.2 (.refl le gF) ok (r G _ _) (fun o => by cases o)⟩
  · exact h.elim
theorem ii0_ok {g : Int → Int → V} {d : Int → Int → D} (r : ∀ G i j, Rp K cl G (g i j) (d i j)) : OpS T K cl (rI0 g) (ii0 d) := by
  intro s G H x y lx ly Q P le gF ok rx ry h q
  unfold ii0 at h
  split at h
  · cases rx; cases ry
    exact ⟨_, _, rfl, rfl, q _ _ G H h (.refl le gF) ok (r G _ _) (fun o => by cases o)⟩
  · exact h.elim
end
def subF := ii0 fun i j => .int (i - j)
def modF := iiF (fun _ j => 0 < j) fun i j => .int (i % j)
def fdivF := iiF CDiv fun i j => .int (i / j)
def mulF := iiF CMul fun i j => .int (i * j)
def ltI := ii0 fun i j => .bl (decide (i < j))
def leI := ii0 fun i j => .bl (decide (i ≤ j))
def gtI := ii0 fun i j => .bl (decide (j < i))
def geI := ii0 fun i j => .bl (decide (j ≤ i))
section
variable {S : Type} {B : Bd S} {X : Cx} {a b : Expr} {pos : Pos} {wa wb : W S}
theorem we_sub (ha : PE X a (tlb X.K B wa)) (hb : PE X b (tlb X.K B wb)) : PE X (.BinOp a .Sub b pos) (tl X.K B (wOp subF wa wb)) := we_op op_sub (ii0_ok fun _ _ _ => .int _) ha hb
theorem we_mod (ha : PE X a (tlb X.K B wa)) (hb : PE X b (tlb X.K B wb)) : PE X (.BinOp a .Mod b pos) (tl X.K B (wOp modF wa wb)) := we_op op_mod (ii_ok fun _ _ _ => .int _) ha hb
theorem we_fdiv (ha : PE X a (tlb X.K B wa)) (hb : PE X b (tlb X.K B wb)) : PE X (.BinOp a .FloorDiv b pos) (tl X.K B (wOp fdivF wa wb)) := we_op op_fdiv (ii_ok fun _ _ _ => .int _) ha hb
theorem we_mul (ha : PE X a (tlb X.K B wa)) (hb : PE X b (tlb X.K B wb)) : PE X (.BinOp a .Mult b pos) (tl X.K B (wOp mulF wa wb)) := we_op op_mul (ii_ok fun _ _ _ => .int _) ha hb
theorem we_ltI (ha : PE X a (tlb X.K B wa)) (hb : PE X b (tlb X.K B wb)) : PE X (.Compare a [.Lt] [b] pos) (tl X.K B (wOp ltI wa wb)) := we_cmp op_lt (ii0_ok fun _ _ _ => .bl _) ha hb (nomark _)
theorem we_leI (ha : PE X a (tlb X.K B wa)) (hb : PE X b (tlb X.K B wb)) : PE X (.Compare a [.LtE] [b] pos) (tl X.K B (wOp leI wa wb)) := we_cmp op_le (ii0_ok fun _ _ _ => .bl _) ha hb (nomark _)
theorem we_gtI (ha : PE X a (tlb X.K B wa)) (hb : PE X b (tlb X.K B wb)) : PE X (.Compare a [.Gt] [b] pos) (tl X.K B (wOp gtI wa wb)) := we_cmp op_gt (ii0_ok fun _ _ _ => .bl _) ha hb (nomark _)
theorem we_geI (ha : PE X a (tlb X.K B wa)) (hb : PE X b (tlb X.K B wb)) : PE X (.Compare a [.GtE] [b] pos) (tl X.K B (wOp geI wa wb)) := we_cmp op_ge (ii0_ok fun _ _ _ => .bl _) ha hb (nomark _)
end

/-- x + y: ints, texts, tuples, lists -/
def addF : LV → LV → (LV → Prop) → Prop := fun x y P => match x, y with
  | .d (.int i), .d (.int j) => P (.d (.int (i + j)))
  | .d (.str i), .d (.str j) => i.length + j.length ≤ sizeLine ∧ P (.d (.str (i ++ j)))
  | .d (.tup xs), .d (.tup ys) => xs.length + ys.length ≤ sizeLine ∧ P (.d (.tup (xs ++ ys)))
  | .d (.tupK xs), .d (.tup ys) => (xs = [] ∨ ys ≠ []) ∧ xs.length + ys.length ≤ sizeLine ∧ P (.d (.tup (xs ++ ys)))
  | .l xs, .l ys => xs.length + ys.length ≤ sizeLine ∧ P (.l (xs ++ ys))
  | .l xs, .d (.lst ys) => xs.length + ys.length ≤ sizeLine ∧ P (.l (xs ++ ys))
  | .d (.lst xs), .l ys => xs.length + ys.length ≤ sizeLine ∧ P (.l (xs ++ ys))
  | .d (.lst xs), .d (.lst ys) => xs.length + ys.length ≤ sizeLine ∧ P (.l (xs ++ ys))
  | _, _ => False
theorem rps_nil {K : PySem.W.Frag} {cl : Nat → Addr} {G : Hp} {vs : List V} {xs : List D} (r : Rps K cl G vs xs) (h : vs = []) : xs = [] := by subst h; cases r; rfl
section
variable {S : Type} {T : Sto S} {K : PySem.W.Frag} {cl : Nat → Addr} {G H : Hp}
theorem cat_lists {Q : VK} {P : LV → Prop} {s : S} {x y : V} {lx ly : LV} {xs ys : List D} (le : Le G H) (gF : ∀ a, T.F a → G a = none) (ok : T.ok s H) (rx : RL K cl G H x lx) (ry : RL K cl G H y ly) (hx : lx.lis = some xs) (hy : ly.lis = some ys)
    (hz : xs.length + ys.length ≤ sizeLine) (p : P (.l (xs ++ ys)))
    (q : ∀ lz v G' H', P lz → Stp T G H G' H' → T.ok s H' → RL K cl G' H' v lz → (lz.own = true → ∀ a, v = .ref a → H a = none ∧ ¬ T.F a) → Q v H') : rCat x y H Q := by
  obtain ⟨a, vs, rfl, ha, ra⟩ := rx.lis le hx
  obtain ⟨b, ws, rfl, hb, rb⟩ := ry.lis le hy
  refine ⟨a, b, vs, ws, rfl, rfl, ha, hb, by rw [ra.length, rb.length]; exact hz, fun c hc => ?_⟩
  have gc : G c = none := by
    cases e : G c with
    | none => rfl
    | some u => rw [le c u e] at hc; cases hc
  refine q _ _ G _ p (.fresh le gF hc) (T.stays ok fun d o e => by rw [upd_ne (ne_of_none e hc)]; exact e) ⟨c, _, rfl, gc, upd_same, ra.append rb⟩ fun _ d e => ?_
  cases e
  exact ⟨hc, fun f => T.al s H c ok f hc⟩
theorem cat_tups {Q : VK} {P : LV → Prop} {s : S} {a b : Addr} {vs ws : List V} {lx : LV} {xs ys : List D} (le : Le G H) (gF : ∀ a, T.F a → G a = none) (ok : T.ok s H) (ha : SqT K H a vs) (ra : Rps K cl G vs xs) (hb : G b = some (.tup ws)) (rb : Rps K cl G ws ys)
    (hl : ws = [] → vs ≠ [] → RL K cl G H (.ref a) (.d (.tup xs))) (hz : xs.length + ys.length ≤ sizeLine) (p : P (.d (.tup (xs ++ ys))))
    (q : ∀ lz v G' H', P lz → Stp T G H G' H' → T.ok s H' → RL K cl G' H' v lz → (lz.own = true → ∀ a, v = .ref a → H a = none ∧ ¬ T.F a) → Q v H') : rCatA K (.ref a) (.ref b) H Q := by
  refine ⟨a, b, vs, ws, rfl, rfl, ha, .of (le _ _ hb), by rw [ra.length, rb.length]; exact hz, fun e => ?_, fun n e => ?_, fun _ _ c hc => ?_⟩
  · have := rps_nil ra e
    subst this
    exact q _ _ G H p (.refl le gF) ok (.tup hb rb) (fun o => by cases o)
  · have := rps_nil rb e
    subst this
    rw [List.append_nil] at p
    exact q _ _ G H p (.refl le gF) ok (hl e n) (fun o => by cases o)
  · refine q _ _ _ _ p (.new le gF (fun d f => T.al s H d ok f) hc) (T.stays ok fun d o e => by rw [upd_ne (ne_of_none e hc)]; exact e) ?_ (fun o => by cases o)
    have k : Le G (upd G c (.tup (vs ++ ws))) := fun d o e => by rw [upd_ne (ne_of_none (le d o e) hc)]; exact e
    exact .tup upd_same ((Rps.mono k _ _ ra).append (Rps.mono k _ _ rb))
end
def rAll (K : PySem.W.Frag) : R2 := fun x y H Q => rI0 (fun i j => .int (i + j)) x y H Q ∨ (∃ i j, x = .str i ∧ y = .str j ∧ i.length + j.length ≤ sizeLine ∧ Q (.str (i ++ j)) H) ∨ rCatA K x y H Q ∨ rCat x y H Q
theorem op_addAll {X : Cx} : OpR X (binaryOp .Add) (rAll X.K) := op_add.or (op_add_str.or (op_catA.or op_cat))
theorem add_ok {S : Type} {T : Sto S} {K : PySem.W.Frag} {cl : Nat → Addr} : OpS T K cl (rAll K) addF := by
  intro s G H x y lx ly Q P le gF ok rx ry h q
  unfold addF at h
  split at h
  · cases rx; cases ry
    exact .inl ⟨_, _, rfl, rfl, q _ _ G H h (.refl le gF) ok (Rp.int _) (fun o => by cases o)⟩
  · cases rx; cases ry
    exact .inr (.inl ⟨_, _, rfl, rfl, h.1, q _ _ G H h.2 (.refl le gF) ok (Rp.str _) (fun o => by cases o)⟩)
  · cases rx with
    | tup h1 h2 =>
      cases ry with
      | tup h3 h4 =>
        refine .inr (.inr (.inl (cat_tups le gF ok (.of (le _ _ h1)) h2 h3 h4 (lx := .d .non) (fun _ _ => .tup h1 h2) h.1 h.2 q)))
  · rename_i xs ys
    cases rx with
    | tupK h1 h2 =>
      cases ry with
      | tup h3 h4 =>
        rename_i a vs b ws
        refine .inr (.inr (.inl (cat_tups le gF ok (sqT_le h1 (fun a o z => by cases z)) h2 h3 h4 (lx := .d .non) (fun z n => ?_) h.2.1 h.2.2 q)))
        rcases h.1 with e | e
        · subst e; cases h2; exact absurd rfl n
        · subst z; cases h4; exact absurd rfl e
  all_goals first
    | exact h.elim
    | exact .inr (.inr (.inr (cat_lists le gF ok rx ry rfl rfl h.1 h.2 q)))
theorem we_add {S : Type} {B : Bd S} {X : Cx} {a b : Expr} {pos : Pos} {wa wb : W S} (ha : PE X a (tlb X.K B wa)) (hb : PE X b (tlb X.K B wb)) : PE X (.BinOp a .Add b pos) (tl X.K B (wOp addF wa wb)) := we_op op_addAll add_ok ha hb
end DL
/-! DL3: comparisons, in, isinstance, len, items, displays, tests. -/
namespace DL
open PySem PySem.Spec PyProof.Rows L2

/-! ### == -/
def sEq : D → D → Option Bool
  | .non, .non => some true
  | .bl a, .bl b => some (decide (a = b))
  | .int a, .int b => some (decide (a = b))
  | .str a, .str b => some (decide (a = b))
  | .non, .int _ => some false | .int _, .non => some false | .non, .bl _ => some false | .bl _, .non => some false
  | .non, .str _ => some false | .str _, .non => some false | .int _, .str _ => some false | .str _, .int _ => some false
  | .bl _, .str _ => some false | .str _, .bl _ => some false
  | _, _ => none
mutual
def D.py : D → Option PyData
  | .non => some .none
  | .bl b => some (.bool b)
  | .int i => some (.int i)
  | .str x => some (.str x)
  | .tup xs => (D.pys xs).map .tuple
  | .tupK xs => (D.pys xs).map .tuple
  | .lst xs => (D.pys xs).map .list
  | .dK _ _ => none
  | .dT _ _ => none
  | .ins _ _ _ => none
def D.pys : List D → Option (List PyData)
  | [] => some []
  | x :: xs => match D.py x, D.pys xs with
    | some p, some ps => some (p :: ps)
    | _, _ => none
end
def LV.py : LV → Option PyData
  | .d x => x.py
  | .l xs => (D.pys xs).map .list
  | _ => none
section
variable {K : PySem.W.Frag} {cl : Nat → Addr} {G H : Hp}
mutual
theorem Rp.dp (le : Le G H) : ∀ (d : D) (v : V) (p : PyData), Rp K cl G v d → d.py = some p → Dp K H v p
  | .non, _, _, h, e => by cases h; cases e; exact .non
  | .bl b, _, _, h, e => by cases h; cases e; exact .bl b
  | .int i, _, _, h, e => by cases h; cases e; exact .int i
  | .str x, _, _, h, e => by cases h; cases e; exact .str x
  | .tup xs, _, p, h, e => by
    cases h with
    | tup h1 h2 =>
      obtain ⟨ps, e1, e2⟩ := Option.map_eq_some_iff.mp (show (D.pys xs).map _ = some p from e)
      subst e2
      exact .tup (.of (le _ _ h1)) (Rps.dp le xs _ ps h2 e1)
  | .tupK xs, _, p, h, e => by
    cases h with
    | tupK h1 h2 =>
      obtain ⟨ps, e1, e2⟩ := Option.map_eq_some_iff.mp (show (D.pys xs).map _ = some p from e)
      subst e2
      exact .tup (sqT_le h1 (fun a o z => by cases z)) (Rps.dp le xs _ ps h2 e1)
  | .lst xs, _, p, h, e => by
    cases h with
    | lst h1 h2 =>
      obtain ⟨ps, e1, e2⟩ := Option.map_eq_some_iff.mp (show (D.pys xs).map _ = some p from e)
      subst e2
      exact .lst (.of (le _ _ h1)) (Rps.dp le xs _ ps h2 e1)
  | .dK ks xs, _, _, h, e => by cases e
  | .dT ks xs, _, _, h, e => by cases e
  | .ins c ns xs, _, _, h, e => by cases e
theorem Rps.dp (le : Le G H) : ∀ (ds : List D) (vs : List V) (ps : List PyData), Rps K cl G vs ds → D.pys ds = some ps → DpAll K H vs ps
  | [], _, _, h, e => by cases h; cases e; exact .nil
  | d :: ds, _, ps, h, e => by
    cases h with
    | cons h1 h2 =>
      unfold D.pys at e
      cases e1 : D.py d with
      | none => rw [e1] at e; cases e
      | some p =>
        cases e2 : D.pys ds with
        | none => rw [e1, e2] at e; cases e
        | some qs =>
          rw [e1, e2] at e
          cases e
          exact .cons (Rp.dp le d _ p h1 e1) (Rps.dp le ds _ qs h2 e2)
end
theorem RL.dp {v : V} {lv : LV} {p : PyData} (r : RL K cl G H v lv) (le : Le G H) (e : lv.py = some p) : Dp K H v p := by
  cases lv with
  | d x => exact Rp.dp le x v p r e
  | l xs =>
    obtain ⟨a, vs, rfl, _, q, z⟩ := r
    obtain ⟨ps, e1, e2⟩ := Option.map_eq_some_iff.mp (show (D.pys xs).map _ = some p from e)
    subst e2
    exact .lst (.of q) (Rps.dp le xs _ ps z e1)
  | _ => cases e
end
/-- x == y, x != y (b: turned) -/
def eqF (n : Bool) : LV → LV → (LV → Prop) → Prop := fun x y P => match x, y with
  | .d a, .d b => match sEq a b with
    | some k => P (.d (.bl (if n then !k else k)))
    | none => match a.py, b.py with
      | some p, some q => SeqAt.shaped p = true ∧ SeqAt.shaped q = true ∧ P (.d (.bl (if n then !PyData.eqv p q else PyData.eqv p q)))
      | _, _ => False
  | a, b => match a.py, b.py with
    | some p, some q => SeqAt.shaped p = true ∧ SeqAt.shaped q = true ∧ P (.d (.bl (if n then !PyData.eqv p q else PyData.eqv p q)))
    | _, _ => False
def rEqA (K : PySem.W.Frag) : R2 := fun x y H Q => rEq x y H Q ∨ rEqD K x y H Q
def rNeA (K : PySem.W.Frag) : R2 := fun x y H Q => rNe x y H Q ∨ rNeD K x y H Q
theorem op_eqA {X : Cx} (hu : X.A.units + 64 < cLine) : OpR X (compareOp .Eq) (rEqA X.K) := op_eq.or (op_eqD hu)
theorem op_neA {X : Cx} (hu : X.A.units + 64 < cLine) : OpR X (compareOp .NotEq) (rNeA X.K) := op_ne.or (op_neD hu)
section
variable {S : Type} {T : Sto S} {K : PySem.W.Frag} {cl : Nat → Addr} {G : Hp}
theorem sEq_ok {a b : D} {x y : V} {k : Bool} (ha : Rp K cl G x a) (hb : Rp K cl G y b) (e : sEq a b = some k) : scal x y = true ∧ decide (x = y) = k := by
  cases a <;> cases b <;> first
    | (cases e; done)
    | (cases ha; cases hb; cases e; constructor; rfl; first | rfl | simp)
theorem eq_ok : OpS T K cl (rEqA K) (eqF false) := by
  intro s G H x y lx ly Q P le gF ok rx ry h q
  unfold eqF at h
  split at h
  · split at h
    · rename_i k e
      obtain ⟨e1, e2⟩ := sEq_ok rx ry e
      exact .inl ⟨e1, q _ _ G H h (.refl le gF) ok (by rw [e2]; exact Rp.bl _) (fun o => by cases o)⟩
    · split at h
      · rename_i p p' e1 e2
        exact .inr ⟨p, p', Rp.dp le _ _ _ rx e1, Rp.dp le _ _ _ ry e2, h.1, h.2.1, q _ _ G H h.2.2 (.refl le gF) ok (Rp.bl _) (fun o => by cases o)⟩
      · exact h.elim
  · split at h
    · rename_i p p' e1 e2
      exact .inr ⟨p, p', rx.dp le e1, ry.dp le e2, h.1, h.2.1, q _ _ G H h.2.2 (.refl le gF) ok (Rp.bl _) (fun o => by cases o)⟩
    · exact h.elim
theorem ne_ok : OpS T K cl (rNeA K) (eqF true) := by
  intro s G H x y lx ly Q P le gF ok rx ry h q
  unfold eqF at h
  split at h
  · split at h
    · rename_i k e
      obtain ⟨e1, e2⟩ := sEq_ok rx ry e
      exact .inl ⟨e1, q _ _ G H h (.refl le gF) ok (by rw [e2]; exact Rp.bl _) (fun o => by cases o)⟩
    · split at h
      · rename_i p p' e1 e2
        exact .inr ⟨p, p', Rp.dp le _ _ _ rx e1, Rp.dp le _ _ _ ry e2, h.1, h.2.1, q _ _ G H h.2.2 (.refl le gF) ok (Rp.bl _) (fun o => by cases o)⟩
      · exact h.elim
  · split at h
    · rename_i p p' e1 e2
      exact .inr ⟨p, p', rx.dp le e1, ry.dp le e2, h.1, h.2.1, q _ _ G H h.2.2 (.refl le gF) ok (Rp.bl _) (fun o => by cases o)⟩
    · exact h.elim
end
/-! ### is None -/
def LV.isN : LV → Bool
  | .d .non => true
  | .raw .non => true
  | _ => false
def isF (n : Bool) : LV → LV → (LV → Prop) → Prop := fun x y P => match y with
  | .d .non => P (.d (.bl (if n then !x.isN else x.isN)))
  | _ => False
theorem isN_ok {K : PySem.W.Frag} {cl : Nat → Addr} {G H : Hp} {x : V} {lx : LV} (r : RL K cl G H x lx) : decide (x = .non) = lx.isN := by
  cases lx with
  | d a => cases r <;> simp [LV.isN]
  | raw u => cases r; cases x <;> simp [LV.isN]
  | l xs => obtain ⟨a, vs, e, _⟩ := r; subst e; simp [LV.isN]
  | k ks xs => obtain ⟨a, vs, e, _⟩ := r; subst e; simp [LV.isN]
  | t ks xs => obtain ⟨a, vs, e, _⟩ := r; subst e; simp [LV.isN]
  | o b c ns xs => obtain ⟨a, vs, e, _⟩ := r; subst e; simp [LV.isN]
section
variable {S : Type} {T : Sto S} {K : PySem.W.Frag} {cl : Nat → Addr}
theorem is_ok : OpS T K cl (fun x y H Q => y = .non ∧ Q (.bl (decide (x = .non))) H) (isF false) := by
  intro s G H x y lx ly Q P le gF ok rx ry h q
  unfold isF at h
  split at h
  · cases ry
    exact ⟨rfl, q _ _ G H h (.refl le gF) ok (by rw [isN_ok rx]; exact Rp.bl _) (fun o => by cases o)⟩
  · exact h.elim
theorem isnot_ok : OpS T K cl (fun x y H Q => y = .non ∧ Q (.bl (!decide (x = .non))) H) (isF true) := by
  intro s G H x y lx ly Q P le gF ok rx ry h q
  unfold isF at h
  split at h
  · cases ry
    exact ⟨rfl, q _ _ G H h (.refl le gF) ok (by rw [isN_ok rx]; exact Rp.bl _) (fun o => by cases o)⟩
  · exact h.elim
end
section
variable {S : Type} {B : Bd S} {X : Cx} {a b : Expr} {pos : Pos} {wa wb : W S}
theorem we_eq (hu : X.A.units + 64 < cLine) (ha : PE X a (tlb X.K B wa)) (hb : PE X b (tlb X.K B wb)) : PE X (.Compare a [.Eq] [b] pos) (tl X.K B (wOp (eqF false) wa wb)) := we_cmp (op_eqA hu) eq_ok ha hb (nomark _)
theorem we_ne (hu : X.A.units + 64 < cLine) (ha : PE X a (tlb X.K B wa)) (hb : PE X b (tlb X.K B wb)) : PE X (.Compare a [.NotEq] [b] pos) (tl X.K B (wOp (eqF true) wa wb)) := we_cmp (op_neA hu) ne_ok ha hb (nomark _)
theorem we_is (ha : PE X a (tlb X.K B wa)) (hb : PE X b (tlb X.K B wb)) : PE X (.Compare a [.Is] [b] pos) (tl X.K B (wOp (isF false) wa wb)) := we_cmp op_isN is_ok ha hb (nomark _)
theorem we_isnot (ha : PE X a (tlb X.K B wa)) (hb : PE X b (tlb X.K B wb)) : PE X (.Compare a [.IsNot] [b] pos) (tl X.K B (wOp (isF true) wa wb)) := we_cmp op_notN isnot_ok ha hb (nomark _)
end

/-! ### in -/
def D.flat : D → Bool
  | .non => true | .bl _ => true | .int _ => true | .str _ => true
  | _ => false
def D.eqf : D → D → Bool
  | .non, .non => true
  | .bl a, .bl b => a == b
  | .bl a, .int b => (if a then 1 else 0) == b
  | .int a, .bl b => a == (if b then 1 else 0)
  | .int a, .int b => a == b
  | .str a, .str b => a == b
  | _, _ => false
def D.sign : D → Option Nat
  | .str ⟨⟨[c]⟩⟩ => some c
  | _ => none
/-- x in y: items of a list or tuple, all flat; one sign in a text -/
def inF (n : Bool) : LV → LV → (LV → Prop) → Prop := fun x y P => match x, y.seq with
  | .d a, some ys => a.flat = true ∧ ys.all D.flat = true ∧ P (.d (.bl (if n then !(ys.any fun z => D.eqf z a) else ys.any fun z => D.eqf z a)))
  | .d a, none => match a.sign, y with
    | some c, .d (.str z) => P (.d (.bl (if n then !decide (c ∈ z.cps.toList) else decide (c ∈ z.cps.toList))))
    | _, _ => False
  | _, _ => False
def rInA (K : PySem.W.Frag) : R2 := fun x y H Q => rIn K false x y H Q ∨ ∃ (c : Nat) (z : Str), x = .str ⟨#[c]⟩ ∧ y = .str z ∧ Q (.bl (decide (c ∈ z.cps.toList))) H
def rNotInA (K : PySem.W.Frag) : R2 := fun x y H Q => rIn K true x y H Q ∨ ∃ (c : Nat) (z : Str), x = .str ⟨#[c]⟩ ∧ y = .str z ∧ Q (.bl (!decide (c ∈ z.cps.toList))) H
theorem op_inA {X : Cx} : OpR X (compareOp .In) (rInA X.K) := op_in_seq.or op_in_sign
theorem op_notInA {X : Cx} : OpR X (compareOp .NotIn) (rNotInA X.K) := op_notIn_seq.or op_notIn_sign
section
variable {S : Type} {T : Sto S} {K : PySem.W.Frag} {cl : Nat → Addr} {G : Hp}
theorem flat_ok {x : V} {a : D} (r : Rp K cl G x a) : flatV x = a.flat := by cases r <;> rfl
theorem flats_ok : ∀ {vs : List V} {xs : List D}, Rps K cl G vs xs → vs.all flatV = xs.all D.flat
  | _, _, .nil => rfl
  | _, _, .cons r t => by rw [List.all_cons, List.all_cons, flat_ok r, flats_ok t]
theorem eqf_ok {x y : V} {a b : D} (r : Rp K cl G x a) (q : Rp K cl G y b) : eqV x y = a.eqf b := by cases r <;> cases q <;> rfl
theorem in_any {x : V} {a : D} (r : Rp K cl G x a) : ∀ {vs : List V} {xs : List D}, Rps K cl G vs xs → inV x vs = xs.any fun z => D.eqf z a
  | _, _, .nil => rfl
  | _, _, .cons q t => by
    have ih := in_any r t
    unfold inV at ih ⊢
    rw [List.any_cons, List.any_cons, eqf_ok q r, ih]
theorem sign_ok {x : V} {a : D} {c : Nat} (r : Rp K cl G x a) (e : a.sign = some c) : x = .str ⟨#[c]⟩ := by
  cases r with
  | str z =>
    unfold D.sign at e
    split at e
    · rename_i h
      cases h; cases e; rfl
    · cases e
  | _ => cases e
theorem in_ok : OpS T K cl (rInA K) (inF false) := by
  intro s G H x y lx ly Q P le gF ok rx ry h q
  unfold inF at h
  split at h
  · rename_i a ys e
    obtain ⟨p, vs, rfl, hs, rv⟩ := ry.seq le e
    exact .inl ⟨p, vs, rfl, hs, by rw [flat_ok rx]; exact h.1, by rw [flats_ok rv]; exact h.2.1, q _ _ G H h.2.2 (.refl le gF) ok (by show Rp K cl G (.bl (inV x vs)) _; rw [in_any rx rv]; exact Rp.bl _) (fun o => by cases o)⟩
  · split at h
    · rename_i e _ _ _
      have e1 := sign_ok rx (by first | exact e | assumption)
      subst e1
      cases ry
      exact .inr ⟨_, _, rfl, rfl, q _ _ G H h (.refl le gF) ok (Rp.bl _) (fun o => by cases o)⟩
    · exact h.elim
  · exact h.elim
theorem notIn_ok : OpS T K cl (rNotInA K) (inF true) := by
  intro s G H x y lx ly Q P le gF ok rx ry h q
  unfold inF at h
  split at h
  · rename_i a ys e
    obtain ⟨p, vs, rfl, hs, rv⟩ := ry.seq le e
    exact .inl ⟨p, vs, rfl, hs, by rw [flat_ok rx]; exact h.1, by rw [flats_ok rv]; exact h.2.1, q _ _ G H h.2.2 (.refl le gF) ok (by show Rp K cl G (.bl (!inV x vs)) _; rw [in_any rx rv]; exact Rp.bl _) (fun o => by cases o)⟩
  · split at h
    · rename_i e _ _ _
      have e1 := sign_ok rx (by first | exact e | assumption)
      subst e1
      cases ry
      exact .inr ⟨_, _, rfl, rfl, q _ _ G H h (.refl le gF) ok (Rp.bl _) (fun o => by cases o)⟩
    · exact h.elim
  · exact h.elim
end
section
variable {S : Type} {B : Bd S} {X : Cx} {a b : Expr} {pos : Pos} {wa wb : W S}
theorem we_in (ha : PE X a (tlb X.K B wa)) (hb : PE X b (tlb X.K B wb)) (hm : behindInMarks .In b = false := by rfl) : PE X (.Compare a [.In] [b] pos) (tl X.K B (wOp (inF false) wa wb)) := we_cmp op_inA in_ok ha hb hm
theorem we_notin (ha : PE X a (tlb X.K B wa)) (hb : PE X b (tlb X.K B wb)) (hm : behindInMarks .NotIn b = false := by rfl) : PE X (.Compare a [.NotIn] [b] pos) (tl X.K B (wOp (inF true) wa wb)) := we_cmp op_notInA notIn_ok ha hb hm
end

/-! ### items by number -/
def ixF : LV → LV → (LV → Prop) → Prop := fun x y P => match y with
  | .d (.int i) => match x.seq with
    | some xs => match atI xs i with
      | some z => P (.d z)
      | none => False
    | none => match x with
      | .d (.str z) => z.length ≤ sizeLine ∧ match atI z.cps.toList i with
        | some c => P (.d (.str ⟨#[c]⟩))
        | none => False
      | _ => False
  | _ => False
section
variable {S : Type} {T : Sto S} {K : PySem.W.Frag} {cl : Nat → Addr} {G : Hp}
theorem atI_rps {vs : List V} {xs : List D} {i : Int} {z : D} (r : Rps K cl G vs xs) (e : atI xs i = some z) : ∃ v, atI vs i = some v ∧ Rp K cl G v z := by
  unfold atI at e ⊢
  rw [r.length]
  cases q : ixN xs.length i with
  | none => rw [q] at e; cases e
  | some j =>
    rw [q] at e
    exact r.get e
theorem ix_ok : OpS T K cl (rIx K) ixF := by
  intro s G H x y lx ly Q P le gF ok rx ry h q
  unfold ixF at h
  split at h
  · rename_i i
    cases ry
    split at h
    · rename_i xs e
      obtain ⟨p, vs, rfl, hs, rv⟩ := rx.seq le e
      split at h
      · rename_i z e2
        obtain ⟨v, e3, r3⟩ := atI_rps rv e2
        have fin : Q v H := q _ _ G H h (.refl le gF) ok r3 (fun o => by cases o)
        rcases hs with hs | hs
        · exact .inl ⟨p, vs, i, v, rfl, rfl, hs, e3, fin⟩
        · exact .inr (.inl ⟨p, vs, i, v, rfl, rfl, hs, e3, fin⟩)
      · exact h.elim
    · split at h
      · cases rx
        obtain ⟨hz, h⟩ := h
        split at h
        · rename_i c e2
          exact .inr (.inr ⟨_, i, c, rfl, rfl, hz, e2, q _ _ G H h (.refl le gF) ok (Rp.str _) (fun o => by cases o)⟩)
        · exact h.elim
      · exact h.elim
  · exact h.elim
end
theorem we_item {S : Type} {B : Bd S} {X : Cx} {a b : Expr} {pos : Pos} {wa wb : W S} (ha : PE X a (tlb X.K B wa)) (hb : PE X b (tlb X.K B wb)) (hm : PlainIx b := by exact fun _ _ => rfl) : PE X (.Subscript a b pos) (tl X.K B (wOp ixF wa wb)) :=
  we_ix ix_seq ix_ok ha hb hm
end DL
/-! DL4: arguments, displays, tests, calls, statements, defs. -/
namespace DL
open PySem PySem.Spec PyProof.Rows L2

/-! ### arguments -/
def LV.fz : LV → LV
  | .d x => .d x
  | .raw v => .raw v
  | .l xs => .d (.lst xs)
  | .k ks xs => .d (.dK ks xs)
  | .t ks xs => .d (.dT ks xs)
  | .o _ c ns xs => .d (.ins c ns xs)
theorem LV.fz_own (lv : LV) : lv.fz.own = false := by cases lv <;> rfl
section
variable {S : Type} {T : Sto S} {K : PySem.W.Frag} {cl : Nat → Addr} {G H G1 H1 : Hp}
theorem le_upd {G : Hp} {a : Addr} {o : HO} (h : G a = none) : Le G (upd G a o) := fun c u e => by rw [upd_ne (ne_of_none e h)]; exact e
/-- what was ours alone is given away -/
theorem freeze {v : V} {lv : LV} (a : Stp T G H G1 H1) (r : RL K cl G1 H1 v lv) (fr : lv.own = true → ∀ c, v = .ref c → H c = none ∧ ¬ T.F c) : ∃ G2, Stp T G H G2 H1 ∧ Le G1 G2 ∧ RL K cl G2 H1 v lv.fz := by
  cases lv with
  | d x => exact ⟨G1, a, Le.refl _, r⟩
  | raw u => exact ⟨G1, a, Le.refl _, r⟩
  | l xs =>
    obtain ⟨c, vs, e, n, q, z⟩ := r
    subst e
    obtain ⟨f1, f2⟩ := fr rfl c rfl
    exact ⟨_, a.keep q n f1 f2, le_upd n, .lst upd_same (Rps.mono (le_upd n) _ _ z)⟩
  | k ks xs =>
    obtain ⟨c, vs, e, n, q, l, z⟩ := r
    subst e
    obtain ⟨f1, f2⟩ := fr rfl c rfl
    exact ⟨_, a.keep q n f1 f2, le_upd n, .dK upd_same l (Rps.mono (le_upd n) _ _ z)⟩
  | t ks xs =>
    obtain ⟨c, vs, e, n, q, l, z⟩ := r
    subst e
    obtain ⟨f1, f2⟩ := fr rfl c rfl
    exact ⟨_, a.keep q n f1 f2, le_upd n, .dT upd_same l (Rps.mono (le_upd n) _ _ z)⟩
  | o b0 c0 ns xs =>
    obtain ⟨c, vs, e, n, ⟨dx, q⟩, l, z⟩ := r
    subst e
    obtain ⟨f1, f2⟩ := fr rfl c rfl
    exact ⟨_, a.keep q n f1 f2, le_upd n, .ins upd_same l.1 (Rps.mono (le_upd n) _ _ z)⟩
theorem RL.mono {G2 H2 : Hp} {v : V} {lv : LV} (r : RL K cl G H v lv) (o : lv.own = false) (k : Le G G2) : RL K cl G2 H2 v lv := by
  cases lv with
  | d x => exact Rp.mono k _ _ r
  | raw u => exact r
  | _ => cases o
theorem RLs.mono {G2 H2 : Hp} (k : Le G G2) : ∀ {vs : List V} {lvs : List LV}, RLs K cl G H vs lvs → RLs K cl G2 H2 vs lvs
  | _, _, .nil => .nil
  | _, _, .cons r o t => .cons (r.mono o k) o (RLs.mono k t)
theorem RLs.length : ∀ {vs : List V} {lvs : List LV}, RLs K cl G H vs lvs → vs.length = lvs.length
  | _, _, .nil => rfl
  | _, _, .cons _ _ t => congrArg (· + 1) (RLs.length t)
theorem RLs.get : ∀ {vs : List V} {lvs : List LV} {i : Nat} {lv : LV}, RLs K cl G H vs lvs → lvs[i]? = some lv → ∃ v, vs[i]? = some v ∧ RL K cl G H v lv ∧ lv.own = false
  | _, _, _, _, .nil, e => by simp at e
  | _, _, 0, _, .cons r o _, e => by simp at e; subst e; exact ⟨_, rfl, r, o⟩
  | _, _, i + 1, x, .cons _ _ t, e => by
    obtain ⟨u, h1, h2⟩ := RLs.get (i := i) (lv := x) t (by simpa using e)
    exact ⟨u, by simpa using h1, h2⟩
theorem RLs.append {vs ws : List V} {xs ys : List LV} : RLs K cl G H vs xs → RLs K cl G H ws ys → RLs K cl G H (vs ++ ws) (xs ++ ys)
  | .nil, s => s
  | .cons r o t, s => .cons r o (RLs.append t s)
end
def dsOf : List LV → Option (List D)
  | [] => some []
  | .d x :: r => match dsOf r with
    | some xs => some (x :: xs)
    | none => none
  | _ :: _ => none
theorem RLs.ds {K : PySem.W.Frag} {cl : Nat → Addr} {G H : Hp} : ∀ {vs : List V} {lvs : List LV} {ds : List D}, RLs K cl G H vs lvs → dsOf lvs = some ds → Rps K cl G vs ds
  | _, _, _, .nil, e => by cases e; exact .nil
  | _, .d x :: r, ds, .cons h _ t, e => by
    unfold dsOf at e
    split at e
    · rename_i xs q
      cases e
      exact .cons h (RLs.ds t q)
    · cases e
  | _, .raw u :: r, ds, .cons h _ t, e => by cases e
  | _, .l u :: r, ds, .cons h o t, e => by cases o
  | _, .k _ u :: r, ds, .cons h o t, e => by cases o
  | _, .t _ u :: r, ds, .cons h o t, e => by cases o
  | _, .o _ _ _ u :: r, ds, .cons h o t, e => by cases o
section
variable {S : Type} {B : Bd S} {X : Cx} {e : Expr} {es : List Expr} {pos : Pos} {w : W S} {wa : WA S}
def wNil : WA S := fun _ s P _ => P [] s
def wCons (w : W S) (wa : WA S) : WA S := fun env s P N => w env s (fun lv s1 => wa env s1 (fun lvs s2 => P (lv.fz :: lvs) s2) N) N
theorem wa_nil : PA X [] (tla X.K B wNil) := impA pa_nil fun σ H Q ⟨G, env, s, P, N, L, w, c, _⟩ => c _ _ w [] G H L.refl L.ok .nil
theorem wa_cons (h : PE X e (tl X.K B w)) (hr : PA X es (tla X.K B wa)) (hs : starEach (e :: es) X.env = (false, eval e X.env) :: starEach es X.env := by rfl) : PA X (e :: es) (tla X.K B (wCons w wa)) :=
  impA (pa_cons h hr hs) fun σ H Q ⟨G, env, s, P, N, L, w', c, n⟩ => by
    refine ⟨G, env, s, _, N, L, w', fun lv s1 w1 v G1 H1 a1 ok1 r1 o1 => ?_, n⟩
    obtain ⟨G2, a2, k2, r2⟩ := freeze a1 r1 o1
    refine ⟨G2, env, s1, _, N, L.step a2 ok1, w1, fun lvs s2 w2 vs G3 H3 a3 ok3 r3 => ?_, n.step a2⟩
    exact c _ s2 w2 (v :: vs) G3 H3 (a2.trans a3) ok3 (.cons (r2.mono lv.fz_own a3.g) lv.fz_own r3)
/-- (a, b, ..) -/
def wTup (wa : WA S) : W S := fun env s P N => wa env s (fun lvs s' => match dsOf lvs with
  | some ds => ds.length ≤ 1000 ∧ P (.d (.tup ds)) s'
  | none => False) N
def wLst (wa : WA S) : W S := fun env s P N => wa env s (fun lvs s' => match dsOf lvs with
  | some ds => ds.length ≤ 1000 ∧ P (.l ds) s'
  | none => False) N
theorem small_line {n : Nat} (h : n ≤ 1000) : n ≤ sizeLine := Nat.le_of_lt (small1000 h)
theorem we_tup {x1} (h : PA X es (tla X.K B wa)) : PE X (.Tuple es x1 pos) (tl X.K B (wTup wa)) := imp (pe_tup h) fun σ H Q ⟨G, env, s, P, N, L, w', c, n⟩ => by
  refine ⟨G, env, s, _, N, L, w', fun lvs s1 w1 vs G1 H1 a1 ok1 r1 => ?_, n⟩
  split at w1
  · rename_i ds e
    have rd := r1.ds e
    refine ⟨small_line (by rw [rd.length]; exact w1.1), fun p hp => ?_⟩
    have b := Stp.new (T := B.T) (o := .tup vs) a1.le a1.gF (fun a f => B.T.al s1 H1 a ok1 f) hp
    exact c _ s1 w1.2 (.ref p) _ _ (a1.trans b) (B.T.stays ok1 (le_upd hp)) (Rp.tup upd_same (Rps.mono b.g _ _ rd)) (fun o => by cases o)
  · exact w1.elim
theorem fresh_own {G H : Hp} {p : Addr} (le : Le G H) (hp : H p = none) : G p = none := by
  cases e : G p with
  | none => rfl
  | some u => rw [le p u e] at hp; cases hp
theorem we_lst (h : PA X es (tla X.K B wa)) : PE X (.List es pos) (tl X.K B (wLst wa)) := imp (pe_lst h) fun σ H Q ⟨G, env, s, P, N, L, w', c, n⟩ => by
  refine ⟨G, env, s, _, N, L, w', fun lvs s1 w1 vs G1 H1 a1 ok1 r1 => ?_, n⟩
  split at w1
  · rename_i ds e
    have rd := r1.ds e
    refine ⟨small_line (by rw [rd.length]; exact w1.1), fun p hp => ?_⟩
    have b := Stp.fresh (T := B.T) (o := .lst vs) a1.le a1.gF hp
    have nF : ¬ B.T.F p := fun f => B.T.al s1 H1 p ok1 f hp
    exact c _ s1 w1.2 (.ref p) _ _ (a1.trans b) (B.T.stays ok1 (le_upd hp)) ⟨p, vs, rfl, fresh_own a1.le hp, upd_same, rd⟩ (fun _ d e => by cases e; exact ⟨a1.dead hp nF, nF⟩)
  · exact w1.elim
/-- {} -/
def wDk : W S := fun _ s P _ => P (.k [] []) s
def wDt : W S := fun _ s P _ => P (.t [] []) s
theorem we_dk : PE X (.Dict [] [] pos) (tl X.K B wDk) := imp pe_dnewK fun σ H Q ⟨G, env, s, P, N, L, w', c, n⟩ => fun p hp => by
  have b := Stp.fresh (T := B.T) (o := .dK []) L.le L.gF hp
  have nF : ¬ B.T.F p := fun f => L.al p f hp
  exact c _ s w' (.ref p) _ _ b (B.T.stays L.ok (le_upd hp)) ⟨p, [], rfl, fresh_own L.le hp, upd_same, rfl, .nil⟩ (fun _ d e => by cases e; exact ⟨hp, nF⟩)
theorem we_dt : PE X (.Dict [] [] pos) (tl X.K B wDt) := imp pe_dnewT fun σ H Q ⟨G, env, s, P, N, L, w', c, n⟩ => fun p hp => by
  have b := Stp.fresh (T := B.T) (o := .dT []) L.le L.gF hp
  have nF : ¬ B.T.F p := fun f => L.al p f hp
  exact c _ s w' (.ref p) _ _ b (B.T.stays L.ok (le_upd hp)) ⟨p, [], rfl, fresh_own L.le hp, upd_same, rfl, .nil⟩ (fun _ d e => by cases e; exact ⟨hp, nF⟩)
end

/-! ### tests -/
section
variable {S : Type} {B : Bd S} {X : Cx} {e a b : Expr} {rest : List Expr} {pos : Pos} {w wa wb : W S} {t u : WT S}
def wTb (w : W S) : WT S := fun env s P N => w env s (fun lv s' => match lv with
  | .d (.bl b) => P b s'
  | _ => False) N
theorem tlt_tb {K : PySem.W.Frag} {σ : L2.St} {H : Hp} {Q : Bool → Hp → Prop} (h : tlt K B (wTb w) σ H Q) : tl K B w σ H fun x H' => ∃ k, x = .bl k ∧ Q k H' := by
  obtain ⟨G, env, s, P, N, L, w', c, n⟩ := h
  refine ⟨G, env, s, _, N, L, w', fun lv s1 w1 v G1 H1 a1 ok1 r1 o1 => ?_, n⟩
  split at w1
  · cases r1
    exact ⟨_, rfl, c _ s1 w1 G1 H1 a1 ok1⟩
  · exact w1.elim
theorem wt_cmp {op : CmpOp} {r : R2} {f : LV → LV → (LV → Prop) → Prop} (ho : OpR X (compareOp op) r) (hs : OpS B.T X.K B.cl r f) (ha : PE X a (tlb X.K B wa)) (hb : PE X b (tlb X.K B wb)) (hm : behindInMarks op b = false) :
    PT X (.Compare a [op] [b] pos) (tlt X.K B (wTb (wOp f wa wb))) := impT (pt_cmpR ho ha hb hm) fun σ H Q h => tOp_le hs (tlt_tb h)
theorem wt_ltI (ha : PE X a (tlb X.K B wa)) (hb : PE X b (tlb X.K B wb)) : PT X (.Compare a [.Lt] [b] pos) (tlt X.K B (wTb (wOp ltI wa wb))) := wt_cmp op_lt (ii0_ok fun _ _ _ => .bl _) ha hb (nomark _)
theorem wt_leI (ha : PE X a (tlb X.K B wa)) (hb : PE X b (tlb X.K B wb)) : PT X (.Compare a [.LtE] [b] pos) (tlt X.K B (wTb (wOp leI wa wb))) := wt_cmp op_le (ii0_ok fun _ _ _ => .bl _) ha hb (nomark _)
theorem wt_gtI (ha : PE X a (tlb X.K B wa)) (hb : PE X b (tlb X.K B wb)) : PT X (.Compare a [.Gt] [b] pos) (tlt X.K B (wTb (wOp gtI wa wb))) := wt_cmp op_gt (ii0_ok fun _ _ _ => .bl _) ha hb (nomark _)
theorem wt_geI (ha : PE X a (tlb X.K B wa)) (hb : PE X b (tlb X.K B wb)) : PT X (.Compare a [.GtE] [b] pos) (tlt X.K B (wTb (wOp geI wa wb))) := wt_cmp op_ge (ii0_ok fun _ _ _ => .bl _) ha hb (nomark _)
theorem wt_eq (hu : X.A.units + 64 < cLine) (ha : PE X a (tlb X.K B wa)) (hb : PE X b (tlb X.K B wb)) : PT X (.Compare a [.Eq] [b] pos) (tlt X.K B (wTb (wOp (eqF false) wa wb))) := wt_cmp (op_eqA hu) eq_ok ha hb (nomark _)
theorem wt_ne (hu : X.A.units + 64 < cLine) (ha : PE X a (tlb X.K B wa)) (hb : PE X b (tlb X.K B wb)) : PT X (.Compare a [.NotEq] [b] pos) (tlt X.K B (wTb (wOp (eqF true) wa wb))) := wt_cmp (op_neA hu) ne_ok ha hb (nomark _)
theorem wt_is (ha : PE X a (tlb X.K B wa)) (hb : PE X b (tlb X.K B wb)) : PT X (.Compare a [.Is] [b] pos) (tlt X.K B (wTb (wOp (isF false) wa wb))) := wt_cmp op_isN is_ok ha hb (nomark _)
theorem wt_isnot (ha : PE X a (tlb X.K B wa)) (hb : PE X b (tlb X.K B wb)) : PT X (.Compare a [.IsNot] [b] pos) (tlt X.K B (wTb (wOp (isF true) wa wb))) := wt_cmp op_notN isnot_ok ha hb (nomark _)
theorem wt_in (ha : PE X a (tlb X.K B wa)) (hb : PE X b (tlb X.K B wb)) (hm : behindInMarks .In b = false := by rfl) : PT X (.Compare a [.In] [b] pos) (tlt X.K B (wTb (wOp (inF false) wa wb))) := wt_cmp op_inA in_ok ha hb hm
theorem wt_notin (ha : PE X a (tlb X.K B wa)) (hb : PE X b (tlb X.K B wb)) (hm : behindInMarks .NotIn b = false := by rfl) : PT X (.Compare a [.NotIn] [b] pos) (tlt X.K B (wTb (wOp (inF true) wa wb))) := wt_cmp op_notInA notIn_ok ha hb hm
/-- any plain expression, by its truth -/
def tru : LV → (Bool → Prop) → Prop := fun x P => match x with
  | .d .non => P false
  | .d (.bl b) => P b
  | .d (.int i) => P (i != 0)
  | .d (.str z) => z.length ≤ sizeLine ∧ P ((z.length : Int) != 0)
  | x => match x.seq with
    | some xs => P (!xs.isEmpty)
    | none => False
def wTr (w : W S) : WT S := fun env s P N => w env s (fun lv s' => tru lv fun b => P b s') N
theorem rps_empty {K : PySem.W.Frag} {cl : Nat → Addr} {G : Hp} {vs : List V} {xs : List D} (r : Rps K cl G vs xs) : vs.isEmpty = xs.isEmpty := by cases r <;> rfl
theorem tru_of {K : PySem.W.Frag} {cl : Nat → Addr} {G H : Hp} {v : V} {lv : LV} {P : Bool → Prop} (r : RL K cl G H v lv) (le : Le G H) (h : tru lv P) : ∃ k, TruV K v H k ∧ P k := by
  unfold tru at h
  split at h
  · cases r; exact ⟨_, rfl, h⟩
  · cases r; exact ⟨_, rfl, h⟩
  · cases r; exact ⟨_, rfl, h⟩
  · cases r; exact ⟨_, ⟨h.1, rfl⟩, h.2⟩
  · split at h
    · rename_i xs e
      obtain ⟨a, vs, rfl, hs, rv⟩ := r.seq le e
      rcases hs with hs | hs
      · exact ⟨_, .inl ⟨vs, hs, rfl⟩, by rw [rps_empty rv]; exact h⟩
      · exact ⟨_, .inr (.inl ⟨vs, hs, rfl⟩), by rw [rps_empty rv]; exact h⟩
    · exact h.elim
theorem wt_tr (h : PE X e (tlb X.K B w)) (he : ∀ whole, isTrue e X.env whole = (do let v ← whole; standAt e.pos; holding [v] (truthy v)) := by exact fun _ => rfl) : PT X e (tlt X.K B (wTr w)) :=
  impT (pt_truth h he) fun σ H Q ⟨G, env, s, P, N, L, w', c, n⟩ => by
    refine ⟨G, env, s, _, N, L, w', fun lv s1 w1 v G1 H1 a1 ok1 r1 o1 => ?_, n⟩
    obtain ⟨k, q, p⟩ := tru_of r1 a1.le w1
    exact ⟨k, q, c k s1 p G1 H1 a1 ok1⟩
def wtAnd (t u : WT S) : WT S := fun env s P N => t env s (fun b s1 => if b = true then u env s1 P N else P false s1) N
def wtOr (t u : WT S) : WT S := fun env s P N => t env s (fun b s1 => if b = true then P true s1 else u env s1 P N) N
def wtNot (t : WT S) : WT S := fun env s P N => t env s (fun b s1 => P (!b) s1) N
theorem impW {e : Expr} {t t' : TT} (h : PW X e t) (k : ∀ σ H Q, t' σ H Q → t σ H Q) : PW X e t' := ⟨fun whole pins s σ H Q I q => h.run whole pins s σ H Q I (k σ H Q q)⟩
theorem wt_and1 (ha : PT X a (tlt X.K B t)) : PW X (.BoolOp .And [a] pos) (tlt X.K B t) := pw_and1 ha
theorem wt_or1 (ha : PT X a (tlt X.K B t)) : PW X (.BoolOp .Or [a] pos) (tlt X.K B t) := pw_or1 ha
theorem wt_and (ha : PT X a (tlt X.K B t)) (hb : PW X (.BoolOp .And (b :: rest) pos) (tlt X.K B u)) : PW X (.BoolOp .And (a :: b :: rest) pos) (tlt X.K B (wtAnd t u)) :=
  impW (pw_and ha hb) fun σ H Q ⟨G, env, s, P, N, L, w', c, n⟩ => by
    refine ⟨G, env, s, _, N, L, w', fun k s1 w1 G1 H1 a1 ok1 => ?_, n⟩
    cases k with
    | true => exact iteT ⟨G1, env, s1, P, N, L.step a1 ok1, by rw [if_pos rfl] at w1; exact w1, fun k2 s2 p2 G2 H2 a2 ok2 => c k2 s2 p2 G2 H2 (a1.trans a2) ok2, n.step a1⟩
    | false => exact iteF (c false s1 (by rw [if_neg Bool.false_ne_true] at w1; exact w1) G1 H1 a1 ok1)
theorem wt_or (ha : PT X a (tlt X.K B t)) (hb : PW X (.BoolOp .Or (b :: rest) pos) (tlt X.K B u)) : PW X (.BoolOp .Or (a :: b :: rest) pos) (tlt X.K B (wtOr t u)) :=
  impW (pw_or ha hb) fun σ H Q ⟨G, env, s, P, N, L, w', c, n⟩ => by
    refine ⟨G, env, s, _, N, L, w', fun k s1 w1 G1 H1 a1 ok1 => ?_, n⟩
    cases k with
    | true => exact iteT (c true s1 (by rw [if_pos rfl] at w1; exact w1) G1 H1 a1 ok1)
    | false => exact iteF ⟨G1, env, s1, P, N, L.step a1 ok1, by rw [if_neg Bool.false_ne_true] at w1; exact w1, fun k2 s2 p2 G2 H2 a2 ok2 => c k2 s2 p2 G2 H2 (a1.trans a2) ok2, n.step a1⟩
theorem wt_not (ha : PT X a (tlt X.K B t)) : PT X (.UnaryOp .Not a pos) (tlt X.K B (wtNot t)) :=
  impT (pt_not ha) fun σ H Q ⟨G, env, s, P, N, L, w', c, n⟩ => ⟨G, env, s, _, N, L, w', fun k s1 w1 G1 H1 a1 ok1 => c (!k) s1 w1 G1 H1 a1 ok1, n⟩
/-- a < b < c as a value, as a test -/
def wCh (f g : LV → LV → (LV → Prop) → Prop) (wa wb wc : W S) : W S := fun env s P N => wa env s (fun x s1 => wb env s1 (fun y s2 => f x y fun z => match z with
  | .d (.bl true) => wc env s2 (fun c s3 => g y c fun z2 => P z2 s3) N
  | .d (.bl false) => P (.d (.bl false)) s2
  | _ => False) N) N
theorem tCh_le {K : PySem.W.Frag} {r r' : R2} {f g : LV → LV → (LV → Prop) → Prop} {wc : W S} (hs : OpS B.T K B.cl r f) (hs' : OpS B.T K B.cl r' g) {σ : L2.St} {H : Hp} {Q : VK} (h : tl K B (wCh f g wa wb wc) σ H Q) :
    tChain r r' (tlb K B wa) (tlb K B wb) (tlb K B wc) σ H Q := by
  obtain ⟨G, env, s, P, N, L, w, c, n⟩ := h
  refine ⟨G, env, s, _, N, L, w, fun lx s1 w1 x G1 H1 a1 ok1 r1 o1 => ?_, n⟩
  refine ⟨G1, env, s1, _, N, L.step a1 ok1, w1, fun ly s2 w2 y G2 H2 a2 ok2 r2 o2 => ?_, n.step a1⟩
  refine hs s2 G2 H2 x y lx ly _ _ a2.le a2.gF ok2 (r1.step a2 fun c o e => o1 o c e) r2 w2 fun lz v G3 H3 p a3 ok3 r3 o3 => ?_
  split at p
  · cases r3
    refine ⟨true, rfl, iteT ?_⟩
    refine ⟨G3, env, s2, _, N, (L.step a1 ok1).step (a2.trans a3) ok3, p, fun lc s4 w4 cc G4 H4 a4 ok4 r4 o4 => ?_, n.step ((a1.trans a2).trans a3)⟩
    refine hs' s4 G4 H4 y cc ly lc Q _ a4.le a4.gF ok4 (r2.step (a3.trans a4) fun c o e => o2 o c e) r4 w4 fun lz v G5 H5 p5 a5 ok5 r5 o5 => ?_
    refine c lz s4 p5 v G5 H5 ((((a1.trans a2).trans a3).trans a4).trans a5) ok5 r5 fun o a e => ?_
    obtain ⟨f1, f2⟩ := o5 o a e
    exact ⟨(((a1.trans a2).trans a3).trans a4).dead f1 f2, f2⟩
  · cases r3
    exact ⟨false, rfl, iteF (c _ s2 p (.bl false) G3 H3 ((a1.trans a2).trans a3) ok3 (Rp.bl _) (fun o => by cases o))⟩
  · exact p.elim
theorem we_ch {op op' : CmpOp} {c : Expr} {r r' : R2} {f g : LV → LV → (LV → Prop) → Prop} {wc : W S} (ho : OpR X (compareOp op) r) (hs : OpS B.T X.K B.cl r f) (ho' : OpR X (compareOp op') r') (hs' : OpS B.T X.K B.cl r' g)
    (ha : PE X a (tlb X.K B wa)) (hb : PE X b (tlb X.K B wb)) (hc : PE X c (tlb X.K B wc)) (hm : lastMarks [op, op'] [b, c] = false := by with_unfolding_all rfl) : PE X (.Compare a [op, op'] [b, c] pos) (tl X.K B (wCh f g wa wb wc)) :=
  imp (pe_chain ho ho' ha hb hc hm) fun _ _ _ h => tCh_le hs hs' h
theorem wt_ch {op op' : CmpOp} {c : Expr} {r r' : R2} {f g : LV → LV → (LV → Prop) → Prop} {wc : W S} (ho : OpR X (compareOp op) r) (hs : OpS B.T X.K B.cl r f) (ho' : OpR X (compareOp op') r') (hs' : OpS B.T X.K B.cl r' g)
    (ha : PE X a (tlb X.K B wa)) (hb : PE X b (tlb X.K B wb)) (hc : PE X c (tlb X.K B wc)) (hm : lastMarks [op, op'] [b, c] = false := by with_unfolding_all rfl) : PT X (.Compare a [op, op'] [b, c] pos) (tlt X.K B (wTb (wCh f g wa wb wc))) :=
  impT (pt_chain ho ho' ha hb hc hm) fun _ _ _ h => tCh_le hs hs' (tlt_tb h)
theorem leI_ok {K : PySem.W.Frag} {T : Sto S} {cl : Nat → Addr} : OpS T K cl (rI0 fun i j => .bl (decide (i ≤ j))) leI := ii0_ok fun _ _ _ => .bl _
theorem ltI_ok {K : PySem.W.Frag} {T : Sto S} {cl : Nat → Addr} : OpS T K cl (rI0 fun i j => .bl (decide (i < j))) ltI := ii0_ok fun _ _ _ => .bl _
/-! as values -/
def wAnd (wa wb : W S) : W S := fun env s P N => wa env s (fun x s1 => match x with
  | .d (.bl true) => wb env s1 P N
  | .d (.bl false) => P (.d (.bl false)) s1
  | _ => False) N
def wOr (wa wb : W S) : W S := fun env s P N => wa env s (fun x s1 => match x with
  | .d (.bl true) => P (.d (.bl true)) s1
  | .d (.bl false) => wb env s1 P N
  | _ => False) N
def wNot (wa : W S) : W S := fun env s P N => wa env s (fun x s1 => match x with
  | .d (.bl b) => P (.d (.bl (!b))) s1
  | _ => False) N
theorem we_one {op} (h : PE X a (tl X.K B w)) : PE X (.BoolOp op [a] pos) (tl X.K B w) := pe_one h
theorem tl_more {K : PySem.W.Frag} {σ : L2.St} {G H G1 H1 : Hp} {env : LEnv} {s1 : S} {P : LV → S → Prop} {N : Nat → D → S → Prop} {Q : VK} (L : Lf B.T K B.cl B.H0 B.G0 G1 σ H1 env s1) (a1 : Stp B.T G H G1 H1) (n : XnOk K B G H σ N) (w1 : w env s1 P N)
    (c : ∀ lv s', P lv s' → ∀ v G' H', Stp B.T G H G' H' → B.T.ok s' H' → RL K B.cl G' H' v lv → (lv.own = true → ∀ a, v = .ref a → H a = none ∧ ¬ B.T.F a) → Q v H') : tl K B w σ H1 Q :=
  ⟨G1, env, s1, P, N, L, w1, fun lv s' p v G' H' a ok r o => c lv s' p v G' H' (a1.trans a) ok r fun z d e => ⟨a1.dead (o z d e).1 (o z d e).2, (o z d e).2⟩, n.step a1⟩
theorem we_and (ha : PE X a (tl X.K B wa)) (hb : PE X (.BoolOp .And (b :: rest) pos) (tl X.K B wb)) : PE X (.BoolOp .And (a :: b :: rest) pos) (tl X.K B (wAnd wa wb)) :=
  imp (pe_and ha hb) fun σ H Q ⟨G, env, s, P, N, L, w', c, n⟩ => by
    refine ⟨G, env, s, _, N, L, w', fun lv s1 w1 v G1 H1 a1 ok1 r1 o1 => ?_, n⟩
    split at w1
    · cases r1
      exact ⟨true, rfl, iteT (tl_more (L.step a1 ok1) a1 n w1 c)⟩
    · cases r1
      exact ⟨false, rfl, iteF (c _ s1 w1 _ G1 H1 a1 ok1 (Rp.bl _) (fun o => by cases o))⟩
    · exact w1.elim
theorem we_or (ha : PE X a (tl X.K B wa)) (hb : PE X (.BoolOp .Or (b :: rest) pos) (tl X.K B wb)) : PE X (.BoolOp .Or (a :: b :: rest) pos) (tl X.K B (wOr wa wb)) :=
  imp (pe_or ha hb) fun σ H Q ⟨G, env, s, P, N, L, w', c, n⟩ => by
    refine ⟨G, env, s, _, N, L, w', fun lv s1 w1 v G1 H1 a1 ok1 r1 o1 => ?_, n⟩
    split at w1
    · cases r1
      exact ⟨true, rfl, iteT (c _ s1 w1 _ G1 H1 a1 ok1 (Rp.bl _) (fun o => by cases o))⟩
    · cases r1
      exact ⟨false, rfl, iteF (tl_more (L.step a1 ok1) a1 n w1 c)⟩
    · exact w1.elim
theorem we_not (ha : PE X a (tl X.K B wa)) : PE X (.UnaryOp .Not a pos) (tl X.K B (wNot wa)) :=
  imp (pe_not ha) fun σ H Q ⟨G, env, s, P, N, L, w', c, n⟩ => by
    refine ⟨G, env, s, _, N, L, w', fun lv s1 w1 v G1 H1 a1 ok1 r1 o1 => ?_, n⟩
    split at w1
    · cases r1
      exact ⟨_, rfl, c _ s1 w1 _ G1 H1 a1 ok1 (Rp.bl _) (fun o => by cases o)⟩
    · exact w1.elim
/-- a if t else b -/
def wIf (t : WT S) (wa wb : W S) : W S := fun env s P N => t env s (fun k s1 => if k = true then wa env s1 P N else wb env s1 P N) N
theorem we_if {c : Expr} (hc : PT X c (tlt X.K B t)) (ha : PE X a (tl X.K B wa)) (hb : PE X b (tl X.K B wb)) : PE X (.IfExp c a b pos) (tl X.K B (wIf t wa wb)) :=
  imp (pe_ifExp hc ha hb) fun σ H Q ⟨G, env, s, P, N, L, w', c, n⟩ => by
    refine ⟨G, env, s, _, N, L, w', fun k s1 w1 G1 H1 a1 ok1 => ?_, n⟩
    cases k with
    | true => exact iteT (tl_more (L.step a1 ok1) a1 n (by rw [if_pos rfl] at w1; exact w1) c)
    | false => exact iteF (tl_more (L.step a1 ok1) a1 n (by rw [if_neg Bool.false_ne_true] at w1; exact w1) c)
end
end DL
/-! DL5: calls, isinstance, statements, defs. -/
namespace DL
open PySem PySem.Spec PyProof.Rows L2

/-! ### calls of built-ins with one argument -/
def UnS {S : Type} (T : Sto S) (K : PySem.W.Frag) (cl : Nat → Addr) (r : List V → Hp → VK → Prop) (f : LV → (LV → Prop) → Prop) : Prop :=
  ∀ (s : S) (G H : Hp) (x : V) (lx : LV) (Q : VK) (P : LV → Prop), Le G H → (∀ a, T.F a → G a = none) → T.ok s H → RL K cl G H x lx → f lx P →
    (∀ lz v G' H', P lz → Stp T G H G' H' → T.ok s H' → RL K cl G' H' v lz → (lz.own = true → ∀ a, v = .ref a → H a = none ∧ ¬ T.F a) → Q v H') → r [x] H Q
section
variable {S : Type} {B : Bd S} {X : Cx} {e c : Expr} {pos : Pos} {w : W S}
def wUn (f : LV → (LV → Prop) → Prop) (w : W S) : W S := fun env s P N => w env s (fun x s1 => f x fun z => P z s1) N
theorem we_un {r : List V → Hp → VK → Prop} {f : LV → (LV → Prop) → Prop} (h : PE X c (tCB r (tCons (tlb X.K B w) tNil))) (hs : UnS B.T X.K B.cl r f) : PE X c (tl X.K B (wUn f w)) :=
  imp h fun σ H Q ⟨G, env, s, P, N, L, w', k, n⟩ => by
    refine ⟨G, env, s, _, N, L, w', fun lx s1 w1 x G1 H1 a1 ok1 r1 o1 => ?_, n⟩
    refine hs s1 G1 H1 x lx Q _ a1.le a1.gF ok1 r1 w1 fun lz v G3 H3 p a3 ok3 r3 o3 => ?_
    exact k lz s1 p v G3 H3 (a1.trans a3) ok3 r3 fun o a e => ⟨a1.dead (o3 o a e).1 (o3 o a e).2, (o3 o a e).2⟩
end
def lenF : LV → (LV → Prop) → Prop := fun x P => match x with
  | .d (.str z) => z.length ≤ sizeLine ∧ P (.d (.int z.length))
  | .d (.dK ks _) => P (.d (.int ks.length))
  | .d (.dT ks _) => P (.d (.int ks.length))
  | .k ks _ => P (.d (.int ks.length))
  | .t ks _ => P (.d (.int ks.length))
  | x => match x.seq with
    | some xs => P (.d (.int xs.length))
    | none => False
def rLenA (K : PySem.W.Frag) : List V → Hp → VK → Prop := fun xs H Q => (∃ x n, xs = [x] ∧ LenV K x H n ∧ Q (.int n) H) ∨ (∃ p kvs, xs = [.ref p] ∧ H p = some (.dK kvs) ∧ Q (.int kvs.length) H) ∨ rLenT xs H Q
theorem zip_len {α β : Type} {a : List α} {b : List β} (h : a.length = b.length) : (a.zip b).length = a.length := by rw [List.length_zip]; omega
section
variable {S : Type} {T : Sto S} {K : PySem.W.Frag} {cl : Nat → Addr}
theorem len_ok : UnS T K cl (rLenA K) lenF := by
  intro s G H x lx Q P le gF ok rx h q
  have fin : ∀ n : Int, P (.d (.int n)) → Q (.int n) H := fun n p => q _ _ G H p (.refl le gF) ok (Rp.int n) (fun o => by cases o)
  unfold lenF at h
  split at h
  · cases rx; exact .inl ⟨_, _, rfl, ⟨h.1, rfl⟩, fin _ h.2⟩
  · cases rx with
    | dK h1 h2 h3 => exact .inr (.inl ⟨_, _, rfl, le _ _ h1, by rw [zip_len h2]; exact fin _ h⟩)
  · cases rx with
    | dT h1 h2 h3 => exact .inr (.inr ⟨_, _, rfl, le _ _ h1, by rw [zip_len h2]; exact fin _ h⟩)
  · obtain ⟨a, vs, rfl, _, h1, h2, h3⟩ := rx
    exact .inr (.inl ⟨_, _, rfl, h1, by rw [zip_len h2]; exact fin _ h⟩)
  · obtain ⟨a, vs, rfl, _, h1, h2, h3⟩ := rx
    exact .inr (.inr ⟨_, _, rfl, h1, by rw [zip_len h2]; exact fin _ h⟩)
  · split at h
    · rename_i xs e
      obtain ⟨a, vs, rfl, hs, rv⟩ := rx.seq le e
      refine .inl ⟨.ref a, vs.length, rfl, ?_, by rw [rv.length]; exact fin _ h⟩
      rcases hs with hs | hs
      · exact .inl ⟨vs, hs, rfl⟩
      · exact .inr ⟨vs, hs, rfl⟩
    · exact h.elim
end
theorem call_lenA {X : Cx} : CallR X (.builtin "len") (rLenA X.K) := call_len.or (CallR.or (by
  intro pins s σ H xs us Q I r h
  obtain ⟨p, kvs, e, h1, h2⟩ := h
  exact call_lenD pins s σ H xs us Q I r ⟨p, kvs, e, h1, h2⟩) call_len_dT)
def intF : LV → (LV → Prop) → Prop := fun x P => match x with
  | .d (.int i) => P (.d (.int i))
  | .d (.bl b) => P (.d (.int (if b then 1 else 0)))
  | _ => False
theorem int_ok {S : Type} {T : Sto S} {K : PySem.W.Frag} {cl : Nat → Addr} : UnS T K cl (fun xs H Q => (∃ i, xs = [.int i] ∧ Q (.int i) H) ∨ ∃ k, xs = [.bl k] ∧ Q (.int (if k then 1 else 0)) H) intF := by
  intro s G H x lx Q P le gF ok rx h q
  unfold intF at h
  split at h
  · cases rx; exact .inl ⟨_, rfl, q _ _ G H h (.refl le gF) ok (Rp.int _) (fun o => by cases o)⟩
  · cases rx; exact .inr ⟨_, rfl, q _ _ G H h (.refl le gF) ok (Rp.int _) (fun o => by cases o)⟩
  · exact h.elim
/-- list(x) of a list or tuple, of a dict with keys that are ints and texts -/
def Key.d : Key → D
  | .inl i => .int i
  | .inr x => .str x
def listF : LV → (LV → Prop) → Prop := fun x P => match x with
  | .d (.dK ks _) => P (.l (ks.map Key.d))
  | .k ks _ => P (.l (ks.map Key.d))
  | x => match x.seq with
    | some xs => P (.l xs)
    | none => False
def rListA (K : PySem.W.Frag) : List V → Hp → VK → Prop := fun xs H Q => (∃ p ys, xs = [.ref p] ∧ (SqL K H p ys ∨ SqT K H p ys) ∧ ∀ l, H l = none → Q (.ref l) (upd H l (.lst ys))) ∨ rListD xs H Q
theorem call_listA {X : Cx} (hc : X.calm = true) : CallR X (.type "list") (rListA X.K) := call_list_of.or (call_list_dK hc)
section
variable {S : Type} {T : Sto S} {K : PySem.W.Frag} {cl : Nat → Addr} {G H : Hp} {Q : VK} {P : LV → Prop} {s : S}
theorem keys_rps : ∀ (ks : List Key), Rps K cl G (ks.map kV) (ks.map Key.d)
  | [] => .nil
  | .inl i :: r => .cons (.int i) (keys_rps r)
  | .inr x :: r => .cons (.str x) (keys_rps r)
theorem map_zip {α β : Type} {a : List α} {b : List β} (h : a.length = b.length) : (a.zip b).map (·.1) = a := by
  induction a generalizing b with
  | nil => rfl
  | cons x a ih =>
    cases b with
    | nil => cases h
    | cons y b => rw [List.zip_cons_cons, List.map_cons, ih (by simpa using h)]
theorem map_zipk {a : List Key} {b : List V} (h : a.length = b.length) : (a.zip b).map (fun kv => kV kv.1) = a.map kV := by
  rw [show (fun kv : Key × V => kV kv.1) = kV ∘ (·.1) from rfl, ← List.map_map, map_zip h]
/-- a new list, ours alone -/
theorem new_list {ys : List V} {xs : List D} (le : Le G H) (gF : ∀ a, T.F a → G a = none) (ok : T.ok s H) (r : Rps K cl G ys xs) (p : P (.l xs))
    (q : ∀ lz v G' H', P lz → Stp T G H G' H' → T.ok s H' → RL K cl G' H' v lz → (lz.own = true → ∀ a, v = .ref a → H a = none ∧ ¬ T.F a) → Q v H') : ∀ l, H l = none → Q (.ref l) (upd H l (.lst ys)) := fun l hl =>
  q _ _ _ _ p (.fresh le gF hl) (T.stays ok (le_upd hl)) ⟨l, ys, rfl, fresh_own le hl, upd_same, r⟩ fun _ d e => by
    cases e
    exact ⟨hl, fun f => T.al s H l ok f hl⟩
theorem list_ok : UnS T K cl (rListA K) listF := by
  intro s G H x lx Q P le gF ok rx h q
  unfold listF at h
  split at h
  · cases rx with
    | dK h1 h2 h3 => exact .inr ⟨_, _, rfl, le _ _ h1, fun l hl => by rw [map_zipk h2]; exact new_list le gF ok (keys_rps _) h q l hl⟩
  · obtain ⟨a, vs, rfl, _, h1, h2, h3⟩ := rx
    exact .inr ⟨_, _, rfl, h1, fun l hl => by rw [map_zipk h2]; exact new_list le gF ok (keys_rps _) h q l hl⟩
  · split at h
    · rename_i xs e
      obtain ⟨a, vs, rfl, hs, rv⟩ := rx.seq le e
      exact .inl ⟨a, vs, rfl, hs, new_list le gF ok rv h q⟩
    · exact h.elim
/-- tuple(x) of a list or tuple -/
def tupleF : LV → (LV → Prop) → Prop := fun x P => match x with
  | .d (.tup xs) => P (.d (.tup xs))
  | .d (.tupK xs) => P (.d (.tupK xs))
  | x => match x.lis with
    | some xs => P (.d (.tup xs))
    | none => False
theorem tuple_ok : UnS T K cl (fun xs H Q => ∃ p ys, xs = [.ref p] ∧ ((SqL K H p ys ∧ ∀ l, H l = none → Q (.ref l) (upd H l (.tup ys))) ∨ (SqT K H p ys ∧ Q (.ref p) H))) tupleF := by
  intro s G H x lx Q P le gF ok rx h q
  unfold tupleF at h
  split at h
  · cases rx with
    | tup h1 h2 => exact ⟨_, _, rfl, .inr ⟨.of (le _ _ h1), q _ _ G H h (.refl le gF) ok (Rp.tup h1 h2) (fun o => by cases o)⟩⟩
  · cases rx with
    | tupK h1 h2 => exact ⟨_, _, rfl, .inr ⟨sqT_le h1 (fun a o z => by cases z), q _ _ G H h (.refl le gF) ok (Rp.tupK h1 h2) (fun o => by cases o)⟩⟩
  · split at h
    · rename_i xs e
      obtain ⟨a, vs, rfl, hs, rv⟩ := rx.lis le e
      refine ⟨a, vs, rfl, .inl ⟨.of hs, fun l hl => ?_⟩⟩
      have b := Stp.new (T := T) (o := .tup vs) le gF (fun a f => T.al s H a ok f) hl
      exact q _ _ _ _ h b (T.stays ok (le_upd hl)) (Rp.tup upd_same (Rps.mono b.g _ _ rv)) (fun o => by cases o)
    · exact h.elim
end

/-! ### isinstance -/
inductive Ty6 where | int | bool | str | tuple | list | dict
def Ty6.name : Ty6 → String
  | .int => "int" | .bool => "bool" | .str => "str" | .tuple => "tuple" | .list => "list" | .dict => "dict"
structure InsC (K : PySem.W.Frag) (C : Addr) : Prop where
  cl : Cls K C
  ha : PySem.W.findIn K (.ref C) "__class__" = some (some (.builtin "object.__class__"))
  hn : PySem.W.specialIn K (.builtin "object.__class__") "__get__" = some (some (.builtin "getset_descriptor.__get__"))
  htk : PySem.W.takesIn K (.builtin "object.__class__") = some true
  hm : PySem.W.mroIn K C (.type "object") = some true
/-- the class of an instance is known -/
structure ClsOk (K : PySem.W.Frag) (C : Addr) : Prop where
  ins : InsC K C
  out : ∀ T : Ty6, PySem.W.kitOne K (.ref C) (.type T.name) = some false
  inn : ∀ T : Ty6, PySem.W.kitOne K (.type T.name) (.ref C) = some false
  non : PySem.W.kitOne K (.type "NoneType") (.ref C) = some false
def Ty6.has (T : Ty6) : D → Bool
  | .non => false
  | .bl _ => match T with | .bool => true | .int => true | _ => false
  | .int _ => match T with | .int => true | _ => false
  | .str _ => match T with | .str => true | _ => false
  | .tup _ => match T with | .tuple => true | _ => false
  | .tupK _ => match T with | .tuple => true | _ => false
  | .lst _ => match T with | .list => true | _ => false
  | .dK _ _ => match T with | .dict => true | _ => false
  | .dT _ _ => match T with | .dict => true | _ => false
  | .ins _ _ _ => false
def LV.dd : LV → Option D
  | .d x => some x
  | .l xs => some (.lst xs)
  | .k ks xs => some (.dK ks xs)
  | .t ks xs => some (.dT ks xs)
  | .o _ c ns xs => some (.ins c ns xs)
  | .raw _ => none
def isT (T : Ty6) : LV → (LV → Prop) → Prop := fun x P => match x.dd with
  | some d => P (.d (.bl (T.has d)))
  | none => False
/-- isinstance(x, C), C an own class by its number -/
def D.isC (c : Nat) : D → Bool
  | .ins k _ _ => decide (k = c)
  | _ => false
def D.clsLt (n : Nat) : D → Bool
  | .ins k _ _ => decide (k < n)
  | _ => true
def isC (n c : Nat) : LV → (LV → Prop) → Prop := fun x P => match x.dd with
  | some d => d.clsLt n = true ∧ P (.d (.bl (d.isC c)))
  | none => False
section
variable {K : PySem.W.Frag} {cl : Nat → Addr} {G H : Hp}
theorem kit6 (a b : Ty6) : PySem.W.kitOne K (.type a.name) (.type b.name) = some (match a, b with | .int, .int => true | .bool, .bool => true | .bool, .int => true | .str, .str => true | .tuple, .tuple => true | .list, .list => true | .dict, .dict => true | _, _ => false) := by
  cases a <;> cases b <;> exact kit_ty (by decide +kernel)
theorem kitN (b : Ty6) : PySem.W.kitOne K (.type "NoneType") (.type b.name) = some false := by
  cases b <;> exact kit_ty (by decide +kernel)
/-- the type of a value, as data tells it -/
def D.ty (cl : Nat → Addr) : D → Value
  | .non => .type "NoneType"
  | .bl _ => .type "bool" | .int _ => .type "int" | .str _ => .type "str"
  | .tup _ => .type "tuple" | .tupK _ => .type "tuple" | .lst _ => .type "list" | .dK _ _ => .type "dict" | .dT _ _ => .type "dict"
  | .ins c _ _ => .ref (cl c)
theorem ty_rp (hc : ∀ c, ClsOk K (cl c)) (le : Le G H) {v : V} {d : D} (r : Rp K cl G v d) : TyX K H v (d.ty cl) := by
  cases r with
  | non => exact .base .non
  | bl b => exact .base (.bl b)
  | int i => exact .base (.int i)
  | str x => exact .base (.str x)
  | tup h1 h2 => exact .base (.tup (le _ _ h1))
  | tupK h1 h2 =>
    rcases h1 with h1 | ⟨o, its, n, hk, hcl, _⟩
    · rcases h1 with h1 | ⟨o, h1⟩ <;> cases h1
    · exact .kTuple hk hcl
  | lst h1 h2 => exact .base (.lst (le _ _ h1))
  | dK h1 h2 h3 => exact .base (.dK (le _ _ h1))
  | dT h1 h2 h3 => exact .base (.dT (le _ _ h1))
  | @ins a dx c ns vs xs h1 h2 h3 => exact .base (.ins (le _ _ h1) (hc c).ins.cl (hc c).ins.ha (hc c).ins.hn (hc c).ins.htk (hc c).ins.hm)
theorem ty_rl (hc : ∀ c, ClsOk K (cl c)) (le : Le G H) {v : V} {lv : LV} {d : D} (r : RL K cl G H v lv) (e : lv.dd = some d) : TyX K H v (d.ty cl) := by
  cases lv with
  | d x => cases e; exact ty_rp hc le r
  | l xs => cases e; obtain ⟨a, vs, rfl, _, q, _⟩ := r; exact .base (.lst q)
  | k ks xs => cases e; obtain ⟨a, vs, rfl, _, q, _⟩ := r; exact .base (.dK q)
  | t ks xs => cases e; obtain ⟨a, vs, rfl, _, q, _⟩ := r; exact .base (.dT q)
  | o b c ns xs => cases e; obtain ⟨a, vs, rfl, _, ⟨dx, q⟩, _⟩ := r; exact .base (.ins q (hc c).ins.cl (hc c).ins.ha (hc c).ins.hn (hc c).ins.htk (hc c).ins.hm)
  | raw u => cases e
theorem ty_kit (hc : ∀ c, ClsOk K (cl c)) (T : Ty6) (d : D) : PySem.W.kitOne K (d.ty cl) (.type T.name) = some (T.has d) := by
  cases d with
  | non => exact kitN T
  | bl b => cases T <;> exact kit6 .bool _
  | int b => cases T <;> exact kit6 .int _
  | str b => cases T <;> exact kit6 .str _
  | tup b => cases T <;> exact kit6 .tuple _
  | tupK b => cases T <;> exact kit6 .tuple _
  | lst b => cases T <;> exact kit6 .list _
  | dK b c => cases T <;> exact kit6 .dict _
  | dT b c => cases T <;> exact kit6 .dict _
  | ins c ns xs => exact (hc c).out T
/-- own classes, none over another one: the class of an instance is just its own -/
def Apart (K : PySem.W.Frag) (cl : Nat → Addr) (n c : Nat) : Prop := ∀ k, k < n → PySem.W.kitOne K (.ref (cl k)) (.ref (cl c)) = some (decide (k = c))
theorem cls_kit (hc : ∀ c, ClsOk K (cl c)) {n c : Nat} (ap : Apart K cl n c) (d : D) (hn : d.clsLt n = true) : PySem.W.kitOne K (d.ty cl) (.ref (cl c)) = some (d.isC c) := by
  cases d with
  | non => exact (hc c).non
  | bl b => exact (hc c).inn .bool
  | int b => exact (hc c).inn .int
  | str b => exact (hc c).inn .str
  | tup b => exact (hc c).inn .tuple
  | tupK b => exact (hc c).inn .tuple
  | lst b => exact (hc c).inn .list
  | dK b k => exact (hc c).inn .dict
  | dT b k => exact (hc c).inn .dict
  | ins k ns xs => exact ap k (by simpa [D.clsLt] using hn)
end
section
variable {S : Type} {B : Bd S} {X : Cx} {e c : Expr} {pos : Pos} {w : W S}
theorem we_isT {T : Ty6} (hc : ∀ c, ClsOk X.K (B.cl c)) (h : PE X c (tCB (rIsi X.K) (tCons (tlb X.K B w) (tCons (tC (.ty T.name)) tNil)))) : PE X c (tl X.K B (wUn (isT T) w)) :=
  imp h fun σ H Q ⟨G, env, s, P, N, L, w', k, n⟩ => by
    refine ⟨G, env, s, _, N, L, w', fun lx s1 w1 x G1 H1 a1 ok1 r1 o1 => ?_, n⟩
    unfold isT at w1
    split at w1
    · rename_i d e
      exact ⟨x, .ty T.name, _, _, _, rfl, .ty _, ty_rl hc a1.le r1 e, ty_kit hc T d, k _ s1 w1 _ G1 H1 a1 ok1 (Rp.bl _) (fun o => by cases o)⟩
    · exact w1.elim
theorem we_isC {m n : Nat} {C : Addr} (hC : C = B.cl n) (hc : ∀ c, ClsOk X.K (B.cl c)) (ap : Apart X.K B.cl m n) (h : PE X c (tCB (rIsi X.K) (tCons (tlb X.K B w) (tCons (tC (.ref C)) tNil)))) : PE X c (tl X.K B (wUn (isC m n) w)) :=
  imp h fun σ H Q ⟨G, env, s, P, N, L, w', k, nn⟩ => by
    refine ⟨G, env, s, _, N, L, w', fun lx s1 w1 x G1 H1 a1 ok1 r1 o1 => ?_, nn⟩
    unfold isC at w1
    split at w1
    · rename_i d e
      subst hC
      exact ⟨x, .ref (B.cl n), _, _, _, rfl, .own _, ty_rl hc a1.le r1 e, cls_kit hc ap d w1.1, k _ s1 w1.2 _ G1 H1 a1 ok1 (Rp.bl _) (fun o => by cases o)⟩
    · exact w1.elim
end

/-! ### defs: what they hand back, and their calls -/
inductive Out where
  | ret (lv : LV) | exc (c : Nat) (d : D)
/-- the promise of a def that changes nothing that was there -/
def spP (K : PySem.W.Frag) (cl xl : Nat → Addr) (m : List LV → Option Out) : Sp := fun vs H Q E => ∃ G lvs, Le G H ∧ RLs K cl G H vs lvs ∧ ∃ o, m lvs = some o ∧ match o with
  | .ret lv => ∀ v G' H', Stp Sto.no G H G' H' → RL K cl G' H' v lv → (lv.own = true → ∀ a, v = .ref a → H a = none) → Q v H'
  | .exc c d => ∀ G' H' dd v, Stp Sto.no G H G' H' → H' dd = some (.xd [("what", v)]) → Rp K cl G' v d → E (.ref (xl c)) (some dd) H'
theorem Stp.wide {S : Type} {T : Sto S} {G H G' H' : Hp} {s : S} (a : Stp Sto.no G H G' H') (gF : ∀ a, T.F a → G a = none) (ok : T.ok s H) : Stp T G H G' H' := by
  refine ⟨a.g, a.le, fun c f => ?_, fun c o e _ => a.hh c o e (fun z => z.elim), a.gn⟩
  cases e : G' c with
  | none => rfl
  | some o => exact (a.gn c (T.al s H c ok f) (by rw [e]; exact fun z => by cases z)).elim (fun z => absurd (gF c f) z) fun ⟨vs, z⟩ => absurd z (T.nt s H c vs ok f)
section
variable {S : Type} {B : Bd S} {X : Cx} {c : Expr} {pos : Pos} {wa : WA S}
/-- f(..), f raises nothing here -/
def wCall (m : List LV → Option Out) (dls : List LV) (wa : WA S) : W S := fun env s P N => wa env s (fun lvs s' => match m (lvs ++ dls) with
  | some (.ret lv) => P lv s'
  | _ => False) N
theorem we_call {xl : Nat → Addr} {m : List LV → Option Out} {dvs : List V} {dls : List LV} {E : XK} (h : PE X c (tCall (spP X.K B.cl xl m) dvs E (tla X.K B wa))) (hd : ∀ G H, RLs X.K B.cl G H dvs dls) : PE X c (tl X.K B (wCall m dls wa)) :=
  imp h fun σ H Q ⟨G, env, s, P, N, L, w', k, n⟩ => by
    refine ⟨G, env, s, _, N, L, w', fun lvs s1 w1 vs G1 H1 a1 ok1 r1 => ?_, n⟩
    split at w1
    · rename_i lv e
      refine ⟨G1, lvs ++ dls, a1.le, r1.append (hd G1 H1), _, e, fun v G2 H2 a2 r2 o2 => ?_⟩
      have b := a2.wide (T := B.T) a1.gF ok1
      refine k lv s1 w1 v G2 H2 (a1.trans b) (B.T.stays ok1 fun a o e => a2.hh a o e (fun z => z.elim)) r2 fun o a e => ?_
      have nF : ¬ B.T.F a := fun f => B.T.al s1 H1 a ok1 f (o2 o a e)
      exact ⟨a1.dead (o2 o a e) nF, nF⟩
    · exact w1.elim
end

/-! ### statements -/
section
variable {S : Type} {B : Bd S} {X : Cx} {e : Expr} {st : Stmt} {rest : List Stmt} {pos : Pos} {w : W S} {t : WT S} {u v : WS S}
def wNx : WS S := fun M env s => M.nx env s
def wSeq (u v : WS S) : WS S := fun M env s => u { M with nx := v M } env s
def wRet (w : W S) : WS S := fun M env s => w env s M.rt (M.xn env)
def wRetN : WS S := fun M _ s => M.rt (.d .non) s
def wIfS (t : WT S) (u v : WS S) : WS S := fun M env s => t env s (fun k s1 => if k = true then u M env s1 else v M env s1) (M.xn env)
def wSet (i : Nat) (w : W S) : WS S := fun M env s => w env s (fun lv s1 => M.nx (env.set i (some lv)) s1) (M.xn env)
def wBrk : WS S := fun M env s => M.bk env s
def wCnt : WS S := fun M env s => M.ct env s
theorem Rel.mono {M : ED S} {E : Ends} {K : PySem.W.Frag} {G G1 : Hp} (r : Rel K B G M E) (k : Le G G1) : Rel K B G1 M E :=
  ⟨fun G' σ' H' env' s' l => r.nx G' σ' H' env' s' (k.trans l), r.rt, fun G' σ' H' env' s' l => r.bk G' σ' H' env' s' (k.trans l), fun G' σ' H' env' s' l => r.ct G' σ' H' env' s' (k.trans l), fun G' σ' H' env' s' l => r.xn G' σ' H' env' s' (k.trans l)⟩
theorem Rel.xnS {M : ED S} {E : Ends} {K : PySem.W.Frag} {G H : Hp} {σ : L2.St} {env : LEnv} {s : S} (r : Rel K B G M E) (L : Lf B.T K B.cl B.H0 B.G0 G σ H env s) : XnOk K B G H σ (M.xn env) := r.xn G σ H env s (Le.refl _) L
theorem ws_nil : PSs X [] (ts X.K B wNx) := impSs pss_nil fun E σ H ⟨G, env, s, M, L, w', r⟩ => r.nx G σ H env s (Le.refl _) L w'
theorem ws_pass : PS X (.Pass pos) (ts X.K B wNx) := impS ps_pass fun E σ H ⟨G, env, s, M, L, w', r⟩ => r.nx G σ H env s (Le.refl _) L w'
theorem ws_brk : PS X (.Break pos) (ts X.K B wBrk) := impS ps_break fun E σ H ⟨G, env, s, M, L, w', r⟩ => r.bk G σ H env s (Le.refl _) L w'
theorem ws_cnt : PS X (.Continue pos) (ts X.K B wCnt) := impS ps_continue fun E σ H ⟨G, env, s, M, L, w', r⟩ => r.ct G σ H env s (Le.refl _) L w'
theorem ws_cons (h1 : PS X st (ts X.K B u)) (h2 : PSs X rest (ts X.K B v)) : PSs X (st :: rest) (ts X.K B (wSeq u v)) := impSs (pss_cons h1 h2) fun E σ H ⟨G, env, s, M, L, w', r⟩ =>
  ⟨G, env, s, _, L, w', fun G' σ' H' env' s' l L' w2 => ⟨G', env', s', M, L', w2, r.mono l⟩, r.rt, r.bk, r.ct, r.xn⟩
theorem ws_one (h1 : PS X st (ts X.K B u)) : PSs X [st] (ts X.K B u) := pss_one h1
theorem ws_ret (h : PE X e (tl X.K B w)) : PS X (.Return (some e) pos) (ts X.K B (wRet w)) := impS (ps_ret h) fun E σ H ⟨G, env, s, M, L, w', r⟩ =>
  ⟨G, env, s, _, _, L, w', fun lv s' p v G' H' a ok rl o => r.rt lv s' p v G' H' (L.stp.trans a) ok rl fun z d e => ⟨L.stp.dead (o z d e).1 (o z d e).2, (o z d e).2⟩, r.xnS L⟩
theorem ws_retN : PS X (.Return none pos) (ts X.K B wRetN) := impS ps_retN fun E σ H ⟨G, env, s, M, L, w', r⟩ => r.rt _ s w' .non G H L.stp L.ok Rp.non (fun o => by cases o)
/-- return x, x a name's own list -/
def wRetV (i : Nat) : WS S := fun M env s => match env.at i with
  | some lv => M.rt lv s
  | none => False
theorem ws_retV {i : Nat} (h : PE X e (tVar i)) : PS X (.Return (some e) pos) (ts X.K B (wRetV i)) := impS (ps_ret h) fun E σ H ⟨G, env, s, M, L, w', r⟩ => by
  unfold wRetV at w'
  split at w'
  · rename_i lv e
    obtain ⟨v, q, rl⟩ := L.slot i lv (LEnv.at_get e)
    exact ⟨v, q, r.rt lv s w' v G H L.stp L.ok rl fun o a z => L.own i lv a (LEnv.at_get e) o (by rw [q, z])⟩
  · exact w'.elim
theorem ws_if {c : Expr} {a b : List Stmt} (hc : PT X c (tlt X.K B t)) (ha : PSs X a (ts X.K B u)) (hb : PSs X b (ts X.K B v)) : PS X (.If c a b pos) (ts X.K B (wIfS t u v)) := impS (ps_if hc ha hb) fun E σ H ⟨G, env, s, M, L, w', r⟩ =>
  ⟨G, env, s, _, _, L, w', fun k s' p G' H' a1 ok => by
    cases k with
    | true => exact iteT ⟨G', env, s', M, L.step a1 ok, by rw [if_pos rfl] at p; exact p, r.mono a1.g⟩
    | false => exact iteF ⟨G', env, s', M, L.step a1 ok, by rw [if_neg Bool.false_ne_true] at p; exact p, r.mono a1.g⟩, r.xnS L⟩
/-- x = e -/
theorem ws_set {i : Nat} {x : Str} {pos' : Pos} (hN : X.N.Nodup) (hi : X.N[i]? = some x) (hx : Loc X.env.scope x) (he : PE X e (tl X.K B w)) (hs : swapsWith e (some (.Name x pos')) pos.line X.env = pure false := by rfl)
    (hf : X.fn x = true ∨ X.env.scope.names.lookup x = some .local := by first | exact .inl rfl | exact .inr rfl | assumption) : PS X (.Assign [.Name x pos'] e pos) (ts X.K B (wSet i w)) :=
  impS (ps_set hN hi hx he hs hf) fun E σ H ⟨G, env, s, M, L, w', r⟩ =>
    ⟨G, env, s, _, _, L, w', fun lv s' p v G' H' a ok rl o => r.nx G' _ H' _ s' a.g (L.set a ok rl o) p, r.xnS L⟩
/-- an expression whose value is dropped -/
def wDrop (w : W S) : WS S := fun M env s => w env s (fun _ s1 => M.nx env s1) (M.xn env)
theorem ws_expr (he : PE X e (tl X.K B w)) (hs : swapsWith e none pos.line X.env = pure false := by rfl) : PS X (.Expr e pos) (ts X.K B (wDrop w)) := impS (ps_expr he hs) fun E σ H ⟨G, env, s, M, L, w', r⟩ =>
  ⟨G, env, s, _, _, L, w', fun lv s' p v G' H' a ok rl o => r.nx G' σ H' env s' a.g (L.step a ok) p, r.xnS L⟩
end

/-! ### a def by its body -/
def startE (N : List Str) (lvs : List LV) : LEnv := lvs.map some ++ List.replicate (N.length - lvs.length) none
theorem start_len {N : List Str} {vs : List V} {lvs : List LV} (h : vs.length = lvs.length) : (start N vs).length = (startE N lvs).length := by
  unfold L2.start startE
  simp [h]
section
variable {K : PySem.W.Frag} {cl : Nat → Addr}
theorem lf_start {S : Type} {T : Sto S} {G H : Hp} {N : List Str} {vs : List V} {lvs : List LV} {s : S} (le : Le G H) (gF : ∀ a, T.F a → G a = none) (ok : T.ok s H) (r : RLs K cl G H vs lvs) : Lf T K cl H G G (start N vs) H (startE N lvs) s := by
  have key : ∀ (i : Nat) (lv : LV), (startE N lvs)[i]? = some (some lv) → ∃ v, (start N vs)[i]? = some (some v) ∧ RL K cl G H v lv ∧ lv.own = false := fun i lv e => by
    unfold startE at e
    by_cases hi : i < lvs.length
    · rw [List.getElem?_append_left (by simpa using hi), List.getElem?_map] at e
      obtain ⟨lv', e1, e2⟩ := Option.map_eq_some_iff.mp e
      cases e2
      obtain ⟨v, q, rl⟩ := r.get e1
      refine ⟨v, ?_, rl⟩
      unfold L2.start
      rw [List.getElem?_append_left (by rw [List.length_map, r.length]; exact hi), List.getElem?_map, q]
      rfl
    · rw [List.getElem?_append_right (by simpa using hi), List.getElem?_replicate] at e
      split at e <;> cases e
  refine ⟨.refl le gF, ok, start_len r.length, fun i lv e => ?_, fun i lv a e o _ => ?_, fun i j lv lv' a _ e _ o _ _ _ => ?_⟩
  · obtain ⟨v, q, rl, _⟩ := key i lv e
    exact ⟨v, q, rl⟩
  · obtain ⟨v, q, rl, z⟩ := key i lv e
    rw [z] at o; cases o
  · obtain ⟨v, q, rl, z⟩ := key i lv e
    rw [z] at o; cases o
end
end DL
/-! DL6: what a loop walks, for, append and extend. -/
namespace DL
open PySem PySem.Spec PyProof.Rows L2

/-! ### enumerate of a tuple -/
section
open Sem (wp)
open AutoSeq1 (wpAny_loadPart')
theorem meets_enumT (l : Addr) (items : Array Value) (n : Nat) (dct : Option Addr) (sl : Array (Option Value)) :
    Meets (Builtin.«enumerate.__new__» ⟨[.type "enumerate", .ref l], []⟩) (fun _ R s => s.heap.get? l = some { cls := .type "tuple", dict := dct, data := .seq items n, slots := sl } ∧
      R (.ok (.ret (.ref (s.heap.push { cls := .type "tuple_iterator", data := .fields #[.ref l, .int 0 0] }).objs.size)))
        { s with heap := (s.heap.push { cls := .type "tuple_iterator", data := .fields #[.ref l, .int 0 0] }).push { cls := .type "enumerate", data := .fields #[.none, .bool false, .ref s.heap.objs.size, rawInt 0, .none, .none] } }) :=
  .of_wp fun prog w A R s h => by
    obtain ⟨hp, g, d, tk, os⟩ := s; obtain ⟨hl, h⟩ := h
    have hsub := sub_enumerate
    have hL : Heap.IsTuple (Shared.heap ⟨hp, g, d, tk, os⟩) l items := ⟨_, hl, rfl, n, rfl⟩
    wp_walk using wpAny_loadPart' hl
    refine wpAny_stack_any fun st => wpAny_pure ?_
    split
    · rename_i c _ _ _ _ _
      cases (c == Value.type "enumerate")
      · wp_walk using wpAny_loadPart' hl, wpAny_pyIter_tuple hL
        exact ⟨_, rfl, h⟩
      · wp_walk using wpAny_loadPart' hl, wpAny_pyIter_tuple hL
        exact ⟨_, rfl, h⟩
    · wp_walk using wpAny_loadPart' hl, wpAny_pyIter_tuple hL
      exact ⟨_, rfl, h⟩
theorem call_enumT {prog : Program} {w : World} {A : Around} {E : Value → Shared → Prop} {s : Shared} {l : Addr} {items : Array Value} {Q : Value → Shared → Prop} (hL : s.heap.IsTuple l items)
    (h : ∀ h', IsEnum h' (s.heap.objs.size + 1) s.heap.objs.size 0 .none → h'.IsTupleIter s.heap.objs.size l 0 → h'.objs.size = s.heap.objs.size + 2 →
      (∀ b o, s.heap.get? b = some o → h'.get? b = some o) → Q (.ref (s.heap.objs.size + 1)) { s with heap := h' }) :
    wpAny (model prog w) A (call (.type "enumerate") [.ref l]) Q E s := by
  obtain ⟨⟨c, dct, dt, sl⟩, hl, hc, n, hd⟩ := hL
  replace hc : c = .type "tuple" := hc
  replace hd : dt = .seq items n := hd
  subst hc hd
  refine callType_new F.called_enumerate (by decide) (F.typeCall_enumerate_1 _) (F.newCall_enumerate_1 _) (fun obj => F.args_object_init_2 obj _) F.entry_enumerate_new
    (meets_enumT l items n dct sl) ⟨hl, ?_⟩
  have hz : (s.heap.push { cls := .type "tuple_iterator", data := .fields #[.ref l, .int 0 0] }).objs.size = s.heap.objs.size + 1 := Heap.size_push ..
  show _ ∧ _
  rw [hz]
  have he : IsEnum ((s.heap.push { cls := .type "tuple_iterator", data := .fields #[.ref l, .int 0 0] }).push
      { cls := .type "enumerate", data := .fields #[.none, .bool false, .ref s.heap.objs.size, rawInt 0, .none, .none] }) (s.heap.objs.size + 1) s.heap.objs.size 0 .none := by
    have := Heap.get?_push_size (s.heap.push { cls := .type "tuple_iterator", data := .fields #[.ref l, .int 0 0] })
      (o := { cls := .type "enumerate", data := .fields #[.none, .bool false, .ref s.heap.objs.size, rawInt 0, .none, .none] }) rfl
    rw [hz] at this; exact this
  refine ⟨⟨_, he, rfl⟩, h _ he ⟨_, Heap.get?_push_of_some _ (Heap.get?_push_size _ rfl), rfl, rfl⟩ (by rw [Heap.size_push, hz]) fun b o x => Heap.get?_push_of_some _ (Heap.get?_push_of_some _ x)⟩
end
def IteT (K : PySem.W.Frag) (a : Addr) : It :=
  ⟨fun i H => ∃ (xs : List V) (x : V), SqT K H a xs ∧ xs[i]? = some x, fun i H v H' => ∃ T x, v = .ref T ∧ H T = none ∧ H' = upd H T (.tup [.int (i : Nat), x]) ∧ ∀ xs, SqT K H a xs → xs[i]? = some x, fun i H => ∃ xs : List V, SqT K H a xs ∧ xs.length ≤ i⟩
theorem turn_enumT {P : Program} {w : World} {K : PySem.W.Frag} {elts : List Expr} {kk : Nat} {tpos : Pos} (a e it : Addr) (ha : a ≠ e) (ha2 : a ≠ it) :
    Turn P w K (.Tuple elts kk tpos) (IteT K a) [e, it] e (fun i h => (∃ old, IsEnum h e it ((i : Nat) : Int) old) ∧ h.IsTupleIter it a i ∧ e ≠ it) where
  mem := by simp
  obj := fun i h st b hb => by
    obtain ⟨⟨old, he⟩, ⟨o, ho, hc, hd⟩, _⟩ := st
    have e' : b = e ∨ b = it := by simpa using hb
    rcases e' with z | z
    · rw [z]; exact ⟨_, he, fun v q => nomatch q⟩
    · rw [z]; exact ⟨o, ho, fun v q => by rw [hd] at q; cases q⟩
  keep := fun i h h' st k => let ⟨⟨old, he⟩, hi, hne⟩ := st; ⟨⟨old, k e (by simp) _ he⟩, hi.at fun o q => k it (by simp) o q, hne⟩
  item := by
    intro X hP hw hK hc i pins s σ H E I hf st hg
    subst hP hw hK
    obtain ⟨⟨old, he⟩, hit, hne⟩ := st
    obtain ⟨xs, x, hq, hx⟩ := hg
    obtain ⟨its, rv, p, hz⟩ := I.tuple hq
    obtain ⟨u, hu, ru⟩ := rv.get hx
    have hel : e < s.heap.objs.size := Heap.lt_size he
    have hil : it < s.heap.objs.size := by obtain ⟨_, q, _⟩ := hit; exact Heap.lt_size q
    have p' : s.heap.IsTuple a its.toArray := p
    have hlt : i < its.toArray.size := by
      have := (List.getElem?_eq_some_iff.mp hu).1
      simpa using this
    refine wpAny_pyNext_enum_itemD (fp := [it, a]) (St := fun i h => h.IsTupleIter it a i ∧ h.IsTuple a its.toArray) (Draws.tuple (show X.A.in1.handled = none from I.ok.hd hc) it a ha2 its.toArray) he ⟨hit, p'⟩ hlt hne (by simp [hne, Ne.symm ha]) fun y h' tk hy ho hit' hT hsz hk => ?_
    have ey : y = u := by
      have : its.toArray[i]? = some u := by simpa using hu
      rw [this] at hy
      exact (Option.some.inj hy).symm
    subst ey
    refine ⟨_, rfl, wpAny_letOwnedTupleGo_enum (s := { s with heap := h', toks := tk + 1 }) ho fun h'' he' sb => ?_⟩
    have hT2 : h''.get? s.heap.objs.size = some { cls := .type "tuple", data := .seq #[.int i tk, y] } := (sb.2 _ (Nat.ne_of_gt hel)).trans hT
    have new : ObjOk X.prog X.w (upd H s.heap.objs.size (.tup [.int (i : Nat), x])) h'' s.heap.objs.size (.tup [.int (i : Nat), x]) :=
      ⟨by show 2 ≤ sizeLine; decide, [.int i tk, y], .cons ⟨_, rfl⟩ (.cons ru .nil), ⟨_, hT2, rfl, _, rfl⟩⟩
    have I1 : Inv X pins σ (upd H s.heap.objs.size (.tup [.int (i : Nat), x])) { s with heap := h'', toks := tk + 1 } :=
      I.turnedNew (ch := [e, it]) (fun b ob hb q => (sb.2 b (fun z => hb (by simp [z]))).trans (hk b ob (fun z => hb (by simp [z])) (fun z => hb (by simp [z])) q)) hf (Nat.le_refl _) new
    refine ⟨.ref s.heap.objs.size, _, I1, rfl, ⟨_, x, rfl, I.hok.fresh (Nat.le_refl _), rfl, fun ys hy => by rw [I.tuple_inj hy hq]; exact hx⟩, ⟨⟨y, ?_⟩, hit'.1.at fun o q => (sb.2 it (Ne.symm hne)).trans q, hne⟩, fun b hb => ?_⟩
    · have e1 : ((i + 1 : Nat) : Int) = (i : Int) + 1 := by omega
      rw [e1]; exact he'
    · have hb' : b < s.heap.objs.size := by
        have e' : b = e ∨ b = it := by simpa using hb
        rcases e' with z | z
        · rw [z]; exact hel
        · rw [z]; exact hil
      rw [upd_ne (Nat.ne_of_lt hb')]
      exact (hf b hb).1
  done := by
    intro X hP hw hK hc i pins s σ H E I hf st hg
    subst hP hw hK
    obtain ⟨⟨old, he⟩, hit, hne⟩ := st
    obtain ⟨xs, hq, hx⟩ := hg
    obtain ⟨its, rv, p, hz⟩ := I.tuple hq
    obtain ⟨f0, f1, f2, f3, f4, f5⟩ := hf it (by simp)
    have hl := rv.length
    have p' : s.heap.IsTuple a its.toArray := p
    have hT : s.TypeIs (.ref e) "enumerate" := ⟨_, he, rfl⟩
    unfold pyNext
    refine wpAny_bind (wpAny_attempt (wpAny_callSpecial?_slot (name := Str.ofString "__next__") hT F.slot_enumerate_next
      (wpAny_call_entry F.slot_enumerate_next hT F.entry_enumerate_next ?_ (F.args_enumerate_next_1 _))))
    show wpAny _ _ (field (.ref e) 2 >>= _) _ _ _
    refine wpAny_bind (wpAny_field he rfl (x := .ref it) rfl ?_)
    refine wpAny_bind (wpAny_nextOf_tuple_end (show X.A.in1.handled = none from I.ok.hd hc) hit p' (by simp; omega) fun h' x eb hx' => ?_)
    obtain ⟨o, ho, hcc⟩ := hx'
    refine wpAny_bind (wpAny_isInstance (T := "StopIteration") (b := true) ⟨o, ho, hcc⟩ isSubtype_stop ?_)
    exact wpAny_pure ⟨rfl, I.turned (t' := s.toks) (fun b o hb q => eb b o hb q) f0 f1 f3 f4 f5⟩
  self := fun A i s Q E st h => let ⟨⟨_, he⟩, _⟩ := st; wpAny_pyIter_enum he h
end DL
/-! DL7: what a loop walks, for, append, extend, items stored. -/
namespace DL
open PySem PySem.Spec PyProof.Rows L2

/-! ### what is walked -/
/-- J yields the data xs, one after another -/
structure JOk {S : Type} (T : Sto S) (K : PySem.W.Frag) (cl : Nat → Addr) (G : Hp) (J : It) (xs : List D) : Prop where
  stop : ∀ H, Le G H → J.stop xs.length H
  go : ∀ i x H, xs[i]? = some x → Le G H → J.go i H
  yld : ∀ i x H v H', xs[i]? = some x → Le G H → J.yld i H v H' → (∀ a, T.F a → H a ≠ none) → ∀ G1, Le G G1 → Le G1 H → (∀ a, T.F a → G1 a = none) → ∃ G2, Stp T G1 H G2 H' ∧ Rp K cl G2 v x ∧ ∀ s, T.ok s H → T.ok s H'
section
variable {S : Type} {T : Sto S} {K : PySem.W.Frag} {cl : Nat → Addr} {G : Hp}
theorem jok_list {a : Addr} {vs : List V} {xs : List D} (h : ∀ H, Le G H → SqL K H a vs) (r : Rps K cl G vs xs) : JOk T K cl G (Itl K a) xs where
  stop := fun H le => ⟨vs, h H le, by rw [r.length]; exact Nat.le_refl _⟩
  go := fun i x H e le => let ⟨v, q, _⟩ := r.get e; ⟨vs, v, h H le, q⟩
  yld := fun i x H v H' e le y al G1 g1 l1 gF => by
    obtain ⟨e1, y⟩ := y
    subst e1
    obtain ⟨v', q, rp⟩ := r.get e
    have := y vs (h H' le)
    rw [q] at this; cases this
    exact ⟨G1, .refl l1 gF, Rp.mono g1 _ _ rp, fun s ok => ok⟩
theorem jok_tup {a : Addr} {vs : List V} {xs : List D} (h : ∀ H, Le G H → SqT K H a vs) (r : Rps K cl G vs xs) : JOk T K cl G (Itt K a) xs where
  stop := fun H le => ⟨vs, h H le, by rw [r.length]; exact Nat.le_refl _⟩
  go := fun i x H e le => let ⟨v, q, _⟩ := r.get e; ⟨vs, v, h H le, q⟩
  yld := fun i x H v H' e le y al G1 g1 l1 gF => by
    obtain ⟨e1, y⟩ := y
    subst e1
    obtain ⟨v', q, rp⟩ := r.get e
    have := y vs (h H' le)
    rw [q] at this; cases this
    exact ⟨G1, .refl l1 gF, Rp.mono g1 _ _ rp, fun s ok => ok⟩
def signsD (z : Str) : List D := z.cps.toList.map fun c => .str ⟨#[c]⟩
theorem jok_str {z : Str} : JOk T K cl G (Its z) (signsD z) where
  stop := fun H le => by show z.cps.size ≤ (signsD z).length; unfold signsD; rw [List.length_map, Array.length_toList]; exact Nat.le_refl _
  go := fun i x H e le => by
    have := (List.getElem?_eq_some_iff.mp e).1
    show i < z.cps.size
    unfold signsD at this
    rw [List.length_map, Array.length_toList] at this
    exact this
  yld := fun i x H v H' e le y al G1 g1 l1 gF => by
    obtain ⟨e1, c, q, ev⟩ := y
    subst e1 ev
    unfold signsD at e
    rw [List.getElem?_map, Array.getElem?_toList, q] at e
    cases e
    exact ⟨G1, .refl l1 gF, .str _, fun s ok => ok⟩
def rngD (lo : Int) (n : Nat) : List D := (List.range n).map fun i => .int (lo + (i : Nat))
theorem jok_rng {lo : Int} {n : Nat} : JOk T K cl G (Itr lo n) (rngD lo n) where
  stop := fun H le => by show n ≤ _; unfold rngD; rw [List.length_map, List.length_range]; exact Nat.le_refl _
  go := fun i x H e le => by
    have := (List.getElem?_eq_some_iff.mp e).1
    show i < n
    unfold rngD at this
    rw [List.length_map, List.length_range] at this
    exact this
  yld := fun i x H v H' e le y al G1 g1 l1 gF => by
    obtain ⟨e1, ev⟩ := y
    subst e1 ev
    unfold rngD at e
    rw [List.getElem?_map] at e
    obtain ⟨j, e1, e2⟩ := Option.map_eq_some_iff.mp e
    have hj : j = i := by
      rw [List.getElem?_range (by
        have := (List.getElem?_eq_some_iff.mp e1).1
        rw [List.length_range] at this; exact this)] at e1
      exact (Option.some.inj e1).symm
    subst hj e2
    exact ⟨G1, .refl l1 gF, .int _, fun s ok => ok⟩
def enumD : Nat → List D → List D
  | _, [] => []
  | n, x :: r => .tup [.int (n : Nat), x] :: enumD (n + 1) r
theorem enumD_len : ∀ (n : Nat) (xs : List D), (enumD n xs).length = xs.length
  | _, [] => rfl
  | n, _ :: r => congrArg (· + 1) (enumD_len (n + 1) r)
theorem enumD_get : ∀ (n : Nat) (xs : List D) (i : Nat) (x : D), (enumD n xs)[i]? = some x → ∃ y, xs[i]? = some y ∧ x = .tup [.int ((n + i : Nat) : Int), y]
  | _, [], _, _, e => by simp [enumD] at e
  | n, y :: r, 0, x, e => by
    simp [enumD] at e
    exact ⟨y, rfl, by rw [← e]; rfl⟩
  | n, y :: r, i + 1, x, e => by
    obtain ⟨z, h1, h2⟩ := enumD_get (n + 1) r i x (by simpa [enumD] using e)
    exact ⟨z, by simpa using h1, by rw [h2]; congr 3; omega⟩
theorem enum_yld {i : Nat} {x : D} {xs : List D} {vs : List V} {H H' : Hp} {v : V} {p : Addr} {z : V} (r : Rps K cl G vs xs) (e : (enumD 0 xs)[i]? = some x) (le : Le G H) (al : ∀ a, T.F a → H a ≠ none) (G1 : Hp) (g1 : Le G G1) (l1 : Le G1 H) (gF : ∀ a, T.F a → G1 a = none)
    (hv : v = .ref p) (hp : H p = none) (hH : H' = upd H p (.tup [.int (i : Nat), z])) (hz : vs[i]? = some z) : ∃ G2, Stp T G1 H G2 H' ∧ Rp K cl G2 v x ∧ ∀ s, T.ok s H → T.ok s H' := by
  subst hv hH
  obtain ⟨y, e1, e2⟩ := enumD_get 0 xs i x e
  subst e2
  obtain ⟨v', q, rp⟩ := r.get e1
  rw [hz] at q; cases q
  have b := Stp.new (T := T) (o := .tup [.int (i : Nat), z]) l1 gF al hp
  refine ⟨_, b, .tup upd_same (.cons ?_ (.cons (Rp.mono (g1.trans b.g) _ _ rp) .nil)), fun s ok => T.stays ok (le_upd hp)⟩
  rw [Nat.zero_add]
  exact .int _
theorem jok_enl {a : Addr} {vs : List V} {xs : List D} (h : ∀ H, Le G H → SqL K H a vs) (r : Rps K cl G vs xs) : JOk T K cl G (Ite K a) (enumD 0 xs) where
  stop := fun H le => ⟨vs, h H le, by rw [r.length, enumD_len]; exact Nat.le_refl _⟩
  go := fun i x H e le => by
    obtain ⟨y, e1, _⟩ := enumD_get 0 xs i x e
    obtain ⟨v, q, _⟩ := r.get e1
    exact ⟨vs, v, h H le, q⟩
  yld := fun i x H v H' e le y al G1 g1 l1 gF => by
    obtain ⟨p, z, hv, hp, hH, hz⟩ := y
    exact enum_yld r e le al G1 g1 l1 gF hv hp hH (hz vs (h H le))
theorem jok_ent {a : Addr} {vs : List V} {xs : List D} (h : ∀ H, Le G H → SqT K H a vs) (r : Rps K cl G vs xs) : JOk T K cl G (IteT K a) (enumD 0 xs) where
  stop := fun H le => ⟨vs, h H le, by rw [r.length, enumD_len]; exact Nat.le_refl _⟩
  go := fun i x H e le => by
    obtain ⟨y, e1, _⟩ := enumD_get 0 xs i x e
    obtain ⟨v, q, _⟩ := r.get e1
    exact ⟨vs, v, h H le, q⟩
  yld := fun i x H v H' e le y al G1 g1 l1 gF => by
    obtain ⟨p, z, hv, hp, hH, hz⟩ := y
    exact enum_yld r e le al G1 g1 l1 gF hv hp hH (hz vs (h H le))
end

section
variable {X : Cx} {tg : Expr}
def iSeq (K : PySem.W.Frag) (te : TE) : TI := fun σ H R => te σ H fun x H1 => (∃ a xs, x = .ref a ∧ SqL K H1 a xs ∧ R (Itl K a) H1) ∨ (∃ a xs, x = .ref a ∧ SqT K H1 a xs ∧ R (Itt K a) H1) ∨ ∃ z, x = .str z ∧ R (Its z) H1
theorem pi_seq {l : Expr} {te : TE} (hl : PE X l te) : PI X tg l (iSeq X.K te) := by
  refine ⟨fun pins s σ H R I h => ?_⟩
  refine thn (hl.run pins s σ H _ I h) fun v s1 ⟨x, H1, I1, r1, q1⟩ => ?_
  rcases q1 with ⟨a, xs, e, hq, q⟩ | ⟨a, xs, e, hq, q⟩ | ⟨z, e, q⟩
  · subst e
    cases r1
    obtain ⟨its, rv, p, hz⟩ := I1.list hq
    refine wpAny_pyIter_list p.isList ?_
    refine ⟨s1.heap.objs.size, [s1.heap.objs.size], _, _, H1, rfl, I1.kept (t' := s1.toks) fun b o e => Heap.get?_push_of_some _ e, turn_list a _, ⟨_, Heap.get?_push_size _ rfl, rfl, rfl⟩, fun b hb => ?_, q⟩
    have e : b = s1.heap.objs.size := by simpa using hb
    subst e
    exact I1.fpOk (Nat.le_refl _) (I1.hok.fresh (Nat.le_refl _))
  · subst e
    cases r1
    obtain ⟨its, rv, p, hz⟩ := I1.tuple hq
    refine wpAny_pyIter_tuple (show s1.heap.IsTuple a its.toArray from p) ?_
    refine ⟨s1.heap.objs.size, [s1.heap.objs.size], _, _, H1, rfl, I1.kept (t' := s1.toks) fun b o e => Heap.get?_push_of_some _ e, turn_tuple a _, ⟨_, Heap.get?_push_size _ rfl, rfl, rfl⟩, fun b hb => ?_, q⟩
    have e : b = s1.heap.objs.size := by simpa using hb
    subst e
    exact I1.fpOk (Nat.le_refl _) (I1.hok.fresh (Nat.le_refl _))
  · subst e
    obtain ⟨t, rfl⟩ := r1
    cases ha : z.cps.all (· < 128)
    · exact wpAny_pyIter_wide ha (pi_one (tk := s1.toks) I1 _ (turn_str _ z t "str_iterator" (.inr rfl)) ⟨_, Heap.get?_push_size _ rfl, rfl, rfl⟩ q)
    · exact wpAny_pyIter_ascii ha (pi_one (tk := s1.toks) I1 _ (turn_str _ z t "str_ascii_iterator" (.inl rfl)) ⟨_, Heap.get?_push_size _ rfl, rfl, rfl⟩ q)
def iEnA (K : PySem.W.Frag) (ta : TA) : TI := fun σ H R => ta σ H fun vs H1 => ∃ a xs, vs = [.ref a] ∧ ((SqL K H1 a xs ∧ R (Ite K a) H1) ∨ (SqT K H1 a xs ∧ R (IteT K a) H1))
theorem pi_enA {e : Expr} {ta : TA} {p pos tpos : Pos} {elts : List Expr} {kk : Nat} (hg : Gl X "enumerate") (hm : X.mg "enumerate" = none) (ha : PA X [e] ta) (hs : starEach [e] X.env = [(false, eval e X.env)] := by rfl) :
    PI X (.Tuple elts kk tpos) (.Call (.Name "enumerate" p) [e] [] pos) (iEnA X.K ta) := by
  refine ⟨fun pins s σ H R I h => ?_⟩
  refine Call_ (ld_blt I hg hm boot_enumerate (PyProof.Rows.callWith_type1 (thn (ha.run pos pins s σ H _ I h) fun us s1 ⟨vs, H1, I1, r1, q1⟩ => ?_) hs rfl))
  obtain ⟨a, xs, ex, hq⟩ := q1
  subst ex
  cases r1 with
  | cons r rr =>
    cases rr
    cases r
    have fp : ∀ (h' : Heap), (∀ b o, s1.heap.get? b = some o → h'.get? b = some o) → ∀ b ∈ [s1.heap.objs.size + 1, s1.heap.objs.size], FpOk X pins H1 b := fun h' hk b hb => by
      have e' : b = s1.heap.objs.size + 1 ∨ b = s1.heap.objs.size := by simpa using hb
      have hle : s1.heap.objs.size ≤ b := by
        rcases e' with z | z
        · rw [z]; exact Nat.le_add_right _ _
        · rw [z]; exact Nat.le_refl _
      exact I1.fpOk hle (I1.hok.fresh hle)
    rcases hq with ⟨hq, q⟩ | ⟨hq, q⟩
    · obtain ⟨its, rv, p', hz⟩ := I1.list hq
      refine call_enumerate_list p'.isList fun h' he hit hsz hk => wpAny_pyIter_enum he ?_
      have I2 : Inv X pins σ H1 { s1 with heap := h' } := I1.kept (t' := s1.toks) hk
      exact ⟨s1.heap.objs.size + 1, [s1.heap.objs.size + 1, s1.heap.objs.size], _, _, H1, rfl, I2, turn_enum a (s1.heap.objs.size + 1) s1.heap.objs.size, ⟨⟨.none, he⟩, hit, Nat.succ_ne_self _⟩, fp h' hk, q⟩
    · obtain ⟨its, rv, p', hz⟩ := I1.tuple hq
      have pa : s1.heap.IsTuple a its.toArray := p'
      have la : a < s1.heap.objs.size := by obtain ⟨o, e, _⟩ := pa; exact Heap.lt_size e
      refine call_enumT pa fun h' he hit hsz hk => wpAny_pyIter_enum he ?_
      have I2 : Inv X pins σ H1 { s1 with heap := h' } := I1.kept (t' := s1.toks) hk
      exact ⟨s1.heap.objs.size + 1, [s1.heap.objs.size + 1, s1.heap.objs.size], _, _, H1, rfl, I2, turn_enumT a (s1.heap.objs.size + 1) s1.heap.objs.size (Nat.ne_of_lt (Nat.lt_succ_of_lt la)) (Nat.ne_of_lt la), ⟨⟨.none, he⟩, hit, Nat.succ_ne_self _⟩, fp h' hk, q⟩
end

/-! ### sources, over data -/
abbrev WR (S : Type) := LEnv → S → (List D → S → Prop) → (Nat → D → S → Prop) → Prop
section
variable {S : Type} {B : Bd S} {X : Cx} {tg e : Expr} {w : W S} {wa : WA S}
def tr (K : PySem.W.Frag) (B : Bd S) (w : WR S) : TI := fun σ H R => ∃ G env s P N, Lf B.T K B.cl B.H0 B.G0 G σ H env s ∧ w env s P N ∧
  (∀ xs s', P xs s' → ∀ G' H' J, Stp B.T G H G' H' → B.T.ok s' H' → JOk B.T K B.cl G' J xs → R J H') ∧ XnOk K B G H σ N
theorem impI {t t' : TI} (h : PI X tg e t) (k : ∀ σ H R, t' σ H R → t σ H R) : PI X tg e t' := ⟨fun pins s σ H R I q => h.run pins s σ H R I (k σ H R q)⟩
def walkD : LV → (List D → Prop) → Prop := fun x P => match x with
  | .d (.str z) => P (signsD z)
  | x => match x.seq with
    | some xs => P xs
    | none => False
def wWalk (w : W S) : WR S := fun env s P N => w env s (fun lv s' => walkD lv fun xs => P xs s') N
theorem seq_fz {lv : LV} {xs : List D} (h : lv.seq = some xs) : lv.fz.seq = some xs ∧ ((∃ ys, lv.fz = .d (.lst ys)) ∨ (∃ ys, lv.fz = .d (.tup ys)) ∨ ∃ ys, lv.fz = .d (.tupK ys)) := by
  cases lv with
  | d x => cases x <;> first | (cases h; done) | exact ⟨h, .inl ⟨_, rfl⟩⟩ | exact ⟨h, .inr (.inl ⟨_, rfl⟩)⟩ | exact ⟨h, .inr (.inr ⟨_, rfl⟩)⟩
  | l ys => exact ⟨h, .inl ⟨_, rfl⟩⟩
  | _ => cases h
/-- a persistent list or tuple -/
theorem seq_lasts {K : PySem.W.Frag} {cl : Nat → Addr} {G H : Hp} {v : V} {lv : LV} {xs : List D} (r : RL K cl G H v lv.fz) (h : lv.seq = some xs) :
    ∃ a vs, v = .ref a ∧ Rps K cl G vs xs ∧ ((∀ H', Le G H' → SqL K H' a vs) ∨ ∀ H', Le G H' → SqT K H' a vs) := by
  obtain ⟨h1, h2⟩ := seq_fz h
  rcases h2 with ⟨ys, e⟩ | ⟨ys, e⟩ | ⟨ys, e⟩
  · rw [e] at r h1
    cases h1
    cases r with
    | lst h1 h2 => exact ⟨_, _, rfl, h2, .inl fun H' le => .of (le _ _ h1)⟩
  · rw [e] at r h1
    cases h1
    cases r with
    | tup h1 h2 => exact ⟨_, _, rfl, h2, .inr fun H' le => .of (le _ _ h1)⟩
  · rw [e] at r h1
    cases h1
    cases r with
    | tupK h1 h2 => exact ⟨_, _, rfl, h2, .inr fun H' le => sqT_le h1 (fun a o z => by cases z)⟩
theorem wr_walk (h : PE X e (tl X.K B w)) : PI X tg e (tr X.K B (wWalk w)) := impI (pi_seq h) fun σ H R ⟨G, env, s, P, N, L, w', c, n⟩ => by
  refine ⟨G, env, s, _, N, L, w', fun lv s1 w1 v G1 H1 a1 ok1 r1 o1 => ?_, n⟩
  unfold walkD at w1
  split at w1
  · cases r1
    exact .inr (.inr ⟨_, rfl, c _ s1 w1 G1 H1 _ a1 ok1 jok_str⟩)
  · split at w1
    · rename_i xs e
      obtain ⟨G2, a2, k2, r2⟩ := freeze a1 r1 o1
      obtain ⟨a, vs, rfl, rv, hs⟩ := seq_lasts r2 e
      rcases hs with hs | hs
      · exact .inl ⟨a, vs, rfl, hs H1 a2.le, c _ s1 w1 G2 H1 _ a2 ok1 (jok_list hs rv)⟩
      · exact .inr (.inl ⟨a, vs, rfl, hs H1 a2.le, c _ s1 w1 G2 H1 _ a2 ok1 (jok_tup hs rv)⟩)
    · exact w1.elim
def wEnum (w : W S) : WR S := fun env s P N => w env s (fun lv s' => match lv.seq with
  | some xs => P (enumD 0 xs) s'
  | none => False) N
theorem wr_enum {p pos tpos : Pos} {elts : List Expr} {kk : Nat} (hg : Gl X "enumerate") (hm : X.mg "enumerate" = none) (h : PE X e (tl X.K B w)) (hs : starEach [e] X.env = [(false, eval e X.env)] := by rfl) :
    PI X (.Tuple elts kk tpos) (.Call (.Name "enumerate" p) [e] [] pos) (tr X.K B (wEnum w)) := impI (pi_enA hg hm (pa_cons h pa_nil hs) hs) fun σ H R ⟨G, env, s, P, N, L, w', c, n⟩ => by
  refine ⟨G, env, s, _, N, L, w', fun lv s1 w1 v G1 H1 a1 ok1 r1 o1 => ?_, n⟩
  split at w1
  · rename_i xs e
    obtain ⟨G2, a2, k2, r2⟩ := freeze a1 r1 o1
    obtain ⟨a, vs, rfl, rv, hs⟩ := seq_lasts r2 e
    rcases hs with hs | hs
    · exact ⟨a, vs, rfl, .inl ⟨hs H1 a2.le, c _ s1 w1 G2 H1 _ a2 ok1 (jok_enl hs rv)⟩⟩
    · exact ⟨a, vs, rfl, .inr ⟨hs H1 a2.le, c _ s1 w1 G2 H1 _ a2 ok1 (jok_ent hs rv)⟩⟩
  · exact w1.elim
/-- range(n) -/
def wRng1 (w : W S) : WR S := fun env s P N => w env s (fun lv s' => match lv with
  | .d (.int j) => (-(2 ^ 62) ≤ j ∧ j < 2 ^ 62) ∧ P (rngD 0 j.toNat) s'
  | _ => False) N
theorem wr_rng1 {p pos : Pos} (hg : Gl X "range") (hm : X.mg "range" = none) (h : PE X e (tl X.K B w)) (hs : starEach [e] X.env = [(false, eval e X.env)] := by rfl) :
    PI X tg (.Call (.Name "range" p) [e] [] pos) (tr X.K B (wRng1 w)) := impI (pi_range1 hg hm (pa_cons h pa_nil hs) hs) fun σ H R ⟨G, env, s, P, N, L, w', c, n⟩ => by
  refine ⟨G, env, s, _, N, L, w', fun lv s1 w1 v G1 H1 a1 ok1 r1 o1 => ?_, n⟩
  split at w1
  · cases r1
    exact ⟨_, rfl, w1.1.1, w1.1.2, c _ s1 w1.2 G1 H1 _ a1 ok1 jok_rng⟩
  · exact w1.elim
/-- range(a, b) -/
def wRng2 (w u : W S) : WR S := fun env s P N => w env s (fun lv s1 => u env s1 (fun lu s2 => match lv, lu with
  | .d (.int i), .d (.int j) => ((-(2 ^ 62) ≤ i ∧ i < 2 ^ 62) ∧ (-(2 ^ 62) ≤ j ∧ j < 2 ^ 62)) ∧ P (rngD i (j - i).toNat) s2
  | _, _ => False) N) N
theorem wr_rng2 {e2 : Expr} {u : W S} {p pos : Pos} (hg : Gl X "range") (hm : X.mg "range" = none) (h : PE X e (tl X.K B w)) (h2 : PE X e2 (tl X.K B u)) (hs : starEach [e, e2] X.env = [(false, eval e X.env), (false, eval e2 X.env)] := by rfl) (hs2 : starEach [e2] X.env = [(false, eval e2 X.env)] := by rfl) :
    PI X tg (.Call (.Name "range" p) [e, e2] [] pos) (tr X.K B (wRng2 w u)) := impI (pi_range2 hg hm (pa_cons h (pa_cons h2 pa_nil hs2) (by rw [hs, hs2])) hs hs2) fun σ H R ⟨G, env, s, P, N, L, w', c, n⟩ => by
  refine ⟨G, env, s, _, N, L, w', fun lv s1 w1 v G1 H1 a1 ok1 r1 o1 => ?_, n⟩
  refine ⟨G1, env, s1, _, N, L.step a1 ok1, w1, fun lu s2 w2 v2 G2 H2 a2 ok2 r2 o2 => ?_, n.step a1⟩
  split at w2
  · cases r1; cases r2
    exact ⟨_, _, rfl, ⟨w2.1.1.1, w2.1.1.2, w2.1.2.1, w2.1.2.2⟩, c _ s2 w2.2 G2 H2 _ (a1.trans a2) ok2 jok_rng⟩
  · exact w2.elim
end

/-! ### targets -/
section
variable {S : Type} {B : Bd S} {X : Cx}
abbrev WG := D → LEnv → (LEnv → Prop) → Prop
def TgOk (K : PySem.W.Frag) (B : Bd S) (g : TG) (t : WG) : Prop := ∀ (G : Hp) (σ : L2.St) (H : Hp) (env : LEnv) (s : S) (v : V) (x : D) (k : LEnv → Prop) (Q : L2.St → Hp → Prop),
  Lf B.T K B.cl B.H0 B.G0 G σ H env s → Rp K B.cl G v x → t x env k → (∀ env' σ', k env' → Lf B.T K B.cl B.H0 B.G0 G σ' H env' s → Q σ' H) → g v σ H Q
def gN (i : Nat) : WG := fun x env k => k (env.set i (some (.d x)))
theorem tg_name {K : PySem.W.Frag} {i : Nat} : TgOk K B (gName i) (gN i) := fun G σ H env s v x k Q L r h q => q _ _ h (L.set L.refl L.ok r (fun o => by cases o))
/-- several names at once, from the items of a tuple -/
def TgsOk (K : PySem.W.Frag) (B : Bd S) (g : TGs) (n : Nat) (t : List D → LEnv → (LEnv → Prop) → Prop) : Prop := ∀ (G : Hp) (σ : L2.St) (H : Hp) (env : LEnv) (s : S) (vs : List V) (xs : List D) (k : LEnv → Prop) (Q : L2.St → Hp → Prop),
  Lf B.T K B.cl B.H0 B.G0 G σ H env s → Rps K B.cl G vs xs → xs.length = n → t xs env k → (∀ env' σ', k env' → Lf B.T K B.cl B.H0 B.G0 G σ' H env' s → Q σ' H) → g vs σ H Q
def gsN : List D → LEnv → (LEnv → Prop) → Prop := fun _ env k => k env
def gsC (t : WG) (u : List D → LEnv → (LEnv → Prop) → Prop) : List D → LEnv → (LEnv → Prop) → Prop := fun xs env k => match xs with
  | x :: r => t x env fun env' => u r env' k
  | [] => False
theorem tgs_nil {K : PySem.W.Frag} : TgsOk K B gNil 0 gsN := fun G σ H env s vs xs k Q L r e h q => by
  cases r with
  | nil => exact ⟨rfl, q env σ h L⟩
  | cons _ _ => cases e
theorem tgs_cons {K : PySem.W.Frag} {g : TG} {t : WG} {gs : TGs} {n : Nat} {u : List D → LEnv → (LEnv → Prop) → Prop} (h1 : TgOk K B g t) (h2 : TgsOk K B gs n u) : TgsOk K B (gCons g gs) (n + 1) (gsC t u) := fun G σ H env s vs xs k Q L r e h q => by
  cases r with
  | nil => cases e
  | cons r rs =>
    refine ⟨_, _, rfl, h1 G σ H env s _ _ _ _ L r h fun env' σ' h' L' => ?_⟩
    exact h2 G σ' H env' s _ _ k Q L' rs (by simpa using e) h' q
def gT (n : Nat) (t : List D → LEnv → (LEnv → Prop) → Prop) : WG := fun x env k => match x with
  | .tup xs => xs.length = n ∧ t xs env k
  | _ => False
theorem tg_tup {K : PySem.W.Frag} {gs : TGs} {n : Nat} {u : List D → LEnv → (LEnv → Prop) → Prop} (h : TgsOk K B gs n u) : TgOk K B (gTup K n gs) (gT n u) := fun G σ H env s v x k Q L r h' q => by
  unfold gT at h'
  split at h'
  · cases r with
    | tup h1 h2 => exact ⟨_, _, rfl, .of (L.le _ _ h1), by rw [h2.length]; exact h'.1, h G σ H env s _ _ k Q L h2 h'.1 h'.2 q⟩
  · exact h'.elim

/-! ### for -/
def wGo (t : WG) (b : WS S) (M : ED S) : List D → LEnv → S → Prop
  | [], env, s => M.nx env s
  | x :: r, env, s => t x env fun env' => b { M with nx := wGo t b M r, ct := wGo t b M r, bk := M.nx } env' s
def wFor (src : WR S) (t : WG) (b : WS S) : WS S := fun M env s => src env s (fun xs s' => wGo t b M xs env s') (M.xn env)
theorem for_gen {J : It} {n : Nat} {g : TG} {tb : TS} {E : Ends} {σ : L2.St} {H : Hp} (Pv : Nat → L2.St → Hp → Prop) (h0 : Pv 0 σ H) (hd : ∀ σ H, Pv n σ H → J.stop n H ∧ E.nx σ H)
    (hs : ∀ i σ H, i < n → Pv i σ H → J.go i H ∧ ∀ x H', J.yld i H x H' → g x σ H' fun σ2 H2 => tb { E with nx := Pv (i + 1), ct := Pv (i + 1), bk := E.nx } σ2 H2) :
    ∃ W : Nat → Nat → L2.St → Hp → Prop, (∃ m, W 0 m σ H) ∧ ∀ i m σ H, W i m σ H →
      (J.stop i H ∧ E.nx σ H) ∨ (J.go i H ∧ ∃ N : L2.St → Hp → Prop, (∀ σ' H', N σ' H' → ∃ m', m' < m ∧ W (i + 1) m' σ' H') ∧ ∀ x H', J.yld i H x H' → g x σ H' fun σ2 H2 => tb { E with nx := N, ct := N, bk := E.nx } σ2 H2) := by
  refine ⟨fun i m σ H => m = n - i ∧ i ≤ n ∧ Pv i σ H, ⟨n, by simp, Nat.zero_le _, h0⟩, ?_⟩
  rintro i m σ H ⟨rfl, hi, p⟩
  by_cases hlt : i < n
  · obtain ⟨h1, h2⟩ := hs i σ H hlt p
    exact .inr ⟨h1, Pv (i + 1), fun σ' H' p' => ⟨n - (i + 1), by omega, rfl, hlt, p'⟩, h2⟩
  · have e : i = n := by omega
    subst e
    exact .inl (hd σ H p)
theorem ws_for {tg iter : Expr} {body : List Stmt} {pos : Pos} {src : WR S} {g : TG} {t : WG} {b : WS S} (hp : PassesOwn (model X.prog X.w) X.A X.env X.xe) (hc : X.calm = true) (hi : PI X tg iter (tr X.K B src)) (hg : PG X tg g) (ht : TgOk X.K B g t) (hb : PSs X body (ts X.K B b)) (hs : ∀ v, foldedSetIterable iter X.env v = pure v := by exact fun _ => rfl) :
    PS X (.For tg iter body [] pos) (ts X.K B (wFor src t b)) := impS (ps_for hp hc hi hg hb hs) fun E σ H ⟨G, env, s, M, L, w', r⟩ => by
  refine ⟨G, env, s, _, (M.xn env), L, w', fun xs s1 w1 G1 H1 J a1 ok1 jok => ?_, r.xnS L⟩
  refine for_gen (n := xs.length) (fun i σ H => ∃ G' env' s', Le G1 G' ∧ Lf B.T X.K B.cl B.H0 B.G0 G' σ H env' s' ∧ wGo t b M (xs.drop i) env' s') ⟨G1, env, s1, Le.refl _, L.step a1 ok1, w1⟩ (fun σ H ⟨G', env', s', k, L', h⟩ => ?_) fun i σ H hi ⟨G', env', s', k, L', h⟩ => ?_
  · rw [List.drop_length] at h
    exact ⟨jok.stop H (k.trans L'.le), r.nx G' σ H env' s' (a1.g.trans k) L' h⟩
  · have e := List.drop_eq_getElem_cons hi
    rw [e] at h
    have q : xs[i]? = some xs[i] := List.getElem?_eq_getElem hi
    refine ⟨jok.go i _ H q (k.trans L'.le), fun v H' y => ?_⟩
    obtain ⟨G2, a2, rp, ok2⟩ := jok.yld i _ H v H' q (k.trans L'.le) y L'.al G' k L'.le L'.gF
    refine ht G2 σ H' env' s' v _ _ _ (L'.step a2 (ok2 s' L'.ok)) rp h fun env2 σ2 h2 L2 => ?_
    have r2 : Rel X.K B G2 M E := r.mono ((a1.g.trans k).trans a2.g)
    refine ⟨G2, env2, s', _, L2, h2, fun G3 σ3 H3 env3 s3 l3 L3 w3 => ⟨G3, env3, s3, (k.trans a2.g).trans l3, L3, w3⟩, r2.rt, r2.nx, fun G3 σ3 H3 env3 s3 l3 L3 w3 => ⟨G3, env3, s3, (k.trans a2.g).trans l3, L3, w3⟩, r2.xn⟩
/-- several names from a tuple -/
def wUnp (w : W S) (t : WG) : WS S := fun M env s => w env s (fun lv s1 => match lv with
  | .d x => t x env fun env' => M.nx env' s1
  | _ => False) (M.xn env)
theorem ws_unp {tg e : Expr} {pos : Pos} {w : W S} {g : TG} {t : WG} (he : PE X e (tl X.K B w)) (hg : PG X tg g) (ht : TgOk X.K B g t) (hs : swapsWithSole [tg] e pos.line X.env = pure false := by rfl) (hw : swappedStores [tg] e X.env = pure none := by rfl)
    (h1 : (assignEach [tg] X.env).map (·.2) = [assign tg X.env] := by rfl) : PS X (.Assign [tg] e pos) (ts X.K B (wUnp w t)) := impS (ps_asg he hg hs hw h1) fun E σ H ⟨G, env, s, M, L, w', r⟩ =>
  ⟨G, env, s, _, _, L, w', fun lv s' p v G' H' a ok rl o => by
    split at p
    · exact ht G' σ H' env s' v _ _ _ (L.step a ok) rl p fun env' σ' h' L' => r.nx G' σ' H' env' s' a.g L' h'
    · exact p.elim, r.xnS L⟩
end
end DL
/-! DL8: comprehensions, append, extend, a name's list given away. -/
namespace DL
open PySem PySem.Spec PyProof.Rows L2

theorem Stp.stay {S : Type} {T : Sto S} {G H G' H' : Hp} (a : Stp T G H G' H') {c : Addr} (h : H c ≠ none) (g : G c = none) (ht : ∀ vs, H c ≠ some (.tup vs)) : G' c = none := by
  cases e : G' c with
  | none => rfl
  | some o => exact (a.gn c h (by rw [e]; exact fun z => by cases z)).elim (fun z => absurd g z) fun ⟨vs, z⟩ => absurd z (ht vs)
/-- an object that is ours alone is written -/
theorem Stp.write {S : Type} {T : Sto S} {G H G' H' : Hp} (a : Stp T G H G' H') {c : Addr} {o : HO} (h : H c = none) (g : G' c = none) : Stp T G H G' (upd H' c o) :=
  ⟨a.g, fun d u e => by rw [upd_ne (ne_of_none e g)]; exact a.le d u e, a.gF, fun d u e n => by rw [upd_ne (ne_of_none e h)]; exact a.hh d u e n, a.gn⟩
/-! ### comprehensions -/
def wipeE (env : LEnv) : List Nat → LEnv
  | [] => env
  | v :: vs => (wipeE env vs).set v none
section
variable {S : Type} {T : Sto S} {K : PySem.W.Frag} {cl : Nat → Addr} {H0 G0 G : Hp} {σ : L2.St} {H : Hp} {env : LEnv} {s : S}
theorem Lf.none (L : Lf T K cl H0 G0 G σ H env s) (i : Nat) : Lf T K cl H0 G0 G (σ.set i none) H (env.set i none) s := by
  have key : ∀ (j : Nat) (lj : LV), (env.set i Option.none)[j]? = some (some lj) → j ≠ i ∧ env[j]? = some (some lj) := fun j lj e => by
    by_cases h : j = i
    · subst h
      by_cases hi : j < env.length
      · rw [List.getElem?_set_self hi] at e; cases e
      · rw [List.set_eq_of_length_le (Nat.le_of_not_lt hi)] at e
        have := (List.getElem?_eq_some_iff.mp e).1
        exact absurd this hi
    · rw [List.getElem?_set_ne (Ne.symm h)] at e
      exact ⟨h, e⟩
  refine ⟨L.stp, L.ok, by simp [L.len], fun j lj e => ?_, fun j lj a e o q => ?_, fun j k lj lk a n e1 e2 o1 o2 q1 q2 => ?_⟩
  · obtain ⟨h, e⟩ := key j lj e
    rw [List.getElem?_set_ne (Ne.symm h)]
    exact L.slot j lj e
  · obtain ⟨h, e⟩ := key j lj e
    rw [List.getElem?_set_ne (Ne.symm h)] at q
    exact L.own j lj a e o q
  · obtain ⟨h1, e1⟩ := key j lj e1
    obtain ⟨h2, e2⟩ := key k lk e2
    rw [List.getElem?_set_ne (Ne.symm h1)] at q1
    rw [List.getElem?_set_ne (Ne.symm h2)] at q2
    exact L.apart j k lj lk a n e1 e2 o1 o2 q1 q2
theorem Lf.wipe (L : Lf T K cl H0 G0 G σ H env s) : ∀ vs : List Nat, Lf T K cl H0 G0 G (L2.wipe σ vs) H (wipeE env vs) s
  | [] => L
  | v :: vs => (L.wipe vs).none v
end
/-- a target's names are the block's own -/
def GW (g : TG) (vs : List Nat) : Prop := ∀ (v : V) (σ0 σ : L2.St) (H : Hp) (Q : L2.St → Hp → Prop), L2.wipe σ vs = L2.wipe σ0 vs → g v σ H Q → g v σ H fun σ2 H2 => L2.wipe σ2 vs = L2.wipe σ0 vs ∧ Q σ2 H2
def GWs (g : TGs) (vs : List Nat) : Prop := ∀ (us : List V) (σ0 σ : L2.St) (H : Hp) (Q : L2.St → Hp → Prop), L2.wipe σ vs = L2.wipe σ0 vs → g us σ H Q → g us σ H fun σ2 H2 => L2.wipe σ2 vs = L2.wipe σ0 vs ∧ Q σ2 H2
theorem wipe_set : ∀ (vs : List Nat) (i : Nat) (σ : L2.St) (o : Option V), i ∈ vs → L2.wipe (σ.set i o) vs = L2.wipe σ vs
  | [], _, _, _, h => by cases h
  | v :: vs, i, σ, o, h => by
    show (L2.wipe (σ.set i o) vs).set v none = (L2.wipe σ vs).set v none
    by_cases hv : i ∈ vs
    · rw [wipe_set vs i σ o hv]
    · have e : i = v := by
        rcases List.mem_cons.mp h with z | z
        · exact z
        · exact absurd z hv
      subst e
      have key : ∀ (ws : List Nat), i ∉ ws → L2.wipe (σ.set i o) ws = (L2.wipe σ ws).set i o := by
        intro ws
        induction ws with
        | nil => intro _; rfl
        | cons w ws ih =>
          intro hn
          show (L2.wipe (σ.set i o) ws).set w none = ((L2.wipe σ ws).set w none).set i o
          rw [ih (fun z => hn (List.mem_cons_of_mem _ z)), List.set_comm _ _ (fun z => hn (by rw [z]; exact List.mem_cons_self))]
      rw [key vs hv, List.set_set]
theorem gw_name {i : Nat} {vs : List Nat} (h : i ∈ vs) : GW (gName i) vs := fun v σ0 σ H Q e q => ⟨by rw [wipe_set vs i σ _ h, e], q⟩
theorem gw_nil {vs : List Nat} : GWs gNil vs := fun us σ0 σ H Q e ⟨h, q⟩ => ⟨h, e, q⟩
theorem gw_cons {g : TG} {gs : TGs} {vs : List Nat} (h1 : GW g vs) (h2 : GWs gs vs) (m : ∀ v σ H Q Q', (∀ σ' H', Q σ' H' → Q' σ' H') → g v σ H Q → g v σ H Q') : GWs (gCons g gs) vs := fun us σ0 σ H Q e ⟨v, r, e1, q⟩ =>
  ⟨v, r, e1, m v σ H _ _ (fun σ' H' ⟨e2, q2⟩ => h2 r σ0 σ' H' Q e2 q2) (h1 v σ0 σ H _ e q)⟩
theorem gw_tup {K : PySem.W.Frag} {n : Nat} {gs : TGs} {vs : List Nat} (h : GWs gs vs) : GW (gTup K n gs) vs := fun v σ0 σ H Q e ⟨a, xs, e1, q, l, z⟩ => ⟨a, xs, e1, q, l, h xs σ0 σ H Q e z⟩
theorem gm_name {i : Nat} : ∀ (v : V) (σ : L2.St) (H : Hp) (Q Q' : L2.St → Hp → Prop), (∀ σ' H', Q σ' H' → Q' σ' H') → gName i v σ H Q → gName i v σ H Q' := fun v σ H Q Q' k q => k _ _ q
section
variable {S : Type} {B : Bd S} {X : Cx}
def wYes : WT S := fun _ s P _ => P true s
def wLcGo (t : WG) (te : WT S) (w : W S) (envw : LEnv) (P : LV → S → Prop) : List D → List D → S → Prop
  | [], acc, s => P (.l acc) s
  | x :: r, acc, s => t x envw fun env' => te env' s (fun b s1 => if b = true then w env' s1 (fun lv s2 => match lv.fz with
    | .d y => wLcGo t te w envw P r (acc ++ [y]) s2
    | _ => False) (fun _ _ _ => False) else wLcGo t te w envw P r acc s1) (fun _ _ _ => False)
def wLc (src : WR S) (t : WG) (te : WT S) (w : W S) (vs : List Nat) : W S := fun env s P N => src env s (fun xs s' => xs.length ≤ sizeLine ∧ wLcGo t te w (wipeE env vs) P xs [] s') N
theorem lc_gen {J : It} {n : Nat} {g : TG} {tt : TT} {te : TE} {vs : List Nat} {σ : L2.St} {H1 : Hp} {Da : Addr} {Qd : Hp → Prop} (Pv : Nat → Hp → Prop) (h0 : Pv 0 (upd H1 Da (.lst []))) (hd : ∀ H, Pv n H → J.stop n H ∧ Qd H)
    (hs : ∀ i H, i < n → Pv i H → J.go i H ∧ ∀ x H', J.yld i H x H' → g x (L2.wipe σ vs) H' fun σ2 H2 => L2.wipe σ2 vs = L2.wipe σ vs ∧ tt σ2 H2 fun b H3 =>
      if b = true then te σ2 H3 fun y H4 => ∃ acc, H4 Da = some (.lst acc) ∧ acc.length < sizeLine ∧ Pv (i + 1) (upd H4 Da (.lst (acc ++ [y]))) else Pv (i + 1) H3) :
    ∃ W : Nat → Nat → Hp → Prop, (∃ m, W 0 m (upd H1 Da (.lst []))) ∧ ∀ i m H, W i m H →
      (J.stop i H ∧ Qd H) ∨ (J.go i H ∧ ∃ Nx : Hp → Prop, (∀ H', Nx H' → ∃ m', m' < m ∧ W (i + 1) m' H') ∧ ∀ x H', J.yld i H x H' → g x (L2.wipe σ vs) H' fun σ2 H2 => L2.wipe σ2 vs = L2.wipe σ vs ∧ tt σ2 H2 fun b H3 =>
        if b = true then te σ2 H3 fun y H4 => ∃ acc, H4 Da = some (.lst acc) ∧ acc.length < sizeLine ∧ Nx (upd H4 Da (.lst (acc ++ [y]))) else Nx H3) := by
  refine ⟨fun i m H => m = n - i ∧ i ≤ n ∧ Pv i H, ⟨n, by simp, Nat.zero_le _, h0⟩, ?_⟩
  rintro i m H ⟨rfl, hi, p⟩
  by_cases hlt : i < n
  · obtain ⟨h1, h2⟩ := hs i H hlt p
    exact .inr ⟨h1, Pv (i + 1), fun H' p' => ⟨n - (i + 1), by omega, rfl, hlt, p'⟩, h2⟩
  · have e : i = n := by omega
    subst e
    exact .inl (hd H p)
theorem L2wipe_wipe (σ : L2.St) : ∀ vs : List Nat, L2.wipe (L2.wipe σ vs) vs = L2.wipe σ vs := fun vs => by
  have key : ∀ (ws : List Nat), (∀ w ∈ ws, w ∈ vs) → L2.wipe (L2.wipe σ ws) vs = L2.wipe σ vs := by
    intro ws
    induction ws with
    | nil => intro _; rfl
    | cons w ws ih =>
      intro hw
      show L2.wipe ((L2.wipe σ ws).set w none) vs = _
      rw [wipe_set vs w _ _ (hw w List.mem_cons_self), ih fun v hv => hw v (List.mem_cons_of_mem _ hv)]
  exact key vs fun _ h => h
/-- the reading of a comprehension over data -/
theorem tLc_le {K : PySem.W.Frag} {src : WR S} {t : WG} {te : WT S} {w : W S} {vs : List Nat} {g : TG} (ht : TgOk K B g t) (hw : GW g vs) {σ : L2.St} {H : Hp} {Q : VK} (h : tl K B (wLc src t te w vs) σ H Q) :
    tLc (tr K B src) g (tlt K B te) (tl K B w) vs σ H Q := by
  obtain ⟨G, env, s, P, N, L, w', c, n⟩ := h
  refine ⟨G, env, s, _, N, L, w', fun xs s1 w1 G1 H1 J a1 ok1 jok => ?_, n⟩
  obtain ⟨hz, w1⟩ := w1
  intro Da hD
  have nF : ¬ B.T.F Da := fun f => B.T.al s1 H1 Da ok1 f hD
  have gD : G1 Da = none := fresh_own a1.le hD
  have hD0 : H Da = none := a1.dead hD nF
  have L1 : Lf B.T K B.cl B.H0 B.G0 G1 σ H1 env s1 := L.step a1 ok1
  have b0 := Stp.fresh (T := B.T) (o := .lst []) a1.le a1.gF hD
  refine lc_gen (n := xs.length) (fun i H' => ∃ G' s' acc us, Stp B.T G1 H1 G' H' ∧ B.T.ok s' H' ∧ G' Da = none ∧ H' Da = some (.lst us) ∧ Rps K B.cl G' us acc ∧ acc.length ≤ i ∧ wLcGo t te w (wipeE env vs) P (xs.drop i) acc s')
    ⟨G1, s1, [], [], b0, B.T.stays ok1 (le_upd hD), gD, upd_same, .nil, Nat.le_refl _, w1⟩ (fun H' ⟨G', s', acc, us, b, ok', g', h', r', l', w2⟩ => ?_) fun i H' hi ⟨G', s', acc, us, b, ok', g', h', r', l', w2⟩ => ?_
  · rw [List.drop_length] at w2
    refine ⟨jok.stop H' (b.g.trans b.le), c _ s' w2 (.ref Da) G' H' (a1.trans b) ok' ⟨Da, us, rfl, g', h', r'⟩ fun _ d e => ?_⟩
    cases e
    exact ⟨hD0, nF⟩
  · have e := List.drop_eq_getElem_cons hi
    rw [e] at w2
    have q : xs[i]? = some xs[i] := List.getElem?_eq_getElem hi
    refine ⟨jok.go i _ H' q (b.g.trans b.le), fun v H2 y => ?_⟩
    obtain ⟨G2, a2, rp, ok2⟩ := jok.yld i _ H' v H2 q (b.g.trans b.le) y (fun a f => B.T.al s' H' a ok' f) G' b.g b.le b.gF
    have LL : Lf B.T K B.cl B.H0 B.G0 G2 (L2.wipe σ vs) H2 (wipeE env vs) s' := (L1.step (b.trans a2) (ok2 s' ok')).wipe vs
    refine hw v σ _ H2 _ (L2wipe_wipe σ vs) ?_
    refine ht G2 _ H2 _ s' v _ _ _ LL rp w2 fun env2 σ2 w3 L3 => ?_
    have f0 : ∀ (Ga Ha : Hp) (σa : L2.St), XnOk K B Ga Ha σa (fun _ _ _ => False) := fun _ _ _ _ _ _ z => z.elim
    have hi1 : acc.length < sizeLine := Nat.lt_of_le_of_lt l' (Nat.lt_of_lt_of_le hi hz)
    refine ⟨G2, env2, s', _, fun _ _ _ => False, L3, w3, fun k s2 w4 G3 H3 a3 ok3 => ?_, f0 _ _ _⟩
    have live : ∀ {Ha : Hp} {us' : List V}, Ha Da = some (.lst us') → Ha Da ≠ none := fun h z => by rw [z] at h; cases h
    have ntl : ∀ {Ha : Hp} {us' : List V}, Ha Da = some (.lst us') → ∀ vs, Ha Da ≠ some (.tup vs) := fun h vs z => by rw [h] at z; cases z
    have h2 := a2.hh _ _ h' nF
    have h3 := a3.hh _ _ h2 nF
    have g2 := a2.stay (live h') g' (ntl h')
    have g3 := a3.stay (live h2) g2 (ntl h2)
    cases k with
    | false =>
      refine iteF ⟨G3, s2, acc, us, (b.trans a2).trans a3, ok3, g3, h3, Rps.mono (a2.g.trans a3.g) _ _ r', Nat.le_succ_of_le l', ?_⟩
      rw [if_neg Bool.false_ne_true] at w4
      exact w4
    | true =>
      rw [if_pos rfl] at w4
      refine iteT ⟨G3, env2, s2, _, fun _ _ _ => False, L3.step a3 ok3, w4, fun lv s3 w5 u G4 H4 a4 ok4 r4 o4 => ?_, f0 _ _ _⟩
      obtain ⟨G5, a5, k5, r5⟩ := freeze a4 r4 o4
      have h4 := a4.hh _ _ h3 nF
      have g5 := a5.stay (live h3) g3 (ntl h3)
      refine ⟨us, h4, by rw [r'.length]; exact hi1, ?_⟩
      split at w5
      · rename_i y ey
        rw [ey] at r5
        have st : Stp B.T G1 H1 G5 H4 := ((b.trans a2).trans a3).trans a5
        refine ⟨G5, s3, acc ++ [y], us ++ [u], st.write hD g5, B.T.loc s3 H4 _ ok4 fun a f => upd_ne (fun z => nF (by rw [← z]; exact f)), g5, upd_same, (Rps.mono (a2.g.trans (a3.g.trans a5.g)) _ _ r').append (.cons r5 .nil), by rw [List.length_append]; exact Nat.succ_le_succ l', w5⟩
      · exact w5.elim
theorem we_lc {elt tg iter : Expr} {ifs : List Expr} {scope : Scope} {own : List (Str × Nat)} {pos : Pos} {src : WR S} {t : WG} {te : WT S} {w : W S} {g : TG} (hc : X.calm = true) (hN : X.N.Nodup) (hi : PI X tg iter (tr X.K B src)) (ok : BlkOk X.N X.env.scope scope own)
    (hg : ∀ (s : Shared) (H : Hp) (C : Addr) (cl : List (Str × Addr)) (fp : List Addr), PG (X.blk s H scope (compEnvC scope cl C X.env) fp) tg g) (hgt : TgOk X.K B g t) (hgw : GW g (own.map (·.2)))
    (ht : ∀ (s : Shared) (H : Hp) (C : Addr) (cl : List (Str × Addr)) (fp : List Addr), PTs (X.blk s H scope (compEnvC scope cl C X.env) fp) ifs (tlt X.K B te))
    (he : ∀ (s : Shared) (H : Hp) (C : Addr) (cl : List (Str × Addr)) (fp : List Addr), PE (X.blk s H scope (compEnvC scope cl C X.env) fp) elt (tl X.K B w)) (hs : ∀ x, foldedSetIterable iter X.env x = pure x := by exact fun _ => rfl) :
    PE X (.ListComp elt [⟨tg, iter, ifs, 0⟩] scope pos) (tl X.K B (wLc src t te w (own.map (·.2)))) := imp (pe_lc hc hN hi ok hg ht he hs) fun _ _ _ h => tLc_le hgt hgw h
theorem ws_setLc {i : Nat} {y : Str} {py : Pos} {elt tg iter : Expr} {ifs : List Expr} {scope : Scope} {own : List (Str × Nat)} {pos spos : Pos} {src : WR S} {t : WG} {te : WT S} {w : W S} {g : TG} (hc : X.calm = true) (hN : X.N.Nodup) (hy : X.N[i]? = some y) (hyl : X.env.scope.names.lookup y = some .local)
    (hsw : swapsWith (.ListComp elt [⟨tg, iter, ifs, 0⟩] scope pos) (some (.Name y py)) spos.line X.env = pure true) (hi : PI X tg iter (tr X.K B src)) (ok : BlkOk X.N X.env.scope scope own)
    (hg : ∀ (s : Shared) (H : Hp) (C : Addr) (cl : List (Str × Addr)) (fp : List Addr), PG (X.blk s H scope (compEnvC scope cl C X.env) fp) tg g) (hgt : TgOk X.K B g t) (hgw : GW g (own.map (·.2)))
    (ht : ∀ (s : Shared) (H : Hp) (C : Addr) (cl : List (Str × Addr)) (fp : List Addr), PTs (X.blk s H scope (compEnvC scope cl C X.env) fp) ifs (tlt X.K B te))
    (he : ∀ (s : Shared) (H : Hp) (C : Addr) (cl : List (Str × Addr)) (fp : List Addr), PE (X.blk s H scope (compEnvC scope cl C X.env) fp) elt (tl X.K B w)) (hs : ∀ x, foldedSetIterable iter X.env x = pure x := by exact fun _ => rfl) :
    PS X (.Assign [.Name y py] (.ListComp elt [⟨tg, iter, ifs, 0⟩] scope pos) spos) (ts X.K B (wSet i (wLc src t te w (own.map (·.2))))) := impS (ps_setLc hc hN hy hyl hsw hi ok hg ht he hs) fun E σ H ⟨G, env, s, M, L, w', r⟩ =>
  tLc_le hgt hgw ⟨G, env, s, _, (M.xn env), L, w', fun lv s' p v G' H' a ok rl o => r.nx G' _ H' _ s' a.g (L.set a ok rl o) p, r.xnS L⟩
theorem wts_nil : PTs X [] (tlt X.K B wYes) := ⟨fun pins s σ H Q I ⟨G, env, s', P, N, L, w', c, n⟩ => pts_nil.run pins s σ H Q I (c true s' w' G H L.refl L.ok)⟩

/-! ### a name's own list -/
/-- the name i is used up: what it holds may be known elsewhere from now on -/
def wFrz (i : Nat) (u : WS S) : WS S := fun M env s => match env.at i with
  | some lv => u M (env.set i (some lv.fz)) s
  | none => u M env s
theorem freezeX {T : Sto S} {K : PySem.W.Frag} {cl : Nat → Addr} {G H G1 H1 : Hp} {v : V} {lv : LV} (a : Stp T G H G1 H1) (r : RL K cl G1 H1 v lv) (fr : lv.own = true → ∀ c, v = .ref c → H c = none ∧ ¬ T.F c) :
    ∃ G2, Stp T G H G2 H1 ∧ Le G1 G2 ∧ RL K cl G2 H1 v lv.fz ∧ ∀ c, G2 c ≠ none → G1 c ≠ none ∨ (lv.own = true ∧ v = .ref c) := by
  have up : ∀ (c : Addr) (o : HO) (d : Addr), v = .ref c → lv.own = true → upd G1 c o d ≠ none → G1 d ≠ none ∨ (lv.own = true ∧ v = .ref d) := fun c o d e1 e2 h => by
    by_cases z : d = c
    · subst z; exact .inr ⟨e2, e1⟩
    · rw [upd_ne z] at h; exact .inl h
  cases lv with
  | d x => exact ⟨G1, a, Le.refl _, r, fun c h => .inl h⟩
  | raw u => exact ⟨G1, a, Le.refl _, r, fun c h => .inl h⟩
  | l xs =>
    obtain ⟨c, vs, e, n, q, z⟩ := r
    subst e
    obtain ⟨f1, f2⟩ := fr rfl c rfl
    exact ⟨_, a.keep q n f1 f2, le_upd n, Rp.lst upd_same (Rps.mono (le_upd n) _ _ z), fun d => up c _ d rfl rfl⟩
  | k ks xs =>
    obtain ⟨c, vs, e, n, q, l, z⟩ := r
    subst e
    obtain ⟨f1, f2⟩ := fr rfl c rfl
    exact ⟨_, a.keep q n f1 f2, le_upd n, Rp.dK upd_same l (Rps.mono (le_upd n) _ _ z), fun d => up c _ d rfl rfl⟩
  | t ks xs =>
    obtain ⟨c, vs, e, n, q, l, z⟩ := r
    subst e
    obtain ⟨f1, f2⟩ := fr rfl c rfl
    exact ⟨_, a.keep q n f1 f2, le_upd n, Rp.dT upd_same l (Rps.mono (le_upd n) _ _ z), fun d => up c _ d rfl rfl⟩
  | o b0 c0 ns xs =>
    obtain ⟨c, vs, e, n, ⟨dx, q⟩, l, z⟩ := r
    subst e
    obtain ⟨f1, f2⟩ := fr rfl c rfl
    exact ⟨_, a.keep q n f1 f2, le_upd n, Rp.ins upd_same l.1 (Rps.mono (le_upd n) _ _ z), fun d => up c _ d rfl rfl⟩
/-- what is known of a value stays while others of our own are given away -/
theorem RL.more {K : PySem.W.Frag} {cl : Nat → Addr} {G G2 H : Hp} {v : V} {lv : LV} (r : RL K cl G H v lv) (k : Le G G2) (n : ∀ c, lv.own = true → v = .ref c → G2 c = none) : RL K cl G2 H v lv := by
  cases lv with
  | d x => exact Rp.mono k x v r
  | raw u => exact r
  | l xs =>
    obtain ⟨c, us, e1, n1, h1, z1⟩ := r
    exact ⟨c, us, e1, n c rfl e1, h1, Rps.mono k _ _ z1⟩
  | k ks xs =>
    obtain ⟨c, us, e1, n1, h1, l1, z1⟩ := r
    exact ⟨c, us, e1, n c rfl e1, h1, l1, Rps.mono k _ _ z1⟩
  | t ks xs =>
    obtain ⟨c, us, e1, n1, h1, l1, z1⟩ := r
    exact ⟨c, us, e1, n c rfl e1, h1, l1, Rps.mono k _ _ z1⟩
  | o b0 c0 ns xs =>
    obtain ⟨c, us, e1, n1, h1, l1, z1⟩ := r
    exact ⟨c, us, e1, n c rfl e1, h1, l1, Rps.mono k _ _ z1⟩
theorem Lf.frz {K : PySem.W.Frag} {cl : Nat → Addr} {H0 G0 G : Hp} {σ : L2.St} {H : Hp} {env : LEnv} {s : S} {T : Sto S} (L : Lf T K cl H0 G0 G σ H env s) {i : Nat} {lv : LV} (e : env[i]? = some (some lv)) :
    ∃ G2, Le G G2 ∧ Lf T K cl H0 G0 G2 σ H (env.set i (some lv.fz)) s := by
  obtain ⟨v, q, r⟩ := L.slot i lv e
  have hi : i < env.length := (List.getElem?_eq_some_iff.mp e).1
  have hi' : i < σ.length := by rw [L.len]; exact hi
  obtain ⟨G2, a2, k2, r2, x2⟩ := freezeX L.stp r fun o c z => L.own i lv c e o (by rw [q, z])
  have old : ∀ (j : Nat) (lj : LV), (env.set i (some lv.fz))[j]? = some (some lj) → lj.own = true → j ≠ i ∧ env[j]? = some (some lj) := fun j lj ej o => by
    by_cases h : j = i
    · subst h
      rw [List.getElem?_set_self hi] at ej
      cases ej
      rw [lv.fz_own] at o; cases o
    · rw [List.getElem?_set_ne (Ne.symm h)] at ej
      exact ⟨h, ej⟩
  refine ⟨G2, k2, a2, L.ok, by simp [L.len], fun j lj ej => ?_, fun j lj a ej o qj => ?_, fun j k lj lk a n ej ek o1 o2 q1 q2 => ?_⟩
  · by_cases h : j = i
    · subst h
      rw [List.getElem?_set_self hi] at ej
      cases ej
      exact ⟨v, q, r2⟩
    · rw [List.getElem?_set_ne (Ne.symm h)] at ej
      obtain ⟨vj, qj, rj⟩ := L.slot j lj ej
      refine ⟨vj, qj, rj.more k2 fun c o ec => ?_⟩
      cases ez : G2 c with
      | none => rfl
      | some u =>
        rcases x2 c (by rw [ez]; exact fun z => by cases z) with z | ⟨z1, z2⟩
        · obtain ⟨d, e1, e2, _⟩ := rj.ref o
          rw [ec] at e1; cases e1
          exact absurd e2 z
        · exact (L.apart j i lj lv c h ej e o z1 (by rw [qj, ec]) (by rw [q, z2])).elim
  · obtain ⟨_, ej⟩ := old j lj ej o
    exact L.own j lj a ej o qj
  · obtain ⟨_, ej⟩ := old j lj ej o1
    obtain ⟨_, ek⟩ := old k lk ek o2
    exact L.apart j k lj lk a n ej ek o1 o2 q1 q2
theorem ts_frz {K : PySem.W.Frag} {i : Nat} {u : WS S} {E : Ends} {σ : L2.St} {H : Hp} (h : ts K B (wFrz i u) E σ H) : ts K B u E σ H := by
  obtain ⟨G, env, s, M, L, w', r⟩ := h
  unfold wFrz at w'
  split at w'
  · rename_i lv e
    obtain ⟨G2, k2, L2⟩ := L.frz (LEnv.at_get e)
    exact ⟨G2, _, s, M, L2, w', r.mono k2⟩
  · exact ⟨G, env, s, M, L, w', r⟩
theorem ws_frz {st : Stmt} (i : Nat) {u : WS S} (h : PS X st (ts X.K B u)) : PS X st (ts X.K B (wFrz i u)) := impS h fun _ _ _ q => ts_frz q

/-! ### append, extend -/
/-- a name's own list becomes another one -/
theorem Lf.lput {K : PySem.W.Frag} {cl : Nat → Addr} {H0 G0 G : Hp} {σ : L2.St} {H : Hp} {env : LEnv} {s : S} {T : Sto S} (L : Lf T K cl H0 G0 G σ H env s) {i : Nat} {lv lv' : LV} {a : Addr} {o : HO} (e : env[i]? = some (some lv)) (ow : lv.own = true) (q : σ[i]? = some (some (.ref a)))
    (nt : ∀ xs, H a ≠ some (.tup xs)) (r : RL K cl G (upd H a o) (.ref a) lv') (ow' : lv'.own = true) : Lf T K cl H0 G0 G σ (upd H a o) (env.set i (some lv')) s := by
  obtain ⟨h0, nF⟩ := L.own i lv a e ow q
  obtain ⟨v, q', rl⟩ := L.slot i lv e
  rw [q] at q'; cases q'
  obtain ⟨a', e1, ga, ha⟩ := rl.ref ow
  cases e1
  have hi : i < env.length := (List.getElem?_eq_some_iff.mp e).1
  refine ⟨L.stp.write h0 ga, T.loc s H _ L.ok fun c f => upd_ne (fun z => nF (by rw [← z]; exact f)), by simp [L.len], fun j lj ej => ?_, fun j lj c ej oj qj => ?_, fun j k lj lk c n ej ek o1 o2 q1 q2 => ?_⟩
  · by_cases h : j = i
    · subst h
      rw [List.getElem?_set_self hi] at ej
      cases ej
      exact ⟨_, q, r⟩
    · rw [List.getElem?_set_ne (Ne.symm h)] at ej
      obtain ⟨vj, qj, rj⟩ := L.slot j lj ej
      refine ⟨vj, qj, ?_⟩
      have ne : lj.own = true → ∀ c, vj = .ref c → c ≠ a := fun oj c ec z => L.apart j i lj lv a h ej e oj ow (by rw [qj, ec, z]) q
      cases lj with
      | d x => exact rj
      | raw u => exact rj
      | l xs =>
        obtain ⟨c, us, e1, n1, h1, z1⟩ := rj
        exact ⟨c, us, e1, n1, by rw [upd_ne (ne rfl c e1)]; exact h1, z1⟩
      | k ks xs =>
        obtain ⟨c, us, e1, n1, h1, l1, z1⟩ := rj
        exact ⟨c, us, e1, n1, by rw [upd_ne (ne rfl c e1)]; exact h1, l1, z1⟩
      | t ks xs =>
        obtain ⟨c, us, e1, n1, h1, l1, z1⟩ := rj
        exact ⟨c, us, e1, n1, by rw [upd_ne (ne rfl c e1)]; exact h1, l1, z1⟩
      | o b0 c0 ns xs =>
        obtain ⟨c, us, e1, n1, ⟨dx, h1⟩, l1, z1⟩ := rj
        exact ⟨c, us, e1, n1, ⟨dx, by rw [upd_ne (ne rfl c e1)]; exact h1⟩, l1, z1⟩
  · by_cases h : j = i
    · subst h
      rw [q] at qj; cases qj
      exact ⟨h0, nF⟩
    · rw [List.getElem?_set_ne (Ne.symm h)] at ej
      exact L.own j lj c ej oj qj
  · have back : ∀ (j : Nat) (lj : LV), (env.set i (some lv'))[j]? = some (some lj) → lj.own = true → ∃ l0, env[j]? = some (some l0) ∧ l0.own = true := fun j lj ej oj => by
      by_cases h : j = i
      · subst h; exact ⟨lv, e, ow⟩
      · rw [List.getElem?_set_ne (Ne.symm h)] at ej
        exact ⟨lj, ej, oj⟩
    obtain ⟨l1, e1, p1⟩ := back j lj ej o1
    obtain ⟨l2, e2, p2⟩ := back k lk ek o2
    exact L.apart j k l1 l2 c n e1 e2 p1 p2 q1 q2
/-- x.append(e), x a name's own list -/
def wApp (i : Nat) (w : W S) : WS S := fun M env s => match env.at i with
  | some (.l xs) => w env s (fun lv s1 => match lv.fz with
    | .d y => xs.length < sizeLine ∧ M.nx (env.set i (some (.l (xs ++ [y])))) s1
    | _ => False) (M.xn env)
  | _ => False
theorem ws_app {c : Expr} {pos : Pos} {i : Nat} {w : W S} (h : PS X (.Expr c pos) (tDrop (tBM X.K "list" rAppend (tVar i) (tCons (tl X.K B w) tNil)))) : PS X (.Expr c pos) (ts X.K B (wApp i w)) := impS h fun E σ H ⟨G, env, s, M, L, w', r⟩ => by
  unfold wApp at w'
  split at w'
  · rename_i xs ei
    obtain ⟨v, q, a, us, e1, n1, h1, z1⟩ := L.slot i _ (LEnv.at_get ei)
    subst e1
    obtain ⟨h0, nF⟩ := L.own i _ a (LEnv.at_get ei) rfl q
    refine ⟨_, q, .inl ⟨rfl, _, .inl (.inl h1)⟩, G, env, s, _, (M.xn env), L, w', fun lv s1 w1 v G1 H1 a1 ok1 r1 o1 => ?_, r.xnS L⟩
    obtain ⟨G2, a2, k2, r2⟩ := freeze a1 r1 o1
    have h2 := a2.hh _ _ h1 nF
    have g2 := a2.stay (fun z => by rw [z] at h1; cases h1) n1 (fun vs z => by rw [h1] at z; cases z)
    split at w1
    · rename_i y ey
      rw [ey] at r2
      have L2 := L.step a2 ok1
      refine ⟨a, us, v, rfl, rfl, h2, by rw [z1.length]; exact w1.1, ?_⟩
      refine r.nx G2 σ _ _ s1 a2.g (L2.lput (lv' := .l (xs ++ [y])) (LEnv.at_get ei) rfl q (fun xs z => by rw [h2] at z; cases z) ⟨a, us ++ [v], rfl, g2, upd_same, (Rps.mono a2.g _ _ z1).append (.cons r2 .nil)⟩ rfl) w1.2
    · exact w1.elim
  · exact w'.elim
/-- x.extend(e), x a name's own list, e a list -/
def wExt (i : Nat) (w : W S) : WS S := fun M env s => match env.at i with
  | some (.l xs) => w env s (fun lv s1 => match lv.lis with
    | some ys => xs.length + ys.length ≤ sizeLine ∧ M.nx (env.set i (some (.l (xs ++ ys)))) s1
    | none => False) (M.xn env)
  | _ => False
theorem ws_ext {c : Expr} {pos : Pos} {i : Nat} {w : W S} (h : PS X (.Expr c pos) (tDrop (tBM X.K "list" rExtend (tVar i) (tCons (tl X.K B w) tNil)))) : PS X (.Expr c pos) (ts X.K B (wExt i w)) := impS h fun E σ H ⟨G, env, s, M, L, w', r⟩ => by
  unfold wExt at w'
  split at w'
  · rename_i xs ei
    obtain ⟨v, q, a, us, e1, n1, h1, z1⟩ := L.slot i _ (LEnv.at_get ei)
    subst e1
    obtain ⟨h0, nF⟩ := L.own i _ a (LEnv.at_get ei) rfl q
    refine ⟨_, q, .inl ⟨rfl, _, .inl (.inl h1)⟩, G, env, s, _, (M.xn env), L, w', fun lv s1 w1 v G1 H1 a1 ok1 r1 o1 => ?_, r.xnS L⟩
    have h2 := a1.hh _ _ h1 nF
    have g2 := a1.stay (fun z => by rw [z] at h1; cases h1) n1 (fun vs z => by rw [h1] at z; cases z)
    split at w1
    · rename_i ys ey
      obtain ⟨b, ws, rfl, hb, rb⟩ := r1.lis a1.le ey
      have L2 := L.step a1 ok1
      refine ⟨a, b, us, ws, rfl, rfl, h2, hb, by rw [z1.length, rb.length]; exact w1.1, ?_⟩
      refine r.nx G1 σ _ _ s1 a1.g (L2.lput (lv' := .l (xs ++ ys)) (LEnv.at_get ei) rfl q (fun xs z => by rw [h2] at z; cases z) ⟨a, us ++ ws, rfl, g2, upd_same, (Rps.mono a1.g _ _ z1).append rb⟩ rfl) w1.2
    · exact w1.elim
  · exact w'.elim
end
end DL
/-! DL9: promises over data, defs, calls. -/
namespace DL
open PySem PySem.Spec PyProof.Rows L2

/-- what a def does, over data: the arguments, the shared state, what is wanted of the value, of an error -/
abbrev MF (S : Type) := List LV → S → (LV → S → Prop) → (Nat → D → S → Prop) → Prop
def spW {S : Type} (K : PySem.W.Frag) (cl xl : Nat → Addr) (T : Sto S) (m : MF S) : Sp := fun vs H Q E => ∃ G lvs s P N, (Le G H ∧ (∀ a, T.F a → G a = none) ∧ T.ok s H) ∧ RLs K cl G H vs lvs ∧ m lvs s P N ∧
  (∀ lv s', P lv s' → ∀ v G' H', Stp T G H G' H' → T.ok s' H' → RL K cl G' H' v lv → (lv.own = true → ∀ a, v = .ref a → H a = none ∧ ¬ T.F a) → Q v H') ∧
  (∀ c d s', N c d s' → ∀ G' H' dd v, Stp T G H G' H' → T.ok s' H' → H' dd = some (.xd [("what", v)]) → Rp K cl G' v d → E (.ref (xl c)) (some dd) H')
abbrev noX {S : Type} : Nat → D → S → Prop := fun _ _ _ => False
def startN (nn : Nat) (lvs : List LV) : LEnv := lvs.map some ++ List.replicate (nn - lvs.length) none
def mk0 {S : Type} (np nn : Nat) (u : WS S) : MF S := fun lvs s P _ => lvs.length = np ∧ u ⟨fun _ s => P (.d .non) s, P, fun _ _ => False, fun _ _ => False, fun _ => noX⟩ (startN nn lvs) s
def mkX {S : Type} (np nn : Nat) (u : WS S) : MF S := fun lvs s P N => lvs.length = np ∧ u ⟨fun _ s => P (.d .non) s, P, fun _ _ => False, fun _ _ => False, fun _ => N⟩ (startN nn lvs) s
def bot {S : Type} : MF S := fun _ _ _ _ => False

/-! ### a def of the text, its promise -/
structure DefT (K : PySem.W.Frag) (mg : Str → Option Value) (x : Str) (st : Stmt) (dvs : List V) (f : Addr) : Prop where
  ex : ∃ fd, FunD K x x (defArgs st) (defBody st) (defScope st) dvs [] f fd
  mgf : mg x = some (.ref f)
structure Ok (P : Program) (w : World) (K : PySem.W.Frag) (mg : Str → Option Value) (base : Heap) (CX : CXT) (k : Nat) (x : Str) (st : Stmt) (ps : List Str) (dvs : List V) (sp : Sp) : Prop where
  ex : ∃ f fd, FunD K x x (defArgs st) (defBody st) (defScope st) dvs [] f fd ∧ mg x = some (.ref f) ∧ FnOk P w K mg base CX k f fd ps sp
structure CalX (P : Program) (w : World) (K : PySem.W.Frag) (mg : Str → Option Value) (base : Heap) (CX : CXT) (k : Nat) (x : Str) (sp : Sp) (dvs : List V) : Prop where
  ex : ∃ (f : Addr) (fd : FuncData) (ps : List Str) (ds : List Value), FnOk P w K mg base CX k f fd ps sp ∧ mg x = some (.ref f) ∧ PySem.W.keepIn K (.ref f) = true ∧ Binds K fd ps ds ∧ Vals dvs ds
/-- .. with what its defaults are worth -/
structure CalL (P : Program) (w : World) (K : PySem.W.Frag) (mg : Str → Option Value) (base : Heap) (CX : CXT) (k : Nat) (x : Str) (cl : Nat → Addr) (sp : Sp) (dls : List LV) : Prop where
  ex : ∃ dvs, CalX P w K mg base CX k x sp dvs ∧ ∀ G H, RLs K cl G H dvs dls
section
variable {P : Program} {w : World} {K : PySem.W.Frag} {mg : Str → Option Value} {base : Heap} {CX : CXT} {k : Nat} {x : Str} {st : Stmt} {ps N : List Str} {dvs : List V} {sp : Sp} {f : Addr} {cl xl : Nat → Addr} {S : Type} {T : Sto S} {u : WS S}
theorem Ok.mono {j : Nat} (o : Ok P w K mg base CX j x st ps dvs sp) (h : j ≤ k) : Ok P w K mg base CX k x st ps dvs sp := let ⟨f, fd, a, b, c⟩ := o.ex; ⟨f, fd, a, b, c.mono h⟩
theorem Ok.imp {sp' : Sp} (o : Ok P w K mg base CX k x st ps dvs sp) (h : ∀ vs H Q E, sp' vs H Q E → sp vs H Q E) : Ok P w K mg base CX k x st ps dvs sp' := let ⟨f, fd, a, b, c⟩ := o.ex; ⟨f, fd, a, b, c.imp h⟩
theorem ok_bot (F : DefT K mg x st dvs f) : Ok P w K mg base CX k x st ps dvs (spW K cl xl T bot) := by
  obtain ⟨fd, F1⟩ := F.ex
  exact ⟨f, fd, F1, F.mgf, ⟨fun vs H Q E ⟨G, lvs, s, P, N, _, _, z, _⟩ => z.elim, fun A outer s H args us vs Q E _ _ _ _ ⟨G, lvs, s, P, N, _, _, z, _⟩ => z.elim⟩⟩
theorem Ok.cal (o : Ok P w K mg base CX k x st ps [] sp)
    (h : ∀ (kV doc pm : Value) (an : Option Addr) (cdv ct : Value) (us : List Value), us.length = ps.length → bindArgs (PySem.W.fnOf x x (defArgs st) (defBody st) (defScope st) .none kV doc pm an cdv ct) ⟨us, []⟩ = pure (ps.zip us)) : CalL P w K mg base CX k x cl sp [] := by
  obtain ⟨f, fd, a, b, c⟩ := o.ex
  exact ⟨_, ⟨f, fd, ps, [], c, b, a.kp, a.bindsN h, .nil⟩, fun _ _ => .nil⟩
theorem Ok.calD (n j : Nat) (o : Ok P w K mg base CX k x st ps dvs sp) {dls : List LV} (hl : ∀ G H, RLs K cl G H (dvs.drop j) dls) (hd : dvs ≠ []) (hn : n + (dvs.length - j) = ps.length)
    (h : ∀ (T : Addr) (kV doc pm : Value) (an : Option Addr) (cdv ct : Value) (us its : List Value), us.length = n → its.length = dvs.length →
      ∃ k, bindArgs (PySem.W.fnOf x x (defArgs st) (defBody st) (defScope st) (.ref T) kV doc pm an cdv ct) ⟨us, []⟩ = seqItems? (.ref T) >>= k ∧ k (some its.toArray) = pure (ps.zip (us ++ its.drop j))) : CalL P w K mg base CX k x cl sp dls := by
  obtain ⟨f, fd, a, b, c⟩ := o.ex
  obtain ⟨ds, h1, h2⟩ := a.binds1 n j hd hn h
  exact ⟨_, ⟨f, fd, ps, ds, c, b, a.kp, h2, h1⟩, hl⟩
theorem start_of {vs : List V} {lvs : List LV} {G H : Hp} {s : S} (le : Le G H) (gF : ∀ a, T.F a → G a = none) (ok : T.ok s H) (r : RLs K cl G H vs lvs) : Lf T K cl H G G (start N vs) H (startN N.length lvs) s := lf_start le gF ok r
/-- a def that raises nothing -/
theorem ok0 (F : DefT K mg x st dvs f) (Sc : FnScope N ps (defScope st))
    (body : ∀ (cdv : Value) (A : Around) (outer : List PySem.Env) (s : Shared) (H : Hp) (E : XK) (G : Hp), Room k (A.deeper (envOfC x (defScope st) s.heap.objs.size f cdv)) →
      PSs (cxOf CX0 P w K mg base N x (defScope st) f cdv A outer s H E).nox (defBody st) (ts K ⟨cl, xl, T, H, G, fun _ _ _ _ => False⟩ u)) :
    Ok P w K mg base CX0 (k + 1) x st ps dvs (spW K cl xl T (mk0 ps.length N.length u)) := by
  obtain ⟨fd, F1⟩ := F.ex
  refine ⟨f, fd, F1, F.mgf, F1.ok Sc (fun vs H Q E ⟨G, lvs, s, P, N, _, r, z, _⟩ => r.length.trans z.1) fun cdv A outer s H vs Q E hr h => ?_⟩
  obtain ⟨G, lvs, s', P, N', ⟨le, gF, ok⟩, r, ⟨hl, z⟩, kQ, kE⟩ := h
  refine ⟨_, (body cdv A outer s H E G hr).nox, G, _, s', _, start_of le gF ok r, z, ?_⟩
  exact ⟨fun G' σ' H' env' s2 _ L y => kQ _ s2 y .non G' H' L.stp L.ok Rp.non (fun o => by cases o), fun lv' s2 y v G' H' a ok rl o => kQ lv' s2 y v G' H' a ok rl o, fun _ _ _ _ _ _ _ y => y.elim, fun _ _ _ _ _ _ _ y => y.elim, fun _ _ _ _ _ _ _ c d s' y => y.elim⟩
/-- a def that may raise -/
theorem okX (F : DefT K mg x st dvs f) (Sc : FnScope N ps (defScope st))
    (body : ∀ (cdv : Value) (A : Around) (outer : List PySem.Env) (s : Shared) (H : Hp) (E : XK) (G : Hp), Room k (A.deeper (envOfC x (defScope st) s.heap.objs.size f cdv)) →
      PSs (cxOf (L2.CX P w) P w K mg base N x (defScope st) f cdv A outer s H E) (defBody st) (ts K ⟨cl, xl, T, H, G, fun cls d _ H => E cls d H⟩ u)) :
    Ok P w K mg base (L2.CX P w) (k + 1) x st ps dvs (spW K cl xl T (mkX ps.length N.length u)) := by
  obtain ⟨fd, F1⟩ := F.ex
  refine ⟨f, fd, F1, F.mgf, F1.ok Sc (fun vs H Q E ⟨G, lvs, s, P, N, _, r, z, _⟩ => r.length.trans z.1) fun cdv A outer s H vs Q E hr h => ?_⟩
  obtain ⟨G, lvs, s', P, N', ⟨le, gF, ok⟩, r, ⟨hl, z⟩, kQ, kE⟩ := h
  refine ⟨_, body cdv A outer s H E G hr, G, _, s', _, start_of le gF ok r, z, ?_⟩
  exact ⟨fun G' σ' H' env' s2 _ L y => kQ _ s2 y .non G' H' L.stp L.ok Rp.non (fun o => by cases o), fun lv' s2 y v G' H' a ok rl o => kQ lv' s2 y v G' H' a ok rl o, fun _ _ _ _ _ _ _ y => y.elim, fun _ _ _ _ _ _ _ y => y.elim,
    fun _ _ _ _ _ _ L c d s2 y G' H' dd v a ok e r => kE c d s2 y G' H' dd v (L.stp.trans a) ok e r⟩
end

/-! ### calls by name -/
section
variable {S : Type} {B : Bd S} {X : Cx} {CX : CXT} {wa : WA S} {e : Expr} {es : List Expr} {x : Str} {p pos : Pos} {j k : Nat} {xl : Nat → Addr} {dvs : List V} {dls : List LV}
/-- f(..) that raises nothing here -/
def wCl (m : MF S) (dls : List LV) (wa : WA S) : W S := fun env s P N => wa env s (fun lvs s1 => m (lvs ++ dls) s1 P noX) N
/-- .. of a def that knows nothing of what is shared -/
def wClU (m : MF Unit) (dls : List LV) (wa : WA S) : W S := fun env s P N => wa env s (fun lvs s1 => m (lvs ++ dls) () (fun lv _ => P lv s1) noX) N
def wClX (m : MF S) (dls : List LV) (wa : WA S) : W S := fun env s P N => wa env s (fun lvs s1 => m (lvs ++ dls) s1 P N) N
def wClUX (m : MF Unit) (dls : List LV) (wa : WA S) : W S := fun env s P N => wa env s (fun lvs s1 => m (lvs ++ dls) () (fun lv _ => P lv s1) (fun c d _ => N c d s1)) N
theorem spW_call {K : PySem.W.Frag} {m : MF S} {G H G1 H1 : Hp} {s1 : S} {vs : List V} {lvs : List LV} {P : LV → S → Prop} {N : Nat → D → S → Prop} {Q : VK} {E : XK} (a1 : Stp B.T G H G1 H1) (ok1 : B.T.ok s1 H1) (r1 : RLs K B.cl G1 H1 vs lvs) (hd : RLs K B.cl G1 H1 dvs dls)
    (w1 : m (lvs ++ dls) s1 P N) (kQ : ∀ lv s', P lv s' → ∀ v G' H', Stp B.T G H G' H' → B.T.ok s' H' → RL K B.cl G' H' v lv → (lv.own = true → ∀ a, v = .ref a → H a = none ∧ ¬ B.T.F a) → Q v H')
    (kE : ∀ c d s', N c d s' → ∀ G' H' dd v, Stp B.T G H G' H' → B.T.ok s' H' → H' dd = some (.xd [("what", v)]) → Rp K B.cl G' v d → E (.ref (xl c)) (some dd) H') : spW K B.cl xl B.T m (vs ++ dvs) H1 Q E := by
  refine ⟨G1, lvs ++ dls, s1, P, N, ⟨a1.le, a1.gF, ok1⟩, r1.append hd, w1, fun lv s' p v G' H' a ok r o => kQ lv s' p v G' H' (a1.trans a) ok r fun z b e => ⟨a1.dead (o z b e).1 (o z b e).2, (o z b e).2⟩, fun c d s' n G' H' dd v a ok e r => kE c d s' n G' H' dd v (a1.trans a) ok e r⟩
theorem spW_callU {K : PySem.W.Frag} {m : MF Unit} {G H G1 H1 : Hp} {s1 : S} {vs : List V} {lvs : List LV} {P : LV → S → Prop} {N : Nat → D → S → Prop} {Q : VK} {E : XK} (a1 : Stp B.T G H G1 H1) (ok1 : B.T.ok s1 H1) (r1 : RLs K B.cl G1 H1 vs lvs) (hd : RLs K B.cl G1 H1 dvs dls)
    (w1 : m (lvs ++ dls) () (fun lv _ => P lv s1) (fun c d _ => N c d s1)) (kQ : ∀ lv s', P lv s' → ∀ v G' H', Stp B.T G H G' H' → B.T.ok s' H' → RL K B.cl G' H' v lv → (lv.own = true → ∀ a, v = .ref a → H a = none ∧ ¬ B.T.F a) → Q v H')
    (kE : ∀ c d s', N c d s' → ∀ G' H' dd v, Stp B.T G H G' H' → B.T.ok s' H' → H' dd = some (.xd [("what", v)]) → Rp K B.cl G' v d → E (.ref (xl c)) (some dd) H') : spW K B.cl xl Sto.no m (vs ++ dvs) H1 Q E := by
  have st : ∀ {G' H' : Hp}, Stp Sto.no G1 H1 G' H' → B.T.ok s1 H' := fun a => B.T.stays ok1 fun b o e => a.hh b o e (fun z => z.elim)
  refine ⟨G1, lvs ++ dls, (), _, _, ⟨a1.le, fun _ z => z.elim, True.intro⟩, r1.append hd, w1, fun lv s' p v G' H' a ok r o => ?_, fun c d s' n G' H' dd v a ok e r => ?_⟩
  · have b := a.wide (T := B.T) a1.gF ok1
    refine kQ lv s1 p v G' H' (a1.trans b) (st a) r fun z c e => ?_
    have nF : ¬ B.T.F c := fun f => B.T.al s1 H1 c ok1 f (o z c e).1
    exact ⟨a1.dead (o z c e).1 nF, nF⟩
  · exact kE c d s1 n G' H' dd v (a1.trans (a.wide a1.gF ok1)) (st a) e r
theorem we_c {m : MF S} (c : CalL X.prog X.w X.K X.mg X.base CX k x B.cl (spW X.K B.cl xl B.T m) dls) (hp : Passes CX X E0) (hr : Room j X.A) (hk : k ≤ j) (hg : Gl X x) (ha : PA X (e :: es) (tla X.K B wa))
    (hdb : (x == ("__debug__" : Str)) = false := by decide) (he : starEach (e :: es) X.env = (false, eval e X.env) :: starEach es X.env := by rfl) (hpl : (backTo pos (starEach es X.env)).any (·.1) = false := by rfl) :
    PE X (.Call (.Name x p) (e :: es) [] pos) (tl X.K B (wCl m dls wa)) := by
  obtain ⟨dvs, ⟨f, fd, ps, ds, F, hm, kp, b, d⟩, hd⟩ := c.ex
  exact imp (pe_call F (hr.mono hk) hg hm kp b d hp ha hdb he hpl) fun σ H Q ⟨G, env, s, P, N, L, w', kQ, n⟩ =>
    ⟨G, env, s, _, N, L, w', fun lvs s1 w1 vs G1 H1 a1 ok1 r1 => spW_call a1 ok1 r1 (hd _ _) w1 kQ (fun _ _ _ z => z.elim), n⟩
theorem we_cU {m : MF Unit} (c : CalL X.prog X.w X.K X.mg X.base CX k x B.cl (spW X.K B.cl xl Sto.no m) dls) (hp : Passes CX X E0) (hr : Room j X.A) (hk : k ≤ j) (hg : Gl X x) (ha : PA X (e :: es) (tla X.K B wa))
    (hdb : (x == ("__debug__" : Str)) = false := by decide) (he : starEach (e :: es) X.env = (false, eval e X.env) :: starEach es X.env := by rfl) (hpl : (backTo pos (starEach es X.env)).any (·.1) = false := by rfl) :
    PE X (.Call (.Name x p) (e :: es) [] pos) (tl X.K B (wClU m dls wa)) := by
  obtain ⟨dvs, ⟨f, fd, ps, ds, F, hm, kp, b, d⟩, hd⟩ := c.ex
  exact imp (pe_call F (hr.mono hk) hg hm kp b d hp ha hdb he hpl) fun σ H Q ⟨G, env, s, P, N, L, w', kQ, n⟩ =>
    ⟨G, env, s, _, N, L, w', fun lvs s1 w1 vs G1 H1 a1 ok1 r1 => spW_callU (N := noX) a1 ok1 r1 (hd _ _) w1 kQ (fun _ _ _ z => z.elim), n⟩
theorem we_cX {m : MF S} (c : CalL X.prog X.w X.K X.mg X.base (L2.CX X.prog X.w) k x B.cl (spW X.K B.cl B.xl B.T m) dls) (tk : Takes X B.Wx) (hr : Room j X.A) (hk : k ≤ j) (hg : Gl X x) (ha : PA X (e :: es) (tla X.K B wa))
    (hdb : (x == ("__debug__" : Str)) = false := by decide) (he : starEach (e :: es) X.env = (false, eval e X.env) :: starEach es X.env := by rfl) (hpl : (backTo pos (starEach es X.env)).any (·.1) = false := by rfl) :
    PE X (.Call (.Name x p) (e :: es) [] pos) (tl X.K B (wClX m dls wa)) := by
  obtain ⟨dvs, ⟨f, fd, ps, ds, F, hm, kp, b, d⟩, hd⟩ := c.ex
  exact imp (pe_callSD (E := WE B.Wx) F (hr.mono hk) hg hm kp b d (fun σ => passAt tk σ) ha hdb he hpl) fun σ H Q ⟨G, env, s, P, N, L, w', kQ, n⟩ =>
    ⟨G, env, s, _, N, L, w', fun lvs s1 w1 vs G1 H1 a1 ok1 r1 => spW_call (N := N) a1 ok1 r1 (hd _ _) w1 kQ (fun c d s' y G' H' dd v a ok e r => n c d s' y G' H' dd v a ok e r), n⟩
theorem we_cUX {m : MF Unit} (c : CalL X.prog X.w X.K X.mg X.base (L2.CX X.prog X.w) k x B.cl (spW X.K B.cl B.xl Sto.no m) dls) (tk : Takes X B.Wx) (hr : Room j X.A) (hk : k ≤ j) (hg : Gl X x) (ha : PA X (e :: es) (tla X.K B wa))
    (hdb : (x == ("__debug__" : Str)) = false := by decide) (he : starEach (e :: es) X.env = (false, eval e X.env) :: starEach es X.env := by rfl) (hpl : (backTo pos (starEach es X.env)).any (·.1) = false := by rfl) :
    PE X (.Call (.Name x p) (e :: es) [] pos) (tl X.K B (wClUX m dls wa)) := by
  obtain ⟨dvs, ⟨f, fd, ps, ds, F, hm, kp, b, d⟩, hd⟩ := c.ex
  exact imp (pe_callSD (E := WE B.Wx) F (hr.mono hk) hg hm kp b d (fun σ => passAt tk σ) ha hdb he hpl) fun σ H Q ⟨G, env, s, P, N, L, w', kQ, n⟩ =>
    ⟨G, env, s, _, N, L, w', fun lvs s1 w1 vs G1 H1 a1 ok1 r1 => spW_callU (N := N) a1 ok1 r1 (hd _ _) w1 kQ (fun c d s' y G' H' dd v a ok e r => n c d s' y G' H' dd v a ok e r), n⟩
/-- a constant of the module -/
def Gc (K : PySem.W.Frag) (mg : Str → Option Value) (x : Str) (cl : Nat → Addr) (d : D) : Prop := ∃ v u, mg x = some u ∧ RelV v u ∧ ∀ G, Rp K cl G v d
theorem we_gc {d : D} (h : Gc X.K X.mg x B.cl d) (hg : Gl X x) (hd : (x == ("__debug__" : Str)) = false := by decide) : PE X (.Name x pos) (tl X.K B (wC d)) := let ⟨v, u, hm, r, rd⟩ := h; we_lit (pe_glob hg hm r hd) rd

theorem we_glob {v : V} {u : Value} {d : D} (hg : Gl X x) (hm : X.mg x = some u) (r : RelV v u) (rd : ∀ G, Rp X.K B.cl G v d) (hd : (x == ("__debug__" : Str)) = false := by decide) : PE X (.Name x pos) (tl X.K B (wC d)) := we_lit (pe_glob hg hm r hd) rd
end
end DL
/-! DL10: written dicts, attributes, slices, dicts, any, sorted. -/
namespace DL
open PySem PySem.Spec PyProof.Rows L2

/-! ### a written dict of texts -/
structure KW (K : PySem.W.Frag) (w : World) (d : Addr) (ws : List Str) : Prop where
  ex : ∃ es n, KDict K w d es n
  ns : ∀ z, ∃ r, PySem.W.nsIn K d z = some r ∧ r.isSome = decide (z ∈ ws)
section
variable {S : Type} {B : Bd S} {X : Cx} {a b e : Expr} {pos : Pos} {w wa wb : W S}
/-- x in a written dict of texts -/
def wKw (n : Bool) (ws : List Str) (w : W S) : W S := fun env s P N => w env s (fun lv s1 => match lv with
  | .d (.str z) => P (.d (.bl (if n then !decide (z ∈ ws) else decide (z ∈ ws)))) s1
  | _ => False) N
theorem kw_le {K : PySem.W.Frag} {d : Addr} {ws : List Str} {n : Bool} {σ : L2.St} {H : Hp} {Q : VK} (k : ∀ z, ∃ r, PySem.W.nsIn K d z = some r ∧ r.isSome = decide (z ∈ ws)) (h : tl K B (wKw n ws w) σ H Q) :
    tlb K B w σ H fun x H1 => ∃ (z : Str) (r : Option Value), x = .str z ∧ PySem.W.nsIn K d z = some r ∧ Q (.bl (if n then !r.isSome else r.isSome)) H1 := by
  obtain ⟨G, env, s, P, N, L, w', c, nx⟩ := h
  refine ⟨G, env, s, _, N, L, w', fun lv s1 w1 v G1 H1 a1 ok1 r1 o1 => ?_, nx⟩
  split at w1
  · rename_i z
    cases r1
    obtain ⟨r, e1, e2⟩ := k z
    refine ⟨z, r, rfl, e1, ?_⟩
    rw [e2]
    exact c _ s1 w1 _ G1 H1 a1 ok1 (Rp.bl _) (fun o => by cases o)
  · exact w1.elim
theorem we_kwin {x : Str} {d : Addr} {ws : List Str} {p : Pos} (k : KW X.K X.w d ws) (hg : Gl X x) (hm : X.mg x = some (.ref d)) (ha : PE X a (tlb X.K B w)) (hb : behindInMarks .In (.Name x p) = false := by rfl) (hd : (x == ("__debug__" : Str)) = false := by decide) :
    PE X (.Compare a [.In] [.Name x p] pos) (tl X.K B (wKw false ws w)) := by
  obtain ⟨es, n, D⟩ := k.ex
  exact imp (pe_cmpR (op_in_kd D) ha (pe_glob (v := .ref d) hg hm rfl hd) hb) fun σ H Q h => by
    obtain ⟨G, env, s, P, N, L, w', c, nx⟩ := kw_le k.ns h
    exact ⟨G, env, s, P, N, L, w', fun lv s' p v G' H' a1 ok1 r1 o1 => let ⟨z, r, e1, e2, q⟩ := c lv s' p v G' H' a1 ok1 r1 o1; ⟨z, r, e1, rfl, e2, q⟩, nx⟩
theorem we_kwnin {x : Str} {d : Addr} {ws : List Str} {p : Pos} (k : KW X.K X.w d ws) (hg : Gl X x) (hm : X.mg x = some (.ref d)) (ha : PE X a (tlb X.K B w)) (hb : behindInMarks .NotIn (.Name x p) = false := by rfl) (hd : (x == ("__debug__" : Str)) = false := by decide) :
    PE X (.Compare a [.NotIn] [.Name x p] pos) (tl X.K B (wKw true ws w)) := by
  obtain ⟨es, n, D⟩ := k.ex
  exact imp (pe_cmpR (op_notIn_kd D) ha (pe_glob (v := .ref d) hg hm rfl hd) hb) fun σ H Q h => by
    obtain ⟨G, env, s, P, N, L, w', c, nx⟩ := kw_le k.ns h
    exact ⟨G, env, s, P, N, L, w', fun lv s' p v G' H' a1 ok1 r1 o1 => let ⟨z, r, e1, e2, q⟩ := c lv s' p v G' H' a1 ok1 r1 o1; ⟨z, r, e1, rfl, e2, q⟩, nx⟩
end

/-! ### looking up -/
section
variable {κ : Type} [DecidableEq κ]
def lkp {α : Type} : List κ → List α → κ → Option α
  | k :: ks, x :: xs, j => if k = j then some x else lkp ks xs j
  | _, _, _ => none
theorem valV_lkp : ∀ (ks : List κ) (vs : List V) (k : κ), valV (ks.zip vs) k = lkp ks vs k
  | [], vs, k => by cases vs <;> rfl
  | k0 :: ks, [], k => rfl
  | k0 :: ks, v :: vs, k => by
    rw [List.zip_cons_cons]
    unfold lkp
    by_cases h : k0 = k
    · rw [if_pos h]; exact valV_pos (p := (k0, v)) h
    · rw [if_neg h, ← valV_lkp ks vs k]; exact valV_neg (p := (k0, v)) h
theorem lkp_rel {K : PySem.W.Frag} {cl : Nat → Addr} {G : Hp} : ∀ {ks : List κ} {vs : List V} {xs : List D} (k : κ), Rps K cl G vs xs → (lkp ks vs k = none ∧ lkp ks xs k = none) ∨ ∃ v x, lkp ks vs k = some v ∧ lkp ks xs k = some x ∧ Rp K cl G v x
  | [], _, _, k, _ => .inl ⟨rfl, rfl⟩
  | k0 :: ks, _, _, k, .nil => .inl ⟨rfl, rfl⟩
  | k0 :: ks, _, _, k, .cons r t => by
    unfold lkp
    by_cases h : k0 = k
    · rw [if_pos h, if_pos h]; exact .inr ⟨_, _, rfl, rfl, r⟩
    · rw [if_neg h, if_neg h]; exact lkp_rel k t
end
theorem lookup_lkp : ∀ (ns : List Str) (vs : List V) (f : Str), (ns.zip vs).lookup f = lkp ns vs f
  | [], vs, f => by cases vs <;> rfl
  | k0 :: ks, [], f => rfl
  | k0 :: ks, v :: vs, f => by
    rw [List.zip_cons_cons]
    unfold lkp
    by_cases h : k0 = f
    · subst h; rw [if_pos rfl]; simp [List.lookup]
    · have e : (f == k0) = false := by simpa using fun z : f = k0 => h z.symm
      rw [if_neg h, ← lookup_lkp ks vs f]
      simp [List.lookup, e]

/-! ### attributes -/
section
variable {S : Type} {B : Bd S} {X : Cx} {a b e : Expr} {pos : Pos} {w wa wb : W S}
def wFld (c : Nat) (f : Str) (w : W S) : W S := fun env s P N => w env s (fun lv s1 => match lv with
  | .d (.ins k ns xs) => k = c ∧ match lkp ns xs f with
    | some y => P (.d y) s1
    | none => False
  | _ => False) N
theorem we_fld {c : Nat} {f : Str} (hc : Cls X.K (B.cl c)) (hn : NoAttr X.K (B.cl c) f) (h : PE X e (tl X.K B w)) (hb : attributeBase e f X.env (eval e X.env) = eval e X.env := by rfl) : PE X (.Attribute e f pos) (tl X.K B (wFld c f w)) :=
  imp (pe_fld h hb) fun σ H Q ⟨G, env, s, P, N, L, w', k, n⟩ => by
    refine ⟨G, env, s, _, N, L, w', fun lv s1 w1 v G1 H1 a1 ok1 r1 o1 => ?_, n⟩
    split at w1
    · rename_i c' ns xs
      obtain ⟨rfl, w1⟩ := w1
      cases r1 with
      | ins h1 h2 h3 =>
        split at w1
        · rename_i y ey
          rcases lkp_rel (ks := ns) f h3 with ⟨_, z⟩ | ⟨v', y', e1, e2, rp⟩
          · rw [z] at ey; cases ey
          · rw [ey] at e2
            cases e2
            exact ⟨_, _, _, _, v', rfl, a1.le _ _ h1, hc, hn, by rw [lookup_lkp]; exact e1, k _ s1 w1 v' G1 H1 a1 ok1 rp (fun o => by cases o)⟩
        · exact w1.elim
    · exact w1.elim
end

/-! ### slices -/
def cutL {α : Type} (xs : List α) (lo hi : Option Int) : List α := (xs.drop (HT.sIx xs.length 0 lo)).take (HT.sIx xs.length xs.length hi - HT.sIx xs.length 0 lo)
theorem cut_rps {K : PySem.W.Frag} {cl : Nat → Addr} {G : Hp} {vs : List V} {xs : List D} (r : Rps K cl G vs xs) (lo hi : Option Int) : Rps K cl G (cutV vs lo hi) (cutL xs lo hi) := by
  unfold cutV cutL
  rw [r.length]
  exact (r.drop _).take _
abbrev WO (S : Type) := LEnv → S → (Option Int → S → Prop) → (Nat → D → S → Prop) → Prop
def slF (lo hi : Option Int) : LV → (LV → Prop) → Prop := fun x P => match x with
  | .d (.str z) => z.length ≤ sizeLine ∧ P (.d (.str (cutS z lo hi)))
  | .d (.tup xs) => P (.d (.tup (cutL xs lo hi)))
  | .d (.tupK xs) => ¬ (HT.sIx xs.length 0 lo = 0 ∧ HT.sIx xs.length xs.length hi = xs.length) ∧ P (.d (.tup (cutL xs lo hi)))
  | x => match x.lis with
    | some xs => P (.l (cutL xs lo hi))
    | none => False
section
variable {S : Type} {B : Bd S} {X : Cx} {a b e : Expr} {pos p2 : Pos} {w wa wb : W S}
def tlo (K : PySem.W.Frag) (B : Bd S) (w : WO S) : TO := fun σ H Q => ∃ G env s P N, Lf B.T K B.cl B.H0 B.G0 G σ H env s ∧ w env s P N ∧ (∀ o s', P o s' → ∀ G' H', Stp B.T G H G' H' → B.T.ok s' H' → Q o H') ∧ XnOk K B G H σ N
theorem impO {e : Option Expr} {t t' : TO} (h : PO X e t) (k : ∀ σ H Q, t' σ H Q → t σ H Q) : PO X e t' := ⟨fun pins s σ H Q I q => h.run pins s σ H Q I (k σ H Q q)⟩
def woN : WO S := fun _ s P _ => P none s
def woS (w : W S) : WO S := fun env s P N => w env s (fun lv s1 => match lv with
  | .d (.int i) => P (some i) s1
  | _ => False) N
theorem wo_n : PO X none (tlo X.K B woN) := impO po_none fun σ H Q ⟨G, env, s, P, N, L, w', c, n⟩ => c _ s w' G H L.refl L.ok
theorem wo_s (h : PE X e (tl X.K B w)) : PO X (some e) (tlo X.K B (woS w)) := impO (po_some h) fun σ H Q ⟨G, env, s, P, N, L, w', c, n⟩ => by
  refine ⟨G, env, s, _, N, L, w', fun lv s1 w1 v G1 H1 a1 ok1 r1 o1 => ?_, n⟩
  split at w1
  · cases r1
    exact ⟨_, rfl, c _ s1 w1 G1 H1 a1 ok1⟩
  · exact w1.elim
def wSl (w : W S) (lo hi : WO S) : W S := fun env s P N => w env s (fun x s1 => lo env s1 (fun l s2 => hi env s2 (fun u s3 => slF l u x fun z => P z s3) N) N) N
def rSlAll (K : PySem.W.Frag) : V → Option Int → Option Int → Hp → VK → Prop := fun x lo hi H Q => rSlS x lo hi H Q ∨ rSlA K x lo hi H Q ∨ rSlL K x lo hi H Q
theorem we_slice {lo hi : Option Expr} {wl wh : WO S} (h : PE X e (tlb X.K B w)) (hl : PO X lo (tlo X.K B wl)) (hh : PO X hi (tlo X.K B wh)) : PE X (.Subscript e (.Slice lo hi none p2) pos) (tl X.K B (wSl w wl wh)) :=
  imp (pe_slice (r := rSlAll X.K) ((sl_str (X := X)).or (sl_tupA.or sl_list)) h hl hh) fun σ H Q ⟨G, env, s, P, N, L, w', k, n⟩ => by
    refine ⟨G, env, s, _, N, L, w', fun lx s1 w1 x G1 H1 a1 ok1 r1 o1 => ?_, n⟩
    refine ⟨G1, env, s1, _, N, L.step a1 ok1, w1, fun l s2 w2 G2 H2 a2 ok2 => ?_, n.step a1⟩
    refine ⟨G2, env, s2, _, N, (L.step a1 ok1).step a2 ok2, w2, fun u s3 w3 G3 H3 a3 ok3 => ?_, (n.step a1).step a2⟩
    have a13 := a2.trans a3
    have rx := r1.step a13 fun c o e => o1 o c e
    have q : ∀ lz v G' H', P lz s3 → Stp B.T G3 H3 G' H' → B.T.ok s3 H' → RL X.K B.cl G' H' v lz → (lz.own = true → ∀ a, v = .ref a → H3 a = none ∧ ¬ B.T.F a) → Q v H' := fun lz v G' H' p a ok r o =>
      k lz s3 p v G' H' ((a1.trans a13).trans a) ok r fun z b e => ⟨(a1.trans a13).dead (o z b e).1 (o z b e).2, (o z b e).2⟩
    unfold slF at w3
    split at w3
    · cases rx
      exact .inl ⟨_, rfl, w3.1, q _ _ G3 H3 w3.2 (.refl a3.le a3.gF) ok3 (Rp.str _) (fun o => by cases o)⟩
    · rename_i xs
      cases rx with
      | @tup ad vs _ h1 h2 =>
        refine .inr (.inl ⟨ad, vs, rfl, .of (a3.le _ _ h1), fun hw => ?_, fun _ p hp => ?_⟩)
        · refine q _ _ G3 H3 w3 (.refl a3.le a3.gF) ok3 (Rp.tup h1 ?_) (fun o => by cases o)
          have e : cutL xs l u = xs := by
            unfold cutL
            rw [h2.length] at hw
            rw [hw.1, hw.2, List.drop_zero, Nat.sub_zero, List.take_length]
          rw [e]; exact h2
        · have b := Stp.new (T := B.T) (o := .tup (cutV vs l u)) a3.le a3.gF (fun a f => B.T.al s3 H3 a ok3 f) hp
          exact q _ _ _ _ w3 b (B.T.stays ok3 (le_upd hp)) (Rp.tup upd_same (Rps.mono b.g _ _ (cut_rps h2 l u))) (fun o => by cases o)
    · rename_i xs
      cases rx with
      | @tupK ad vs _ h1 h2 =>
        refine .inr (.inl ⟨ad, vs, rfl, sqT_le h1 (fun a o z => by cases z), fun hw => ?_, fun _ p hp => ?_⟩)
        · rw [h2.length] at hw
          exact absurd hw w3.1
        · have b := Stp.new (T := B.T) (o := .tup (cutV vs l u)) a3.le a3.gF (fun a f => B.T.al s3 H3 a ok3 f) hp
          exact q _ _ _ _ w3.2 b (B.T.stays ok3 (le_upd hp)) (Rp.tup upd_same (Rps.mono b.g _ _ (cut_rps h2 l u))) (fun o => by cases o)
    · split at w3
      · rename_i xs e
        obtain ⟨ad, vs, rfl, hs, rv⟩ := rx.lis a3.le e
        exact .inr (.inr ⟨ad, vs, rfl, .of hs, new_list a3.le a3.gF ok3 (cut_rps rv l u) w3 q⟩)
      · exact w3.elim
end

/-! ### dicts -/
def LV.dk : LV → Option (List Key × List D)
  | .k ks xs => some (ks, xs)
  | .d (.dK ks xs) => some (ks, xs)
  | _ => none
def LV.dt : LV → Option (List (List Key) × List D)
  | .t ks xs => some (ks, xs)
  | .d (.dT ks xs) => some (ks, xs)
  | _ => none
def D.key : D → Option Key
  | .int i => some (.inl i)
  | .str x => some (.inr x)
  | _ => none
def keysOf : List D → Option (List Key)
  | [] => some []
  | x :: r => match x.key, keysOf r with
    | some k, some ks => some (k :: ks)
    | _, _ => none
def D.keys : D → Option (List Key)
  | .tup xs => keysOf xs
  | _ => none
/-- what a dict holds at a key -/
def dgetF (x : LV) (y : D) : Option (Option D) := match x.dk with
  | some (ks, xs) => match y.key with
    | some k => some (lkp ks xs k)
    | none => none
  | none => match x.dt with
    | some (ks, xs) => match y.keys with
      | some k => some (lkp ks xs k)
      | none => none
    | none => none
section
variable {K : PySem.W.Frag} {cl : Nat → Addr} {G H : Hp} {v : V} {lv : LV}
theorem RL.dk (r : RL K cl G H v lv) (le : Le G H) {ks : List Key} {xs : List D} (h : lv.dk = some (ks, xs)) : ∃ a vs, v = .ref a ∧ H a = some (.dK (ks.zip vs)) ∧ ks.length = vs.length ∧ Rps K cl G vs xs := by
  cases lv with
  | d x =>
    cases x with
    | dK ys zs =>
      cases h
      cases r with
      | dK h1 h2 h3 => exact ⟨_, _, rfl, le _ _ h1, h2, h3⟩
    | _ => cases h
  | k ys zs =>
    cases h
    obtain ⟨a, vs, e, _, q, l, z⟩ := r
    exact ⟨a, vs, e, q, l, z⟩
  | _ => cases h
theorem RL.dt (r : RL K cl G H v lv) (le : Le G H) {ks : List (List Key)} {xs : List D} (h : lv.dt = some (ks, xs)) : ∃ a vs, v = .ref a ∧ H a = some (.dT (ks.zip vs)) ∧ ks.length = vs.length ∧ Rps K cl G vs xs := by
  cases lv with
  | d x =>
    cases x with
    | dT ys zs =>
      cases h
      cases r with
      | dT h1 h2 h3 => exact ⟨_, _, rfl, le _ _ h1, h2, h3⟩
    | _ => cases h
  | t ys zs =>
    cases h
    obtain ⟨a, vs, e, _, q, l, z⟩ := r
    exact ⟨a, vs, e, q, l, z⟩
  | _ => cases h
theorem Rp.key {y : D} {k : Key} (r : Rp K cl G v y) (e : y.key = some k) : v = kV k := by
  cases r with
  | int i => cases e; rfl
  | str x => cases e; rfl
  | _ => cases e
theorem Rps.keys : ∀ {vs : List V} {xs : List D} {ks : List Key}, Rps K cl G vs xs → keysOf xs = some ks → vs = ks.map kV
  | _, _, _, .nil, e => by cases e; rfl
  | _, _, _, .cons r t, e => by
    unfold keysOf at e
    split at e
    · rename_i k ks e1 e2
      cases e
      rw [List.map_cons, ← r.key e1, ← Rps.keys t e2]
    · cases e
theorem Rp.keys {y : D} {k : List Key} (r : Rp K cl G v y) (le : Le G H) (e : y.keys = some k) : ∃ b, v = .ref b ∧ H b = some (.tup (k.map kV)) := by
  cases r with
  | tup h1 h2 => exact ⟨_, rfl, by rw [← h2.keys e]; exact le _ _ h1⟩
  | _ => cases e
theorem dget_ok {x y : V} {lx : LV} {d : D} {o : Option D} (le : Le G H) (rx : RL K cl G H x lx) (ry : Rp K cl G y d) (e : dgetF lx d = some o) : ∃ a ov, x = .ref a ∧ DGet H a y ov ∧ ((ov = none ∧ o = none) ∨ ∃ v z, ov = some v ∧ o = some z ∧ Rp K cl G v z) := by
  unfold dgetF at e
  split at e
  · rename_i ks xs e1
    obtain ⟨a, vs, rfl, h1, h2, h3⟩ := rx.dk le e1
    split at e
    · rename_i k e2
      cases e
      have := ry.key e2
      subst this
      refine ⟨a, _, rfl, .k h1, ?_⟩
      rw [valV_lkp]
      exact lkp_rel k h3
    · cases e
  · split at e
    · rename_i ks xs e1
      obtain ⟨a, vs, rfl, h1, h2, h3⟩ := rx.dt le e1
      split at e
      · rename_i k e2
        cases e
        obtain ⟨b, rfl, hb⟩ := ry.keys le e2
        refine ⟨a, _, rfl, .t h1 hb, ?_⟩
        rw [valV_lkp]
        exact lkp_rel k h3
      · cases e
    · cases e
end
section
variable {S : Type} {B : Bd S} {X : Cx} {a b e i o : Expr} {pos : Pos} {w wa wb : W S}
def wDGet (wa wb : W S) : W S := fun env s P N => wa env s (fun x s1 => wb env s1 (fun y s2 => match y with
  | .d y => match dgetF x y with
    | some (some z) => P (.d z) s2
    | _ => False
  | _ => False) N) N
theorem we_dget (hu : X.A.units + 1 < cLine) (ha : PE X o (tlb X.K B wa)) (hb : PE X i (tlb X.K B wb)) (hs : NoSl i := by exact fun _ _ => rfl) : PE X (.Subscript o i pos) (tl X.K B (wDGet wa wb)) := imp (pe_dget hu ha hb hs) fun σ H Q ⟨G, env, s, P, N, L, w, c, n⟩ => by
  refine ⟨G, env, s, _, N, L, w, fun lx s1 w1 x G1 H1 a1 ok1 r1 o1 => ?_, n⟩
  refine ⟨G1, env, s1, _, N, L.step a1 ok1, w1, fun ly s2 w2 y G2 H2 a2 ok2 r2 o2 => ?_, n.step a1⟩
  split at w2
  · split at w2
    · rename_i z e
      obtain ⟨ad, ov, rfl, g, h⟩ := dget_ok a2.le (r1.step a2 fun c o e => o1 o c e) r2 e
      rcases h with ⟨_, h⟩ | ⟨v, z', h1, h2, rp⟩
      · cases h
      · cases h2
        subst h1
        exact ⟨ad, v, rfl, g, c _ s2 w2 v G2 H2 (a1.trans a2) ok2 rp (fun o => by cases o)⟩
    · exact w2.elim
  · exact w2.elim
def wDIn (n : Bool) (wa wb : W S) : W S := fun env s P N => wa env s (fun y s1 => wb env s1 (fun x s2 => match y with
  | .d y => match dgetF x y with
    | some z => P (.d (.bl (if n then !z.isSome else z.isSome))) s2
    | none => False
  | _ => False) N) N
theorem din_le {K : PySem.W.Frag} {n : Bool} {σ : L2.St} {H : Hp} {Q : VK} (h : tl K B (wDIn n wa wb) σ H Q) :
    tlb K B wa σ H fun y H1 => tlb K B wb σ H1 fun x H2 => ∃ a o, x = .ref a ∧ DGet H2 a y o ∧ Q (.bl (if n then !o.isSome else o.isSome)) H2 := by
  obtain ⟨G, env, s, P, N, L, w, c, nx⟩ := h
  refine ⟨G, env, s, _, N, L, w, fun ly s1 w1 y G1 H1 a1 ok1 r1 o1 => ?_, nx⟩
  refine ⟨G1, env, s1, _, N, L.step a1 ok1, w1, fun lx s2 w2 x G2 H2 a2 ok2 r2 o2 => ?_, nx.step a1⟩
  split at w2
  · split at w2
    · rename_i z e
      obtain ⟨ad, ov, rfl, g, h⟩ := dget_ok a2.le r2 (RL.step (lv := .d _) r1 a2 fun c o e => o1 o c e) e
      refine ⟨ad, ov, rfl, g, c _ s2 w2 _ G2 H2 (a1.trans a2) ok2 ?_ (fun o => by cases o)⟩
      have : ov.isSome = z.isSome := by
        rcases h with ⟨h1, h2⟩ | ⟨v, z', h1, h2, rp⟩
        · rw [h1, h2]; rfl
        · rw [h1, h2]; rfl
      rw [this]
      exact Rp.bl _
    · exact w2.elim
  · exact w2.elim
theorem we_din (hu : X.A.units + 1 < cLine) (ha : PE X a (tlb X.K B wa)) (hb : PE X b (tlb X.K B wb)) (hm : behindInMarks .In b = false := by rfl) : PE X (.Compare a [.In] [b] pos) (tl X.K B (wDIn false wa wb)) := imp (pe_cmp (pc_din hu ha hb) hm) fun _ _ _ h => din_le h
theorem we_dnin (hu : X.A.units + 1 < cLine) (ha : PE X a (tlb X.K B wa)) (hb : PE X b (tlb X.K B wb)) (hm : behindInMarks .NotIn b = false := by rfl) : PE X (.Compare a [.NotIn] [b] pos) (tl X.K B (wDIn true wa wb)) := imp (pe_cmp (pc_dnotin hu ha hb) hm) fun _ _ _ h => din_le h
end
/-! stored -/
section
variable {κ : Type} [DecidableEq κ] {α : Type}
def putKs (ks : List κ) (k : κ) : List κ := if k ∈ ks then ks else ks ++ [k]
def setAtK : List κ → List α → κ → α → List α
  | k :: ks, x :: xs, j, y => (if k = j then y else x) :: setAtK ks xs j y
  | _, _, _, _ => []
def putXs (ks : List κ) (xs : List α) (k : κ) (y : α) : List α := if k ∈ ks then setAtK ks xs k y else xs ++ [y]
theorem any_mem : ∀ (ks : List κ) (vs : List V) (k : κ), ks.length = vs.length → ((ks.zip vs).any fun kv => decide (kv.1 = k)) = decide (k ∈ ks)
  | [], vs, k, _ => by cases vs <;> simp
  | k0 :: ks, [], k, h => by cases h
  | k0 :: ks, v :: vs, k, h => by
    rw [List.zip_cons_cons, List.any_cons, any_mem ks vs k (by simpa using h)]
    by_cases e : k0 = k
    · subst e; simp
    · simp [e, Ne.symm e]
theorem map_setAt : ∀ (ks : List κ) (vs : List V) (k : κ) (y : V), ks.length = vs.length → (ks.zip vs).map (fun kv => if kv.1 = k then (kv.1, y) else kv) = ks.zip (setAtK ks vs k y)
  | [], vs, k, y, _ => by cases vs <;> rfl
  | k0 :: ks, [], k, y, h => by cases h
  | k0 :: ks, v :: vs, k, y, h => by
    unfold setAtK
    rw [List.zip_cons_cons, List.zip_cons_cons, List.map_cons, map_setAt ks vs k y (by simpa using h)]
    by_cases e : k0 = k
    · rw [if_pos e, if_pos e]
    · rw [if_neg e, if_neg e]
theorem setAt_len : ∀ (ks : List κ) (xs : List α) (k : κ) (y : α), ks.length = xs.length → (setAtK ks xs k y).length = xs.length
  | [], [], _, _, _ => rfl
  | [], _ :: _, _, _, h => by cases h
  | _ :: _, [], _, _, h => by cases h
  | k0 :: ks, x :: xs, k, y, h => congrArg (· + 1) (setAt_len ks xs k y (by simpa using h))
theorem putK_is (ks : List κ) (vs : List V) (k : κ) (y : V) (h : ks.length = vs.length) : putK (ks.zip vs) k y = (putKs ks k).zip (putXs ks vs k y) ∧ (putKs ks k).length = (putXs ks vs k y).length := by
  unfold putK putKs putXs
  rw [any_mem ks vs k h]
  by_cases e : k ∈ ks
  · rw [if_pos (decide_eq_true e), if_pos e, if_pos e]
    exact ⟨map_setAt ks vs k y h, by rw [setAt_len ks vs k y h]; exact h⟩
  · rw [if_neg (by simpa using e), if_neg e, if_neg e]
    exact ⟨by rw [List.zip_append h]; rfl, by rw [List.length_append, List.length_append, h]; rfl⟩
theorem setAt_rps {K : PySem.W.Frag} {cl : Nat → Addr} {G : Hp} {v : V} {x : D} (r : Rp K cl G v x) : ∀ {vs : List V} {xs : List D} (ks : List κ) (k : κ), Rps K cl G vs xs → Rps K cl G (setAtK ks vs k v) (setAtK ks xs k x)
  | _, _, [], _, _ => .nil
  | _, _, _ :: _, _, .nil => .nil
  | _, _, k0 :: ks, k, .cons q t => by
    unfold setAtK
    by_cases e : k0 = k
    · rw [if_pos e, if_pos e]; exact .cons r (setAt_rps r ks k t)
    · rw [if_neg e, if_neg e]; exact .cons q (setAt_rps r ks k t)
theorem putXs_rps {K : PySem.W.Frag} {cl : Nat → Addr} {G : Hp} {v : V} {x : D} {vs : List V} {xs : List D} (r : Rp K cl G v x) (q : Rps K cl G vs xs) (ks : List κ) (k : κ) : Rps K cl G (putXs ks vs k v) (putXs ks xs k x) := by
  unfold putXs
  by_cases e : k ∈ ks
  · rw [if_pos e, if_pos e]; exact setAt_rps r ks k q
  · rw [if_neg e, if_neg e]; exact q.append (.cons r .nil)
end
section
variable {S : Type} {B : Bd S} {X : Cx} {a b e o value : Expr} {pos pos' : Pos} {w wy wv : W S}
/-- x[e] = v, x a name's own dict -/
def dputF (x : LV) (y z : D) (P : LV → Prop) : Prop := match x with
  | .k ks xs => (match y.key with
    | some k => ks.length < sizeLine ∧ P (.k (putKs ks k) (putXs ks xs k z))
    | none => False)
  | .t ks xs => (match y.keys with
    | some k => ks.length < sizeLine ∧ P (.t (putKs ks k) (putXs ks xs k z))
    | none => False)
  | _ => False
def wDSet (i : Nat) (wy wv : W S) : WS S := fun M env s => match env.at i with
  | some lv0 => wv env s (fun lv s1 => match lv.fz with
    | .d z => wy env s1 (fun ly s2 => match ly with
      | .d y => dputF lv0 y z fun lv' => M.nx (env.set i (some lv')) s2
      | _ => False) (M.xn env)
    | _ => False) (M.xn env)
  | none => False
theorem ws_dset {st : Stmt} {i : Nat} (h : PS X st (sDPut (tVar i) (tl X.K B wy) (tl X.K B wv))) : PS X st (ts X.K B (wDSet i wy wv)) := impS h fun E σ H ⟨G, env, s, M, L, w', r⟩ => by
  unfold wDSet at w'
  split at w'
  · rename_i lv0 e0
    refine ⟨G, env, s, _, (M.xn env), L, w', fun lv s1 w1 v G1 H1 a1 ok1 r1 o1 => ?_, r.xnS L⟩
    obtain ⟨G2, a2, k2, r2⟩ := freeze a1 r1 o1
    have L2 := L.step a2 ok1
    split at w1
    · rename_i z ez
      rw [ez] at r2
      obtain ⟨v0, q0, r0⟩ := L2.slot i lv0 (LEnv.at_get e0)
      refine ⟨v0, q0, G2, env, s1, _, (M.xn env), L2, w1, fun ly s2 w2 y G3 H3 a3 ok3 r3 o3 => ?_, (r.xnS L).step a2⟩
      have L3 := L2.step a3 ok3
      obtain ⟨v0', q0', r0'⟩ := L3.slot i lv0 (LEnv.at_get e0)
      rw [q0] at q0'; cases q0'
      have rz : Rp X.K B.cl G3 v z := Rp.mono a3.g z v r2
      split at w2
      · rename_i y'
        unfold dputF at w2
        split at w2
        · rename_i ks xs
          obtain ⟨ad, vs, rfl, n1, h1, l1, z1⟩ := r0'
          split at w2
          · rename_i k ek
            have := Rp.key r3 ek
            subst this
            obtain ⟨p1, p2⟩ := putK_is ks vs k v l1
            refine ⟨ad, _, rfl, .k h1 (by rw [zip_len l1]; exact w2.1), ?_⟩
            rw [p1]
            exact r.nx G3 σ _ _ s2 (a2.g.trans a3.g) (L3.lput (lv' := .k (putKs ks k) (putXs ks xs k z)) (LEnv.at_get e0) rfl q0 (fun xs z => by rw [h1] at z; cases z) ⟨ad, _, rfl, n1, upd_same, p2, putXs_rps rz z1 ks k⟩ rfl) w2.2
          · exact w2.elim
        · rename_i ks xs
          obtain ⟨ad, vs, rfl, n1, h1, l1, z1⟩ := r0'
          split at w2
          · rename_i k ek
            obtain ⟨b, rfl, hb⟩ := Rp.keys r3 a3.le ek
            obtain ⟨p1, p2⟩ := putK_is ks vs k v l1
            refine ⟨ad, _, rfl, .t h1 hb (by rw [zip_len l1]; exact w2.1), ?_⟩
            rw [p1]
            exact r.nx G3 σ _ _ s2 (a2.g.trans a3.g) (L3.lput (lv' := .t (putKs ks k) (putXs ks xs k z)) (LEnv.at_get e0) rfl q0 (fun xs z => by rw [h1] at z; cases z) ⟨ad, _, rfl, n1, upd_same, p2, putXs_rps rz z1 ks k⟩ rfl) w2.2
          · exact w2.elim
        · exact w2.elim
      · exact w2.elim
    · exact w1.elim
  · exact w'.elim
end

/-! ### any, sorted -/
def blsOf : List D → Option (List Bool)
  | [] => some []
  | .bl b :: r => match blsOf r with
    | some bs => some (b :: bs)
    | none => none
  | _ :: _ => none
def strsOf : List D → Option (List Str)
  | [] => some []
  | .str b :: r => match strsOf r with
    | some bs => some (b :: bs)
    | none => none
  | _ :: _ => none
section
variable {K : PySem.W.Frag} {cl : Nat → Addr} {G H : Hp}
theorem Rps.bls : ∀ {vs : List V} {xs : List D} {bs : List Bool}, Rps K cl G vs xs → blsOf xs = some bs → vs = bs.map V.bl
  | _, _, _, .nil, e => by cases e; rfl
  | _, _, _, .cons r t, e => by
    unfold blsOf at e
    split at e
    · rename_i h; cases h
    · rename_i b r' h
      cases h
      split at e
      · rename_i bs' e2
        cases e
        cases r
        rw [List.map_cons, ← Rps.bls t e2]
      · cases e
    · cases e
theorem Rps.strs : ∀ {vs : List V} {xs : List D} {bs : List Str}, Rps K cl G vs xs → strsOf xs = some bs → vs = bs.map V.str
  | _, _, _, .nil, e => by cases e; rfl
  | _, _, _, .cons r t, e => by
    unfold strsOf at e
    split at e
    · rename_i h; cases h
    · rename_i b r' h
      cases h
      split at e
      · rename_i bs' e2
        cases e
        cases r
        rw [List.map_cons, ← Rps.strs t e2]
      · cases e
    · cases e
theorem rps_strs : ∀ (ys : List Str), Rps K cl G (ys.map V.str) (ys.map D.str)
  | [] => .nil
  | y :: ys => .cons (.str y) (rps_strs ys)
end
def anyF : LV → (LV → Prop) → Prop := fun x P => match x.lis with
  | some xs => match blsOf xs with
    | some bs => P (.d (.bl (bs.any id)))
    | none => False
  | none => False
def sortSF : LV → (LV → Prop) → Prop := fun x P => match x.lis with
  | some xs => match strsOf xs with
    | some bs => bs.length < 64 ∧ ∀ ys : List Str, ys.Perm bs → sortedS ys = true → P (.l (ys.map D.str))
    | none => False
  | none => False
section
variable {S : Type} {T : Sto S} {K : PySem.W.Frag} {cl : Nat → Addr}
theorem any_ok : UnS T K cl (rAny K) anyF := by
  intro s G H x lx Q P le gF ok rx h q
  unfold anyF at h
  split at h
  · rename_i xs e
    split at h
    · rename_i bs e2
      obtain ⟨a, vs, rfl, hs, rv⟩ := rx.lis le e
      have := rv.bls e2
      subst this
      exact ⟨a, bs, rfl, .of hs, q _ _ G H h (.refl le gF) ok (Rp.bl _) (fun o => by cases o)⟩
    · exact h.elim
  · exact h.elim
theorem sortS_ok : UnS T K cl (rSortedS K) sortSF := by
  intro s G H x lx Q P le gF ok rx h q
  unfold sortSF at h
  split at h
  · rename_i xs e
    split at h
    · rename_i bs e2
      obtain ⟨a, vs, rfl, hs, rv⟩ := rx.lis le e
      have := rv.strs e2
      subst this
      exact ⟨a, bs, rfl, .of hs, h.1, fun ys p hp hso hn => new_list le gF ok (rps_strs ys) (h.2 ys hp hso) q p hn⟩
    · exact h.elim
  · exact h.elim
end
end DL
/-! DL11: - x, raise, try, own errors. -/
namespace DL
open PySem PySem.Spec PyProof.Rows L2

section
variable {S : Type} {B : Bd S} {X : Cx} {a b e : Expr} {pos : Pos} {w wa wb : W S}
def wNeg (w : W S) : W S := fun env s P N => w env s (fun lv s1 => match lv with
  | .d (.int i) => P (.d (.int (-i))) s1
  | _ => False) N
theorem we_neg (h : PE X e (tlb X.K B w)) : PE X (.UnaryOp .USub e pos) (tl X.K B (wNeg w)) := imp (pe_un un_neg h) fun σ H Q ⟨G, env, s, P, N, L, w', k, n⟩ => by
  refine ⟨G, env, s, _, N, L, w', fun lv s1 w1 v G1 H1 a1 ok1 r1 o1 => ?_, n⟩
  split at w1
  · cases r1
    exact ⟨_, rfl, k _ s1 w1 _ G1 H1 a1 ok1 (Rp.int _) (fun o => by cases o)⟩
  · exact w1.elim
end

/-! ### own errors: one field, what -/
/-- what the written part says of an own error class -/
structure ExC (K : PySem.W.Frag) (C fI : Addr) : Prop where
  T : OexC K C
  iC : PySem.W.findIn K (.ref C) "__init__" = some (some (.ref fI))
  no : PySem.W.findIn K (.ref C) "what" = some none
  ga : PySem.W.findIn K (.ref C) "__getattribute__" = some (some (.builtin "BaseException.__getattribute__"))
  gg : PySem.W.findIn K (.ref C) "__getattr__" = some none
  hdC : PySem.W.hasDictIn K C = true
def spInit (K : PySem.W.Frag) : Sp := fun vs H Q _ => ∃ a v C, vs = [.ref a, v] ∧ OexC K C ∧ PySem.W.findIn K (.ref C) "what" = some none ∧ H a = some (exo a C none) ∧ ∀ dx, H dx = none → dx ≠ a → Q .non (upd (upd H dx (exd dx [("what", v)])) a (exo a C (some dx)))
/-- the __init__ of all own errors -/
structure ExI (P : Program) (w : World) (K : PySem.W.Frag) (mg : Str → Option Value) (base : Heap) (fI : Addr) : Prop where
  ty : PySem.W.typeIn K (.ref fI) = some (.type "function")
  ex : ∃ fd, FnOk P w K mg base CX0 1 fI fd ["self", "what"] (spInit K) ∧ Binds K fd ["self", "what"] []
section
variable {P : Program} {w : World} {K : PySem.W.Frag} {mg : Str → Option Value} {base : Heap}
/-- the text of that __init__ -/
theorem exi_of {st : Stmt} {qual : Str} {fI : Addr} {fd : FuncData} {p1 p2 p3 p4 : Pos} (F : FunD K "__init__" qual (defArgs st) (defBody st) (defScope st) [.non] [] fI fd) (Sc : FnScope ["self", "what"] ["self", "what"] (defScope st)) (ty : PySem.W.typeIn K (.ref fI) = some (.type "function"))
    (hb : defBody st = [.Assign [.Attribute (.Name "self" p1) "what" p2] (.Name "what" p3) p4]) (h1 : (defScope st).names.lookup ("self" : Str) = some .local) (h2 : (defScope st).names.lookup ("what" : Str) = some .local)
    (h : ∀ (T : Addr) (kV doc pm : Value) (an : Option Addr) (cdv ct : Value) (us its : List Value), us.length = 2 → its.length = 1 →
      ∃ k, bindArgs (PySem.W.fnOf "__init__" qual (defArgs st) (defBody st) (defScope st) (.ref T) kV doc pm an cdv ct) ⟨us, []⟩ = seqItems? (.ref T) >>= k ∧ k (some its.toArray) = pure ((["self", "what"] : List Str).zip (us ++ its.drop 1))) : ExI P w K mg base fI := by
  obtain ⟨ds, e1, e2⟩ := F.binds1 2 1 (by simp) rfl h
  cases e1
  refine ⟨ty, fd, ?_, e2⟩
  refine F.ok Sc (fun vs H Q E ⟨a, v, C, e, _⟩ => by rw [e]; rfl) fun cdv A outer s H vs Q E hr h => ⟨tOst K "what" (tVar 0) (tVar 1), ?_, ?_⟩
  · rw [hb]
    exact (pss_one (ps_ost (pe_var rfl (.inl h1)) (pe_var rfl (.inl h2))))
  · obtain ⟨a, v, C, rfl, T, no, ea, q⟩ := h
    exact ⟨v, rfl, .ref a, rfl, a, C, rfl, T, no, .inl ⟨ea, q⟩⟩
end
section
variable {S : Type} {B : Bd S} {X : Cx} {e : Expr} {x : Str} {p pos pos2 : Pos} {w : W S} {k : Nat} {fI : Addr}
/-- raise C(e), C the own error class number c -/
def wRaise (c : Nat) (w : W S) : WS S := fun M env s => w env s (fun lv s1 => match lv.fz with
  | .d y => M.xn env c y s1
  | _ => False) (M.xn env)
theorem upd_del {H : Hp} {a d : Addr} {o1 o2 o3 o4 : HO} (h : H a = none) (hd : d ≠ a) : upd (del (upd (upd (upd H a o1) d o2) a o3) a) d o4 = upd H d o4 := by
  funext b
  by_cases h1 : b = d
  · subst h1; rw [upd_same, upd_same]
  · rw [upd_ne h1, upd_ne h1]
    by_cases h2 : b = a
    · subst h2; rw [del_same, h]
    · rw [del_ne h2, upd_ne h2, upd_ne h1, upd_ne h2]
theorem ws_raise {c : Nat} (hcalm : X.calm = true) (T : ExC X.K (B.xl c) fI) (I : ExI X.prog X.w X.K X.mg X.base fI) (hr : Room (k + 2) X.A) (tk : Takes X B.Wx) (hm : X.mg x = some (.ref (B.xl c))) (hg : Gl X x) (ha : PE X e (tl X.K B w))
    (hdb : (x == ("__debug__" : Str)) = false := by decide) (he : starEach (e :: []) X.env = (false, eval e X.env) :: starEach [] X.env := by rfl) (hpl : (backTo pos (starEach [] X.env)).any (·.1) = false := by rfl) :
    PS X (.Raise (some (.Call (.Name x p) [e] [] pos)) none pos2) (ts X.K B (wRaise c w)) := by
  obtain ⟨fd, F, b⟩ := I.ex
  refine impS (ps_raise hcalm tk (pmk_oex T.T T.iC I.ty F (hr.mono (by omega)) b .nil pass0 hg hm (pa_cons ha pa_nil he) hdb he hpl)) fun E σ H ⟨G, env, s, M, L, w', r⟩ => ?_
  refine ⟨G, env, s, _, _, L, w', fun lv s1 w1 v G1 H1 a1 ok1 r1 o1 => ?_, r.xnS L⟩
  obtain ⟨G2, a2, k2, r2⟩ := freeze a1 r1 o1
  split at w1
  · rename_i y ey
    rw [ey] at r2
    refine ⟨by show 1 ≤ 1000; decide, fun a hn => ⟨a, v, _, rfl, T.T, T.no, upd_same, fun dx h1 h2 => ⟨rfl, dx, _, upd_same, by rw [upd_ne h2, upd_same], ?_, ?_⟩⟩⟩
    · rw [upd_ne h2] at h1; exact h1
    · rw [upd_del hn h2]
      rw [upd_ne h2] at h1
      have st : Stp B.T G H G2 (upd H1 dx (.xd [("what", v)])) := a2.trans (.fresh a2.le a2.gF h1)
      exact r.xnS L _ _ _ w1 G2 _ dx v st (B.T.stays ok1 (le_upd h1)) upd_same r2
  · exact w1.elim

/-! ### try -/
def wipeO (env : LEnv) : LEnv := env.map fun o => match o with
  | some lv => if lv.own then none else some lv
  | none => none
theorem wipeO_get {env : LEnv} {i : Nat} {lv : LV} (h : (wipeO env)[i]? = some (some lv)) : env[i]? = some (some lv) ∧ lv.own = false := by
  unfold wipeO at h
  rw [List.getElem?_map] at h
  obtain ⟨o, e1, e2⟩ := Option.map_eq_some_iff.mp h
  split at e2
  · rename_i l
    split at e2
    · cases e2
    · rename_i n
      cases e2
      exact ⟨e1, by simpa using n⟩
  · cases e2
/-- try: .. except C as x: ..; nX: how many own error classes there are, hcf: those that C catches -/
def wTryAs (nX : Nat) (hcf : Nat → Bool) (i : Nat) (u : WS S) (v : Addr → D → WS S) : WS S := fun M env s => u { M with xn := fun env' c d s' => c < nX ∧ if hcf c = true then
    (∀ a, v a d ⟨fun e s => M.nx (e.set i none) s, M.rt, fun e s => M.bk (e.set i none) s, fun e s => M.ct (e.set i none) s, fun _ => noX⟩ ((wipeO env').set i (some (.raw (.ref a)))) s') else M.xn env' c d s' } env s
/-- e.what in the suite -/
def wWhat (i : Nat) (a : Addr) (d : D) : W S := fun env s P _ => env.at i = some (.raw (.ref a)) ∧ P (.d d) s
def tWhat (C : Addr) (a : Addr) (cls : Value) (d : Option Addr) (te : TE) : TE := fun σ H Q => te σ H fun x H1 => x = .ref a ∧ cls = .ref C ∧ ∃ (dd : Addr) (v : V), d = some dd ∧ H1 dd = some (.xd [(("what" : Str), v)]) ∧ Q v H1
theorem pe_what {C a : Addr} {oe : Obj} {cls : Value} {d : Option Addr} {pn : List (Addr × Obj)} {e : Expr} {te : TE} {pos : Pos} (T : ExC X.K C fI) (hz : Zc cls d oe) (hf : ∃ vs, oe.data = .fields vs) (he : PE (X.suite a ((a, oe) :: pn)) e te)
    (hb : attributeBase e "what" X.env (eval e X.env) = eval e X.env := by rfl) :
    PE (X.suite a ((a, oe) :: pn)) (.Attribute e "what" pos) (tWhat C a cls d te) := by
  refine ⟨fun pins s σ H Q I h => ?_⟩
  refine attr_of hb (thn (he.run pins s σ H _ I h) fun u s1 hh => ?_)
  obtain ⟨x, H1, I1, rx, ex, ec, dd, v, ed, ea, q⟩ := hh
  subst ex
  obtain rfl : u = Value.ref a := rx
  subst ec
  subst ed
  obtain ⟨ha, _⟩ := I1.pin (a, oe) (List.mem_append_left _ List.mem_cons_self)
  obtain ⟨vs, hd⟩ := hf
  have hx : ObjOk X.prog X.w H1 s1.heap dd (.xd [(("what" : Str), v)]) := I1.hok dd _ ea
  obtain ⟨mA, hns, hr⟩ := hx
  obtain ⟨od, ho, hl⟩ := lookIn_ns hns
  have l : List.lookup ("what" : Str) [(("what" : Str), v)] = some v := by simp [List.lookup]
  obtain ⟨u, hu, ru⟩ := RelO.some_of (v := v) (o := mA "what") (by rw [← l]; exact hr "what")
  have J : PySem.W.InstAt s1.heap a oe C (some od) := ⟨ha, hz.1, by unfold PySem.W.notCls; rw [hd] <;> rfl, by rw [hz.2]; exact ho⟩
  exact HandSPX.exc_get I1.kIn J T.ga T.gg T.T.exC (PySem.W.findObj_own T.hdC T.no rfl (by rw [hl, hu])) (handed_of ru) ⟨v, H1, I1.tok _, ru, q⟩
end
section
variable {S : Type} {B : Bd S} {X : Cx} {e : Expr} {x : Str} {p pos pos2 : Pos} {w : W S} {k : Nat} {fI : Addr}
/-- what is known of the error in the suite -/
structure Held (X : Cx) (B : Bd S) (a : Addr) (oe : Obj) (fI : Addr) (d : D) : Prop where
  ex : ∃ (C dd : Addr) (v : V), Zc (.ref C) (some dd) oe ∧ ExC X.K C fI ∧ B.H0 dd = some (.xd [("what", v)]) ∧ ¬ B.T.F dd ∧ Rp X.K B.cl B.G0 v d
  fl : ∃ vs, oe.data = .fields vs
theorem we_what {a : Addr} {oe : Obj} {pn : List (Addr × Obj)} {i : Nat} {d : D} (h : Held X B a oe fI d) (he : PE (X.suite a ((a, oe) :: pn)) e (tVar i)) (hb : attributeBase e "what" X.env (eval e X.env) = eval e X.env := by rfl) :
    PE (X.suite a ((a, oe) :: pn)) (.Attribute e "what" pos) (tl X.K B (wWhat i a d)) := by
  obtain ⟨C, dd, v, hz, T, h1, nF, rp⟩ := h.ex
  exact imp (pe_what T hz h.fl he hb) fun σ H Q ⟨G, env, s, P, N, L, ⟨e1, w'⟩, k, n⟩ => by
    obtain ⟨u, q, r⟩ := L.slot i _ (LEnv.at_get e1)
    have r' : u = .ref a := r
    subst r'
    exact ⟨_, q, rfl, rfl, dd, v, rfl, L.stp.hh _ _ h1 nF, k _ s w' v G H L.refl L.ok (Rp.mono L.stp.g _ _ rp) (fun o => by cases o)⟩
theorem ws_try_as {n : Str} {i : Nat} {np pos' : Pos} {body suite : List Stmt} {b₀ : Stmt} {C : Addr} {nX : Nat} {hcf : Nat → Bool} {u : WS S} {v : Addr → D → WS S} (hs : X.stack = X.env :: X.outer) (hf : X.env.frame = some X.env.locals) (hN : X.N.Nodup) (hi : X.N[i]? = some n) (hln : X.env.kindOf n = some .local) (hc : Names X x (.ref C)) (tk : Takes X B.Wx)
    (hT : ∀ c, c < nX → ExC X.K (B.xl c) fI) (hx : ∀ c, c < nX → PySem.W.exmOne X.K (.ref (B.xl c)) (.ref C) = some (hcf c)) (hF : ∀ dd H v s, B.T.ok s H → H dd = some (.xd [("what", v)]) → ¬ B.T.F dd)
    (hb : ∀ (W : WX) (pn : List (Addr × Obj)) (xe : Value → Shared → Prop), Takes (X.tr pn xe) W → PassesOwn (model X.prog X.w) X.A X.env xe → PSs (X.tr pn xe) body (ts X.K ⟨B.cl, B.xl, B.T, B.H0, B.G0, W⟩ u))
    (hsu : ∀ (a : Addr) (oe : Obj) (pn : List (Addr × Obj)) (d : D) (H' G' : Hp), Held X ⟨B.cl, B.xl, B.T, H', G', fun _ _ _ _ => False⟩ a oe fI d → PSs (X.suite a ((a, oe) :: pn)) (b₀ :: suite) (ts X.K ⟨B.cl, B.xl, B.T, H', G', fun _ _ _ _ => False⟩ (v a d))) :
    PS X (.Try body [.ExceptHandler (some (.Name x np)) (some n) (b₀ :: suite) pos'] [] [] pos) (ts X.K B (wTryAs nX hcf i u v)) := by
  refine impS (ps_try_as (tb := fun W => ts X.K ⟨B.cl, B.xl, B.T, B.H0, B.G0, W⟩ u) (Wout := B.Wx)
    (ts := fun a cls d E σ H => ∃ H' G' d0 env s M, (∀ oe, Zc cls d oe → (∃ vs, oe.data = .fields vs) → Held X ⟨B.cl, B.xl, B.T, H', G', fun _ _ _ _ => False⟩ a oe fI d0) ∧ Lf B.T X.K B.cl H' G' G' σ H env s ∧ v a d0 M env s ∧ Rel X.K ⟨B.cl, B.xl, B.T, H', G', fun _ _ _ _ => False⟩ G' M E)
    hs hf hN hi hln hc tk hb ?_) fun E σ H ⟨G, env, s, M, L, w', r⟩ => ?_
  · intro a oe cls d pn hz hfl
    refine ⟨fun pins s σ H E I h => ?_⟩
    obtain ⟨H', G', d0, env, s', M, hh, L, w, r⟩ := h
    exact (hsu a oe pn d0 H' G' (hh oe hz hfl)).run pins s σ H E I ⟨G', env, s', M, L, w, r⟩
  · refine ⟨G, env, s, _, L, w', r.nx, r.rt, r.bk, r.ct, ?_⟩
    intro G1 σ1 H1 env1 s1 l1 L1 c d s2 hcd G' H' dd vv st ok2 e2 rp
    obtain ⟨hcn, hcd⟩ := hcd
    have L1' : Lf B.T X.K B.cl B.H0 B.G0 G1 σ1 H1 env1 s1 := L1
    have Lz : Lf B.T X.K B.cl B.H0 B.G0 G' σ1 H' env1 s2 := L1'.step st ok2
    refine ⟨hcf c, hx c hcn, fun hy a na => ?_, fun hno => ?_⟩
    · rw [if_pos hy] at hcd
      refine ⟨H', G', d, _, s2, _, fun oe hz hfl => ⟨⟨B.xl c, dd, vv, hz, hT c hcn, e2, hF dd H' vv s2 ok2 e2, rp⟩, hfl⟩, ?_, hcd a, ?_⟩
      · have W0 : Lf B.T X.K B.cl H' G' G' σ1 H' (wipeO env1) s2 := ⟨Lz.refl, ok2, by rw [Lz.len]; unfold wipeO; rw [List.length_map], fun j lj ej => Lz.slot j lj (wipeO_get ej).1, fun j lj b ej o _ => by (rw [(wipeO_get ej).2] at o; cases o),
          fun j k lj lk b _ ej _ o _ _ _ => by (rw [(wipeO_get ej).2] at o; cases o)⟩
        exact W0.set W0.refl ok2 (v := .ref a) (lv := .raw (.ref a)) rfl (fun o => by cases o)
      · have back : ∀ {G3 : Hp} {σ3 : L2.St} {H3 : Hp} {env3 : LEnv} {s3 : S}, Lf B.T X.K B.cl H' G' G3 σ3 H3 env3 s3 → Lf B.T X.K B.cl B.H0 B.G0 G3 σ3 H3 env3 s3 := fun L3 =>
          ⟨Lz.stp.trans L3.stp, L3.ok, L3.len, L3.slot, fun j lj b ej o q => let ⟨h1, h2⟩ := L3.own j lj b ej o q; ⟨Lz.stp.dead h1 h2, h2⟩, L3.apart⟩
        have lg : ∀ {G3 : Hp}, Le G' G3 → Le G G3 := fun z => (l1.trans st.g).trans z
        refine ⟨fun G3 σ3 H3 env3 s3 l3 L3 z => r.nx G3 _ H3 _ s3 (lg l3) ((back L3).none i) z, fun lv s3 z v3 G3 H3 a3 ok3 r3 o3 => r.rt lv s3 z v3 G3 H3 (Lz.stp.trans a3) ok3 r3 fun o b e => ⟨Lz.stp.dead (o3 o b e).1 (o3 o b e).2, (o3 o b e).2⟩,
          fun G3 σ3 H3 env3 s3 l3 L3 z => r.bk G3 _ H3 _ s3 (lg l3) ((back L3).none i) z, fun G3 σ3 H3 env3 s3 l3 L3 z => r.ct G3 _ H3 _ s3 (lg l3) ((back L3).none i) z, fun _ _ _ _ _ _ _ c d s' z => z.elim⟩
    · rw [if_neg (by rw [hno]; exact Bool.false_ne_true)] at hcd
      exact r.xn G1 σ1 H1 env1 s1 l1 L1 c d s2 hcd G' H' dd vv st ok2 e2 rp
end
end DL
/-! DL12: what the printed texts name. -/
theorem L2.Room.units1 {k : Nat} {A : PySem.Around} (r : L2.Room k A) : A.units + 1 < PySem.cLine := by have := r.units; omega
namespace DL
open PySem PySem.Spec PyProof.Rows L2
theorem RLs.drop {K : PySem.W.Frag} {cl : Nat → Addr} {G H : Hp} : ∀ (j : Nat) {vs : List V} {lvs : List LV}, RLs K cl G H vs lvs → RLs K cl G H (vs.drop j) (lvs.drop j)
  | 0, _, _, r => r
  | _ + 1, _, _, .nil => .nil
  | j + 1, _, _, .cons _ _ t => RLs.drop j t
structure DefE (K : PySem.W.Frag) (mg : Str → Option Value) (cl : Nat → Addr) (x : Str) (st : Stmt) (dls : List LV) : Prop where
  ex : ∃ f dvs, DefT K mg x st dvs f ∧ ∀ G H, RLs K cl G H dvs dls
structure OkE (P : Program) (w : World) (K : PySem.W.Frag) (mg : Str → Option Value) (base : Heap) (CX : CXT) (k : Nat) (x : Str) (st : Stmt) (ps : List Str) (cl : Nat → Addr) (dls : List LV) (sp : Sp) : Prop where
  ex : ∃ dvs, Ok P w K mg base CX k x st ps dvs sp ∧ ∀ G H, RLs K cl G H dvs dls
section
variable {P : Program} {w : World} {K : PySem.W.Frag} {mg : Str → Option Value} {base : Heap} {CX : CXT} {k : Nat} {x : Str} {st : Stmt} {ps N : List Str} {dls : List LV} {sp : Sp} {cl xl : Nat → Addr} {S : Type} {T : Sto S} {u : WS S}
theorem OkE.cal (o : OkE P w K mg base CX k x st ps cl [] sp)
    (h : ∀ (kV doc pm : Value) (an : Option Addr) (cdv ct : Value) (us : List Value), us.length = ps.length → bindArgs (PySem.W.fnOf x x (defArgs st) (defBody st) (defScope st) .none kV doc pm an cdv ct) ⟨us, []⟩ = pure (ps.zip us)) : CalL P w K mg base CX k x cl sp [] := by
  obtain ⟨dvs, o, hd⟩ := o.ex
  have e := hd (fun _ => none) (fun _ => none)
  cases e
  exact o.cal h
theorem OkE.calD (n j : Nat) (o : OkE P w K mg base CX k x st ps cl dls sp) (hd : dls ≠ []) (hn : n + (dls.length - j) = ps.length)
    (h : ∀ (T : Addr) (kV doc pm : Value) (an : Option Addr) (cdv ct : Value) (us its : List Value), us.length = n → its.length = dls.length →
      ∃ k, bindArgs (PySem.W.fnOf x x (defArgs st) (defBody st) (defScope st) (.ref T) kV doc pm an cdv ct) ⟨us, []⟩ = seqItems? (.ref T) >>= k ∧ k (some its.toArray) = pure (ps.zip (us ++ its.drop j))) : CalL P w K mg base CX k x cl sp (dls.drop j) := by
  obtain ⟨dvs, o, hr⟩ := o.ex
  have l := (hr (fun _ => none) (fun _ => none)).length
  exact o.calD n j (fun G H => (hr G H).drop j) (fun e => hd (by rw [e] at l; exact List.length_eq_zero_iff.mp l.symm)) (by rw [l]; exact hn) (fun T kV doc pm an cdv ct us its h1 h2 => h T kV doc pm an cdv ct us its h1 (h2.trans l))
theorem okE_bot (F : DefE K mg cl x st dls) : OkE P w K mg base CX k x st ps cl dls (spW K cl xl T bot) := let ⟨_, dvs, F1, hd⟩ := F.ex; ⟨dvs, ok_bot F1, hd⟩
theorem ok0E (F : DefE K mg cl x st dls) (Sc : FnScope N ps (defScope st))
    (body : ∀ (cdv : Value) (A : Around) (outer : List PySem.Env) (s : Shared) (H : Hp) (E : XK) (G : Hp) (f : Addr), Room k (A.deeper (envOfC x (defScope st) s.heap.objs.size f cdv)) →
      PSs (cxOf CX0 P w K mg base N x (defScope st) f cdv A outer s H E).nox (defBody st) (ts K ⟨cl, xl, T, H, G, fun _ _ _ _ => False⟩ u)) :
    OkE P w K mg base CX0 (k + 1) x st ps cl dls (spW K cl xl T (mk0 ps.length N.length u)) := let ⟨f, dvs, F1, hd⟩ := F.ex; ⟨dvs, ok0 F1 Sc fun cdv A outer s H E G hr => body cdv A outer s H E G f hr, hd⟩
theorem okXE (F : DefE K mg cl x st dls) (Sc : FnScope N ps (defScope st))
    (body : ∀ (cdv : Value) (A : Around) (outer : List PySem.Env) (s : Shared) (H : Hp) (E : XK) (G : Hp) (f : Addr), Room k (A.deeper (envOfC x (defScope st) s.heap.objs.size f cdv)) →
      PSs (cxOf (L2.CX P w) P w K mg base N x (defScope st) f cdv A outer s H E) (defBody st) (ts K ⟨cl, xl, T, H, G, fun cls d _ H => E cls d H⟩ u)) :
    OkE P w K mg base (L2.CX P w) (k + 1) x st ps cl dls (spW K cl xl T (mkX ps.length N.length u)) := let ⟨f, dvs, F1, hd⟩ := F.ex; ⟨dvs, okX F1 Sc fun cdv A outer s H E G hr => body cdv A outer s H E G f hr, hd⟩
end
/-! written dicts of texts, by name -/
def KWE (K : PySem.W.Frag) (w : World) (mg : Str → Option Value) (x : Str) (ws : List Str) : Prop := ∃ d, mg x = some (.ref d) ∧ KW K w d ws
section
variable {S : Type} {B : Bd S} {X : Cx} {a b e : Expr} {pos : Pos} {w wa wb : W S}
theorem we_kwinE {x : Str} {ws : List Str} {p : Pos} (k : KWE X.K X.w X.mg x ws) (hg : Gl X x) (ha : PE X a (tlb X.K B w)) (hb : behindInMarks .In (.Name x p) = false := by rfl) (hd : (x == ("__debug__" : Str)) = false := by decide) :
    PE X (.Compare a [.In] [.Name x p] pos) (tl X.K B (wKw false ws w)) := let ⟨d, hm, k1⟩ := k; we_kwin k1 hg hm ha hb hd
theorem we_kwninE {x : Str} {ws : List Str} {p : Pos} (k : KWE X.K X.w X.mg x ws) (hg : Gl X x) (ha : PE X a (tlb X.K B w)) (hb : behindInMarks .NotIn (.Name x p) = false := by rfl) (hd : (x == ("__debug__" : Str)) = false := by decide) :
    PE X (.Compare a [.NotIn] [.Name x p] pos) (tl X.K B (wKw true ws w)) := let ⟨d, hm, k1⟩ := k; we_kwnin k1 hg hm ha hb hd
end
end DL
/-! DL13: list(d.values()), split, powers, dict displays, objects that are made. -/
namespace DL
open PySem PySem.Spec PyProof.Rows L2 RT

/-! ### list(d.values()), d with tuple keys -/
section
variable {prog : Program} {w : World}
theorem meetsVals {d : Addr} {es : Array DictEntry} {ep : Nat} (hd : (d == sysModules) = false) :
    MeetsIn prog w (Builtin.«dict.values» ⟨[.ref d], []⟩) (fun _ R s => s.heap.DictRaw d es ep ∧
      R (.ok (.ret (.ref s.heap.objs.size))) { s with heap := s.heap.push { cls := .type "dict_values", data := .fields #[.ref d] } }) :=
  .of_wp fun A R s ⟨hm, h⟩ => by
    refine wpAny_bind ?_
    unfold Builtin.Dict.noArgs
    refine wpAny_bind (wpAny_notOrdered_dict hm.typeIs ?_)
    show wpAny _ _ (pure d) _ _ s
    refine wpAny_pure ?_
    show wpAny _ _ (Builtin.Dict.showsAll d >>= _) _ _ s
    unfold Builtin.Dict.showsAll
    rw [if_neg (by rw [hd]; exact Bool.false_ne_true)]
    refine wpAny_bind (wpAny_pure ?_)
    exact wpAny_bind (wpAny_newObj_type (wpAny_pure ⟨_, rfl, h⟩))
end
def tListVals (te : TE) : TE := fun σ H Q => te σ H fun x H1 => ∃ (d : Addr) (kvs : List (List Key × V)), x = .ref d ∧ H1 d = some (.dT kvs) ∧ ∀ p, H1 p = none → Q (.ref p) (upd H1 p (.lst (kvs.map (·.2))))
theorem kt_vals {H : Hp} : ∀ {kvs : List (List Key × V)} {xs : List (List Key × Addr × Value)}, KT H kvs xs → Vals (kvs.map (·.2)) (xs.map (·.2.2))
  | _, _, .nil => .nil
  | _, _, .cons h t => .cons h.2.2 (kt_vals t)
section
variable {X : Cx} {e : Expr} {te : TE} {p apos cpos pos : Pos}
theorem pe_listVals (hc : X.calm = true) (he : PE X e te) (hg : Gl X "list") (hm : X.mg "list" = none) (hbase : attributeBase e "values" X.env (eval e X.env) = eval e X.env := by rfl) (hline : (apos.endLine == cpos.line) = true := by rfl)
    (hs : starEach [.Call (.Attribute e "values" apos) [] [] cpos] X.env = (false, eval (.Call (.Attribute e "values" apos) [] [] cpos) X.env) :: starEach [] X.env := by rfl) :
    PE X (.Call (.Name "list" p) [.Call (.Attribute e "values" apos) [] [] cpos] [] pos) (tListVals te) := by
  refine ⟨fun pins s σ H Q I hq => ?_⟩
  refine wpAny_Call_Name_kw (ld_blt I hg hm PyProof.Rows.boot_list ?_)
  refine PyProof.Rows.callWith_type1 ?_ hs rfl
  rw [hs]
  show wpAny _ _ (spliced ((false, eval (.Call (.Attribute e "values" apos) [] [] cpos) X.env) :: backTo pos (starEach [] X.env))) _ _ s
  refine Calls.spliced_cons ?_
  refine wpAny_Call_method (T := "dict") (id := "dict.values") hbase rfl hline F.plainAttrs_dict F.slot_dict_values F.type_dict_values (thn (he.run pins s σ H _ I hq) fun u s1 ⟨x, H1, I1, rx, d, kvs, ex, hd, q⟩ => ?_)
  subst ex
  obtain rfl : u = Value.ref d := rx
  obtain ⟨hz, hs0, xs, kt, hdo⟩ := dt_of I1.hok hd
  obtain ⟨es, ep, hraw, hsz, hent⟩ := hdo.raw
  have lk : kvs.length = xs.length := Paired.length kt
  have I2 : Inv X pins σ H1 { s1 with heap := s1.heap.push { cls := .type "dict_values", data := .fields #[.ref d] } } := I1.kept (t' := s1.toks) fun b ob q => Heap.get?_push_of_some _ q
  have ndd : ∀ b, Value.ref d = .ref b → ∃ ob, s1.heap.get? b = some ob ∧ ob.dict = none := fun b q => by
    cases q
    obtain ⟨o, ho, hx, _⟩ := hraw
    exact ⟨o, ho, hx.2.1⟩
  refine ⟨hraw.typeIs, ndd, ?_⟩
  show wpAny _ _ (callWith cpos (.builtin "dict.values") [.ref d] [] []) _ X.xe s1
  refine method_meetsIn F.slot_dict_values F.entry_dict_values rfl (PySem.evalArgs_none ⟨rfl, hraw.typeIs, F.args_dict_values_1 _, _, meetsVals (es := es) (ep := ep) hs0, hraw, ?_⟩)
  refine Calls.spliced_nil ?_
  refine PySem.W.kdl_call (PySem.KdlSrc.rawValues (r := s1.heap.objs.size) (d := d) (es := es) (ep := ep)) (I1.ok.hd hc) ⟨⟨_, Heap.get?_push_size _ rfl, rfl, rfl⟩, hraw.at fun o e => Heap.get?_push_of_some _ e⟩ (by rw [hsz, ← lk]; exact hz) fun h' tk acc c hk hl hacc => ?_
  have hv : acc.toList = xs.map (·.2.2) := by
    obtain ⟨ha1, ha2⟩ := hacc
    refine List.ext_getElem? fun i => ?_
    rw [Array.getElem?_toList, List.getElem?_map]
    by_cases hi : i < es.size
    · obtain ⟨y, h1, h2, h3, h4⟩ := hent i hi
      have hi' : i < acc.size := by rw [ha1]; exact hi
      obtain ⟨_, h5⟩ := ha2 i acc[i] (Array.getElem?_eq_getElem hi')
      rw [Array.getElem?_eq_getElem hi', h1, h5, h3]
      rfl
    · rw [Array.getElem?_eq_none (by rw [ha1]; omega), List.getElem?_eq_none (by omega)]
      rfl
  have hf : H1 (s1.heap.push { cls := .type "dict_values", data := .fields #[.ref d] }).objs.size = none := I2.hok.fresh (Nat.le_refl _)
  refine ⟨.ref _, _, I2.laid (t' := tk) (o := .lst (kvs.map (·.2))) hk (Nat.le_refl _) ?_, rfl, q _ hf⟩
  refine ⟨by rw [List.length_map]; exact hz, xs.map (·.2.2), c, kt_vals kt, ?_⟩
  rw [← hv, Array.toArray_toList]
  exact hl
end

section
variable {S : Type} {B : Bd S} {X : Cx} {a b e v : Expr} {pos p apos cpos : Pos} {w wa wb : W S}
/-- list(d.values()) -/
def wLvals (w : W S) : W S := fun env s P N => w env s (fun lv s1 => match lv.dt with
  | some (ks, xs) => P (.l xs) s1
  | none => False) N
theorem map_snd {ks : List (List Key)} {vs : List V} (h : ks.length = vs.length) : (ks.zip vs).map (·.2) = vs := by
  induction ks generalizing vs with
  | nil => cases vs with
    | nil => rfl
    | cons _ _ => cases h
  | cons k ks ih => cases vs with
    | nil => cases h
    | cons v vs => rw [List.zip_cons_cons, List.map_cons, ih (by simpa using h)]
theorem we_lvals (hc : X.calm = true) (hg : Gl X "list") (hm : X.mg "list" = none) (he : PE X e (tlb X.K B w)) (hbase : attributeBase e "values" X.env (eval e X.env) = eval e X.env := by rfl) (hline : (apos.endLine == cpos.line) = true := by rfl)
    (hs : starEach [.Call (.Attribute e "values" apos) [] [] cpos] X.env = (false, eval (.Call (.Attribute e "values" apos) [] [] cpos) X.env) :: starEach [] X.env := by rfl) :
    PE X (.Call (.Name "list" p) [.Call (.Attribute e "values" apos) [] [] cpos] [] pos) (tl X.K B (wLvals w)) := imp (pe_listVals hc he hg hm hbase hline hs) fun σ H Q ⟨G, env, s, P, N, L, w', k, n⟩ => by
  refine ⟨G, env, s, _, N, L, w', fun lv s1 w1 v G1 H1 a1 ok1 r1 o1 => ?_, n⟩
  split at w1
  · rename_i ks xs e
    obtain ⟨d, vs, rfl, h1, h2, h3⟩ := r1.dt a1.le e
    refine ⟨d, _, rfl, h1, fun p hp => ?_⟩
    rw [map_snd h2]
    exact new_list a1.le a1.gF ok1 h3 (P := fun z => P z s1) w1 (fun lz v G' H' p' a ok r o => k lz s1 p' v G' H' (a1.trans a) ok r fun z b e => ⟨a1.dead (o z b e).1 (o z b e).2, (o z b e).2⟩) p hp
  · exact w1.elim
/-- a.split(b) -/
def wSplit (wa wb : W S) : W S := fun env s P N => wa env s (fun x s1 => match x with
  | .d (.str a) => wb env s1 (fun y s2 => match y with
    | .d (.str b) => ((b.length == 0) = false ∧ a.length + 2 ≤ sizeLine) ∧ P (.l ((Txt.split a b).map D.str)) s2
    | _ => False) N
  | _ => False) N
theorem we_split (h : PE X e (tBM X.K "str" (fun x xs H Q => ∃ a b, x = .str a ∧ xs = [.str b] ∧ (b.length == 0) = false ∧ a.length + 2 ≤ sizeLine ∧ rNewStrs (Txt.split a b) H Q) (tl X.K B wa) (tCons (tl X.K B wb) tNil))) : PE X e (tl X.K B (wSplit wa wb)) := imp h fun σ H Q ⟨G, env, s, P, N, L, w', k, n⟩ => by
  refine ⟨G, env, s, _, N, L, w', fun lx s1 w1 x G1 H1 a1 ok1 r1 o1 => ?_, n⟩
  split at w1
  · cases r1
    refine ⟨rfl, G1, env, s1, _, N, L.step a1 ok1, w1, fun ly s2 w2 y G2 H2 a2 ok2 r2 o2 => ?_, n.step a1⟩
    split at w2
    · cases r2
      exact ⟨_, _, rfl, rfl, w2.1.1, w2.1.2, new_list a2.le a2.gF ok2 (rps_strs _) (P := fun z => P z s2) w2.2 (fun lz v G' H' p' a ok r o => k lz s2 p' v G' H' ((a1.trans a2).trans a) ok r fun z b e => ⟨(a1.trans a2).dead (o z b e).1 (o z b e).2, (o z b e).2⟩)⟩
    · exact w2.elim
  · exact w1.elim
/-- a ** b -/
def powF := iiF CPow fun i j => .int (i ^ j.toNat)
theorem we_pow (ha : PE X a (tlb X.K B wa)) (hb : PE X b (tlb X.K B wb)) : PE X (.BinOp a .Pow b pos) (tl X.K B (wOp powF wa wb)) := we_op op_pow (ii_ok fun _ _ _ => .int _) ha hb
/-- reversed(x) -/
def wRev (w : W S) : WR S := fun env s P N => w env s (fun lv s' => match lv.seq with
  | some xs => P xs.reverse s'
  | none => False) N
theorem jok_revl {T : Sto S} {K : PySem.W.Frag} {cl : Nat → Addr} {G : Hp} {a : Addr} {vs : List V} {xs : List D} (h : ∀ H, Le G H → SqL K H a vs) (r : Rps K cl G vs xs) : JOk T K cl G (Itv K a vs.length) xs.reverse where
  stop := fun H le => by show vs.length ≤ _; rw [List.length_reverse, r.length]; exact Nat.le_refl _
  go := fun i x H e le => by
    have hi := (List.getElem?_eq_some_iff.mp e).1
    rw [List.length_reverse] at hi
    rw [List.getElem?_reverse hi, ← r.length] at e
    obtain ⟨v, q, _⟩ := r.get e
    exact ⟨by rw [r.length]; exact hi, vs, v, h H le, q⟩
  yld := fun i x H v H' e le y al G1 g1 l1 gF => by
    obtain ⟨e1, y⟩ := y
    subst e1
    have hi := (List.getElem?_eq_some_iff.mp e).1
    rw [List.length_reverse] at hi
    rw [List.getElem?_reverse hi, ← r.length] at e
    obtain ⟨v', q, rp⟩ := r.get e
    have := y vs (h H' le)
    rw [show vs.length - 1 - i = vs.length - 1 - i from rfl, q] at this; cases this
    exact ⟨G1, .refl l1 gF, Rp.mono g1 _ _ rp, fun s ok => ok⟩
theorem jok_revt {T : Sto S} {K : PySem.W.Frag} {cl : Nat → Addr} {G : Hp} {a : Addr} {vs : List V} {xs : List D} (h : ∀ H, Le G H → SqT K H a vs) (r : Rps K cl G vs xs) : JOk T K cl G (ItvT K a vs.length) xs.reverse where
  stop := fun H le => by show vs.length ≤ _; rw [List.length_reverse, r.length]; exact Nat.le_refl _
  go := fun i x H e le => by
    have hi := (List.getElem?_eq_some_iff.mp e).1
    rw [List.length_reverse] at hi
    rw [List.getElem?_reverse hi, ← r.length] at e
    obtain ⟨v, q, _⟩ := r.get e
    exact ⟨by rw [r.length]; exact hi, vs, v, h H le, q⟩
  yld := fun i x H v H' e le y al G1 g1 l1 gF => by
    obtain ⟨e1, y⟩ := y
    subst e1
    have hi := (List.getElem?_eq_some_iff.mp e).1
    rw [List.length_reverse] at hi
    rw [List.getElem?_reverse hi, ← r.length] at e
    obtain ⟨v', q, rp⟩ := r.get e
    have := y vs (h H' le)
    rw [q] at this; cases this
    exact ⟨G1, .refl l1 gF, Rp.mono g1 _ _ rp, fun s ok => ok⟩
theorem wr_rev {tg : Expr} (hg : Gl X "reversed") (hm : X.mg "reversed" = none) (h : PE X e (tl X.K B w)) (hs : starEach [e] X.env = (false, eval e X.env) :: starEach [] X.env := by rfl) : PI X tg (.Call (.Name "reversed" p) [e] [] pos) (tr X.K B (wRev w)) := impI (pi_revA hg hm h hs) fun σ H R ⟨G, env, s, P, N, L, w', c, n⟩ => by
  refine ⟨G, env, s, _, N, L, w', fun lv s1 w1 v G1 H1 a1 ok1 r1 o1 => ?_, n⟩
  split at w1
  · rename_i xs e
    obtain ⟨G2, a2, k2, r2⟩ := freeze a1 r1 o1
    obtain ⟨a, vs, rfl, rv, hs⟩ := seq_lasts r2 e
    rcases hs with hs | hs
    · exact ⟨a, vs, rfl, .inl ⟨hs H1 a2.le, c _ s1 w1 G2 H1 _ a2 ok1 (jok_revl hs rv)⟩⟩
    · exact ⟨a, vs, rfl, .inr ⟨hs H1 a2.le, c _ s1 w1 G2 H1 _ a2 ok1 (jok_revt hs rv)⟩⟩
  · exact w1.elim
/-- {'k': v} -/
def wDisp1 (k : Key) (w : W S) : W S := fun env s P N => w env s (fun lv s1 => match lv.fz with
  | .d x => P (.k [k] [x]) s1
  | _ => False) N
theorem we_disp1 {x : Str} (h : PE X e (tDisp [(tC (.str x), tl X.K B w)])) : PE X e (tl X.K B (wDisp1 (.inr x) w)) := imp h fun σ H Q ⟨G, env, s, P, N, L, w', k, n⟩ => by
  intro p hp
  have b := Stp.fresh (T := B.T) (o := .dK []) L.le L.gF hp
  have nF : ¬ B.T.F p := fun f => L.al p f hp
  have g0 : G p = none := fresh_own L.le hp
  refine ⟨G, env, s, _, N, L.step b (B.T.stays L.ok (le_upd hp)), w', fun lv s1 w1 v G1 H1 a1 ok1 r1 o1 => ?_, n.step b⟩
  obtain ⟨G2, a2, k2, r2⟩ := freeze a1 r1 o1
  have h1 : H1 p = some (.dK []) := a2.hh _ _ upd_same nF
  have g2 : G2 p = none := a2.stay (by rw [upd_same]; exact fun z => by cases z) g0 (fun vs z => by rw [upd_same] at z; cases z)
  split at w1
  · rename_i y ey
    rw [ey] at r2
    refine ⟨h1, [(.inr x, v)], rfl, by show 1 ≤ 15; decide, ?_⟩
    refine k _ s1 w1 (.ref p) G2 _ ((b.trans a2).write hp g2) (B.T.loc s1 H1 _ ok1 fun a f => upd_ne (fun z => nF (by rw [← z]; exact f))) ⟨p, [v], rfl, g2, upd_same, rfl, .cons r2 .nil⟩ fun _ a e => by cases e; exact ⟨hp, nF⟩
  · exact w1.elim
end
end DL
/-! DL14: own objects. -/
namespace DL
open PySem PySem.Spec PyProof.Rows L2

/-! ### self.f = e -/
def putN (f : Str) : List Str → List Str
  | [] => [f]
  | g :: r => if g = f then g :: r else g :: putN f r
def putV {α : Type} (f : Str) (y : α) : List Str → List α → List α
  | g :: r, x :: xs => if g = f then y :: xs else x :: putV f y r xs
  | _, _ => [y]
theorem putF_is (f : Str) (y : V) : ∀ (ns : List Str) (vs : List V), ns.length = vs.length → putF f y (ns.zip vs) = (putN f ns).zip (putV f y ns vs) ∧ (putN f ns).length = (putV f y ns vs).length
  | [], [], _ => ⟨rfl, rfl⟩
  | [], _ :: _, h => by cases h
  | _ :: _, [], h => by cases h
  | g :: r, x :: xs, h => by
    obtain ⟨h1, h2⟩ := putF_is f y r xs (by simpa using h)
    rw [List.zip_cons_cons]
    unfold putF putN putV
    by_cases e : g = f
    · rw [if_pos e, if_pos e, if_pos e]
      exact ⟨rfl, by simpa using h⟩
    · rw [if_neg e, if_neg e, if_neg e]
      exact ⟨by rw [h1, List.zip_cons_cons], congrArg (· + 1) h2⟩
theorem putV_rps {K : PySem.W.Frag} {cl : Nat → Addr} {G : Hp} {f : Str} {v : V} {x : D} (r : Rp K cl G v x) : ∀ {vs : List V} {xs : List D} (ns : List Str), Rps K cl G vs xs → Rps K cl G (putV f v ns vs) (putV f x ns xs)
  | _, _, [], _ => .cons r .nil
  | _, _, _ :: _, .nil => .cons r .nil
  | _, _, g :: ns, .cons q t => by
    unfold putV
    by_cases e : g = f
    · rw [if_pos e, if_pos e]; exact .cons r t
    · rw [if_neg e, if_neg e]; exact .cons q (putV_rps r ns t)
section
variable {S : Type} {B : Bd S} {X : Cx} {a b e o value : Expr} {pos pos' : Pos} {w wy wv : W S}
/-- x.f = e, x a name's own object -/
def wOFld (i : Nat) (f : Str) (w : W S) : WS S := fun M env s => match env.at i with
  | some (.o b c ns xs) => w env s (fun lv s1 => match lv.fz with
    | .d z => ns.length < 900 ∧ M.nx (env.set i (some (.o b c (putN f ns) (putV f z ns xs)))) s1
    | _ => False) (M.xn env)
  | _ => False
theorem ws_ofld {st : Stmt} {i : Nat} {f : Str} (hc : ∀ c, Cls X.K (B.cl c)) (hn : ∀ c, NoAttr X.K (B.cl c) f) (h : PS X st (sFld X.K (tVar i) (tl X.K B w) f)) : PS X st (ts X.K B (wOFld i f w)) := impS h fun E σ H ⟨G, env, s, M, L, w', r⟩ => by
  unfold wOFld at w'
  split at w'
  · rename_i b c ns xs e0
    refine ⟨G, env, s, _, M.xn env, L, w', fun lv s1 w1 v G1 H1 a1 ok1 r1 o1 => ?_, r.xnS L⟩
    obtain ⟨G2, a2, k2, r2⟩ := freeze a1 r1 o1
    have L2 := L.step a2 ok1
    split at w1
    · rename_i z ez
      rw [ez] at r2
      obtain ⟨v0, q0, ad, vs, rfl, n1, ⟨dx, h1⟩, ⟨l1, e1⟩, z1⟩ := L2.slot i _ (LEnv.at_get e0)
      subst e1
      obtain ⟨p1, p2⟩ := putF_is f v ns vs l1
      refine ⟨_, q0, ad, _, dx, _, rfl, h1, hc c, hn c, by rw [zip_len l1]; have := w1.1; omega, ?_⟩
      rw [p1]
      exact r.nx G2 σ _ _ s1 a2.g (L2.lput (lv' := .o ad c (putN f ns) (putV f z ns xs)) (LEnv.at_get e0) rfl q0 (fun xs z => by rw [h1] at z; cases z) ⟨ad, _, rfl, n1, ⟨dx, upd_same⟩, ⟨p2, rfl⟩, putV_rps r2 ns z1⟩ rfl) w1.2
    · exact w1.elim
  · exact w'.elim
end

/-! ### __init__, and C(..) -/
/-- what an __init__ does: the arguments; the attributes wanted; the errors -/
abbrev MI := List LV → (List Str → List D → Prop) → (Nat → D → Prop) → Prop
def mkI (c np nn : Nat) (u : WS Unit) : MI := fun lvs P N => lvs.length + 1 = np ∧ ∀ x, u ⟨fun env _ => ∃ ns xs, env.at 0 = some (.o x c ns xs) ∧ P ns xs, fun _ _ => False, fun _ _ => False, fun _ _ => False, fun _ c d _ => N c d⟩ (startN nn (.o x c [] [] :: lvs)) ()
def spI (K : PySem.W.Frag) (cl xl : Nat → Addr) (c : Nat) (m : MI) : Sp := fun vs H Q E => ∃ H0 x dx vs' G lvs P N, vs = .ref x :: vs' ∧ H0 x = none ∧ H0 dx = none ∧ dx ≠ x ∧ H = upd (upd H0 dx (.own x)) x (.ins (cl c) dx []) ∧ Le G H0 ∧ RLs K cl G H0 vs' lvs ∧ m lvs P N ∧
  (∀ ns xs, P ns xs → ∀ G' H', Stp Sto.no G H0 G' H' → RL K cl G' H' (.ref x) (.o x c ns xs) → Q .non H') ∧
  (∀ c d, N c d → ∀ G' H' dd v, Stp Sto.no G H0 G' H' → H' dd = some (.xd [("what", v)]) → Rp K cl G' v d → E (.ref (xl c)) (some dd) H')
structure DefM (K : PySem.W.Frag) (C : Addr) (x qual : Str) (st : Stmt) (cl : Nat → Addr) (dls : List LV) : Prop where
  ex : ∃ f fd dvs, FunD K x qual (defArgs st) (defBody st) (defScope st) dvs [] f fd ∧ (∀ G H, RLs K cl G H dvs dls) ∧ PySem.W.findIn K (.ref C) x = some (some (.ref f)) ∧ PySem.W.isFn K (.ref f) = true
structure MakE (P : Program) (w : World) (K : PySem.W.Frag) (mg : Str → Option Value) (base : Heap) (CX : CXT) (k : Nat) (C : Addr) (st : Stmt) (cl : Nat → Addr) (dls : List LV) (ps : List Str) (sp : Sp) : Prop where
  ex : ∃ f fd dvs, FunD K "__init__" "Routine.__init__" (defArgs st) (defBody st) (defScope st) dvs [] f fd ∧ (∀ G H, RLs K cl G H dvs dls) ∧ PySem.W.findIn K (.ref C) "__init__" = some (some (.ref f)) ∧ PySem.W.isFn K (.ref f) = true ∧ FnOk P w K mg base CX k f fd ps sp
/-- a class that may be made by its name -/
structure MakL (P : Program) (w : World) (K : PySem.W.Frag) (mg : Str → Option Value) (base : Heap) (CX : CXT) (k : Nat) (x : Str) (cl xl : Nat → Addr) (c : Nat) (m : MI) (dls : List LV) : Prop where
  ex : ∃ f fd ps ds dvs, Mk K (cl c) f ∧ FnOk P w K mg base CX k f fd ps (spI K cl xl c m) ∧ mg x = some (.ref (cl c)) ∧ Binds K fd ps ds ∧ Vals dvs ds ∧ ∀ G H, RLs K cl G H dvs dls
section
variable {P : Program} {w : World} {K : PySem.W.Frag} {mg : Str → Option Value} {base : Heap} {k : Nat} {st : Stmt} {ps N : List Str} {cl xl : Nat → Addr} {qual : Str} {dls : List LV} {c : Nat} {u : WS Unit}
theorem Stp.born {G H0 : Hp} {x dx : Addr} {o1 o2 : HO} (le : Le G H0) (h1 : H0 x = none) (h2 : H0 dx = none) (ne : dx ≠ x) : Stp Sto.no G H0 G (upd (upd H0 dx o1) x o2) :=
  have nf : ∀ a, (Sto.no).F a → G a = none := fun a z => False.elim z
  (Stp.fresh (T := Sto.no) le nf h2).trans (Stp.fresh ((Stp.fresh (T := Sto.no) le nf h2).le) nf (by rw [upd_ne (Ne.symm ne)]; exact h1))
/-- a class whose __init__ may raise -/
theorem mk_init {x : Str} {dflt : List LV} (F : DefM K (cl c) "__init__" qual st cl dflt) (hm : mg x = some (.ref (cl c))) (makes : PySem.W.makesIn K (cl c) = true) (kp : PySem.W.keepIn K (.ref (cl c)) = true) (Sc : FnScope N ps (defScope st)) (hps : ps ≠ [])
    (hb : ∀ fd dvs f, FunD K "__init__" qual (defArgs st) (defBody st) (defScope st) dvs [] f fd → (∀ G H, RLs K cl G H dvs dflt) → ∃ ds dvs2, Vals dvs2 ds ∧ Binds K fd ps ds ∧ ∀ G H, RLs K cl G H dvs2 dls)
    (body : ∀ (cdv : Value) (A : Around) (outer : List PySem.Env) (s : Shared) (H : Hp) (E : XK) (H0 G : Hp) (f : Addr), Room k (A.deeper (envOfC qual (defScope st) s.heap.objs.size f cdv)) →
      PSs (cxOf (L2.CX P w) P w K mg base N qual (defScope st) f cdv A outer s H E) (defBody st) (ts K ⟨cl, xl, Sto.no, H0, G, fun cls d _ H => E cls d H⟩ u)) :
    MakL P w K mg base (L2.CX P w) (k + 1) x cl xl c (mkI c ps.length N.length u) dls := by
  obtain ⟨f, fd, dvs, F1, hd, hf, hi⟩ := F.ex
  obtain ⟨ds, dvs2, e1, e2, e3⟩ := hb fd dvs f F1 hd
  refine ⟨f, fd, ps, ds, dvs2, ⟨makes, hf, hi, kp⟩, ?_, hm, e2, e1, e3⟩
  refine F1.ok Sc (fun vs H Q E ⟨H0, x, dx, vs', G, lvs, P, N, e, _, _, _, _, _, r, z, _⟩ => by rw [e, List.length_cons, r.length]; exact z.1) fun cdv A outer s H vs Q E hr h => ?_
  obtain ⟨H0, x, dx, vs', G, lvs, P, N', rfl, h1, h2, ne, rfl, le, r, ⟨hl, z⟩, kQ, kE⟩ := h
  refine ⟨_, body cdv A outer s _ E H0 G f hr, G, _, (), _, ?_, z x, ?_⟩
  · have b := Stp.born (o1 := .own x) (o2 := .ins (cl c) dx []) le h1 h2 ne
    have gx : G x = none := fresh_own le h1
    have gx : G x = none := fresh_own le h1
    have r' : RLs K cl G (upd (upd H0 dx (.own x)) x (.ins (cl c) dx [])) (.ref x :: vs') (.raw (.ref x) :: lvs) := .cons rfl rfl (r.mono (Le.refl _))
    have L0 := start_of (T := Sto.no) (N := N) (s := ()) b.le (fun a z => False.elim z) True.intro r'
    have old : ∀ (j : Nat) (lj : LV), (startN N.length (.raw (.ref x) :: lvs))[j]? = some (some lj) → lj.own = true → False := fun j lj e o => by
      obtain ⟨v, q, rl⟩ := L0.slot j lj e
      obtain ⟨a, rfl, _, ha⟩ := rl.ref o
      exact ha (L0.own j lj a e o q).1
    have same : ∀ (j : Nat), (startN N.length (.o x c [] [] :: lvs))[j + 1]? = (startN N.length (.raw (.ref x) :: lvs))[j + 1]? := fun j => rfl
    refine ⟨b, True.intro, L0.len, fun i lv e => ?_, fun i lv a e o q => ?_, fun i j lv lv' a n e1 e2 o1 o2 q1 q2 => ?_⟩
    · cases i with
      | zero =>
        cases e
        exact ⟨.ref x, rfl, x, [], rfl, gx, ⟨dx, upd_same⟩, ⟨rfl, rfl⟩, .nil⟩
      | succ i => exact L0.slot (i + 1) lv e
    · cases i with
      | zero =>
        cases q
        exact ⟨h1, fun z => z⟩
      | succ i => exact (old (i + 1) lv e o).elim
    · cases i with
      | zero =>
        cases j with
        | zero => exact n rfl
        | succ j => exact old (j + 1) lv' e2 o2
      | succ i => exact old (i + 1) lv e1 o1
  · refine ⟨fun G' σ' H' env' s2 _ L ⟨ns, xs, e0, p⟩ => ?_, fun _ _ y => y.elim, fun _ _ _ _ _ _ _ y => y.elim, fun _ _ _ _ _ _ _ y => y.elim, fun _ _ _ _ _ _ L c d s2 y G' H' dd v a ok e r => kE c d y G' H' dd v (L.stp.trans a) e r⟩
    obtain ⟨v, q, rl⟩ := L.slot 0 _ (LEnv.at_get e0)
    obtain ⟨a, us, e1, n1, h3, ⟨l1, e2⟩, z1⟩ := rl
    subst e1
    subst e2
    exact kQ ns xs p G' H' L.stp ⟨a, us, rfl, n1, h3, ⟨l1, rfl⟩, z1⟩
end

section
variable {X : Cx} {CX : CXT} {k : Nat} {f C : Addr} {fd : FuncData} {ps : List Str} {sp : Sp} {dvs : List V} {ds : List Value} {E : L2.St → XK} {x : Str} {p pos : Pos} {e : Expr} {es : List Expr} {t : TA}
theorem run_makeS {pins : List (Addr × Obj)} {σ : L2.St} {H : Hp} {s : Shared} {Q : VK} {us : List Value} {vs : List V} (M : Mk X.K C f) (F : FnOk X.prog X.w X.K X.mg X.base CX k f fd ps sp) (hr : Room (k + 1) X.A) (hb : L2.Binds X.K fd ps ds) (hd : Vals dvs ds)
    (hx : PassesAt CX X σ (E σ)) (I : Inv X pins σ H s) (r : Vals vs us)
    (h : ∀ x dx, H x = none → H dx = none → dx ≠ x → sp (.ref x :: (vs ++ dvs)) (upd (upd H dx (.own x)) x (.ins C dx [])) (fun v H2 => v = .non ∧ Q (.ref x) H2) (E σ)) :
    wpAny (model X.prog X.w) X.A (call (.ref C) us) (EP X pins σ Q) X.xe s := by
  have hq := h (s.heap.objs.size + 1) s.heap.objs.size (I.hok.fresh (Nat.le_succ _)) (I.hok.fresh (Nat.le_refl _)) (Nat.ne_of_lt (Nat.lt_succ_self _))
  have I2 := Inv.made (C := C) I
  have r2 : Vals (V.ref (s.heap.objs.size + 1) :: (vs ++ dvs)) (Value.ref (s.heap.objs.size + 1) :: (us ++ ds)) := .cons rfl (r.append hd)
  have hl : (Value.ref (s.heap.objs.size + 1) :: us ++ ds).length = ps.length := by
    have e := r2.length
    rw [F.len _ _ _ _ hq] at e
    exact e.symm
  refine wpAny_call (make_map (f := f) I.kIn M.makes M.init (beq_iff_eq.mp M.fn) (codeAny_mono (F.run _ X.stack _ _ ⟨Value.ref (s.heap.objs.size + 1) :: us, []⟩ (Value.ref (s.heap.objs.size + 1) :: (us ++ ds)) _ _ (E σ) (hr.make C us [])
    (I2.env0.make C us []) (hb _ (Value.ref (s.heap.objs.size + 1) :: us) I2.kIn hl) r2 hq) fun r s' hq' => ?_))
  cases r with
  | error e => exact hx pins _ _ e s' I2 hq'
  | ok fl =>
    cases fl with
    | ret u =>
      obtain ⟨v, H', I3, rv, ev, q3⟩ := I2.after hq'
      subst ev
      exact ⟨rv, ⟨V.ref (s.heap.objs.size + 1), H', I3, rfl, q3⟩⟩
    | next => exact False.elim hq'
    | brk => exact False.elim hq'
    | cont => exact False.elim hq'
def tMakeS (C : Addr) (sp : Sp) (dvs : List V) (E : L2.St → XK) (t : TA) : TE := fun σ H Q => t σ H fun vs H1 => ∀ x dx, H1 x = none → H1 dx = none → dx ≠ x →
  sp (.ref x :: (vs ++ dvs)) (upd (upd H1 dx (.own x)) x (.ins C dx [])) (fun v H2 => v = .non ∧ Q (.ref x) H2) (E σ)
theorem pe_makeS (M : Mk X.K C f) (F : FnOk X.prog X.w X.K X.mg X.base CX k f fd ps sp) (hr : Room (k + 1) X.A) (hg : Gl X x) (hm : X.mg x = some (.ref C)) (hb : L2.Binds X.K fd ps ds) (hd : Vals dvs ds) (hx : ∀ σ, PassesAt CX X σ (E σ))
    (ha : PA X (e :: es) t) (hdb : (x == ("__debug__" : Str)) = false := by decide) (he : starEach (e :: es) X.env = (false, eval e X.env) :: starEach es X.env := by rfl) (hpl : (backTo pos (starEach es X.env)).any (·.1) = false := by rfl) :
    PE X (.Call (.Name x p) (e :: es) [] pos) (tMakeS C sp dvs E t) := by
  refine ⟨fun pins s σ H Q I h => ?_⟩
  refine wpAny_Call_Name_kw (ld_glob I hg hm ?_ hdb)
  refine PySem.W.callWith_K (h₀ := X.base) I.ok.mod.kin M.kp (thn (ha.run pos pins s σ H _ I h) fun us s1 ⟨vs, H1, I1, r, q⟩ => ⟨I1.kIn, ?_⟩) he hpl
  exact run_makeS M F hr hb hd (hx σ) I1 r q
end
section
variable {S : Type} {B : Bd S} {X : Cx} {wa : WA S} {e : Expr} {es : List Expr} {x : Str} {p pos : Pos} {j k c : Nat} {dls : List LV} {m : MI}
/-- C(..), raising nothing here -/
def wMk (c : Nat) (m : MI) (dls : List LV) (wa : WA S) : W S := fun env s P N => wa env s (fun lvs s1 => m (lvs ++ dls) (fun ns xs => P (.d (.ins c ns xs)) s1) (fun _ _ => False)) N
def wMkX (c : Nat) (m : MI) (dls : List LV) (wa : WA S) : W S := fun env s P N => wa env s (fun lvs s1 => m (lvs ++ dls) (fun ns xs => P (.d (.ins c ns xs)) s1) (fun ec d => N ec d s1)) N
theorem spI_call {K : PySem.W.Frag} {xl : Nat → Addr} {G H G1 H1 : Hp} {s1 : S} {vs dvs : List V} {lvs : List LV} {P : LV → S → Prop} {N : Nat → D → Prop} {Q : VK} {E : XK} {a dx : Addr} (a1 : Stp B.T G H G1 H1) (ok1 : B.T.ok s1 H1) (r1 : RLs K B.cl G1 H1 vs lvs) (hd : RLs K B.cl G1 H1 dvs dls)
    (w1 : m (lvs ++ dls) (fun ns xs => P (.d (.ins c ns xs)) s1) N) (h1 : H1 a = none) (h2 : H1 dx = none) (ne : dx ≠ a)
    (kQ : ∀ lv s', P lv s' → ∀ v G' H', Stp B.T G H G' H' → B.T.ok s' H' → RL K B.cl G' H' v lv → (lv.own = true → ∀ a, v = .ref a → H a = none ∧ ¬ B.T.F a) → Q v H')
    (kE : ∀ ec d, N ec d → ∀ G' H' dd v, Stp B.T G H G' H' → B.T.ok s1 H' → H' dd = some (.xd [("what", v)]) → Rp K B.cl G' v d → E (.ref (xl ec)) (some dd) H') :
    spI K B.cl xl c m (.ref a :: (vs ++ dvs)) (upd (upd H1 dx (.own a)) a (.ins (B.cl c) dx [])) (fun v H2 => v = .non ∧ Q (.ref a) H2) E := by
  have st : ∀ {G' H' : Hp}, Stp Sto.no G1 H1 G' H' → B.T.ok s1 H' := fun b => B.T.stays ok1 fun c o e => b.hh c o e (fun z => z)
  refine ⟨H1, a, dx, _, G1, _, _, _, rfl, h1, h2, ne, rfl, a1.le, r1.append hd, w1, fun ns xs p G' H' b rl => ⟨rfl, ?_⟩, fun ec d n G' H' dd v b e r => ?_⟩
  · obtain ⟨G2, b2, k2, r2⟩ := freeze b rl (fun _ c e => by cases e; exact ⟨h1, fun z => z⟩)
    have w := b2.wide (T := B.T) a1.gF ok1
    exact kQ _ s1 p (.ref a) G2 H' (a1.trans w) (st b2) r2 (fun o => by cases o)
  · exact kE ec d n G' H' dd v (a1.trans (b.wide a1.gF ok1)) (st b) e r
theorem we_mk (cn : MakL X.prog X.w X.K X.mg X.base (L2.CX X.prog X.w) k x B.cl B.xl c m dls) (hr : Room j X.A) (hk : k + 1 ≤ j) (hg : Gl X x) (ha : PA X (e :: es) (tla X.K B wa))
    (hdb : (x == ("__debug__" : Str)) = false := by decide) (he : starEach (e :: es) X.env = (false, eval e X.env) :: starEach es X.env := by rfl) (hpl : (backTo pos (starEach es X.env)).any (·.1) = false := by rfl) :
    PE X (.Call (.Name x p) (e :: es) [] pos) (tl X.K B (wMk c m dls wa)) := by
  obtain ⟨f, fd, ps, ds, dvs, M, F, hm, hb, hv, hd⟩ := cn.ex
  exact imp (pe_makeS (E := fun _ => E0) M F (hr.mono hk) hg hm hb hv (fun σ pins H s e s' I h => passL pins σ H s e s' I h) ha hdb he hpl) fun σ H Q ⟨G, env, s, P, N, L, w', kQ, n⟩ =>
    ⟨G, env, s, _, N, L, w', fun lvs s1 w1 vs G1 H1 a1 ok1 r1 a dx h1 h2 ne => spI_call a1 ok1 r1 (hd _ _) w1 h1 h2 ne kQ (fun _ _ z => z.elim), n⟩
theorem we_mkX (cn : MakL X.prog X.w X.K X.mg X.base (L2.CX X.prog X.w) k x B.cl B.xl c m dls) (tk : Takes X B.Wx) (hr : Room j X.A) (hk : k + 1 ≤ j) (hg : Gl X x) (ha : PA X (e :: es) (tla X.K B wa))
    (hdb : (x == ("__debug__" : Str)) = false := by decide) (he : starEach (e :: es) X.env = (false, eval e X.env) :: starEach es X.env := by rfl) (hpl : (backTo pos (starEach es X.env)).any (·.1) = false := by rfl) :
    PE X (.Call (.Name x p) (e :: es) [] pos) (tl X.K B (wMkX c m dls wa)) := by
  obtain ⟨f, fd, ps, ds, dvs, M, F, hm, hb, hv, hd⟩ := cn.ex
  exact imp (pe_makeS (E := WE B.Wx) M F (hr.mono hk) hg hm hb hv (fun σ => passAt tk σ) ha hdb he hpl) fun σ H Q ⟨G, env, s, P, N, L, w', kQ, n⟩ =>
    ⟨G, env, s, _, N, L, w', fun lvs s1 w1 vs G1 H1 a1 ok1 r1 a dx h1 h2 ne => spI_call (N := fun ec d => N ec d s1) a1 ok1 r1 (hd _ _) w1 h1 h2 ne kQ (fun ec d y G' H' dd v a ok e r => n ec d s1 y G' H' dd v a ok e r), n⟩
end
end DL
/-! DL15: attributes of an object that is being made; a source of draws. -/
namespace DL
open PySem PySem.Spec PyProof.Rows L2
section
variable {S : Type} {B : Bd S} {X : Cx} {e : Expr} {pos : Pos}
def wOGet (i : Nat) (f : Str) : W S := fun env s P _ => match env.at i with
  | some (.o b c ns xs) => (match lkp ns xs f with
    | some y => P (.d y) s
    | none => False)
  | _ => False
theorem we_oget {i : Nat} {f : Str} (hc : ∀ c, Cls X.K (B.cl c)) (hn : ∀ c, NoAttr X.K (B.cl c) f) (h : PE X e (tVar i)) (hb : attributeBase e f X.env (eval e X.env) = eval e X.env := by rfl) : PE X (.Attribute e f pos) (tl X.K B (wOGet i f)) :=
  imp (pe_fld h hb) fun σ H Q ⟨G, env, s, P, N, L, w', k, n⟩ => by
    unfold wOGet at w'
    split at w'
    · rename_i b c ns xs e0
      split at w'
      · rename_i y ey
        obtain ⟨v, q, a, vs, rfl, n1, ⟨dx, h1⟩, ⟨l1, e1⟩, z1⟩ := L.slot i _ (LEnv.at_get e0)
        rcases lkp_rel (ks := ns) f z1 with ⟨_, z⟩ | ⟨v', y', e1, e2, rp⟩
        · rw [z] at ey; cases ey
        · rw [ey] at e2
          cases e2
          exact ⟨_, q, a, _, dx, _, v', rfl, h1, hc c, hn c, by rw [lookup_lkp]; exact e1, k _ s w' v' G H L.refl L.ok rp (fun o => by cases o)⟩
      · exact w'.elim
    · exact w'.elim
end
section
variable {K : PySem.W.Frag} {cl : Nat → Addr} {x qual : Str} {st : Stmt} {ps : List Str}
theorem hb0 (h : ∀ (kV doc pm : Value) (an : Option Addr) (cdv ct : Value) (us : List Value), us.length = ps.length → bindArgs (PySem.W.fnOf x qual (defArgs st) (defBody st) (defScope st) .none kV doc pm an cdv ct) ⟨us, []⟩ = pure (ps.zip us)) :
    ∀ fd dvs f, FunD K x qual (defArgs st) (defBody st) (defScope st) dvs [] f fd → (∀ G H, RLs K cl G H dvs []) → ∃ ds dvs2, Vals dvs2 ds ∧ L2.Binds K fd ps ds ∧ ∀ G H, RLs K cl G H dvs2 [] := fun fd dvs f F hr => by
  have e := hr (fun _ => none) (fun _ => none)
  cases e
  exact ⟨[], [], .nil, F.bindsN h, fun _ _ => .nil⟩
end
/-- a source of draws: its list at a (cells, place, sum, count), the cells' list at b -/
def Gen (a b : Addr) : Sto Unit where
  F := fun c => c = a ∨ c = b
  ok := fun _ H => a ≠ b ∧ ∃ (p t n : Int) (cells : List Int), H a = some (.lst [.ref b, .int p, .int t, .int n]) ∧ H b = some (.lst (cells.map V.int)) ∧ 0 ≤ p ∧ cells.length ≤ 1000
  al := fun _ H c ⟨_, p, t, n, cells, h1, h2, _⟩ f => by
    rcases f with f | f
    · rw [f, h1]; exact fun z => by cases z
    · rw [f, h2]; exact fun z => by cases z
  loc := fun _ H H' ⟨ne, p, t, n, cells, h1, h2, h3⟩ k => ⟨ne, p, t, n, cells, by rw [k a (.inl rfl)]; exact h1, by rw [k b (.inr rfl)]; exact h2, h3⟩
  nt := fun _ H c vs ⟨_, p, t, n, cells, h1, h2, _⟩ f z => by
    rcases f with f | f
    · rw [f, h1] at z; cases z
    · rw [f, h2] at z; cases z
/-- a draw: any number below -/
def mDraw (ga : Addr) : MF Unit := fun lvs s P _ => ∃ many : Int, lvs = [.raw (.ref ga), .d (.int many)] ∧ 0 < many ∧ many.natAbs.log2 < 9000 ∧ ∀ r : Int, 0 ≤ r → r < many → P (.d (.int r)) s
/-- what is shared changes -/
theorem Stp.share {S : Type} {T : Sto S} {G H : Hp} {c : Addr} {o : HO} (le : Le G H) (gF : ∀ a, T.F a → G a = none) (f : T.F c) : Stp T G H G (upd H c o) :=
  ⟨Le.refl _, fun d u e => by rw [upd_ne (ne_of_none e (gF c f))]; exact le d u e, gF, fun d u e n => by rw [upd_ne (fun z => n (by rw [z]; exact f))]; exact e, fun _ _ h => .inl h⟩

/-! ### sum, the script -/
def intsOf : List D → Option (List Int)
  | [] => some []
  | .int b :: r => match intsOf r with
    | some bs => some (b :: bs)
    | none => none
  | _ :: _ => none
theorem Rps.ints {K : PySem.W.Frag} {cl : Nat → Addr} {G : Hp} : ∀ {vs : List V} {xs : List D} {bs : List Int}, Rps K cl G vs xs → intsOf xs = some bs → vs = bs.map V.int
  | _, _, _, .nil, e => by cases e; rfl
  | _, _, _, .cons r t, e => by
    unfold intsOf at e
    split at e
    · rename_i h; cases h
    · rename_i b r' h
      cases h
      split at e
      · rename_i bs' e2
        cases e
        cases r
        rw [List.map_cons, ← Rps.ints t e2]
      · cases e
    · cases e
theorem rps_ints {K : PySem.W.Frag} {cl : Nat → Addr} {G : Hp} : ∀ (ys : List Int), Rps K cl G (ys.map V.int) (ys.map D.int)
  | [] => .nil
  | y :: ys => .cons (.int y) (rps_ints ys)
theorem intsOf_map : ∀ ns : List Int, intsOf (ns.map D.int) = some ns
  | [] => rfl
  | n :: ns => by show (match intsOf (ns.map D.int) with | some bs => some (n :: bs) | none => none) = _; rw [intsOf_map ns]
def sumF : LV → (LV → Prop) → Prop := fun x P => match x.lis with
  | some xs => match intsOf xs with
    | some bs => P (.d (.int bs.sum))
    | none => False
  | none => False
theorem sum_ok {S : Type} {T : Sto S} {K : PySem.W.Frag} {cl : Nat → Addr} : UnS T K cl (rSum K) sumF := by
  intro s G H x lx Q P le gF ok rx h q
  unfold sumF at h
  split at h
  · rename_i xs e
    split at h
    · rename_i bs e2
      obtain ⟨a, vs, rfl, hs, rv⟩ := rx.lis le e
      have := rv.ints e2
      subst this
      exact ⟨a, bs, rfl, .of hs, q _ _ G H h (.refl le gF) ok (Rp.int _) (fun o => by cases o)⟩
    · exact h.elim
  · exact h.elim
theorem sqL_mono {K : PySem.W.Frag} {H H' : Hp} {a : Addr} {xs : List V} (h : SqL K H a xs) (k : ∀ b o, H b = some o → H' b = some o) : SqL K H' a xs := by
  rcases h with (h | ⟨o, h⟩) | h
  · exact .inl (.inl (k _ _ h))
  · exact .inl (.inr ⟨o, k _ _ h⟩)
  · exact .inr h
section
variable {B : Bd Unit} {X : Cx} {e : Expr} {pos p2 : Pos}
/-- script[:n] -/
def wScr (i : Nat) (a : Addr) (ns : List Int) (lo hi : WO Unit) : W Unit := fun env s P N => env.at i = some (.raw (.ref a)) ∧ lo env s (fun l s1 => hi env s1 (fun u s2 => P (.l (cutL (ns.map D.int) l u)) s2) N) N
theorem we_scr {i : Nat} {a : Addr} {ns : List Int} {lo hi : Option Expr} {wl wh : WO Unit} (hT : ∀ c, ¬ B.T.F c) (hS : SqL X.K B.H0 a (ns.map V.int)) (h : PE X e (tVar i)) (hl : PO X lo (tlo X.K B wl)) (hh : PO X hi (tlo X.K B wh)) : PE X (.Subscript e (.Slice lo hi none p2) pos) (tl X.K B (wScr i a ns wl wh)) :=
  imp (pe_slice (r := rSlL X.K) sl_list h hl hh) fun σ H Q ⟨G, env, s, P, N, L, ⟨e0, w'⟩, k, n⟩ => by
    obtain ⟨v, q, r⟩ := L.slot i _ (LEnv.at_get e0)
    have r' : v = .ref a := r
    subst r'
    refine ⟨_, q, G, env, s, _, N, L, w', fun l s1 w1 G1 H1 a1 ok1 => ?_, n⟩
    have L1 := L.step a1 ok1
    refine ⟨G1, env, s1, _, N, L1, w1, fun u s2 w2 G2 H2 a2 ok2 => ?_, n.step a1⟩
    have L2 := L1.step a2 ok2
    refine ⟨a, _, rfl, sqL_mono hS fun b o eb => L2.stp.hh b o eb (hT b), new_list L2.le L2.gF L2.ok (cut_rps (rps_ints ns) l u) (P := fun z => P z s2) w2 (fun lz v G' H' p' a ok r o => k lz s2 p' v G' H' ((a1.trans a2).trans a) ok r fun z b e => ⟨(a1.trans a2).dead (o z b e).1 (o z b e).2, (o z b e).2⟩)⟩
end
def spSrc (K : PySem.W.Frag) : Sp := fun vs H Q _ => ∃ (a : Addr) (ns : List Int), vs = [.ref a] ∧ SqL K H a (ns.map V.int) ∧ ns.length ≤ 63 ∧ ∀ H' ga gb, (∀ b o, H b = some o → H' b = some o) → (Gen ga gb).ok () H' → Q (.ref ga) H'
def edSrc (ns : List Int) : ED Unit := ⟨fun _ _ => False, fun lv _ => ∃ (t : Int) (cs : List Int), cs.length ≤ 1000 ∧ lv = .l [.lst (cs.map D.int), .int 0, .int t, .int 0], fun _ _ => False, fun _ _ => False, fun _ => noX⟩
section
variable {P : Program} {w : World} {K : PySem.W.Frag} {mg : Str → Option Value} {base : Heap} {k : Nat} {x : Str} {st : Stmt} {N : List Str} {p : Str} {cl xl : Nat → Addr} {u : Addr → List Int → WS Unit} {dls : List LV}
theorem ok_src (F : DefE K mg cl x st dls) (Sc : FnScope N [p] (defScope st)) (hu : ∀ a ns, ns.length ≤ 63 → u a ns (edSrc ns) (startN N.length [.raw (.ref a)]) ())
    (body : ∀ (cdv : Value) (A : Around) (outer : List PySem.Env) (s : Shared) (H : Hp) (E : XK) (f : Addr) (a : Addr) (ns : List Int), SqL K H a (ns.map V.int) → Room k (A.deeper (envOfC x (defScope st) s.heap.objs.size f cdv)) →
      PSs (cxOf CX0 P w K mg base N x (defScope st) f cdv A outer s H E).nox (defBody st) (ts K ⟨cl, xl, Sto.no, H, fun _ => none, fun _ _ _ _ => False⟩ (u a ns))) :
    OkE P w K mg base CX0 (k + 1) x st [p] cl dls (spSrc K) := by
  obtain ⟨f, dvs, F, hd⟩ := F.ex
  obtain ⟨fd, F1⟩ := F.ex
  refine ⟨dvs, ⟨f, fd, F1, F.mgf, F1.ok Sc (fun vs H Q E ⟨a, ns, e, _⟩ => by rw [e]; rfl) fun cdv A outer s H vs Q E hr h => ?_⟩, hd⟩
  obtain ⟨a, ns, rfl, hS, hl, q⟩ := h
  have r : RLs K cl (fun _ => none) H [.ref a] [.raw (.ref a)] := .cons rfl rfl .nil
  refine ⟨_, (body cdv A outer s H E f a ns hS hr).nox, fun _ => none, _, (), _, start_of (T := Sto.no) (fun _ _ e => by cases e) (fun _ z => False.elim z) True.intro r, hu a ns hl, ?_⟩
  refine ⟨fun G' σ' H' env' s2 _ L y => y.elim, fun lv' s2 y v G' H' st ok rl o => ?_, fun _ _ _ _ _ _ _ y => y.elim, fun _ _ _ _ _ _ _ y => y.elim, fun _ _ _ _ _ _ _ c d s' y => y.elim⟩
  obtain ⟨t, cs, hcs, rfl⟩ := y
  obtain ⟨ga, vs, rfl, n1, h1, r1⟩ := rl
  cases r1 with
  | cons r0 r1 =>
  cases r1 with
  | cons ra r1 =>
  cases r1 with
  | cons rb r1 =>
  cases r1 with
  | cons rc r1 =>
  cases r1
  cases ra
  cases rb
  cases rc
  cases r0 with
  | lst h2 h3 =>
    rename_i gb ws
    have e := h3.ints (intsOf_map cs)
    subst e
    refine q H' ga gb (fun b o e => st.hh b o e (fun z => z)) ⟨fun z => ?_, 0, t, 0, cs, h1, st.le _ _ h2, Int.le_refl 0, hcs⟩
    rw [z] at n1
    rw [n1] at h2
    cases h2
/-- the law's own promise -/
def spLawD (K : PySem.W.Frag) : Sp := fun vs H Q _ => ∃ (a : Addr) (ns : List Int), vs = [.ref a] ∧ SqL K H a (ns.map V.int) ∧ ns.length ≤ 63 ∧ ∀ H', Q (.bl true) H'
def edLaw : ED Unit := ⟨fun _ _ => False, fun lv _ => lv = .d (.bl true), fun _ _ => False, fun _ _ => False, fun _ => noX⟩
/-- the rest of the law, behind its first statement -/
theorem law_rest {X : Cx} {rest : List Stmt} {H : Hp} {v : Addr → WS Unit} (h : ∀ ga gb H' , PSs X rest (ts X.K ⟨cl, xl, Gen ga gb, H', fun _ => none, fun _ _ _ _ => False⟩ (v ga))) :
    PSs X rest (fun E σ H => ∃ ga gb, ts X.K ⟨cl, xl, Gen ga gb, H, fun _ => none, fun _ _ _ _ => False⟩ (v ga) E σ H) := ⟨fun pins s σ H E I ⟨ga, gb, q⟩ => (h ga gb H).run pins s σ H E I q⟩
theorem ok_lawD {f : Addr} {fd : FuncData} {stm : Stmt} {rest : List Stmt} {v : Addr → WS Unit} {te : TE} (F1 : FunD K x x (defArgs st) (defBody st) (defScope st) [] [] f fd) (Sc : FnScope N [p] (defScope st)) (hb : defBody st = stm :: rest)
    (hv : ∀ a ga, v ga edLaw ((startN N.length [.raw (.ref a)]).set 1 (some (.raw (.ref ga)))) ())
    (b1 : ∀ (cdv : Value) (A : Around) (outer : List PySem.Env) (s : Shared) (H : Hp) (E : XK), Room k (A.deeper (envOfC x (defScope st) s.heap.objs.size f cdv)) → PS (cxOf CX0 P w K mg base N x (defScope st) f cdv A outer s H E).nox stm (tAsg (tCall (spSrc K) [] E0 (tCons (tVar 0) tNil)) (gName 1)))
    (b2 : ∀ (cdv : Value) (A : Around) (outer : List PySem.Env) (s : Shared) (H : Hp) (E : XK) (ga gb : Addr) (H1 : Hp), Room k (A.deeper (envOfC x (defScope st) s.heap.objs.size f cdv)) →
      PSs (cxOf CX0 P w K mg base N x (defScope st) f cdv A outer s H E).nox rest (ts K ⟨cl, xl, Gen ga gb, H1, fun _ => none, fun _ _ _ _ => False⟩ (v ga))) :
    FnOk P w K mg base CX0 (k + 1) f fd [p] (spLawD K) := by
  refine F1.ok Sc (fun vs H Q E ⟨a, ns, e, _⟩ => by rw [e]; rfl) fun cdv A outer s H vs Q E hr h => ?_
  obtain ⟨a, ns, rfl, hS, hl, q⟩ := h
  refine ⟨_, (by rw [hb]; exact (pss_cons (b1 cdv A outer s H E hr) (law_rest (cl := cl) (xl := xl) (H := H) fun ga gb H1 => b2 cdv A outer s H E ga gb H1 hr)).nox), ?_⟩
  refine ⟨.ref a, rfl, a, ns, rfl, hS, hl, fun H' ga gb k1 ok => ?_⟩
  have r : RLs K cl (fun _ => none) H' [.ref a] [.raw (.ref a)] := .cons rfl rfl .nil
  have L := start_of (T := Gen ga gb) (N := N) (s := ()) (fun _ _ e => by cases e) (fun _ _ => rfl) ok r
  refine ⟨ga, gb, fun _ => none, _, (), _, L.set L.refl ok (i := 1) (v := .ref ga) (lv := .raw (.ref ga)) rfl (fun o => by cases o), hv a ga, ?_⟩
  refine ⟨fun G' σ' H' env' s2 _ L y => y.elim, fun lv' s2 y v G' H' st ok rl o => ?_, fun _ _ _ _ _ _ _ y => y.elim, fun _ _ _ _ _ _ _ y => y.elim, fun _ _ _ _ _ _ _ c d s' y => y.elim⟩
  have y' : lv' = .d (.bl true) := y
  subst y'
  cases rl
  exact q H'
end
end DL
/-! DL16: the facts of the top, each from what k_is finds. -/
namespace DL
open PySem PySem.Spec PyProof.Rows L2
section
variable {K : PySem.W.Frag} {h : Heap} {mg : Str → Option Value} {x qual : Str} {st : Stmt} {fa T a : Addr} {od an oT od2 : Option Addr} {sl sT s2 : Array (Option Value)} {oc kV dc pm cd ct cT c2 : Value} {nT n2 : Nat} {cl : Nat → Addr}
theorem dE0 (X : K.In h) (G : h.Ns mainGlobals mg) (e : PySem.W.nsIn K mainGlobals x = some (some (.ref fa))) (l : K.lookup fa = some ⟨oc, od, .func (PySem.W.fnOf x x (defArgs st) (defBody st) (defScope st) .none kV dc pm an cd ct), sl⟩)
    (c : PySem.W.codeIn K cd x = true) (k : PySem.W.keepIn K (.ref fa) = true) : DefE K mg cl x st [] :=
  ⟨fa, [], ⟨⟨_, ⟨⟨oc, od, .none, kV, dc, pm, an, cd, ct, sl, rfl, l, c, .inl ⟨rfl, rfl⟩, .inl rfl⟩, k⟩⟩, PySem.W.mg_of X G e⟩, fun _ _ => .nil⟩
theorem dE1 {its : List Value} {dls : List LV} (X : K.In h) (G : h.Ns mainGlobals mg) (e : PySem.W.nsIn K mainGlobals x = some (some (.ref fa))) (l : K.lookup fa = some ⟨oc, od, .func (PySem.W.fnOf x x (defArgs st) (defBody st) (defScope st) (.ref T) kV dc pm an cd ct), sl⟩)
    (c : PySem.W.codeIn K cd x = true) (k : PySem.W.keepIn K (.ref fa) = true) (t : K.lookup T = some ⟨cT, oT, .seq its.toArray nT, sT⟩) (r : ∃ dvs, dvs ≠ [] ∧ Vals dvs its ∧ ∀ G H, RLs K cl G H dvs dls) : DefE K mg cl x st dls := by
  obtain ⟨dvs, h0, h1, h2⟩ := r
  exact ⟨fa, dvs, ⟨⟨_, ⟨⟨oc, od, .ref T, kV, dc, pm, an, cd, ct, sl, rfl, l, c, .inr ⟨h0, T, _, its, nT, rfl, t, rfl, h1⟩, .inl rfl⟩, k⟩⟩, PySem.W.mg_of X G e⟩, h2⟩
theorem sqT_nil (l : K.lookup a = some ⟨.type "tuple", od2, .seq ([] : List Value).toArray n2, s2⟩) : SqT K (fun _ => none) a [] := .inr ⟨_, _, _, l, rfl, rfl, Nat.zero_le _, .nil⟩
theorem gcI {i : Int} {t : Tok} (X : K.In h) (G : h.Ns mainGlobals mg) (e : PySem.W.nsIn K mainGlobals x = some (some (.int i t))) : Gc K mg x cl (.int i) := ⟨.int i, .int i t, PySem.W.mg_of X G e, ⟨t, rfl⟩, fun _ => .int i⟩
theorem gcS {i : Str} {t : Tok} (X : K.In h) (G : h.Ns mainGlobals mg) (e : PySem.W.nsIn K mainGlobals x = some (some (.str i t))) : Gc K mg x cl (.str i) := ⟨.str i, .str i t, PySem.W.mg_of X G e, ⟨t, rfl⟩, fun _ => .str i⟩
theorem gcT {its : List Value} {ds : List D} (X : K.In h) (G : h.Ns mainGlobals mg) (e : PySem.W.nsIn K mainGlobals x = some (some (.ref a))) (l : K.lookup a = some ⟨.type "tuple", od2, .seq its.toArray n2, s2⟩) (hl : its.length ≤ 1000) (r : ∃ vs, Vals vs its ∧ ∀ G, Rps K cl G vs ds) : Gc K mg x cl (.tupK ds) := by
  obtain ⟨vs, h1, h2⟩ := r
  exact ⟨.ref a, .ref a, PySem.W.mg_of X G e, rfl, fun G => .tupK (.inr ⟨_, _, _, l, rfl, rfl, small_line (by rw [List.size_toArray]; exact hl), h1⟩) (h2 G)⟩
theorem keys_find {ws : List Str} : ∀ {es : List DictEntry}, Paired (fun (e : DictEntry) (w : Str) => ∃ t, e.key = .str w t) es ws → ∀ z, ∃ r, (match es.find? (·.key.isStr z) with | some e => some (some e.val) | none => if es.any (·.refKey) then none else some none) = some r ∧ r.isSome = decide (z ∈ ws)
  | _, .nil, z => ⟨none, rfl, by simp⟩
  | _, .cons (a := e) (b := w) ⟨t, he⟩ p, z => by
    obtain ⟨r, h1, h2⟩ := keys_find p z
    by_cases hz : z = w
    · subst hz
      refine ⟨some e.val, ?_, by simp⟩
      have : e.key.isStr z = true := by rw [he]; simp [Value.isStr]
      rw [List.find?_cons, this]
    · refine ⟨r, ?_, by rw [h2]; simp [hz]⟩
      have q : e.key.isStr z = false := by rw [he]; simp [Value.isStr]; intro q; exact hz q.symm
      have q2 : e.refKey = false := by unfold DictEntry.refKey; rw [he]
      rw [List.find?_cons, q, List.any_cons, q2, Bool.false_or]
      exact h1
theorem kwE {w : World} {d : Addr} {es : List DictEntry} {n : Nat} {ws : List Str} (X : K.In h) (G : h.Ns mainGlobals mg) (e : PySem.W.nsIn K mainGlobals x = some (some (.ref d))) (l : K.lookup d = some ⟨.type "dict", none, .dict es.toArray n, #[]⟩) (low : (d == sysModules) = false)
    (lit : PySem.W.KeysLit w.params es) (p : Paired (fun (e : DictEntry) (w : Str) => ∃ t, e.key = .str w t) es ws) : KWE K w mg x ws :=
  ⟨d, PySem.W.mg_of X G e, ⟨⟨_, n, l, lit, low⟩, fun z => by unfold PySem.W.nsIn; rw [l]; exact keys_find p z⟩⟩
/-! classes -/
theorem kit_to {C : Addr} {t : String} {b : Bool} (hm : PySem.W.kitMeta t = true) (s : PySem.W.subIn K (.ref C) (.type t) = some b) : PySem.W.kitOne K (.ref C) (.type t) = some b := by
  unfold PySem.W.kitOne
  rw [if_neg (by simp)]
  show (if PySem.W.kitMeta t = true then PySem.W.subIn K (.ref C) (.type t) else none) = _
  rw [if_pos hm]; exact s
theorem kit_of {C : Addr} {t : Value} {b : Bool} (hn : (t == .ref C) = false) (i : PySem.W.isClsIn K C = true) (ty : PySem.W.typeIn K (.ref C) = some (.type "type")) (s : PySem.W.subIn K t (.ref C) = some b) : PySem.W.kitOne K t (.ref C) = some b := by
  unfold PySem.W.kitOne
  rw [if_neg (by rw [hn]; exact Bool.false_ne_true)]
  have e2 : ((PySem.W.clsIn K C).isSome && PySem.W.typeIn K (.ref C) == some (.type "type")) = true := by
    have h2' : (PySem.W.clsIn K C).isSome = true := i
    rw [h2', ty] <;> rfl
  show (if ((PySem.W.clsIn K C).isSome && PySem.W.typeIn K (.ref C) == some (.type "type")) = true then PySem.W.subIn K t (.ref C) else none) = _
  rw [if_pos e2]; exact s
theorem kit_self {C : Addr} : PySem.W.kitOne K (.ref C) (.ref C) = some true := by
  unfold PySem.W.kitOne
  rw [if_pos (by simp)]
theorem exm_of {A C : Addr} {b : Bool} (h1 : PySem.W.subIn K (.ref C) (.type "BaseException") = some true) (i : PySem.W.isClsIn K C = true) (ty : PySem.W.typeIn K (.ref C) = some (.type "type")) (s : PySem.W.subIn K (.ref A) (.ref C) = some b) : PySem.W.exmOne K (.ref A) (.ref C) = some b := by
  unfold PySem.W.exmOne
  rw [if_pos (by rw [h1] <;> rfl)]
  have e2 : ((PySem.W.clsIn K C).isSome && PySem.W.typeIn K (.ref C) == some (.type "type")) = true := by
    have h2' : (PySem.W.clsIn K C).isSome = true := i
    rw [h2', ty] <;> rfl
  show (if ((PySem.W.clsIn K C).isSome && PySem.W.typeIn K (.ref C) == some (.type "type")) = true then PySem.W.subIn K (.ref A) (.ref C) else none) = _
  rw [if_pos e2]; exact s
theorem clsOk_of {C : Addr} (c : Cls K C) (ha : PySem.W.findIn K (.ref C) "__class__" = some (some (.builtin "object.__class__"))) (hn : PySem.W.specialIn K (.builtin "object.__class__") "__get__" = some (some (.builtin "getset_descriptor.__get__")))
    (htk : PySem.W.takesIn K (.builtin "object.__class__") = some true) (hm : PySem.W.mroIn K C (.type "object") = some true) (i : PySem.W.isClsIn K C = true) (ty : PySem.W.typeIn K (.ref C) = some (.type "type"))
    (o1 : PySem.W.subIn K (.ref C) (.type "int") = some false) (o2 : PySem.W.subIn K (.ref C) (.type "bool") = some false) (o3 : PySem.W.subIn K (.ref C) (.type "str") = some false) (o4 : PySem.W.subIn K (.ref C) (.type "tuple") = some false) (o5 : PySem.W.subIn K (.ref C) (.type "list") = some false) (o6 : PySem.W.subIn K (.ref C) (.type "dict") = some false)
    (i1 : PySem.W.subIn K (.type "int") (.ref C) = some false) (i2 : PySem.W.subIn K (.type "bool") (.ref C) = some false) (i3 : PySem.W.subIn K (.type "str") (.ref C) = some false) (i4 : PySem.W.subIn K (.type "tuple") (.ref C) = some false) (i5 : PySem.W.subIn K (.type "list") (.ref C) = some false) (i6 : PySem.W.subIn K (.type "dict") (.ref C) = some false)
    (i7 : PySem.W.subIn K (.type "NoneType") (.ref C) = some false) : ClsOk K C where
  ins := ⟨c, ha, hn, htk, hm⟩
  out := fun T => by cases T <;> exact kit_to (by decide +kernel) (by assumption)
  inn := fun T => by cases T <;> exact kit_of rfl i ty (by assumption)
  non := kit_of rfl i ty i7
theorem oexC_of {C N : Addr} {nm q : Str} {bs bm : List Value} {sn : List Str} {sub : List Value} {ab : Bool} {col : Option Bool} {dd : Option Addr} {k0 k1 k2 k3 k5 : Option Value} {fI : Addr}
    (l : K.lookup C = some (excClassObj nm q C N bs bm true sn sub ab col dd k0 k1 k2 k3 k5 "ValueError.__new__")) (r : PySem.HandSPX.refsVE bm = true) (sa : PySem.W.findIn K (.ref C) "__setattr__" = some (some (.builtin "object.__setattr__")))
    (e : PySem.W.subIn K (.ref C) (.type "BaseException") = some true) (t : PySem.W.typeIn K (.ref C) = some (.type "type")) (k : PySem.W.keepIn K (.ref C) = true) (iC : PySem.W.findIn K (.ref C) "__init__" = some (some (.ref fI))) (no : PySem.W.findIn K (.ref C) "what" = some none)
    (ga : PySem.W.findIn K (.ref C) "__getattribute__" = some (some (.builtin "BaseException.__getattribute__"))) (gg : PySem.W.findIn K (.ref C) "__getattr__" = some none) (hd : PySem.W.hasDictIn K C = true) : ExC K C fI :=
  ⟨⟨⟨_, _, _, _, _, _, _, _, _, _, _, _, _, _, _, l, r⟩, sa, e, t, k⟩, iC, no, ga, gg, hd⟩
/-- the function of a method -/
theorem fD0 {f : Addr} (l : K.lookup f = some ⟨oc, od, .func (PySem.W.fnOf x qual (defArgs st) (defBody st) (defScope st) .none kV dc pm an cd ct), sl⟩) (c : PySem.W.codeIn K cd qual = true) (k : PySem.W.keepIn K (.ref f) = true) : ∃ fd, FunD K x qual (defArgs st) (defBody st) (defScope st) [] [] f fd :=
  ⟨_, ⟨⟨oc, od, .none, kV, dc, pm, an, cd, ct, sl, rfl, l, c, .inl ⟨rfl, rfl⟩, .inl rfl⟩, k⟩⟩
theorem fD1 {f : Addr} {its : List Value} {dvs : List V} (l : K.lookup f = some ⟨oc, od, .func (PySem.W.fnOf x qual (defArgs st) (defBody st) (defScope st) (.ref T) kV dc pm an cd ct), sl⟩) (c : PySem.W.codeIn K cd qual = true) (k : PySem.W.keepIn K (.ref f) = true)
    (t : K.lookup T = some ⟨cT, oT, .seq its.toArray nT, sT⟩) (h0 : dvs ≠ []) (h1 : Vals dvs its) : ∃ fd, FunD K x qual (defArgs st) (defBody st) (defScope st) dvs [] f fd :=
  ⟨_, ⟨⟨oc, od, .ref T, kV, dc, pm, an, cd, ct, sl, rfl, l, c, .inr ⟨h0, T, _, its, nT, rfl, t, rfl, h1⟩, .inl rfl⟩, k⟩⟩
end
end DL
/-! DL17: loops of readings, once for all. -/
namespace DL
open PySem PySem.Spec PyProof.Rows L2
inductive Go (σ : Type) where
  | go (a : σ) | ret (v : LV) | brk (a : σ)
def foldGo {σ : Type} (f : D → σ → Go σ) : List D → σ → Go σ
  | [], a => .go a
  | x :: r, a => match f x a with
    | .go a' => foldGo f r a'
    | .ret v => .ret v
    | .brk a' => .brk a'
def Go.fin {σ : Type} (R : σ → Prop) (rt : LV → Prop) : Go σ → Prop
  | .go a => R a
  | .ret v => rt v
  | .brk a => R a
/-- a loop that computes; Inv: what is left to walk, the state, the names -/
theorem wGo_go {S σ : Type} {t : WG} {b : WS S} {M : ED S} {s : S} (f : D → σ → Go σ) (Inv : List D → σ → LEnv → Prop) (R : σ → Prop) (hR : ∀ a env, Inv [] a env → M.nx env s = R a)
    (h : ∀ x r a env, Inv (x :: r) a env → ∀ (k : LEnv → S → Prop) (W : σ → Prop), (∀ a' env', Inv r a' env' → k env' s = W a') → (t x env fun env' => b { M with nx := k, ct := k, bk := M.nx } env' s) = (match f x a with | .go a' => W a' | .ret v => M.rt v s | .brk a' => R a')) :
    ∀ (xs : List D) (a : σ) (env : LEnv), Inv xs a env → wGo t b M xs env s = (foldGo f xs a).fin R (fun v => M.rt v s)
  | [], a, env, hi => hR a env hi
  | x :: r, a, env, hi => by
    refine (h x r a env hi (wGo t b M r) (fun a' => (foldGo f r a').fin R (fun v => M.rt v s)) fun a' env' hi' => wGo_go f Inv R hR h r a' env' hi').trans ?_
    have e : foldGo f (x :: r) a = (match f x a with | .go a' => foldGo f r a' | .ret v => .ret v | .brk a' => .brk a') := rfl
    rw [e]
    cases f x a <;> rfl
/-- the same over enumerate -/
def foldE {σ : Type} (f : Nat → D → σ → Go σ) : Nat → List D → σ → Go σ
  | _, [], a => .go a
  | j, x :: r, a => match f j x a with
    | .go a' => foldE f (j + 1) r a'
    | .ret v => .ret v
    | .brk a' => .brk a'
theorem wGo_enum {S σ : Type} {t : WG} {b : WS S} {M : ED S} {s : S} (f : Nat → D → σ → Go σ) (Inv : Nat → List D → σ → LEnv → Prop) (R : σ → Prop) (hR : ∀ j a env, Inv j [] a env → M.nx env s = R a)
    (h : ∀ j x r a env, Inv j (x :: r) a env → ∀ (k : LEnv → S → Prop) (W : σ → Prop), (∀ a' env', Inv (j + 1) r a' env' → k env' s = W a') → (t (.tup [.int (j : Nat), x]) env fun env' => b { M with nx := k, ct := k, bk := M.nx } env' s) = (match f j x a with | .go a' => W a' | .ret v => M.rt v s | .brk a' => R a')) :
    ∀ (xs : List D) (j : Nat) (a : σ) (env : LEnv), Inv j xs a env → wGo t b M (enumD j xs) env s = (foldE f j xs a).fin R (fun v => M.rt v s)
  | [], j, a, env, hi => hR j a env hi
  | x :: r, j, a, env, hi => by
    refine (h j x r a env hi (wGo t b M (enumD (j + 1) r)) (fun a' => (foldE f (j + 1) r a').fin R (fun v => M.rt v s)) fun a' env' hi' => wGo_enum f Inv R hR h r (j + 1) a' env' hi').trans ?_
    have e : foldE f j (x :: r) a = (match f j x a with | .go a' => foldE f (j + 1) r a' | .ret v => .ret v | .brk a' => .brk a') := rfl
    rw [e]
    cases f j x a <;> rfl
/-- a loop that only keeps something -/
theorem wGo_inv {S : Type} {t : WG} {b : WS S} {M : ED S} {s : S} (Inv : List D → LEnv → Prop) (hR : ∀ env, Inv [] env → M.nx env s)
    (h : ∀ x r env, Inv (x :: r) env → ∀ k : LEnv → S → Prop, (∀ env', Inv r env' → k env' s) → t x env fun env' => b { M with nx := k, ct := k, bk := M.nx } env' s) :
    ∀ (xs : List D) (env : LEnv), Inv xs env → wGo t b M xs env s
  | [], env, hi => hR env hi
  | x :: r, env, hi => h x r env hi (wGo t b M r) fun env' hi' => wGo_inv Inv hR h r env' hi'
/-- a comprehension -/
theorem wLc_map {S : Type} {t : WG} {te : WT S} {w : W S} {envw : LEnv} {P : LV → S → Prop} {s : S} (f : D → D) :
    ∀ (xs acc : List D), (∀ x ∈ xs, ∃ env', (∀ K : LEnv → Prop, t x envw K = K env') ∧ (∀ P N, te env' s P N = P true s) ∧ ∀ P N, w env' s P N = P (.d (f x)) s) → wLcGo t te w envw P xs acc s = P (.l (acc ++ xs.map f)) s
  | [], acc, _ => by rw [List.map_nil, List.append_nil]; rfl
  | x :: r, acc, h => by
    obtain ⟨env', h1, h2, h3⟩ := h x List.mem_cons_self
    have ih := wLc_map (P := P) f r (acc ++ [f x]) fun y hy => h y (List.mem_cons_of_mem _ hy)
    unfold wLcGo
    rw [h1, h2, if_pos rfl, h3]
    show wLcGo t te w envw P r (acc ++ [f x]) s = _
    rw [ih, List.append_assoc]
    rfl
theorem wLc_if {S : Type} {t : WG} {te : WT S} {w : W S} {envw : LEnv} {P : LV → S → Prop} {s : S} (g : D → Bool) (f : D → D) :
    ∀ (xs acc : List D), (∀ x ∈ xs, ∃ env', (∀ K : LEnv → Prop, t x envw K = K env') ∧ (∀ P N, te env' s P N = P (g x) s) ∧ ∀ P N, w env' s P N = P (.d (f x)) s) → wLcGo t te w envw P xs acc s = P (.l (acc ++ (xs.filter g).map f)) s
  | [], acc, _ => by rw [List.filter_nil, List.map_nil, List.append_nil]; rfl
  | x :: r, acc, h => by
    obtain ⟨env', h1, h2, h3⟩ := h x List.mem_cons_self
    unfold wLcGo
    rw [h1, h2]
    cases hg : g x with
    | true =>
      have ih := wLc_if (P := P) g f r (acc ++ [f x]) fun y hy => h y (List.mem_cons_of_mem _ hy)
      rw [if_pos rfl, h3]
      show wLcGo t te w envw P r (acc ++ [f x]) s = _
      rw [ih, List.append_assoc, List.filter_cons_of_pos hg]
      rfl
    | false =>
      have ih := wLc_if (P := P) g f r acc fun y hy => h y (List.mem_cons_of_mem _ hy)
      rw [if_neg Bool.false_ne_true, ih, List.filter_cons_of_neg (by rw [hg]; exact Bool.false_ne_true)]
/-- a comprehension whose items are only known to be of some kind -/
theorem wLc_any {t : WG} {te : WT Unit} {w : W Unit} {envw : LEnv} {P : LV → Unit → Prop} (Q : D → Prop) :
    ∀ (xs acc : List D), (∀ x ∈ xs, ∃ env', (∀ K : LEnv → Prop, t x envw K = K env') ∧ (∀ P N, te env' () P N = P true ()) ∧ ∀ (P : LV → Unit → Prop) N, (∀ y lv, lv.fz = .d y → Q y → P lv ()) → w env' () P N) →
      (∀ ys, ys.length = xs.length → (∀ y ∈ ys, Q y) → P (.l (acc ++ ys)) ()) → wLcGo t te w envw P xs acc ()
  | [], acc, _, k => by
    have := k [] rfl (fun y hy => by cases hy)
    rw [List.append_nil] at this
    exact this
  | x :: r, acc, h, k => by
    obtain ⟨env', h1, h2, h3⟩ := h x List.mem_cons_self
    unfold wLcGo
    rw [h1, h2, if_pos rfl]
    refine h3 _ _ fun y lv e q => ?_
    rw [e]
    refine wLc_any Q r (acc ++ [y]) (fun z hz => h z (List.mem_cons_of_mem _ hz)) fun ys hl hq => ?_
    rw [List.append_assoc]
    exact k (y :: ys) (by simp [hl]) fun z hz => by
      rcases List.mem_cons.mp hz with e | e
      · rw [e]; exact q
      · exact hq z e
/-- a range, one by one -/
def rngL : Int → Nat → List D
  | _, 0 => []
  | i, n + 1 => .int i :: rngL (i + 1) n
theorem rngD_eq : ∀ (n : Nat) (lo : Int), rngD lo n = rngL lo n
  | 0, _ => rfl
  | n + 1, lo => by
    show rngD lo (n + 1) = .int lo :: rngL (lo + 1) n
    rw [← rngD_eq n (lo + 1)]
    unfold rngD
    rw [List.range_succ_eq_map, List.map_cons, List.map_map]
    refine congr (congrArg _ ?_) (List.map_congr_left fun i _ => ?_)
    · simp
    · show D.int (lo + ((i + 1 : Nat) : Int)) = D.int (lo + 1 + (i : Int))
      rw [Int.natCast_add]
      congr 1
      omega
/-- an item of a list with what is ahead of it -/
theorem atI_mid {α : Type} (pre : List α) (b : α) (r : List α) : atI (pre ++ b :: r) (pre.length : Int) = some b := by
  have h : ixN (pre ++ b :: r).length (pre.length : Int) = some pre.length := by
    unfold ixN
    simp
    omega
  unfold atI
  rw [h]
  simp
theorem atI_mem {α : Type} {xs : List α} {i : Int} (h0 : 0 ≤ i) (h1 : i < xs.length) : ∃ z ∈ xs, atI xs i = some z := by
  obtain ⟨n, rfl⟩ := Int.eq_ofNat_of_zero_le h0
  have hn : n < xs.length := by omega
  have e := atI_mid (xs.take n) xs[n] (xs.drop (n + 1))
  rw [List.length_take, Nat.min_eq_left (Nat.le_of_lt hn), ← List.drop_eq_getElem_cons hn, List.take_append_drop] at e
  exact ⟨xs[n], List.getElem_mem hn, e⟩
/-- a loop over range(len(xs)) goes along xs -/
theorem wGo_along {S σ : Type} {t : WG} {b : WS S} {M : ED S} {s : S} (f : Nat → D → σ → Go σ) (xs : List D) (Inv : Nat → List D → σ → LEnv → Prop) (R : σ → Prop) (hR : ∀ j a env, Inv j [] a env → M.nx env s = R a)
    (h : ∀ j x r a env, atI xs (j : Nat) = some x → Inv j (x :: r) a env → ∀ (k : LEnv → S → Prop) (W : σ → Prop), (∀ a' env', Inv (j + 1) r a' env' → k env' s = W a') → (t (.int (j : Nat)) env fun env' => b { M with nx := k, ct := k, bk := M.nx } env' s) = (match f j x a with | .go a' => W a' | .ret v => M.rt v s | .brk a' => R a')) :
    ∀ (r pre : List D) (a : σ) (env : LEnv), pre ++ r = xs → Inv pre.length r a env → wGo t b M (rngL pre.length r.length) env s = (foldE f pre.length r a).fin R (fun v => M.rt v s)
  | [], pre, a, env, _, hi => hR pre.length a env hi
  | x :: r, pre, a, env, e, hi => by
    have hat : atI xs (pre.length : Nat) = some x := by rw [← e]; exact atI_mid pre x r
    have ih := fun a' env' hi' => wGo_along f xs Inv R hR h r (pre ++ [x]) a' env' (by rw [List.append_assoc]; exact e) hi'
    have hl : (pre ++ [x]).length = pre.length + 1 := by simp
    rw [hl] at ih
    have hc : ((pre.length + 1 : Nat) : Int) = (pre.length : Int) + 1 := by omega
    rw [hc] at ih
    refine (h pre.length x r a env hat hi (wGo t b M (rngL ((pre.length : Int) + 1) r.length)) (fun a' => (foldE f (pre.length + 1) r a').fin R (fun v => M.rt v s)) fun a' env' hi' => ih a' env' hi').trans ?_
    have e2 : foldE f pre.length (x :: r) a = (match f pre.length x a with | .go a' => foldE f (pre.length + 1) r a' | .ret v => .ret v | .brk a' => .brk a') := rfl
    rw [e2]
    cases f pre.length x a <;> rfl
/-- one step of a body -/
theorem seq_if {S : Type} {t : WT S} {u v : WS S} {M : ED S} {env : LEnv} {s : S} (b : Bool) (h : ∀ P N, t env s P N = P b s) : wSeq (wIfS t u wNx) v M env s = if b = true then u { M with nx := v M } env s else v M env s := by
  show t env s (fun k s1 => if k = true then u { M with nx := v M } env s1 else v M env s1) _ = _
  rw [h]
theorem seq_no {S : Type} {t : WT S} {u v : WS S} {M : ED S} {env : LEnv} {s : S} (h : ∀ P N, t env s P N = P false s) : wSeq (wIfS t u wNx) v M env s = v M env s := by
  rw [seq_if false h, if_neg Bool.false_ne_true]
theorem seq_yes {S : Type} {t : WT S} {u v : WS S} {M : ED S} {env : LEnv} {s : S} (h : ∀ P N, t env s P N = P true s) : wSeq (wIfS t u wNx) v M env s = u { M with nx := v M } env s := by
  rw [seq_if true h, if_pos rfl]
theorem seq_set {S : Type} {i : Nat} {w : W S} {v : WS S} {M : ED S} {env : LEnv} {s : S} (lv : LV) (h : ∀ P N, w env s P N = P lv s) : wSeq (wSet i w) v M env s = v M (env.set i (some lv)) s := by
  show w env s (fun lv s1 => v M (env.set i (some lv)) s1) _ = _
  rw [h]
theorem foldGo_cons {σ : Type} (f : D → σ → Go σ) (x : D) (r : List D) (a : σ) : foldGo f (x :: r) a = (match f x a with | .go a' => foldGo f r a' | .ret v => .ret v | .brk a' => .brk a') := rfl
theorem foldE_cons {σ : Type} (f : Nat → D → σ → Go σ) (j : Nat) (x : D) (r : List D) (a : σ) : foldE f j (x :: r) a = (match f j x a with | .go a' => foldE f (j + 1) r a' | .ret v => .ret v | .brk a' => .brk a') := rfl
theorem foldGo_all (g : D → Bool) (v : LV) : ∀ xs : List D, foldGo (fun x (a : Unit) => if g x = true then Go.go a else .ret v) xs () = if xs.all g = true then .go () else .ret v
  | [] => rfl
  | x :: r => by
    rw [foldGo_cons, List.all_cons]
    cases h : g x
    · simp
    · simp [foldGo_all g v r]
end DL
/-! DL18: draws in readings. -/
namespace DL
open PySem PySem.Spec PyProof.Rows L2
theorem draw_ok {ga : Addr} {many : Int} {P : LV → Unit → Prop} {N : Nat → D → Unit → Prop} (hm : 0 < many) (hl : many.natAbs.log2 < 9000) (h : ∀ r : Int, 0 ≤ r → r < many → P (.d (.int r)) ()) : mDraw ga [.raw (.ref ga), .d (.int many)] () P N := ⟨many, rfl, hm, hl, h⟩
theorem w_draw {ga : Addr} {j : Nat} {many : Int} {env : LEnv} {P : LV → Unit → Prop} {N : Nat → D → Unit → Prop} (he : env.at j = some (.raw (.ref ga))) (hm : 0 < many) (hl : many.natAbs.log2 < 9000) (h : ∀ r : Int, 0 ≤ r → r < many → P (.d (.int r)) ()) :
    wCl (mDraw ga) [] (wCons (wV j) (wCons (wC (.int many)) wNil)) env () P N := by
  simp only [wCl, wCons, wV, wC, wNil, he, LV.fz, List.append_nil]
  exact ⟨many, rfl, hm, hl, h⟩
theorem set_draw {ga : Addr} {i j : Nat} {many : Int} {v : WS Unit} {M : ED Unit} {env : LEnv} (he : env.at j = some (.raw (.ref ga))) (hm : 0 < many) (hl : many.natAbs.log2 < 9000) (h : ∀ r : Int, 0 ≤ r → r < many → v M (env.set i (some (.d (.int r)))) ()) :
    wSeq (wSet i (wCl (mDraw ga) [] (wCons (wV j) (wCons (wC (.int many)) wNil)))) v M env () := w_draw he hm hl h
theorem putKs_len (ks : List Key) (k : Key) : (putKs ks k).length ≤ ks.length + 1 := by
  unfold putKs
  split <;> simp
theorem setAt_mem {α : Type} {κ : Type} [DecidableEq κ] : ∀ (ks : List κ) (xs : List α) (k : κ) (y z : α), z ∈ setAtK ks xs k y → z = y ∨ z ∈ xs
  | [], [], _, _, _, h => by cases h
  | [], _ :: _, _, _, _, h => by cases h
  | _ :: _, [], _, _, _, h => by cases h
  | k0 :: ks, x :: xs, k, y, z, h => by
    unfold setAtK at h
    rcases List.mem_cons.mp h with e | e
    · split at e
      · exact .inl e
      · exact .inr (by rw [e]; exact List.mem_cons_self)
    · rcases setAt_mem ks xs k y z e with q | q
      · exact .inl q
      · exact .inr (List.mem_cons_of_mem _ q)
theorem putXs_mem {α : Type} {κ : Type} [DecidableEq κ] (ks : List κ) (xs : List α) (k : κ) (y z : α) (h : z ∈ putXs ks xs k y) : z = y ∨ z ∈ xs := by
  unfold putXs at h
  split at h
  · exact setAt_mem ks xs k y z h
  · rcases List.mem_append.mp h with e | e
    · exact .inr e
    · exact .inl (List.mem_singleton.mp e)
theorem cutL_mem {α : Type} {xs : List α} {lo hi : Option Int} {z : α} (h : z ∈ cutL xs lo hi) : z ∈ xs := List.mem_of_mem_drop (List.mem_of_mem_take h)
theorem rngL_len : ∀ (n : Nat) (i : Int), (rngL i n).length = n
  | 0, _ => rfl
  | n + 1, i => by
    show (rngL (i + 1) n).length + 1 = n + 1
    rw [rngL_len n]
end DL
/-! DL19: methods of own classes. -/
namespace DL
open PySem PySem.Spec PyProof.Rows L2
/-- a method that may be called -/
structure MetL (P : Program) (w : World) (K : PySem.W.Frag) (mg : Str → Option Value) (base : Heap) (CX : CXT) (k : Nat) (C : Addr) (m : Str) (cl : Nat → Addr) (sp : Sp) (dls : List LV) : Prop where
  ex : ∃ f fd ps ds dvs, Cls K C ∧ Meth K C m f ∧ FnOk P w K mg base CX k f fd ps sp ∧ Binds K fd ps ds ∧ Vals dvs ds ∧ ∀ G H, RLs K cl G H dvs dls
section
variable {P : Program} {w : World} {K : PySem.W.Frag} {mg : Str → Option Value} {base : Heap} {k : Nat} {st : Stmt} {ps N : List Str} {cl xl : Nat → Addr} {qual m : Str} {dls dflt : List LV} {C : Addr} {S : Type} {T : Sto S} {u : WS S}
theorem metE (F : DefM K C m qual st cl dflt) (hc : Cls K C) (Sc : FnScope N ps (defScope st))
    (hb : ∀ fd dvs f, FunD K m qual (defArgs st) (defBody st) (defScope st) dvs [] f fd → (∀ G H, RLs K cl G H dvs dflt) → ∃ ds dvs2, Vals dvs2 ds ∧ Binds K fd ps ds ∧ ∀ G H, RLs K cl G H dvs2 dls)
    (body : ∀ (cdv : Value) (A : Around) (outer : List PySem.Env) (s : Shared) (H : Hp) (E : XK) (G : Hp) (f : Addr), Room k (A.deeper (envOfC qual (defScope st) s.heap.objs.size f cdv)) →
      PSs (cxOf CX0 P w K mg base N qual (defScope st) f cdv A outer s H E).nox (defBody st) (ts K ⟨cl, xl, T, H, G, fun _ _ _ _ => False⟩ u)) :
    MetL P w K mg base CX0 (k + 1) C m cl (spW K cl xl T (mk0 ps.length N.length u)) dls := by
  obtain ⟨f, fd, dvs, F1, hd, hf, hi⟩ := F.ex
  obtain ⟨ds, dvs2, e1, e2, e3⟩ := hb fd dvs f F1 hd
  refine ⟨f, fd, ps, ds, dvs2, hc, ⟨hf, hi, F1.kp⟩, F1.ok Sc (fun vs H Q E ⟨G, lvs, s, P, N, _, r, z, _⟩ => r.length.trans z.1) fun cdv A outer s H vs Q E hr h => ?_, e2, e1, e3⟩
  obtain ⟨G, lvs, s', P, N', ⟨le, gF, ok⟩, r, ⟨hl, z⟩, kQ, kE⟩ := h
  refine ⟨_, (body cdv A outer s H E G f hr).nox, G, _, s', _, start_of le gF ok r, z, ?_⟩
  exact ⟨fun G' σ' H' env' s2 _ L y => kQ _ s2 y .non G' H' L.stp L.ok Rp.non (fun o => by cases o), fun lv' s2 y v G' H' a ok rl o => kQ lv' s2 y v G' H' a ok rl o, fun _ _ _ _ _ _ _ y => y.elim, fun _ _ _ _ _ _ _ y => y.elim, fun _ _ _ _ _ _ _ c d s' y => y.elim⟩
theorem metXE (F : DefM K C m qual st cl dflt) (hc : Cls K C) (Sc : FnScope N ps (defScope st))
    (hb : ∀ fd dvs f, FunD K m qual (defArgs st) (defBody st) (defScope st) dvs [] f fd → (∀ G H, RLs K cl G H dvs dflt) → ∃ ds dvs2, Vals dvs2 ds ∧ Binds K fd ps ds ∧ ∀ G H, RLs K cl G H dvs2 dls)
    (body : ∀ (cdv : Value) (A : Around) (outer : List PySem.Env) (s : Shared) (H : Hp) (E : XK) (G : Hp) (f : Addr), Room k (A.deeper (envOfC qual (defScope st) s.heap.objs.size f cdv)) →
      PSs (cxOf (L2.CX P w) P w K mg base N qual (defScope st) f cdv A outer s H E) (defBody st) (ts K ⟨cl, xl, T, H, G, fun cls d _ H => E cls d H⟩ u)) :
    MetL P w K mg base (L2.CX P w) (k + 1) C m cl (spW K cl xl T (mkX ps.length N.length u)) dls := by
  obtain ⟨f, fd, dvs, F1, hd, hf, hi⟩ := F.ex
  obtain ⟨ds, dvs2, e1, e2, e3⟩ := hb fd dvs f F1 hd
  refine ⟨f, fd, ps, ds, dvs2, hc, ⟨hf, hi, F1.kp⟩, F1.ok Sc (fun vs H Q E ⟨G, lvs, s, P, N, _, r, z, _⟩ => r.length.trans z.1) fun cdv A outer s H vs Q E hr h => ?_, e2, e1, e3⟩
  obtain ⟨G, lvs, s', P, N', ⟨le, gF, ok⟩, r, ⟨hl, z⟩, kQ, kE⟩ := h
  refine ⟨_, body cdv A outer s H E G f hr, G, _, s', _, start_of le gF ok r, z, ?_⟩
  exact ⟨fun G' σ' H' env' s2 _ L y => kQ _ s2 y .non G' H' L.stp L.ok Rp.non (fun o => by cases o), fun lv' s2 y v G' H' a ok rl o => kQ lv' s2 y v G' H' a ok rl o, fun _ _ _ _ _ _ _ y => y.elim, fun _ _ _ _ _ _ _ y => y.elim,
    fun _ _ _ _ _ _ L c d s2 y G' H' dd v a ok e r => kE c d s2 y G' H' dd v (L.stp.trans a) ok e r⟩
end
section
variable {X : Cx} {CX : CXT} {k : Nat} {f C : Addr} {fd : FuncData} {ps : List Str} {sp : Sp} {dvs : List V} {ds : List Value} {E : L2.St → XK} {m : Str} {pos apos : Pos} {o e : Expr} {es : List Expr} {ta : TE} {t : TA}
def tMethS (C : Addr) (m : Str) (sp : Sp) (dvs : List V) (E : L2.St → XK) (ta : TE) (t : TA) : TE := fun σ H Q => ta σ H fun x H1 => ∃ a dx fs, x = .ref a ∧ H1 a = some (.ins C dx fs) ∧ fs.lookup m = none ∧
  t σ H1 fun vs H2 => sp (x :: (vs ++ dvs)) H2 Q (E σ)
theorem pe_methS {pl : Sem Bool} (he : PE X o ta) (c : Cls X.K C) (hm : Meth X.K C m f) (F : FnOk X.prog X.w X.K X.mg X.base CX k f fd ps sp) (hr : Room k X.A) (hb : L2.Binds X.K fd ps ds) (hd : Vals dvs ds) (hx : ∀ σ, PassesAt CX X σ (E σ)) (ha : PA X (e :: es) t)
    (hst : starEach (e :: es) X.env = (false, eval e X.env) :: starEach es X.env := by rfl) (hpl : (backTo pos (starEach es X.env)).any (·.1) = false := by rfl)
    (ht : eval (.Call (.Attribute o m apos) (e :: es) [] pos) X.env = (do
      let ov ← eval o X.env
      standAt apos.atName
      let (f, first) ← holding [ov] (getMethod ov m pl)
      callWith pos f first (backTo pos (starEach (e :: es) X.env)) (backToKw pos (keywordEach [] X.env))) := by rfl) :
    PE X (.Call (.Attribute o m apos) (e :: es) [] pos) (tMethS C m sp dvs E ta t) := by
  refine ⟨fun pins s σ H Q I h => ?_⟩
  refine PySem.W.methodCall_KW (pl := pl) (thn (he.run pins s σ H _ I h) fun u s1 ⟨x, H1, I1, rx, a, dx, fs, ex, ea, l, q⟩ => ?_) ht
  subst ex
  obtain rfl : u = Value.ref a := rx
  refine getmeth_ok I1 ea c hm l ?_
  refine PySem.W.callWith_K (first := [.ref a]) (h₀ := X.base) I.ok.mod.kin hm.kp (thn (ha.run pos pins s1 σ H1 _ I1 q) fun us s2 ⟨vs, H2, I2, r, q2⟩ => ⟨I2.kIn, ?_⟩) hst hpl
  exact run_fnSD (us := .ref a :: us) (vs := .ref a :: vs) F hr hb hd (hx σ) I2 (.cons rfl r) q2
theorem pe_methS0 {pl : Sem Bool} (he : PE X o ta) (c : Cls X.K C) (hm : Meth X.K C m f) (F : FnOk X.prog X.w X.K X.mg X.base CX k f fd ps sp) (hr : Room k X.A) (hb : L2.Binds X.K fd ps ds) (hd : Vals dvs ds) (hx : ∀ σ, PassesAt CX X σ (E σ))
    (ht : eval (.Call (.Attribute o m apos) [] [] pos) X.env = (do
      let ov ← eval o X.env
      standAt apos.atName
      let (f, first) ← holding [ov] (getMethod ov m pl)
      callWith pos f first (backTo pos (starEach [] X.env)) (backToKw pos (keywordEach [] X.env))) := by rfl) :
    PE X (.Call (.Attribute o m apos) [] [] pos) (tMethS C m sp dvs E ta tNil) := by
  refine ⟨fun pins s σ H Q I h => ?_⟩
  refine PySem.W.methodCall_KW (pl := pl) (thn (he.run pins s σ H _ I h) fun u s1 ⟨x, H1, I1, rx, a, dx, fs, ex, ea, l, q⟩ => ?_) ht
  subst ex
  obtain rfl : u = Value.ref a := rx
  refine getmeth_ok I1 ea c hm l ?_
  exact PySem.W.callWith_K0 (first := [.ref a]) I1.kIn hm.kp (run_fnSD (us := [.ref a]) (vs := [.ref a]) F hr hb hd (hx σ) I1 (.cons rfl .nil) q)
end
section
variable {S : Type} {B : Bd S} {X : Cx} {CX : CXT} {wo : W S} {wa : WA S} {o e : Expr} {es : List Expr} {m : Str} {pos apos : Pos} {j k c : Nat} {dls : List LV} {mf : MF Unit} {xl : Nat → Addr}
/-- o.m(..), raising nothing here -/
def wMt (c : Nat) (m : Str) (mf : MF Unit) (dls : List LV) (wo : W S) (wa : WA S) : W S := fun env s P N => wo env s (fun lv s1 => match lv with
  | .d (.ins k ns xs) => (k = c ∧ lkp ns xs m = none) ∧ wa env s1 (fun lvs s2 => mf (.d (.ins k ns xs) :: (lvs ++ dls)) () (fun lv _ => P lv s2) noX) N
  | _ => False) N
def wMtX (c : Nat) (m : Str) (mf : MF Unit) (dls : List LV) (wo : W S) (wa : WA S) : W S := fun env s P N => wo env s (fun lv s1 => match lv with
  | .d (.ins k ns xs) => (k = c ∧ lkp ns xs m = none) ∧ wa env s1 (fun lvs s2 => mf (.d (.ins k ns xs) :: (lvs ++ dls)) () (fun lv _ => P lv s2) (fun ec d _ => N ec d s2)) N
  | _ => False) N
/-- what stands at the object -/
theorem meth_at {K : PySem.W.Frag} {G H : Hp} {v : V} {k : Nat} {ns : List Str} {xs : List D} (r : RL K B.cl G H v (.d (.ins k ns xs))) (le : Le G H) (h : lkp ns xs m = none) : ∃ a dx fs, v = .ref a ∧ H a = some (.ins (B.cl k) dx fs) ∧ fs.lookup m = none := by
  cases r with
  | ins h1 h2 h3 =>
    refine ⟨_, _, _, rfl, le _ _ h1, ?_⟩
    rcases lkp_rel (ks := ns) m h3 with ⟨z, _⟩ | ⟨v', y', e1, e2, rp⟩
    · rw [lookup_lkp]; exact z
    · rw [h] at e2; cases e2
theorem we_mt0 {pl : Sem Bool} (cm : MetL X.prog X.w X.K X.mg X.base CX k (B.cl c) m B.cl (spW X.K B.cl xl Sto.no mf) dls) (hp : Passes CX X E0) (hr : Room j X.A) (hk : k ≤ j) (ho : PE X o (tl X.K B wo))
    (ht : eval (.Call (.Attribute o m apos) [] [] pos) X.env = (do
      let ov ← eval o X.env
      standAt apos.atName
      let (f, first) ← holding [ov] (getMethod ov m pl)
      callWith pos f first (backTo pos (starEach [] X.env)) (backToKw pos (keywordEach [] X.env))) := by rfl) :
    PE X (.Call (.Attribute o m apos) [] [] pos) (tl X.K B (wMt c m mf dls wo wNil)) := by
  obtain ⟨f, fd, ps, ds, dvs, hc, hm, F, hb, hv, hd⟩ := cm.ex
  refine imp (pe_methS0 (pl := pl) (E := fun _ => E0) ho hc hm F (hr.mono hk) hb hv (fun σ pins H s e s' I h => hp pins σ H s e s' I h) ht) fun σ H Q ⟨G, env, s, P, N, L, w1, kQ, n⟩ => ?_
  refine ⟨G, env, s, _, N, L, w1, fun lv s1 w2 v G1 H1 a1 ok1 r1 o1 => ?_, n⟩
  split at w2
  · rename_i k' ns xs
    obtain ⟨⟨rfl, hl⟩, w3⟩ := w2
    obtain ⟨a, dx, fs, rfl, h1, h2⟩ := meth_at (m := m) r1 a1.le hl
    exact ⟨a, dx, fs, rfl, h1, h2, spW_callU (vs := [.ref a]) (lvs := [_]) (N := noX) a1 ok1 (.cons r1 rfl .nil) (hd _ _) w3 kQ (fun _ _ _ z => z.elim)⟩
  · exact w2.elim
theorem we_mt {pl : Sem Bool} (cm : MetL X.prog X.w X.K X.mg X.base CX k (B.cl c) m B.cl (spW X.K B.cl xl Sto.no mf) dls) (hp : Passes CX X E0) (hr : Room j X.A) (hk : k ≤ j) (ho : PE X o (tl X.K B wo)) (ha : PA X (e :: es) (tla X.K B wa))
    (hst : starEach (e :: es) X.env = (false, eval e X.env) :: starEach es X.env := by rfl) (hpl : (backTo pos (starEach es X.env)).any (·.1) = false := by rfl)
    (ht : eval (.Call (.Attribute o m apos) (e :: es) [] pos) X.env = (do
      let ov ← eval o X.env
      standAt apos.atName
      let (f, first) ← holding [ov] (getMethod ov m pl)
      callWith pos f first (backTo pos (starEach (e :: es) X.env)) (backToKw pos (keywordEach [] X.env))) := by rfl) :
    PE X (.Call (.Attribute o m apos) (e :: es) [] pos) (tl X.K B (wMt c m mf dls wo wa)) := by
  obtain ⟨f, fd, ps, ds, dvs, hc, hm, F, hb, hv, hd⟩ := cm.ex
  refine imp (pe_methS (pl := pl) (E := fun _ => E0) ho hc hm F (hr.mono hk) hb hv (fun σ pins H s e s' I h => hp pins σ H s e s' I h) ha hst hpl ht) fun σ H Q ⟨G, env, s, P, N, L, w1, kQ, n⟩ => ?_
  refine ⟨G, env, s, _, N, L, w1, fun lv s1 w2 v G1 H1 a1 ok1 r1 o1 => ?_, n⟩
  split at w2
  · rename_i k' ns xs
    obtain ⟨⟨rfl, hl⟩, w3⟩ := w2
    obtain ⟨a, dx, fs, rfl, h1, h2⟩ := meth_at (m := m) r1 a1.le hl
    exact ⟨a, dx, fs, rfl, h1, h2, G1, env, s1, _, N, L.step a1 ok1, w3, fun lvs s2 w4 vs G2 H2 a2 ok2 r2 => spW_callU (vs := .ref a :: vs) (lvs := _ :: lvs) (N := noX) (a1.trans a2) ok2 (.cons (r1.mono rfl a2.g) rfl r2) (hd _ _) w4 kQ (fun _ _ _ z => z.elim), n.step a1⟩
  · exact w2.elim
theorem we_mtX0 {pl : Sem Bool} (cm : MetL X.prog X.w X.K X.mg X.base (L2.CX X.prog X.w) k (B.cl c) m B.cl (spW X.K B.cl B.xl Sto.no mf) dls) (tk : Takes X B.Wx) (hr : Room j X.A) (hk : k ≤ j) (ho : PE X o (tl X.K B wo))
    (ht : eval (.Call (.Attribute o m apos) [] [] pos) X.env = (do
      let ov ← eval o X.env
      standAt apos.atName
      let (f, first) ← holding [ov] (getMethod ov m pl)
      callWith pos f first (backTo pos (starEach [] X.env)) (backToKw pos (keywordEach [] X.env))) := by rfl) :
    PE X (.Call (.Attribute o m apos) [] [] pos) (tl X.K B (wMtX c m mf dls wo wNil)) := by
  obtain ⟨f, fd, ps, ds, dvs, hc, hm, F, hb, hv, hd⟩ := cm.ex
  refine imp (pe_methS0 (pl := pl) (E := WE B.Wx) ho hc hm F (hr.mono hk) hb hv (fun σ => passAt tk σ) ht) fun σ H Q ⟨G, env, s, P, N, L, w1, kQ, n⟩ => ?_
  refine ⟨G, env, s, _, N, L, w1, fun lv s1 w2 v G1 H1 a1 ok1 r1 o1 => ?_, n⟩
  split at w2
  · rename_i k' ns xs
    obtain ⟨⟨rfl, hl⟩, w3⟩ := w2
    obtain ⟨a, dx, fs, rfl, h1, h2⟩ := meth_at (m := m) r1 a1.le hl
    exact ⟨a, dx, fs, rfl, h1, h2, spW_callU (vs := [.ref a]) (lvs := [_]) (N := N) a1 ok1 (.cons r1 rfl .nil) (hd _ _) w3 kQ (fun ec d s' y G' H' dd v a ok e r => n ec d s' y G' H' dd v a ok e r)⟩
  · exact w2.elim
theorem we_mtX {pl : Sem Bool} (cm : MetL X.prog X.w X.K X.mg X.base (L2.CX X.prog X.w) k (B.cl c) m B.cl (spW X.K B.cl B.xl Sto.no mf) dls) (tk : Takes X B.Wx) (hr : Room j X.A) (hk : k ≤ j) (ho : PE X o (tl X.K B wo)) (ha : PA X (e :: es) (tla X.K B wa))
    (hst : starEach (e :: es) X.env = (false, eval e X.env) :: starEach es X.env := by rfl) (hpl : (backTo pos (starEach es X.env)).any (·.1) = false := by rfl)
    (ht : eval (.Call (.Attribute o m apos) (e :: es) [] pos) X.env = (do
      let ov ← eval o X.env
      standAt apos.atName
      let (f, first) ← holding [ov] (getMethod ov m pl)
      callWith pos f first (backTo pos (starEach (e :: es) X.env)) (backToKw pos (keywordEach [] X.env))) := by rfl) :
    PE X (.Call (.Attribute o m apos) (e :: es) [] pos) (tl X.K B (wMtX c m mf dls wo wa)) := by
  obtain ⟨f, fd, ps, ds, dvs, hc, hm, F, hb, hv, hd⟩ := cm.ex
  refine imp (pe_methS (pl := pl) (E := WE B.Wx) ho hc hm F (hr.mono hk) hb hv (fun σ => passAt tk σ) ha hst hpl ht) fun σ H Q ⟨G, env, s, P, N, L, w1, kQ, n⟩ => ?_
  refine ⟨G, env, s, _, N, L, w1, fun lv s1 w2 v G1 H1 a1 ok1 r1 o1 => ?_, n⟩
  split at w2
  · rename_i k' ns xs
    obtain ⟨⟨rfl, hl⟩, w3⟩ := w2
    obtain ⟨a, dx, fs, rfl, h1, h2⟩ := meth_at (m := m) r1 a1.le hl
    exact ⟨a, dx, fs, rfl, h1, h2, G1, env, s1, _, N, L.step a1 ok1, w3, fun lvs s2 w4 vs G2 H2 a2 ok2 r2 => spW_callU (vs := .ref a :: vs) (lvs := _ :: lvs) (N := N) (a1.trans a2) ok2 (.cons (r1.mono rfl a2.g) rfl r2) (hd _ _) w4 kQ (fun ec d s' y G' H' dd v a ok e r => n ec d s' y G' H' dd v a ok e r), n.step a1⟩
  · exact w2.elim
end
end DL
/-! DL20: sorted of a list of data. -/
namespace DL
open PySem PySem.Spec PyProof.Rows L2
section
variable {X : Cx}
def rSortedD (K : PySem.W.Frag) : List V → Hp → VK → Prop := fun vs H Q => ∃ (a : Addr) (xs : List V) (ps : List PyData), vs = [V.ref a] ∧ SqL K H a xs ∧ DpAll K H xs ps ∧ PySem.W.AllAlike ps ∧ PySem.W.Sortable ps ∧ xs.length ≤ sizeLine ∧ (∀ p ∈ ps, p.depth ≤ 60) ∧
  ∀ p : Addr, H p = none → Q (.ref p) (upd H p (.lst (((xs.zip ps).mergeSort (PySem.W.dataLe false fun z => z.2)).map fun z => z.1)))
theorem each_zip {pins : List (Addr × Obj)} {σ : L2.St} {H : Hp} {s : Shared} (I : Inv X pins σ H s) : ∀ {xs : List V} {ps : List PyData} {its : List Value}, DpAll X.K H xs ps → Vals xs its →
    PySem.W.EachIs (fun v (b : V × PyData) => RelV b.1 v) its (xs.zip ps) ∧ PySem.W.EachIs (fun v (b : V × PyData) => ∃ as, Reads s.heap v b.2 as) its (xs.zip ps)
  | _, _, _, .nil, .nil => ⟨.nil, .nil⟩
  | _, _, _, .cons h1 h2, .cons r1 r2 => by
    obtain ⟨e1, e2⟩ := each_zip I h2 r2
    exact ⟨.cons r1 e1, .cons (Dp.reads I _ _ _ h1 r1) e2⟩
theorem each_vals : ∀ {out : List Value} {bs : List (V × PyData)}, PySem.W.EachIs (fun v (b : V × PyData) => RelV b.1 v) out bs → Vals (bs.map fun z => z.1) out
  | _, _, .nil => .nil
  | _, _, .cons h t => .cons h (each_vals t)
theorem dpAll_len {K : PySem.W.Frag} {H : Hp} : ∀ {xs : List V} {ps : List PyData}, DpAll K H xs ps → xs.length = ps.length
  | _, _, .nil => rfl
  | _, _, .cons _ t => congrArg (· + 1) (dpAll_len t)
theorem cr_sortedD (hu : X.A.units + 64 < cLine) : CallR X (.builtin "sorted") (rSortedD X.K) := by
  intro pins s σ H vs us Q I r h
  obtain ⟨a, xs, ps, rfl, hs, hdp, hal, hso, hlen, hdep, q⟩ := h
  obtain ⟨its, rv, hl, _⟩ := I.list hs
  rw [Vals.ref1 r]
  obtain ⟨e1, e2⟩ := each_zip I hdp rv
  have hm : (xs.zip ps).map (fun z => z.2) = ps := by
    rw [List.map_snd_zip]
    exact Nat.le_of_eq (dpAll_len hdp).symm
  have hz : (xs.zip ps).length = xs.length := by rw [List.length_zip, dpAll_len hdp]; exact Nat.min_self _
  refine PySem.W.sorted_data (enc := fun z : V × PyData => z.2) hl.isList e1 e2 (by rw [hm]; exact hal) (by rw [hm]; exact hso) (by rw [hz]; exact hlen) (fun b hb => ?_) fun out ho eo => ?_
  · have := hdep b.2 (List.of_mem_zip (a := b.1) (b := b.2) hb).2
    omega
  · obtain ⟨ep, he'⟩ := PyProof.Rows.sortedAll_at s.heap its (List.toArray out)
    have hlen2 : (((xs.zip ps).mergeSort (PySem.W.dataLe false fun z => z.2)).map fun z => z.1).length ≤ sizeLine := by
      rw [List.length_map, List.length_mergeSort, hz]
      exact hlen
    exact ⟨.ref _, upd H (s.heap.objs.size + 1) (.lst (((xs.zip ps).mergeSort (PySem.W.dataLe false fun z => z.2)).map fun z => z.1)), I.laid (t' := s.toks) (fun _ _ => PyProof.Rows.sortedAll_old) (Nat.le_succ _) ⟨hlen2, out, ep, each_vals eo, he'⟩, rfl, q _ (I.hok.fresh (Nat.le_succ _))⟩
end
/-- the order of data -/
def pyD (x : D) : PyData := match x.py with
  | some p => p
  | none => .none
def leD (x y : D) : Bool := PySem.W.dataLe false pyD x y
def sortDF : LV → (LV → Prop) → Prop := fun x P => match x.lis with
  | some xs => match D.pys xs with
    | some ps => (PySem.W.AllAlike ps ∧ PySem.W.Sortable ps ∧ xs.length ≤ sizeLine ∧ ∀ p ∈ ps, p.depth ≤ 60) ∧ P (.l (xs.mergeSort leD))
    | none => False
  | none => False
section
variable {S : Type} {T : Sto S} {K : PySem.W.Frag} {cl : Nat → Addr}
theorem pys_map : ∀ {xs : List D} {ps : List PyData}, D.pys xs = some ps → ps = xs.map pyD
  | [], _, e => by cases e; rfl
  | x :: xs, ps, e => by
    unfold D.pys at e
    split at e
    · rename_i p q e1 e2
      cases e
      rw [List.map_cons, ← pys_map e2]
      show p :: q = pyD x :: q
      unfold pyD
      rw [e1]
    · cases e
theorem rps_of_zip {G : Hp} : ∀ (L : List (V × D)), (∀ z ∈ L, Rp K cl G z.1 z.2) → Rps K cl G (L.map fun z => z.1) (L.map fun z => z.2)
  | [], _ => .nil
  | z :: L, h => .cons (h z List.mem_cons_self) (rps_of_zip L fun y hy => h y (List.mem_cons_of_mem _ hy))
theorem rps_zip {G : Hp} : ∀ {vs : List V} {xs : List D}, Rps K cl G vs xs → ∀ z ∈ vs.zip xs, Rp K cl G z.1 z.2
  | _, _, .nil, z, h => by cases h
  | _, _, .cons r t, z, h => by
    rw [List.zip_cons_cons] at h
    rcases List.mem_cons.mp h with e | e
    · rw [e]; exact r
    · exact rps_zip t z e
theorem sort_zip {vs : List V} {xs : List D} (h : vs.length = xs.length) :
    ((vs.zip (xs.map pyD)).mergeSort (PySem.W.dataLe false fun z => z.2)).map (fun z => z.1) = ((vs.zip xs).mergeSort fun a b => leD a.2 b.2).map (fun z => z.1) ∧ xs.mergeSort leD = ((vs.zip xs).mergeSort fun a b => leD a.2 b.2).map (fun z => z.2) := by
  have e1 : vs.zip (xs.map pyD) = (vs.zip xs).map fun z => (z.1, pyD z.2) := by
    rw [List.zip_map_right]
    rfl
  constructor
  · rw [e1, ← List.map_mergeSort (r := fun a b => leD a.2 b.2) (s := PySem.W.dataLe false fun z : V × PyData => z.2) (f := fun z : V × D => (z.1, pyD z.2)) (l := vs.zip xs) (fun a _ b _ => rfl), List.map_map]
    rfl
  · have e2 : xs = (vs.zip xs).map fun z => z.2 := by
      rw [List.map_snd_zip]
      exact Nat.le_of_eq h.symm
    rw [List.map_mergeSort (r := fun a b => leD a.2 b.2) (s := leD) (f := fun z : V × D => z.2) (l := vs.zip xs) (fun a _ b _ => rfl), ← e2]
theorem sortD_ok : UnS T K cl (rSortedD K) sortDF := by
  intro s G H x lx Q P le gF ok rx h q
  unfold sortDF at h
  split at h
  · rename_i xs e
    split at h
    · rename_i ps e2
      obtain ⟨⟨h1, h2, h3, h4⟩, h5⟩ := h
      obtain ⟨a, vs, rfl, hs, rv⟩ := rx.lis le e
      have hps := pys_map e2
      refine ⟨a, vs, ps, rfl, .of hs, Rps.dp le xs vs ps rv e2, h1, h2, by rw [rv.length]; exact h3, h4, fun p hn => ?_⟩
      obtain ⟨z1, z2⟩ := sort_zip rv.length
      rw [hps, z1]
      refine new_list le gF ok (rps_of_zip ((vs.zip xs).mergeSort fun a b => leD a.2 b.2) fun z hz => rps_zip rv z (List.mem_mergeSort.mp hz)) ?_ q p hn
      rw [← z2]
      exact h5
    · exact h.elim
  · exact h.elim
end
end DL
/-! DL21: list(d) of a dict with tuple keys. -/
namespace DL
open PySem PySem.Spec PyProof.Rows L2
/-- tuples that stand there become known -/
theorem Stp.learn {S : Type} {T : Sto S} {G H : Hp} {s : S} (le : Le G H) (gF : ∀ a, T.F a → G a = none) (ok : T.ok s H) (bs : List Addr) (h : ∀ b ∈ bs, ∃ vs, H b = some (.tup vs)) : ∃ G', Stp T G H G' H ∧ ∀ b ∈ bs, G' b = H b := by
  classical
  refine ⟨fun a => if a ∈ bs then H a else G a, ⟨fun a o e => ?_, fun a o e => ?_, fun a f => ?_, fun a o e _ => e, fun a h1 h2 => ?_⟩, fun b hb => if_pos hb⟩
  · show (if a ∈ bs then H a else G a) = some o
    by_cases hb : a ∈ bs
    · rw [if_pos hb]; exact le a o e
    · rw [if_neg hb]; exact e
  · have e' : (if a ∈ bs then H a else G a) = some o := e
    by_cases hb : a ∈ bs
    · rw [if_pos hb] at e'; exact e'
    · rw [if_neg hb] at e'; exact le a o e'
  · show (if a ∈ bs then H a else G a) = none
    by_cases hb : a ∈ bs
    · obtain ⟨vs, q⟩ := h a hb
      exact absurd q (T.nt s H a vs ok f)
    · rw [if_neg hb]; exact gF a f
  · by_cases hb : a ∈ bs
    · exact .inr (h a hb)
    · have h2' : (if a ∈ bs then H a else G a) ≠ none := h2
      rw [if_neg hb] at h2'
      exact .inl h2'
def keyD (k : List Key) : D := .tup (k.map Key.d)
def listF2 : LV → (LV → Prop) → Prop := fun x P => match x.dt with
  | some (ks, _) => P (.l (ks.map keyD))
  | none => listF x P
def rListDT : List V → Hp → VK → Prop := fun xs H Q => ∃ d kvs, xs = [V.ref d] ∧ Rd H d (.dT kvs) ∧ ∀ p bs, H p = none → IsKeys H kvs bs → Q (.ref p) (upd H p (.lst (bs.map V.ref)))
def rListB (K : PySem.W.Frag) : List V → Hp → VK → Prop := fun xs H Q => rListA K xs H Q ∨ rListDT xs H Q
theorem call_listB {X : Cx} (hc : X.calm = true) : CallR X (.type "list") (rListB X.K) := (call_listA hc).or (call_list_dT hc)
theorem keys_tups {H : Hp} : ∀ {kvs : List (List Key × V)} {bs : List Addr}, IsKeys H kvs bs → ∀ b ∈ bs, ∃ vs, H b = some (.tup vs)
  | _, _, .nil, b, h => by cases h
  | _, _, .cons q t, b, h => by
    rcases List.mem_cons.mp h with e | e
    · rw [e]; exact ⟨_, q⟩
    · exact keys_tups t b e
theorem keys_rpsT {K : PySem.W.Frag} {cl : Nat → Addr} {G H : Hp} : ∀ {kvs : List (List Key × V)} {bs : List Addr}, IsKeys H kvs bs → (∀ b ∈ bs, G b = H b) → Rps K cl G (bs.map V.ref) ((kvs.map fun p => p.1).map keyD)
  | _, _, .nil, _ => .nil
  | _, _, .cons q t, h => .cons (.tup ((h _ List.mem_cons_self).trans q) (keys_rps _)) (keys_rpsT t fun b hb => h b (List.mem_cons_of_mem _ hb))
section
variable {S : Type} {T : Sto S} {K : PySem.W.Frag} {cl : Nat → Addr}
theorem list2_ok : UnS T K cl (rListB K) listF2 := by
  intro s G H x lx Q P le gF ok rx h q
  unfold listF2 at h
  split at h
  · rename_i ks xs e
    refine .inr ?_
    have key : ∃ d vs, x = .ref d ∧ H d = some (.dT (ks.zip vs)) ∧ ks.length = vs.length := by
      cases lx with
      | d y =>
        cases y with
        | dT ks' xs' =>
          cases e
          cases rx with
          | dT h1 h2 h3 => exact ⟨_, _, rfl, le _ _ h1, h2⟩
        | _ => cases e
      | t ks' xs' =>
        cases e
        obtain ⟨a, vs, e1, _, e2, e3, _⟩ := rx
        exact ⟨a, vs, e1, e2, e3⟩
      | _ => cases e
    obtain ⟨d, vs, rfl, hd, hl⟩ := key
    refine ⟨d, _, rfl, .of hd, fun p bs hp hk => ?_⟩
    obtain ⟨G', a1, e1⟩ := Stp.learn (s := s) le gF ok bs (keys_tups hk)
    have r := keys_rpsT (K := K) (cl := cl) (G := G') hk e1
    rw [map_zip hl] at r
    refine new_list a1.le a1.gF ok r h (fun lz v G2 H2 pz a2 ok2 r2 o2 => q lz v G2 H2 pz (a1.trans a2) ok2 r2 o2) p hp
  · exact .inl (list_ok s G H x lx Q P le gF ok rx h q)
end
end DL
/-! DL22: a tuple times an int. -/
namespace DL
open PySem PySem.Spec PyProof.Rows L2
section
open Sem (wp)
open AutoSeq1 (wpAny_loadPart')
theorem tuple_mul1 (l : Addr) (items : Array Value) (n : Nat) (dd : Option Addr) (sl : Array (Option Value)) (x : Int) (u : Tok) (c0 : (decide (x < -(2 ^ 63)) || decide (x ≥ 2 ^ 63)) = false) (c1 : (items.isEmpty || x == 1) = true) :
    Meets (Builtin.«tuple.__mul__» ⟨[.ref l, .int x u], []⟩) (fun _ R s => s.heap.get? l = some { cls := .type "tuple", dict := dd, data := .seq items n, slots := sl } ∧ R (.ok (.ret (Value.ref l))) s) :=
  .of_wp fun prog w A R s h => by
    obtain ⟨hp, g, d, tk, os⟩ := s
    obtain ⟨hl, h⟩ := h
    have f1 := AutoSeq1.idx_int
    wp_walk using wpAny_loadPart' hl
    repeat (first
      | (refine wpAny_ite_false (decide_eq_false (by rw [c0]; exact Bool.false_ne_true)) ?_; wp_walk using wpAny_loadPart' hl)
      | (refine wpAny_ite_true (decide_eq_true c1) ?_; wp_walk using wpAny_loadPart' hl))
    exact ⟨_, rfl, h⟩
theorem tuple_mul0 (l : Addr) (items : Array Value) (n : Nat) (dd : Option Addr) (sl : Array (Option Value)) (x : Int) (u : Tok) (c0 : (decide (x < -(2 ^ 63)) || decide (x ≥ 2 ^ 63)) = false) (c1 : (items.isEmpty || x == 1) = false) (c2 : (decide (x ≤ 0) || items.isEmpty) = true) :
    Meets (Builtin.«tuple.__mul__» ⟨[.ref l, .int x u], []⟩) (fun _ R s => s.heap.get? l = some { cls := .type "tuple", dict := dd, data := .seq items n, slots := sl } ∧
      R (.ok (.ret (Value.ref s.heap.objs.size))) { s with heap := s.heap.push { cls := Value.type "tuple", data := Data.seq #[] }, toks := s.toks }) :=
  .of_wp fun prog w A R s h => by
    obtain ⟨hp, g, d, tk, os⟩ := s
    obtain ⟨hl, h⟩ := h
    have f1 := AutoSeq1.idx_int
    wp_walk using wpAny_loadPart' hl
    repeat (first
      | (refine wpAny_ite_false (decide_eq_false (by rw [c0]; exact Bool.false_ne_true)) ?_; wp_walk using wpAny_loadPart' hl)
      | (refine wpAny_ite_false (decide_eq_false (by rw [c1]; exact Bool.false_ne_true)) ?_; wp_walk using wpAny_loadPart' hl)
      | (refine wpAny_ite_true (decide_eq_true c2) ?_; wp_walk using wpAny_loadPart' hl))
    exact ⟨_, rfl, h⟩
end
def rMulT (K : PySem.W.Frag) : R2 := fun x y H Q => ∃ l k xs, x = .ref l ∧ y = .int k ∧ SqT K H l xs ∧ (-(2 ^ 63) ≤ k ∧ k < 2 ^ 63) ∧ ((xs = [] ∨ k = 1) → Q (.ref l) H) ∧ ((xs ≠ [] ∧ k ≤ 0) → ∀ p, H p = none → Q (.ref p) (upd H p (.tup []))) ∧
  ((xs ≠ [] ∧ 2 ≤ k) → (k ≤ 1000 ∧ xs.length ≤ 1000) ∧ ∀ p, H p = none → Q (.ref p) (upd H p (.tup (List.replicate k.toNat xs).flatten)))
section
variable {X : Cx}
theorem op_mulT : OpR X (binaryOp .Mult) (rMulT X.K) := by
  intro pins s σ H x y v u Q I rx ry h
  obtain ⟨l, k, xs, rfl, rfl, hT, hk, q1, q2, q3⟩ := h
  by_cases h1 : xs = [] ∨ k = 1
  · cases rx
    obtain ⟨t, rfl⟩ := ry
    obtain ⟨its, r, ⟨⟨cls, dd, data, sl⟩, ho, hc, n, hd⟩, hs⟩ := I.tuple hT
    simp only at hc hd
    subst hc hd
    have hle : its.length = xs.length := r.length.symm
    have c0 : (decide (k < -(2 ^ 63)) || decide (k ≥ 2 ^ 63)) = false := by
      rw [decide_eq_false (by omega), decide_eq_false (by omega)] <;> rfl
    have c1 : (its.toArray.isEmpty || k == 1) = true := by
      rcases h1 with e | e
      · rw [e] at hle
        have := List.eq_nil_of_length_eq_zero hle
        rw [this]
        rfl
      · rw [e]
        simp
    refine wpAny_binaryOp_repeat_ref (T := "tuple") (U := "int") (by decide) ⟨_, ho, rfl⟩ (fun s' => typeIs_int s' k t) noFill_tuple_mul F.fills_int_mul F.slot_int_rmul repeat_tuple F.slot_int_index.lookup
      (call_meets F.slot_int_rmul (typeIs_int s k t) F.entry_int_rmul (F.args_int_rmul_2 _ _) (int_rmul_tuple k t l its.toArray n dd sl)
        ⟨ho, rfl, ⟨_, ho, rfl⟩, call_meets F.slot_tuple_mul ⟨_, ho, rfl⟩ F.entry_tuple_mul (F.args_tuple_mul_2 _ _) (tuple_mul1 l its.toArray n dd sl k t c0 c1) ⟨ho, ?_⟩⟩)
    exact ⟨.ref l, H, I, rfl, q1 h1⟩
  · have hne : xs ≠ [] := fun e => h1 (.inl e)
    have hk1 : k ≠ 1 := fun e => h1 (.inr e)
    by_cases h2 : k ≤ 0
    · cases rx
      obtain ⟨t, rfl⟩ := ry
      obtain ⟨its, r, ⟨⟨cls, dd, data, sl⟩, ho, hc, n, hd⟩, hs⟩ := I.tuple hT
      simp only at hc hd
      subst hc hd
      have hle : its.length = xs.length := r.length.symm
      have hn : its ≠ [] := fun e => hne (by
        rw [e] at hle
        exact List.eq_nil_of_length_eq_zero hle.symm)
      have hi : its.toArray.isEmpty = false := by
        cases its with
        | nil => exact absurd rfl hn
        | cons a b => rfl
      have c0 : (decide (k < -(2 ^ 63)) || decide (k ≥ 2 ^ 63)) = false := by
        rw [decide_eq_false (by omega), decide_eq_false (by omega)] <;> rfl
      have c1 : (its.toArray.isEmpty || k == 1) = false := by
        rw [hi, Bool.false_or]
        exact beq_eq_false_iff_ne.mpr hk1
      have c2 : (decide (k ≤ 0) || its.toArray.isEmpty) = true := by
        rw [decide_eq_true h2, Bool.true_or]
      refine wpAny_binaryOp_repeat_ref (T := "tuple") (U := "int") (by decide) ⟨_, ho, rfl⟩ (fun s' => typeIs_int s' k t) noFill_tuple_mul F.fills_int_mul F.slot_int_rmul repeat_tuple F.slot_int_index.lookup
        (call_meets F.slot_int_rmul (typeIs_int s k t) F.entry_int_rmul (F.args_int_rmul_2 _ _) (int_rmul_tuple k t l its.toArray n dd sl)
          ⟨ho, rfl, ⟨_, ho, rfl⟩, call_meets F.slot_tuple_mul ⟨_, ho, rfl⟩ F.entry_tuple_mul (F.args_tuple_mul_2 _ _) (tuple_mul0 l its.toArray n dd sl k t c0 c1 c2) ⟨ho, ?_⟩⟩)
      exact ⟨.ref s.heap.objs.size, _, I.laid (t' := s.toks) (o := .tup []) (fun b ob q => Heap.get?_push_of_some _ q) (Nat.le_refl _) ⟨Nat.zero_le _, [], .nil, IsTup.new _ _⟩, rfl, q2 ⟨hne, h2⟩ _ (I.hok.fresh (Nat.le_refl _))⟩
    · obtain ⟨⟨z1, z2⟩, z3⟩ := q3 ⟨hne, by omega⟩
      exact op_repT pins s σ H _ _ v u Q I rx ry ⟨l, k, xs, rfl, rfl, hT, hne, by omega, z1, z2, z3⟩
end
def mulF2 : LV → LV → (LV → Prop) → Prop := fun x y P => match x, y with
  | .d (.int i), .d (.int j) => CMul i j ∧ P (.d (.int (i * j)))
  | .d (.tup xs), .d (.int k) => (-(2 ^ 63) ≤ k ∧ k < 2 ^ 63) ∧ if xs = [] ∨ k = 1 then P (.d (.tup xs)) else if k ≤ 0 then P (.d (.tup [])) else (k ≤ 1000 ∧ xs.length ≤ 1000) ∧ P (.d (.tup (List.replicate k.toNat xs).flatten))
  | _, _ => False
def rMulA (K : PySem.W.Frag) : R2 := fun x y H Q => rI CMul (fun i j => .int (i * j)) x y H Q ∨ rMulT K x y H Q
theorem op_mulA {X : Cx} : OpR X (binaryOp .Mult) (rMulA X.K) := op_mul.or op_mulT
theorem rps_rep {K : PySem.W.Frag} {cl : Nat → Addr} {G : Hp} {vs : List V} {xs : List D} (r : Rps K cl G vs xs) : ∀ n : Nat, Rps K cl G (List.replicate n vs).flatten (List.replicate n xs).flatten
  | 0 => .nil
  | n + 1 => by
    rw [List.replicate_succ, List.replicate_succ, List.flatten_cons, List.flatten_cons]
    exact r.append (rps_rep r n)
theorem mulA_ok {S : Type} {T : Sto S} {K : PySem.W.Frag} {cl : Nat → Addr} : OpS T K cl (rMulA K) mulF2 := by
  intro s G H x y lx ly Q P le gF ok rx ry h q
  unfold mulF2 at h
  split at h
  · exact .inl (ii_ok (T := T) (K := K) (cl := cl) (C := CMul) (g := fun i j => .int (i * j)) (d := fun i j => .int (i * j)) (fun _ _ _ => .int _) s G H _ _ _ _ Q P le gF ok rx ry h q)
  · rename_i xs k
    obtain ⟨hk, h⟩ := h
    have ey := ry.is_int
    obtain ⟨l, vs, rfl, hs, rv⟩ := rx.tpl le rfl
    have hnil : ∀ e : vs = [], xs = [] := fun e => rps_nil rv e
    have hnil2 : ∀ e : xs = [], vs = [] := fun e => by subst e; cases rv; rfl
    have new : ∀ (ys : List V) (zs : List D), Rps K cl G ys zs → P (.d (.tup zs)) → ∀ p, H p = none → Q (.ref p) (upd H p (.tup ys)) := fun ys zs r hp p hn =>
      q _ _ _ _ hp (.new le gF (fun a f => T.al s H a ok f) hn) (T.stays ok (le_upd hn)) (Rp.tup upd_same (Rps.mono (le_upd (fresh_own le hn)) zs ys r)) fun o => by cases o
    refine .inr ⟨l, k, vs, rfl, ey, hs, hk, fun e => ?_, fun e => ?_, fun e => ?_⟩
    · have : xs = [] ∨ k = 1 := e.elim (fun z => .inl (hnil z)) .inr
      rw [if_pos this] at h
      exact q _ _ _ _ h (.refl le gF) ok rx fun o => by cases o
    · have n1 : ¬ (xs = [] ∨ k = 1) := fun z => z.elim (fun z => e.1 (hnil2 z)) fun z => by omega
      rw [if_neg n1, if_pos e.2] at h
      exact new [] [] .nil h
    · have n1 : ¬ (xs = [] ∨ k = 1) := fun z => z.elim (fun z => e.1 (hnil2 z)) fun z => by omega
      have n2 : ¬ k ≤ 0 := by omega
      rw [if_neg n1, if_neg n2] at h
      exact ⟨⟨h.1.1, by rw [rv.length]; exact h.1.2⟩, new _ _ (rps_rep rv _) h.2⟩
  · exact h.elim
theorem we_mul2 {S : Type} {B : Bd S} {X : Cx} {a b : Expr} {pos : Pos} {wa wb : W S} (ha : PE X a (tlb X.K B wa)) (hb : PE X b (tlb X.K B wb)) : PE X (.BinOp a .Mult b pos) (tl X.K B (wOp mulF2 wa wb)) := we_op op_mulA mulA_ok ha hb
end DL
/-! DL23: reversed(range(..)). -/
namespace DL
open PySem PySem.Spec PyProof.Rows L2
def rngC (lo c : Int) (n : Nat) : List D := (List.range n).map fun i => .int (lo + (i : Nat) * c)
section
variable {S : Type} {T : Sto S} {K : PySem.W.Frag} {cl : Nat → Addr} {G : Hp}
theorem jok_rngC {lo c : Int} {n : Nat} : JOk T K cl G (Itc lo c n) (rngC lo c n) where
  stop := fun H le => by show n ≤ _; unfold rngC; rw [List.length_map, List.length_range]; exact Nat.le_refl _
  go := fun i x H e le => by
    have := (List.getElem?_eq_some_iff.mp e).1
    show i < n
    unfold rngC at this
    rw [List.length_map, List.length_range] at this
    exact this
  yld := fun i x H v H' e le y al G1 g1 l1 gF => by
    obtain ⟨e1, ev⟩ := y
    subst e1 ev
    unfold rngC at e
    rw [List.getElem?_map] at e
    obtain ⟨j, e1, e2⟩ := Option.map_eq_some_iff.mp e
    have hj : j = i := by
      rw [List.getElem?_range (by
        have := (List.getElem?_eq_some_iff.mp e1).1
        rw [List.length_range] at this; exact this)] at e1
      exact (Option.some.inj e1).symm
    subst hj e2
    exact ⟨G1, .refl l1 gF, .int _, fun s ok => ok⟩
end
/-- the items of range(a, b), from the end -/
def rngB (a b : Int) : List D := rngC (a + (((b - a).toNat : Nat) : Int) - 1) (-1) (b - a).toNat
section
variable {S : Type} {B : Bd S} {X : Cx} {tg e e2 : Expr} {w u : W S}
def wRevR1 (w : W S) : WR S := fun env s P N => w env s (fun lv s' => match lv with
  | .d (.int j) => (-(2 ^ 62) ≤ j ∧ j < 2 ^ 62) ∧ P (rngB 0 j) s'
  | _ => False) N
theorem wr_revR1 {p pos p2 pos2 : Pos} (hg : Gl X "reversed") (hm : X.mg "reversed" = none) (hgr : Gl X "range") (hmr : X.mg "range" = none) (h : PE X e (tl X.K B w)) (hs : starEach [e] X.env = (false, eval e X.env) :: starEach [] X.env := by rfl)
    (hs2 : starEach [.Call (.Name "range" p2) [e] [] pos2] X.env = (false, eval (.Call (.Name "range" p2) [e] [] pos2) X.env) :: starEach [] X.env := by rfl) :
    PI X tg (.Call (.Name "reversed" p) [.Call (.Name "range" p2) [e] [] pos2] [] pos) (tr X.K B (wRevR1 w)) := impI (pi_revR hg hm (prg_1 hgr hmr h hs) hs2) fun σ H R ⟨G, env, s, P, N, L, w', c, n⟩ => by
  refine ⟨G, env, s, _, N, L, w', fun lv s1 w1 v G1 H1 a1 ok1 r1 o1 => ?_, n⟩
  split at w1
  · cases r1
    exact ⟨_, rfl, by decide, by decide, w1.1.1, w1.1.2, c _ s1 w1.2 G1 H1 _ a1 ok1 jok_rngC⟩
  · exact w1.elim
def wRevR2 (w u : W S) : WR S := fun env s P N => w env s (fun lv s1 => u env s1 (fun lu s2 => match lv, lu with
  | .d (.int i), .d (.int j) => ((-(2 ^ 62) ≤ i ∧ i < 2 ^ 62) ∧ (-(2 ^ 62) ≤ j ∧ j < 2 ^ 62)) ∧ P (rngB i j) s2
  | _, _ => False) N) N
theorem wr_revR2 {p pos p2 pos2 : Pos} (hg : Gl X "reversed") (hm : X.mg "reversed" = none) (hgr : Gl X "range") (hmr : X.mg "range" = none) (h : PE X e (tl X.K B w)) (h2 : PE X e2 (tl X.K B u)) (na : starEach [e, e2] X.env = (false, eval e X.env) :: starEach [e2] X.env := by rfl)
    (nb : starEach [e2] X.env = (false, eval e2 X.env) :: starEach [] X.env := by rfl) (hp : (backTo pos2 (starEach [e2] X.env)).any (·.1) = false := by rfl)
    (hs2 : starEach [.Call (.Name "range" p2) [e, e2] [] pos2] X.env = (false, eval (.Call (.Name "range" p2) [e, e2] [] pos2) X.env) :: starEach [] X.env := by rfl) :
    PI X tg (.Call (.Name "reversed" p) [.Call (.Name "range" p2) [e, e2] [] pos2] [] pos) (tr X.K B (wRevR2 w u)) := impI (pi_revR hg hm (prg_2 hgr hmr h h2 na nb hp) hs2) fun σ H R ⟨G, env, s, P, N, L, w', c, n⟩ => by
  refine ⟨G, env, s, _, N, L, w', fun lv s1 w1 v G1 H1 a1 ok1 r1 o1 => ?_, n⟩
  refine ⟨G1, env, s1, _, N, L.step a1 ok1, w1, fun lu s2 w2 v2 G2 H2 a2 ok2 r2 o2 => ?_, n.step a1⟩
  split at w2
  · cases r1; cases r2
    exact ⟨_, _, rfl, rfl, w2.1.1.1, w2.1.1.2, w2.1.2.1, w2.1.2.2, c _ s2 w2.2 G2 H2 _ (a1.trans a2) ok2 jok_rngC⟩
  · exact w2.elim
end
/-- a loop over reversed(range(a, a + n)), by what is left -/
theorem rngB_nat (a : Int) : ∀ n : Nat, rngB a (a + n) = ((List.range n).map fun i => D.int (a + (i : Nat))).reverse := by
  intro n
  have e : (a + (n : Int) - a).toNat = n := by omega
  unfold rngB rngC
  rw [e]
  refine List.ext_getElem (by simp) fun i h1 h2 => ?_
  simp only [List.length_map, List.length_range] at h1
  simp only [List.getElem_map, List.getElem_range, List.getElem_reverse, List.length_map, List.length_range]
  congr 1
  omega
end DL
namespace LW
open PySem PySem.Spec PyProof.Rows L2 DL
def nCl : Nat := 1
def nXl : Nat := 3
def hcf_HeardError (c : Nat) : Bool := [0, 1, 2].contains c
def hcf_BadRoutine (c : Nat) : Bool := [1].contains c
def hcf_NoPath (c : Nat) : Bool := [2].contains c
def kw_KEPT_WORDS : List Str := ["set", "tell", "hear", "wait", "on", "open", "or", "if", "else", "repeat", "leave", "home", "fail", "end", "plus", "minus", "same", "less", "not", "routine", "own", "over"]
def u_is_integer : WS Unit :=
  (wRet (wAnd (wUn (isT .int) (wVb 0)) (wNot (wUn (isT .bool) (wVb 0)))))
def m_is_integer : MF Unit := mk0 1 1 (u_is_integer)
def u_is_count : WS Unit :=
  (wRet (wAnd (wClU m_is_integer [] (wCons (wV 0) wNil)) (wOp geI (wVb 0) (wC (.int 0)))))
def m_is_count : MF Unit := mk0 1 1 (u_is_count)
def u_is_digit : WS Unit :=
  (wRet (wAnd (wClU m_is_integer [] (wCons (wV 0) wNil)) (wCh leI leI (wC (.int 0)) (wVb 0) (wC (.int 9)))))
def m_is_digit : MF Unit := mk0 1 1 (u_is_digit)
def u_is_name : WS Unit :=
  (wSeq (wIfS (wtOr (wtNot (wTr (wUn (isT .str) (wVb 0)))) (wtNot (wTb (wCh leI leI (wC (.int 1)) (wUn lenF (wVb 0)) (wC (.int 8)))))) (wRet (wC (.bl false))) wNx)
    (wSeq (wFor (wWalk (wV 0)) (gN 1) (wIfS (wTb (wOp (inF true) (wVb 1) (wC (.str "abcdefghijklmnopqrstuvwxyz")))) (wRet (wC (.bl false))) wNx))
    (wRet (wKw true kw_KEPT_WORDS (wVb 0)))))
def m_is_name : MF Unit := mk0 1 2 (u_is_name)
def u_is_tuple : WS Unit :=
  (wRet (wAnd (wUn (isT .tuple) (wVb 0)) (wOp (eqF false) (wUn lenF (wVb 0)) (wVb 1))))
def m_is_tuple : MF Unit := mk0 2 2 (u_is_tuple)
def u_is_path : WS Unit :=
  (wSeq (wIfS (wtOr (wtNot (wTr (wUn (isT .tuple) (wVb 0)))) (wTb (wOp (eqF false) (wUn lenF (wVb 0)) (wC (.int 0))))) (wRet (wC (.bl false))) wNx)
    (wSeq (wFor (wWalk (wV 0)) (gN 1) (wIfS (wtNot (wTr (wClU m_is_count [] (wCons (wV 1) wNil)))) (wRet (wC (.bl false))) wNx))
    (wRet (wC (.bl true)))))
def m_is_path : MF Unit := mk0 1 2 (u_is_path)
def u_is_paired : WS Unit :=
  (wRet (wAnd (wOp (eqF false) (wUn lenF (wVb 0)) (wC (.int 3))) (wOp (inF false) (wOp ixF (wVb 0) (wC (.int 0))) (wC (.tupK [(.str "plus"), (.str "minus"), (.str "same"), (.str "less")])))))
def m_is_paired : MF Unit := mk0 1 1 (u_is_paired)
def u_is_expression (m_is_expression : MF Unit) : WS Unit :=
  (wSeq (wIfS (wTb (wOp ltI (wVb 1) (wC (.int 1)))) (wRet (wC (.bl false))) wNx)
    (wSeq (wIfS (wTr (wClU m_is_digit [] (wCons (wV 0) wNil))) (wRet (wC (.bl true))) wNx)
    (wSeq (wIfS (wtOr (wtNot (wTr (wUn (isT .tuple) (wVb 0)))) (wtOr (wtNot (wTr (wVb 0))) (wtNot (wTr (wUn (isT .str) (wOp ixF (wVb 0) (wC (.int 0)))))))) (wRet (wC (.bl false))) wNx)
    (wSeq (wIfS (wTb (wOp (eqF false) (wOp ixF (wVb 0) (wC (.int 0))) (wC (.str "name")))) (wRet (wAnd (wOp (eqF false) (wUn lenF (wVb 0)) (wC (.int 2))) (wClU m_is_name [] (wCons (wOp ixF (wVb 0) (wC (.int 1))) wNil)))) wNx)
    (wSeq (wIfS (wTb (wOp (eqF false) (wOp ixF (wVb 0) (wC (.int 0))) (wC (.str "not")))) (wRet (wAnd (wOp (eqF false) (wUn lenF (wVb 0)) (wC (.int 2))) (wClU m_is_expression [] (wCons (wOp ixF (wVb 0) (wC (.int 1))) (wCons (wOp subF (wVb 1) (wC (.int 1))) wNil))))) wNx)
    (wSeq (wIfS (wtNot (wTr (wClU m_is_paired [] (wCons (wV 0) wNil)))) (wRet (wC (.bl false))) wNx)
    (wRet (wAnd (wClU m_is_expression [] (wCons (wOp ixF (wVb 0) (wC (.int 1))) (wCons (wOp subF (wVb 1) (wC (.int 1))) wNil))) (wClU m_is_expression [] (wCons (wOp ixF (wVb 0) (wC (.int 2))) (wCons (wOp subF (wVb 1) (wC (.int 1))) wNil)))))))))))
def m_is_expression : Nat → MF Unit
  | 0 => bot
  | n + 1 => mk0 2 2 (u_is_expression (m_is_expression n))
def u_expression_names (m_expression_names : MF Unit) : WS Unit :=
  (wSeq (wIfS (wTr (wClU m_is_digit [] (wCons (wV 0) wNil))) (wRet (wLst wNil)) wNx)
    (wSeq (wIfS (wTb (wOp (eqF false) (wOp ixF (wVb 0) (wC (.int 0))) (wC (.str "name")))) (wRet (wLst (wCons (wOp ixF (wVb 0) (wC (.int 1))) wNil))) wNx)
    (wSeq (wSet 1 (wLst wNil))
    (wSeq (wFor (wWalk (wSl (wVb 0) (woS (wC (.int 1))) woN)) (gN 2) (wExt 1 (wClU m_expression_names [] (wCons (wV 2) wNil))))
    (wRetV 1)))))
def m_expression_names : Nat → MF Unit
  | 0 => bot
  | n + 1 => mk0 1 3 (u_expression_names (m_expression_names n))
def u_is_block_shape : WS Unit :=
  (wRet (wAnd (wUn (isT .tuple) (wVb 0)) (wOp leI (wUn lenF (wVb 0)) (wC (.int 12)))))
def m_is_block_shape : MF Unit := mk0 1 1 (u_is_block_shape)
def u_are_rows : WS Unit :=
  (wSeq (wIfS (wtOr (wtNot (wTr (wUn (isT .tuple) (wVb 0)))) (wtNot (wTb (wCh leI leI (wC (.int 1)) (wUn lenF (wVb 0)) (wC (.int 4)))))) (wRet (wC (.bl false))) wNx)
    (wSeq (wSet 1 (wLst wNil))
    (wSeq (wFor (wWalk (wV 0)) (gN 2) (wSeq (wIfS (wtOr (wtNot (wTr (wClU m_is_tuple [] (wCons (wV 2) (wCons (wC (.int 3)) wNil))))) (wtOr (wtNot (wTr (wClU m_is_name [] (wCons (wOp ixF (wVb 2) (wC (.int 0))) wNil)))) (wtNot (wTr (wClU m_is_name [] (wCons (wOp ixF (wVb 2) (wC (.int 1))) wNil)))))) (wRet (wC (.bl false))) wNx)
    (wSeq (wIfS (wtOr (wTb (wOp (inF false) (wOp ixF (wVb 2) (wC (.int 0))) (wVb 1))) (wtNot (wTr (wClU m_is_block_shape [] (wCons (wOp ixF (wVb 2) (wC (.int 2))) wNil))))) (wRet (wC (.bl false))) wNx)
    (wApp 1 (wOp ixF (wVb 2) (wC (.int 0)))))))
    (wRet (wC (.bl true))))))
def m_are_rows : MF Unit := mk0 1 3 (u_are_rows)
def u_are_blocks : WS Unit :=
  (wSeq (wIfS (wtOr (wtNot (wTr (wUn (isT .tuple) (wVb 0)))) (wtNot (wTb (wCh leI leI (wC (.int 1)) (wUn lenF (wVb 0)) (wC (.int 4)))))) (wRet (wC (.bl false))) wNx)
    (wSeq (wFor (wWalk (wV 0)) (gN 1) (wIfS (wtNot (wTr (wClU m_is_block_shape [] (wCons (wV 1) wNil)))) (wRet (wC (.bl false))) wNx))
    (wRet (wC (.bl true)))))
def m_are_blocks : MF Unit := mk0 1 2 (u_are_blocks)
def u_is_dealing_shape : WS Unit :=
  (wSeq (wIfS (wtOr (wTb (wOp (eqF true) (wUn lenF (wVb 0)) (wC (.int 3)))) (wtNot (wTr (wClU m_is_name [] (wCons (wOp ixF (wVb 0) (wC (.int 1))) wNil))))) (wRet (wC (.bl false))) wNx)
    (wSeq (wIfS (wTb (wOp (eqF false) (wOp ixF (wVb 0) (wC (.int 0))) (wC (.str "hear")))) (wRet (wClU m_is_name [] (wCons (wOp ixF (wVb 0) (wC (.int 2))) wNil))) wNx)
    (wRet (wClU (m_is_expression 8) [.d (.int 5)] (wCons (wOp ixF (wVb 0) (wC (.int 2))) wNil)))))
def m_is_dealing_shape : MF Unit := mk0 1 1 (u_is_dealing_shape)
def u_is_if_shape : WS Unit :=
  (wSeq (wIfS (wtOr (wTb (wOp (eqF true) (wUn lenF (wVb 0)) (wC (.int 4)))) (wtNot (wTr (wClU (m_is_expression 8) [.d (.int 5)] (wCons (wOp ixF (wVb 0) (wC (.int 1))) wNil))))) (wRet (wC (.bl false))) wNx)
    (wRet (wAnd (wClU m_is_block_shape [] (wCons (wOp ixF (wVb 0) (wC (.int 2))) wNil)) (wClU m_is_block_shape [] (wCons (wOp ixF (wVb 0) (wC (.int 3))) wNil)))))
def m_is_if_shape : MF Unit := mk0 1 1 (u_is_if_shape)
def u_is_statement : WS Unit :=
  (wSeq (wIfS (wtOr (wtNot (wTr (wUn (isT .tuple) (wVb 0)))) (wtOr (wTb (wOp (eqF false) (wUn lenF (wVb 0)) (wC (.int 0)))) (wtNot (wTr (wUn (isT .str) (wOp ixF (wVb 0) (wC (.int 0)))))))) (wRet (wC (.bl false))) wNx)
    (wSeq (wSet 1 (wOp ixF (wVb 0) (wC (.int 0))))
    (wSeq (wIfS (wTb (wOp (inF false) (wVb 1) (wTup (wCons (wC (.str "set")) (wCons (wC (.str "tell")) (wCons (wC (.str "hear")) wNil)))))) (wRet (wClU m_is_dealing_shape [] (wCons (wV 0) wNil))) wNx)
    (wSeq (wIfS (wTb (wOp (inF false) (wVb 1) (wTup (wCons (wC (.str "leave")) (wCons (wC (.str "home")) (wCons (wC (.str "fail")) wNil)))))) (wRet (wOp (eqF false) (wUn lenF (wVb 0)) (wC (.int 1)))) wNx)
    (wSeq (wIfS (wTb (wOp (eqF false) (wVb 1) (wC (.str "if")))) (wRet (wClU m_is_if_shape [] (wCons (wV 0) wNil))) wNx)
    (wSeq (wIfS (wTb (wOp (eqF true) (wUn lenF (wVb 0)) (wC (.int 2)))) (wRet (wC (.bl false))) wNx)
    (wSeq (wIfS (wTb (wOp (eqF false) (wVb 1) (wC (.str "wait")))) (wRet (wClU m_are_rows [] (wCons (wOp ixF (wVb 0) (wC (.int 1))) wNil))) wNx)
    (wSeq (wIfS (wTb (wOp (eqF false) (wVb 1) (wC (.str "open")))) (wRet (wClU m_are_blocks [] (wCons (wOp ixF (wVb 0) (wC (.int 1))) wNil))) wNx)
    (wRet (wAnd (wOp (eqF false) (wVb 1) (wC (.str "repeat"))) (wClU m_is_block_shape [] (wCons (wOp ixF (wVb 0) (wC (.int 1))) wNil))))))))))))
def m_is_statement : MF Unit := mk0 1 2 (u_is_statement)
def u_blocks_of : WS Unit :=
  (wSeq (wSet 1 (wOp ixF (wVb 0) (wC (.int 0))))
    (wSeq (wIfS (wTb (wOp (eqF false) (wVb 1) (wC (.str "wait")))) (wRet (wLc (wWalk (wOp ixF (wVb 0) (wC (.int 1)))) (gN 2) wYes (wOp ixF (wVb 2) (wC (.int 2))) [2])) wNx)
    (wSeq (wIfS (wTb (wOp (eqF false) (wVb 1) (wC (.str "open")))) (wRet (wUn listF2 (wOp ixF (wVb 0) (wC (.int 1))))) wNx)
    (wSeq (wIfS (wTb (wOp (eqF false) (wVb 1) (wC (.str "if")))) (wRet (wLst (wCons (wOp ixF (wVb 0) (wC (.int 2))) (wCons (wOp ixF (wVb 0) (wC (.int 3))) wNil)))) wNx)
    (wSeq (wIfS (wTb (wOp (eqF false) (wVb 1) (wC (.str "repeat")))) (wRet (wLst (wCons (wOp ixF (wVb 0) (wC (.int 1))) wNil))) wNx)
    (wRet (wLst wNil)))))))
def m_blocks_of : MF Unit := mk0 1 3 (u_blocks_of)
def u_names_of : WS Unit :=
  (wSeq (wSet 1 (wOp ixF (wVb 0) (wC (.int 0))))
    (wSeq (wIfS (wTb (wOp (eqF false) (wVb 1) (wC (.str "set")))) (wRet (wOp addF (wLst (wCons (wOp ixF (wVb 0) (wC (.int 1))) wNil)) (wClU (m_expression_names 8) [] (wCons (wOp ixF (wVb 0) (wC (.int 2))) wNil)))) wNx)
    (wSeq (wIfS (wTb (wOp (eqF false) (wVb 1) (wC (.str "tell")))) (wRet (wClU (m_expression_names 8) [] (wCons (wOp ixF (wVb 0) (wC (.int 2))) wNil))) wNx)
    (wSeq (wIfS (wTb (wOp (eqF false) (wVb 1) (wC (.str "hear")))) (wRet (wLst (wCons (wOp ixF (wVb 0) (wC (.int 2))) wNil))) wNx)
    (wSeq (wIfS (wTb (wOp (eqF false) (wVb 1) (wC (.str "wait")))) (wRet (wLc (wWalk (wOp ixF (wVb 0) (wC (.int 1)))) (gN 2) wYes (wOp ixF (wVb 2) (wC (.int 1))) [2])) wNx)
    (wSeq (wIfS (wTb (wOp (eqF false) (wVb 1) (wC (.str "if")))) (wRet (wClU (m_expression_names 8) [] (wCons (wOp ixF (wVb 0) (wC (.int 1))) wNil))) wNx)
    (wRet (wLst wNil))))))))
def m_names_of : MF Unit := mk0 1 3 (u_names_of)
def u_ports_of : WS Unit :=
  (wSeq (wSet 1 (wOp ixF (wVb 0) (wC (.int 0))))
    (wSeq (wIfS (wTb (wOp (inF false) (wVb 1) (wTup (wCons (wC (.str "tell")) (wCons (wC (.str "hear")) wNil))))) (wRet (wLst (wCons (wOp ixF (wVb 0) (wC (.int 1))) wNil))) wNx)
    (wSeq (wIfS (wTb (wOp (eqF false) (wVb 1) (wC (.str "wait")))) (wRet (wLc (wWalk (wOp ixF (wVb 0) (wC (.int 1)))) (gN 2) wYes (wOp ixF (wVb 2) (wC (.int 0))) [2])) wNx)
    (wRet (wLst wNil)))))
def m_ports_of : MF Unit := mk0 1 3 (u_ports_of)
def u_listed (m_listed : MF Unit) : WS Unit :=
  (wSeq (wSet 2 (wLst wNil))
    (wSeq (wFor (wEnum (wV 0)) (gT 2 (gsC (gN 3) (gsC (gN 4) gsN))) (wSeq (wSet 5 (wOp addF (wVb 1) (wTup (wCons (wV 3) wNil))))
    (wSeq (wFrz 5 (wApp 2 (wTup (wCons (wV 5) (wCons (wV 4) wNil)))))
    (wFor (wEnum (wClU m_blocks_of [] (wCons (wV 4) wNil))) (gT 2 (gsC (gN 6) (gsC (gN 7) gsN))) (wExt 2 (wClU m_listed [] (wCons (wV 7) (wCons (wOp addF (wVb 5) (wTup (wCons (wV 6) wNil))) wNil))))))))
    (wRetV 2)))
def m_listed : Nat → MF Unit
  | 0 => bot
  | n + 1 => mk0 2 8 (u_listed (m_listed n))
def u_statement_table : WS Unit :=
  (wSeq (wSet 1 wDt)
    (wSeq (wFor (wWalk (wClU (m_listed 14) [.d (.tupK [])] (wCons (wV 0) wNil))) (gT 2 (gsC (gN 2) (gsC (gN 3) gsN))) (wDSet 1 (wV 2) (wV 3)))
    (wRetV 1)))
def m_statement_table : MF Unit := mk0 1 4 (u_statement_table)
def u_ascending : WS Unit :=
  (wSeq (wSet 1 wDk)
    (wSeq (wFor (wWalk (wV 0)) (gN 2) (wDSet 1 (wV 2) (wC (.bl true))))
    (wRet (wUn sortDF (wUn listF2 (wVb 1))))))
def m_ascending : MF Unit := mk0 1 3 (u_ascending)
def u_block_names : WS Unit :=
  (wSeq (wSet 1 (wLst wNil))
    (wSeq (wFor (wWalk (wV 0)) (gN 2) (wExt 1 (wClU m_names_of [] (wCons (wV 2) wNil))))
    (wFrz 1 (wRet (wClU m_ascending [] (wCons (wV 1) wNil))))))
def m_block_names : MF Unit := mk0 1 3 (u_block_names)
def u_block_ports : WS Unit :=
  (wSeq (wSet 1 (wLst wNil))
    (wSeq (wFor (wWalk (wV 0)) (gN 2) (wExt 1 (wClU m_ports_of [] (wCons (wV 2) wNil))))
    (wFrz 1 (wRet (wClU m_ascending [] (wCons (wV 1) wNil))))))
def m_block_ports : MF Unit := mk0 1 3 (u_block_ports)
def u_ways_of (m_ways_of : MF Unit) (m_ways_through : MF Unit) : WS Unit :=
  (wSeq (wIfS (wtNot (wTr (wClU m_is_statement [] (wCons (wV 0) wNil)))) (wRet (wTup (wCons (wC (.bl false)) (wCons (wC (.bl false)) wNil)))) wNx)
    (wSeq (wSet 2 (wOp ixF (wVb 0) (wC (.int 0))))
    (wSeq (wIfS (wTb (wOp (eqF false) (wVb 2) (wC (.str "set")))) (wRet (wTup (wCons (wC (.bl true)) (wCons (wC (.bl false)) wNil)))) wNx)
    (wSeq (wIfS (wTb (wOp (eqF false) (wVb 2) (wC (.str "leave")))) (wRet (wTup (wCons (wC (.bl false)) (wCons (wC (.bl true)) wNil)))) wNx)
    (wSeq (wIfS (wtOr (wTb (wOp (inF true) (wVb 2) (wTup (wCons (wC (.str "if")) (wCons (wC (.str "open")) (wCons (wC (.str "repeat")) wNil)))))) (wTb (wOp geI (wVb 1) (wC (.int 12))))) (wRet (wTup (wCons (wC (.bl false)) (wCons (wC (.bl false)) wNil)))) wNx)
    (wSeq (wSet 3 (wLc (wWalk (wClU m_blocks_of [] (wCons (wV 0) wNil))) (gN 5) wYes (wClU m_ways_through [] (wCons (wV 5) (wCons (wOp addF (wVb 1) (wC (.int 1))) wNil))) [5]))
    (wSeq (wFrz 3 (wSet 4 (wUn anyF (wLc (wWalk (wV 3)) (gN 6) wYes (wOp ixF (wVb 6) (wC (.int 1))) [6]))))
    (wSeq (wIfS (wTb (wOp (eqF false) (wVb 2) (wC (.str "repeat")))) (wFrz 4 (wRet (wTup (wCons (wV 4) (wCons (wC (.bl false)) wNil))))) wNx)
    (wFrz 3 (wFrz 4 (wRet (wTup (wCons (wUn anyF (wLc (wWalk (wV 3)) (gN 6) wYes (wOp ixF (wVb 6) (wC (.int 0))) [6])) (wCons (wV 4) wNil))))))))))))))
def u_ways_through (m_ways_of : MF Unit) (m_ways_through : MF Unit) : WS Unit :=
  (wSeq (wSet 2 (wC (.bl false)))
    (wSeq (wFor (wWalk (wV 0)) (gN 3) (wSeq (wUnp (wClU m_ways_of [] (wCons (wV 3) (wCons (wV 1) wNil))) (gT 2 (gsC (gN 4) (gsC (gN 5) gsN))))
    (wSeq (wSet 2 (wOr (wV 2) (wV 5)))
    (wIfS (wtNot (wTr (wVb 4))) (wRet (wTup (wCons (wC (.bl false)) (wCons (wV 2) wNil)))) wNx))))
    (wRet (wTup (wCons (wC (.bl true)) (wCons (wV 2) wNil))))))
def g_ways_of : Nat → MF Unit × MF Unit
  | 0 => (bot, bot)
  | n + 1 => (mk0 2 7 (u_ways_of (g_ways_of n).1 (g_ways_of n).2), mk0 2 6 (u_ways_through (g_ways_of n).1 (g_ways_of n).2))
def m_ways_of (n : Nat) : MF Unit := (g_ways_of n).1
def m_ways_through (n : Nat) : MF Unit := (g_ways_of n).2
def u_deals : WS Unit :=
  (wRet (wNot (wOp ixF (wClU (m_ways_through 26) [] (wCons (wV 0) (wCons (wV 1) wNil))) (wC (.int 0)))))
def m_deals : MF Unit := mk0 2 2 (u_deals)
def u_is_wrong : WS Unit :=
  (wSeq (wIfS (wtNot (wTr (wClU m_is_statement [] (wCons (wV 0) wNil)))) (wRet (wC (.bl true))) wNx)
    (wSeq (wIfS (wTb (wOp (eqF false) (wOp ixF (wVb 0) (wC (.int 0))) (wC (.str "leave")))) (wRet (wNot (wV 2))) wNx)
    (wSeq (wIfS (wtAnd (wTb (wOp gtI (wUn lenF (wClU m_blocks_of [] (wCons (wV 0) wNil))) (wC (.int 0)))) (wTb (wOp geI (wVb 1) (wC (.int 12))))) (wRet (wC (.bl true))) wNx)
    (wRet (wAnd (wOp (eqF false) (wOp ixF (wVb 0) (wC (.int 0))) (wC (.str "repeat"))) (wNot (wClU m_deals [] (wCons (wOp ixF (wVb 0) (wC (.int 1))) (wCons (wOp addF (wVb 1) (wC (.int 1))) wNil)))))))))
def m_is_wrong : MF Unit := mk0 3 3 (u_is_wrong)
def u_first_wrong (m_first_wrong : MF Unit) : WS Unit :=
  (wSeq (wFor (wEnum (wV 0)) (gT 2 (gsC (gN 4) (gsC (gN 5) gsN))) (wSeq (wSet 6 (wOp addF (wVb 1) (wTup (wCons (wV 4) wNil))))
    (wSeq (wIfS (wTr (wClU m_is_wrong [] (wCons (wV 5) (wCons (wV 2) (wCons (wV 3) wNil))))) (wRetV 6) wNx)
    (wSeq (wSet 7 (wOr (wV 3) (wOp (eqF false) (wOp ixF (wVb 5) (wC (.int 0))) (wC (.str "repeat")))))
    (wFor (wEnum (wClU m_blocks_of [] (wCons (wV 5) wNil))) (gT 2 (gsC (gN 8) (gsC (gN 9) gsN))) (wSeq (wSet 10 (wClU m_first_wrong [] (wCons (wV 9) (wCons (wOp addF (wVb 6) (wTup (wCons (wV 8) wNil))) (wCons (wOp addF (wVb 2) (wC (.int 1))) (wCons (wV 7) wNil))))))
    (wIfS (wTb (wOp (isF true) (wVb 10) (wC .non))) (wRetV 10) wNx)))))))
    (wRet (wC .non)))
def m_first_wrong : Nat → MF Unit
  | 0 => bot
  | n + 1 => mk0 4 11 (u_first_wrong (m_first_wrong n))
def u_statement_count (m_statement_count : MF Unit) : WS Unit :=
  (wSeq (wSet 1 (wUn lenF (wVb 0)))
    (wSeq (wFor (wWalk (wV 0)) (gN 2) (wFor (wWalk (wClU m_blocks_of [] (wCons (wV 2) wNil))) (gN 3) (wSet 1 (wOp addF (wVb 1) (wClU m_statement_count [] (wCons (wV 3) wNil))))))
    (wRetV 1)))
def m_statement_count : Nat → MF Unit
  | 0 => bot
  | n + 1 => mk0 1 4 (u_statement_count (m_statement_count n))
def u_check_top_block : WS Unit :=
  (wSeq (wIfS (wtNot (wTr (wClU m_is_block_shape [] (wCons (wV 0) wNil)))) (wRaise 1 (wTup wNil)) wNx)
    (wSeq (wSet 1 (wClU (m_first_wrong 16) [.d (.tupK []), .d (.int 1), .d (.bl false)] (wCons (wV 0) wNil)))
    (wSeq (wIfS (wTb (wOp (isF true) (wVb 1) (wC .non))) (wFrz 1 (wRaise 1 (wV 1))) wNx)
    (wIfS (wTb (wOp gtI (wClU (m_statement_count 16) [] (wCons (wV 0) wNil)) (wC (.int 6000)))) (wRaise 1 (wC .non)) wNx))))
def m_check_top_block : MF Unit := mkX 1 2 (u_check_top_block)
def u__law_mixed : WS Unit :=
  (wSeq (wSet 0 (wOp modF (wOp mulF2 (wUn intF (wOp addF (wOp addF (wVb 0) (wOp mulF2 (wC (.int 7919)) (wVb 1))) (wC (.int 1)))) (wC (.int 48271))) (wC (.int 2147483647))))
    (wSeq (wSet 0 (wOp modF (wOp mulF2 (wUn intF (wVb 0)) (wOp addF (wOp fdivF (wVb 0) (wC (.int 1009))) (wC (.int 69621)))) (wC (.int 2147483647))))
    (wSeq (wSet 0 (wOp modF (wOp mulF2 (wUn intF (wVb 0)) (wOp addF (wOp fdivF (wVb 0) (wC (.int 2003))) (wC (.int 40692)))) (wC (.int 2147483399))))
    (wRet (wOp fdivF (wVb 0) (wC (.int 16)))))))
def m__law_mixed : MF Unit := mk0 2 2 (u__law_mixed)
def u_Routine_paths : WS Unit :=
  (wRet (wUn sortDF (wUn listF2 (wFld 0 "table" (wV 0)))))
def m_Routine_paths : MF Unit := mk0 1 1 (u_Routine_paths)
def u_init_Routine : WS Unit :=
  (wSeq (wDrop (wClUX m_check_top_block [] (wCons (wV 1) wNil)))
    (wSeq (wOFld 0 "block" (wV 1))
    (wSeq (wOFld 0 "table" (wClU m_statement_table [] (wCons (wV 1) wNil)))
    (wSeq (wOFld 0 "name_list" (wClU m_block_names [] (wCons (wLvals (wOGet 0 "table")) wNil)))
    (wOFld 0 "port_list" (wClU m_block_ports [] (wCons (wLvals (wOGet 0 "table")) wNil)))))))
def m_init_Routine : MI := mkI 0 2 2 u_init_Routine
def top (i : Nat) : Stmt := PySem.Challenge.pw_onlyheard_k11_bounds.main.body.getD i (.Pass ⟨0, 0, 0, 0⟩)
structure Txt (w : World) (K : PySem.W.Frag) (mg : Str → Option Value) (cl xl : Nat → Addr) (fI : Addr) : Prop where
  ck : ∀ c, ClsOk K (cl c)
  cls : ∀ c, Cls K (cl c)
  o_Routine : mg "Routine" = some (.ref (cl 0))
  ap0 : Apart K cl nCl 0
  i_Routine : DefM K (cl 0) "__init__" "Routine.__init__" (inClass (top 49) 0) cl []
  mk_Routine : PySem.W.makesIn K (cl 0) = true
  kp_Routine : PySem.W.keepIn K (.ref (cl 0)) = true
  a_Routine_block : NoAttr K (cl 0) "block"
  a_Routine_table : NoAttr K (cl 0) "table"
  n_block : ∀ c, NoAttr K (cl c) "block"
  n_name_list : ∀ c, NoAttr K (cl c) "name_list"
  n_port_list : ∀ c, NoAttr K (cl c) "port_list"
  n_table : ∀ c, NoAttr K (cl c) "table"
  x : ∀ c, ExC K (xl c) fI
  i_ty : PySem.W.typeIn K (.ref fI) = some (.type "function")
  i_fn : ∃ fd, FunD K "__init__" "HeardError.__init__" (defArgs (inClass (top 37) 0)) (defBody (inClass (top 37) 0)) (defScope (inClass (top 37) 0)) [.non] [] fI fd
  e_HeardError : mg "HeardError" = some (.ref (xl 0))
  h_HeardError : ∀ c, c < nXl → PySem.W.exmOne K (.ref (xl c)) (.ref (xl 0)) = some (hcf_HeardError c)
  e_BadRoutine : mg "BadRoutine" = some (.ref (xl 1))
  h_BadRoutine : ∀ c, c < nXl → PySem.W.exmOne K (.ref (xl c)) (.ref (xl 1)) = some (hcf_BadRoutine c)
  e_NoPath : mg "NoPath" = some (.ref (xl 2))
  h_NoPath : ∀ c, c < nXl → PySem.W.exmOne K (.ref (xl c)) (.ref (xl 2)) = some (hcf_NoPath c)
  z_isinstance : mg "isinstance" = none
  z_bool : mg "bool" = none
  z_int : mg "int" = none
  z_len : mg "len" = none
  z_str : mg "str" = none
  z_tuple : mg "tuple" = none
  z_list : mg "list" = none
  z_enumerate : mg "enumerate" = none
  z_sorted : mg "sorted" = none
  z_any : mg "any" = none
  z_range : mg "range" = none
  z_reversed : mg "reversed" = none
  z_sum : mg "sum" = none
  g_MOST_LETTERS : Gc K mg "MOST_LETTERS" cl (.int 8)
  g_LETTERS : Gc K mg "LETTERS" cl (.str "abcdefghijklmnopqrstuvwxyz")
  k_KEPT_WORDS : KWE K w mg "KEPT_WORDS" kw_KEPT_WORDS
  g_PAIRED : Gc K mg "PAIRED" cl (.tupK [(.str "plus"), (.str "minus"), (.str "same"), (.str "less")])
  g_MOST_STATEMENTS : Gc K mg "MOST_STATEMENTS" cl (.int 12)
  g_MOST_ROWS : Gc K mg "MOST_ROWS" cl (.int 4)
  g_MOST_DEPTH : Gc K mg "MOST_DEPTH" cl (.int 12)
  g_MOST_ALL : Gc K mg "MOST_ALL" cl (.int 6000)
  d_is_integer : DefE K mg cl "is_integer" (top 10) []
  d_is_count : DefE K mg cl "is_count" (top 11) []
  d_is_digit : DefE K mg cl "is_digit" (top 12) []
  d_is_name : DefE K mg cl "is_name" (top 13) []
  d_is_tuple : DefE K mg cl "is_tuple" (top 14) []
  d_is_path : DefE K mg cl "is_path" (top 15) []
  d_is_paired : DefE K mg cl "is_paired" (top 18) []
  d_is_expression : DefE K mg cl "is_expression" (top 19) [.d (.int 5)]
  d_expression_names : DefE K mg cl "expression_names" (top 20) []
  d_is_block_shape : DefE K mg cl "is_block_shape" (top 22) []
  d_are_rows : DefE K mg cl "are_rows" (top 23) []
  d_are_blocks : DefE K mg cl "are_blocks" (top 24) []
  d_is_dealing_shape : DefE K mg cl "is_dealing_shape" (top 25) []
  d_is_if_shape : DefE K mg cl "is_if_shape" (top 26) []
  d_is_statement : DefE K mg cl "is_statement" (top 27) []
  d_blocks_of : DefE K mg cl "blocks_of" (top 28) []
  d_names_of : DefE K mg cl "names_of" (top 29) []
  d_ports_of : DefE K mg cl "ports_of" (top 30) []
  d_listed : DefE K mg cl "listed" (top 31) [.d (.tupK [])]
  d_statement_table : DefE K mg cl "statement_table" (top 32) []
  d_ascending : DefE K mg cl "ascending" (top 33) []
  d_block_names : DefE K mg cl "block_names" (top 34) []
  d_block_ports : DefE K mg cl "block_ports" (top 35) []
  d_ways_of : DefE K mg cl "ways_of" (top 41) []
  d_ways_through : DefE K mg cl "ways_through" (top 42) []
  d_deals : DefE K mg cl "deals" (top 43) [.d (.int 2)]
  d_is_wrong : DefE K mg cl "is_wrong" (top 44) []
  d_first_wrong : DefE K mg cl "first_wrong" (top 45) [.d (.tupK []), .d (.int 1), .d (.bl false)]
  d_statement_count : DefE K mg cl "statement_count" (top 46) []
  d_check_top_block : DefE K mg cl "check_top_block" (top 47) []
  d__law_source : DefE K mg cl "_law_source" (top 51) []
  d__law_mixed : DefE K mg cl "_law_mixed" (top 52) []
  d__law_draw : DefE K mg cl "_law_draw" (top 53) []
  d__law_alike : DefE K mg cl "_law_alike" (top 54) []
  d__law_simple : DefE K mg cl "_law_simple" (top 55) []
  d__law_agrees : DefE K mg cl "_law_agrees" (top 56) []
  d__law_sizes_agree : DefE K mg cl "_law_sizes_agree" (top 57) []
  d__law_around : DefE K mg cl "_law_around" (top 58) []
  d__law_depths_agree : DefE K mg cl "_law_depths_agree" (top 59) []
  d__law_rows_agree : DefE K mg cl "_law_rows_agree" (top 60) []
  d__law_chain : DefE K mg cl "_law_chain" (top 61) []
  d__law_expressions_agree : DefE K mg cl "_law_expressions_agree" (top 62) []
  d__law_letters_agree : DefE K mg cl "_law_letters_agree" (top 63) []
  d__law_large : DefE K mg cl "_law_large" (top 64) []
  d__law_sized : DefE K mg cl "_law_sized" (top 65) []
  d__law_counts_agree : DefE K mg cl "_law_counts_agree" (top 66) []
  d_law : DefE K mg cl "law" (top 67) []
  q_Routine_paths : DefM K (cl 0) "paths" "Routine.paths" (inClass (top 49) 4) cl []
theorem init_ok {P : Program} {w : World} {K : PySem.W.Frag} {mg : Str → Option Value} {base : Heap} {cl xl : Nat → Addr} {fI : Addr} (T : Txt w K mg cl xl fI) : ExI P w K mg base fI := let ⟨fd, F⟩ := T.i_fn; exi_of (st := inClass (top 37) 0) F ⟨rfl, rfl, rfl, by decide +kernel, rfl, by decide +kernel, by decide +kernel⟩ T.i_ty rfl rfl rfl (fun _ _ _ _ _ _ _ us its h1 h2 => match us, its, h1, h2 with | [_, _], [_], _, _ => ⟨_, rfl, rfl⟩)
abbrev s_is_integer : Stmt := top 10
theorem sc_is_integer : FnScope ["value"] ["value"] (defScope s_is_integer) := ⟨rfl, rfl, rfl, by decide +kernel, rfl, by decide +kernel, by decide +kernel⟩
theorem c_is_integer_1 {P : Program} {w : World} {K : PySem.W.Frag} {mg : Str → Option Value} {base : Heap} {cl : Nat → Addr} {CX : CXT} {k : Nat} {sp : Sp} (o : OkE P w K mg base CX k "is_integer" s_is_integer ["value"] cl [] sp) : CalL P w K mg base CX k "is_integer" cl sp [] := o.cal fun _ _ _ _ _ _ us hl => match us, hl with | [_], _ => rfl
theorem ok_is_integer {P : Program} {w : World} {K : PySem.W.Frag} {mg : Str → Option Value} {base : Heap} {cl xl : Nat → Addr} {fI : Addr} (T : Txt w K mg cl xl fI) : OkE P w K mg base CX0 1 "is_integer" s_is_integer ["value"] cl [] (spW K cl xl Sto.no (m_is_integer)) :=
  ok0E T.d_is_integer sc_is_integer fun cdv A outer s H E G f hr => by
    have sc := sc_is_integer
    exact (ws_one (ws_ret (we_and (we_isT (T := .int) T.ck (pe_callB call_isi rfl T.z_isinstance boot_isinstance (pa_cons (wb_v (pv 0)) (pa_cons (pe_bltn rfl T.z_int PyProof.Rows.boot_int rfl) pa_nil)))) (we_one (we_not (we_isT (T := .bool) T.ck (pe_callB call_isi rfl T.z_isinstance boot_isinstance (pa_cons (wb_v (pv 0)) (pa_cons (pe_bltn rfl T.z_bool PyProof.Rows.boot_bool rfl) pa_nil)))))))))
abbrev s_is_count : Stmt := top 11
theorem sc_is_count : FnScope ["value"] ["value"] (defScope s_is_count) := ⟨rfl, rfl, rfl, by decide +kernel, rfl, by decide +kernel, by decide +kernel⟩
theorem c_is_count_1 {P : Program} {w : World} {K : PySem.W.Frag} {mg : Str → Option Value} {base : Heap} {cl : Nat → Addr} {CX : CXT} {k : Nat} {sp : Sp} (o : OkE P w K mg base CX k "is_count" s_is_count ["value"] cl [] sp) : CalL P w K mg base CX k "is_count" cl sp [] := o.cal fun _ _ _ _ _ _ us hl => match us, hl with | [_], _ => rfl
theorem ok_is_count {P : Program} {w : World} {K : PySem.W.Frag} {mg : Str → Option Value} {base : Heap} {cl xl : Nat → Addr} {fI : Addr} (T : Txt w K mg cl xl fI) : OkE P w K mg base CX0 2 "is_count" s_is_count ["value"] cl [] (spW K cl xl Sto.no (m_is_count)) :=
  ok0E T.d_is_count sc_is_count fun cdv A outer s H E G f hr => by
    have sc := sc_is_count
    exact (ws_one (ws_ret (we_and (we_cU (c_is_integer_1 (ok_is_integer T)) pass0 hr (by omega) rfl (wa_cons (we_v (pv 0)) wa_nil)) (we_one (we_geI (wb_v (pv 0)) (wb we_int))))))
abbrev s_is_digit : Stmt := top 12
theorem sc_is_digit : FnScope ["value"] ["value"] (defScope s_is_digit) := ⟨rfl, rfl, rfl, by decide +kernel, rfl, by decide +kernel, by decide +kernel⟩
theorem c_is_digit_1 {P : Program} {w : World} {K : PySem.W.Frag} {mg : Str → Option Value} {base : Heap} {cl : Nat → Addr} {CX : CXT} {k : Nat} {sp : Sp} (o : OkE P w K mg base CX k "is_digit" s_is_digit ["value"] cl [] sp) : CalL P w K mg base CX k "is_digit" cl sp [] := o.cal fun _ _ _ _ _ _ us hl => match us, hl with | [_], _ => rfl
theorem ok_is_digit {P : Program} {w : World} {K : PySem.W.Frag} {mg : Str → Option Value} {base : Heap} {cl xl : Nat → Addr} {fI : Addr} (T : Txt w K mg cl xl fI) : OkE P w K mg base CX0 2 "is_digit" s_is_digit ["value"] cl [] (spW K cl xl Sto.no (m_is_digit)) :=
  ok0E T.d_is_digit sc_is_digit fun cdv A outer s H E G f hr => by
    have sc := sc_is_digit
    exact (ws_one (ws_ret (we_and (we_cU (c_is_integer_1 (ok_is_integer T)) pass0 hr (by omega) rfl (wa_cons (we_v (pv 0)) wa_nil)) (we_one (we_ch op_le leI_ok op_le leI_ok (wb we_int) (wb_v (pv 0)) (wb we_int))))))
abbrev s_is_name : Stmt := top 13
theorem sc_is_name : FnScope ["value", "letter"] ["value"] (defScope s_is_name) := ⟨rfl, rfl, rfl, by decide +kernel, rfl, by decide +kernel, by decide +kernel⟩
theorem c_is_name_1 {P : Program} {w : World} {K : PySem.W.Frag} {mg : Str → Option Value} {base : Heap} {cl : Nat → Addr} {CX : CXT} {k : Nat} {sp : Sp} (o : OkE P w K mg base CX k "is_name" s_is_name ["value"] cl [] sp) : CalL P w K mg base CX k "is_name" cl sp [] := o.cal fun _ _ _ _ _ _ us hl => match us, hl with | [_], _ => rfl
theorem ok_is_name {P : Program} {w : World} {K : PySem.W.Frag} {mg : Str → Option Value} {base : Heap} {cl xl : Nat → Addr} {fI : Addr} (T : Txt w K mg cl xl fI) : OkE P w K mg base CX0 1 "is_name" s_is_name ["value"] cl [] (spW K cl xl Sto.no (m_is_name)) :=
  ok0E T.d_is_name sc_is_name fun cdv A outer s H E G f hr => by
    have sc := sc_is_name
    exact (ws_cons (ws_if (PW.pt (wt_or (wt_not (wt_tr (wb (we_isT (T := .str) T.ck (pe_callB call_isi rfl T.z_isinstance boot_isinstance (pa_cons (wb_v (pv 0)) (pa_cons (pe_bltn rfl T.z_str PyProof.Rows.boot_str rfl) pa_nil))))))) (wt_or1 (wt_not (wt_ch op_le leI_ok op_le leI_ok (wb we_int) (wb (we_un (pe_callB call_lenA rfl T.z_len boot_len (pa_cons (wb_v (pv 0)) pa_nil)) len_ok)) (wb (we_gc T.g_MOST_LETTERS rfl))))))) (ws_one (ws_ret we_bl)) ws_nil)
    (ws_cons (ws_for PassesOwn.never rfl (wr_walk (we_v (pv 0))) (pg_name (i := 1) sc.nd rfl (Or.inl rfl)) tg_name (ws_one (ws_if (wt_notin (wb_v (pv 1)) (wb (we_gc T.g_LETTERS rfl))) (ws_one (ws_ret we_bl)) ws_nil)))
    (ws_one (ws_ret (we_kwninE T.k_KEPT_WORDS rfl (wb_v (pv 0)))))))
abbrev s_is_tuple : Stmt := top 14
theorem sc_is_tuple : FnScope ["value", "size"] ["value", "size"] (defScope s_is_tuple) := ⟨rfl, rfl, rfl, by decide +kernel, rfl, by decide +kernel, by decide +kernel⟩
theorem c_is_tuple_2 {P : Program} {w : World} {K : PySem.W.Frag} {mg : Str → Option Value} {base : Heap} {cl : Nat → Addr} {CX : CXT} {k : Nat} {sp : Sp} (o : OkE P w K mg base CX k "is_tuple" s_is_tuple ["value", "size"] cl [] sp) : CalL P w K mg base CX k "is_tuple" cl sp [] := o.cal fun _ _ _ _ _ _ us hl => match us, hl with | [_, _], _ => rfl
theorem ok_is_tuple {P : Program} {w : World} {K : PySem.W.Frag} {mg : Str → Option Value} {base : Heap} {cl xl : Nat → Addr} {fI : Addr} (T : Txt w K mg cl xl fI) : OkE P w K mg base CX0 1 "is_tuple" s_is_tuple ["value", "size"] cl [] (spW K cl xl Sto.no (m_is_tuple)) :=
  ok0E T.d_is_tuple sc_is_tuple fun cdv A outer s H E G f hr => by
    have sc := sc_is_tuple
    exact (ws_one (ws_ret (we_and (we_isT (T := .tuple) T.ck (pe_callB call_isi rfl T.z_isinstance boot_isinstance (pa_cons (wb_v (pv 0)) (pa_cons (pe_bltn rfl T.z_tuple PyProof.Rows.boot_tuple rfl) pa_nil)))) (we_one (we_eq hr.units (wb (we_un (pe_callB call_lenA rfl T.z_len boot_len (pa_cons (wb_v (pv 0)) pa_nil)) len_ok)) (wb_v (pv 1)))))))
abbrev s_is_path : Stmt := top 15
theorem sc_is_path : FnScope ["value", "part"] ["value"] (defScope s_is_path) := ⟨rfl, rfl, rfl, by decide +kernel, rfl, by decide +kernel, by decide +kernel⟩
theorem ok_is_path {P : Program} {w : World} {K : PySem.W.Frag} {mg : Str → Option Value} {base : Heap} {cl xl : Nat → Addr} {fI : Addr} (T : Txt w K mg cl xl fI) : OkE P w K mg base CX0 3 "is_path" s_is_path ["value"] cl [] (spW K cl xl Sto.no (m_is_path)) :=
  ok0E T.d_is_path sc_is_path fun cdv A outer s H E G f hr => by
    have sc := sc_is_path
    exact (ws_cons (ws_if (PW.pt (wt_or (wt_not (wt_tr (wb (we_isT (T := .tuple) T.ck (pe_callB call_isi rfl T.z_isinstance boot_isinstance (pa_cons (wb_v (pv 0)) (pa_cons (pe_bltn rfl T.z_tuple PyProof.Rows.boot_tuple rfl) pa_nil))))))) (wt_or1 (wt_eq hr.units (wb (we_un (pe_callB call_lenA rfl T.z_len boot_len (pa_cons (wb_v (pv 0)) pa_nil)) len_ok)) (wb we_int))))) (ws_one (ws_ret we_bl)) ws_nil)
    (ws_cons (ws_for PassesOwn.never rfl (wr_walk (we_v (pv 0))) (pg_name (i := 1) sc.nd rfl (Or.inl rfl)) tg_name (ws_one (ws_if (wt_not (wt_tr (wb (we_cU (c_is_count_1 (ok_is_count T)) pass0 hr (by omega) rfl (wa_cons (we_v (pv 1)) wa_nil))))) (ws_one (ws_ret we_bl)) ws_nil)))
    (ws_one (ws_ret we_bl))))
abbrev s_is_paired : Stmt := top 18
theorem sc_is_paired : FnScope ["value"] ["value"] (defScope s_is_paired) := ⟨rfl, rfl, rfl, by decide +kernel, rfl, by decide +kernel, by decide +kernel⟩
theorem c_is_paired_1 {P : Program} {w : World} {K : PySem.W.Frag} {mg : Str → Option Value} {base : Heap} {cl : Nat → Addr} {CX : CXT} {k : Nat} {sp : Sp} (o : OkE P w K mg base CX k "is_paired" s_is_paired ["value"] cl [] sp) : CalL P w K mg base CX k "is_paired" cl sp [] := o.cal fun _ _ _ _ _ _ us hl => match us, hl with | [_], _ => rfl
theorem ok_is_paired {P : Program} {w : World} {K : PySem.W.Frag} {mg : Str → Option Value} {base : Heap} {cl xl : Nat → Addr} {fI : Addr} (T : Txt w K mg cl xl fI) : OkE P w K mg base CX0 1 "is_paired" s_is_paired ["value"] cl [] (spW K cl xl Sto.no (m_is_paired)) :=
  ok0E T.d_is_paired sc_is_paired fun cdv A outer s H E G f hr => by
    have sc := sc_is_paired
    exact (ws_one (ws_ret (we_and (we_eq hr.units (wb (we_un (pe_callB call_lenA rfl T.z_len boot_len (pa_cons (wb_v (pv 0)) pa_nil)) len_ok)) (wb we_int)) (we_one (we_in (wb (we_item (wb_v (pv 0)) (wb we_int))) (wb (we_gc T.g_PAIRED rfl)))))))
abbrev s_is_expression : Stmt := top 19
theorem sc_is_expression : FnScope ["value", "room"] ["value", "room"] (defScope s_is_expression) := ⟨rfl, rfl, rfl, by decide +kernel, rfl, by decide +kernel, by decide +kernel⟩
theorem c_is_expression_2 {P : Program} {w : World} {K : PySem.W.Frag} {mg : Str → Option Value} {base : Heap} {cl : Nat → Addr} {CX : CXT} {k : Nat} {sp : Sp} (o : OkE P w K mg base CX k "is_expression" s_is_expression ["value", "room"] cl [.d (.int 5)] sp) : CalL P w K mg base CX k "is_expression" cl sp [] := o.calD 2 1 (by simp) rfl fun _ _ _ _ _ _ _ us its h1 h2 => match us, its, h1, h2 with | [_, _], [_], _, _ => ⟨_, rfl, rfl⟩
theorem c_is_expression_1 {P : Program} {w : World} {K : PySem.W.Frag} {mg : Str → Option Value} {base : Heap} {cl : Nat → Addr} {CX : CXT} {k : Nat} {sp : Sp} (o : OkE P w K mg base CX k "is_expression" s_is_expression ["value", "room"] cl [.d (.int 5)] sp) : CalL P w K mg base CX k "is_expression" cl sp [.d (.int 5)] := o.calD 1 0 (by simp) rfl fun _ _ _ _ _ _ _ us its h1 h2 => match us, its, h1, h2 with | [_], [_], _, _ => ⟨_, rfl, rfl⟩
theorem ok_is_expression {P : Program} {w : World} {K : PySem.W.Frag} {mg : Str → Option Value} {base : Heap} {cl xl : Nat → Addr} {fI : Addr} (T : Txt w K mg cl xl fI) : ∀ n, OkE P w K mg base CX0 (2 + n) "is_expression" s_is_expression ["value", "room"] cl [.d (.int 5)] (spW K cl xl Sto.no (m_is_expression n))
  | 0 => okE_bot T.d_is_expression
  | n + 1 => by
    have ih := ok_is_expression (P := P) (w := w) (K := K) (mg := mg) (base := base) (cl := cl) (xl := xl) (fI := fI) T n
    exact ok0E T.d_is_expression sc_is_expression fun cdv A outer s H E G f hr => by
      have sc := sc_is_expression
      have hr : Room (2 + n) _ := hr
      exact (ws_cons (ws_if (wt_ltI (wb_v (pv 1)) (wb we_int)) (ws_one (ws_ret we_bl)) ws_nil)
      (ws_cons (ws_if (wt_tr (wb (we_cU (c_is_digit_1 (ok_is_digit T)) pass0 hr (by omega) rfl (wa_cons (we_v (pv 0)) wa_nil)))) (ws_one (ws_ret we_bl)) ws_nil)
      (ws_cons (ws_if (PW.pt (wt_or (wt_not (wt_tr (wb (we_isT (T := .tuple) T.ck (pe_callB call_isi rfl T.z_isinstance boot_isinstance (pa_cons (wb_v (pv 0)) (pa_cons (pe_bltn rfl T.z_tuple PyProof.Rows.boot_tuple rfl) pa_nil))))))) (wt_or (wt_not (wt_tr (wb_v (pv 0)))) (wt_or1 (wt_not (wt_tr (wb (we_isT (T := .str) T.ck (pe_callB call_isi rfl T.z_isinstance boot_isinstance (pa_cons (wb (we_item (wb_v (pv 0)) (wb we_int))) (pa_cons (pe_bltn rfl T.z_str PyProof.Rows.boot_str rfl) pa_nil))))))))))) (ws_one (ws_ret we_bl)) ws_nil)
      (ws_cons (ws_if (wt_eq hr.units (wb (we_item (wb_v (pv 0)) (wb we_int))) (wb we_str)) (ws_one (ws_ret (we_and (we_eq hr.units (wb (we_un (pe_callB call_lenA rfl T.z_len boot_len (pa_cons (wb_v (pv 0)) pa_nil)) len_ok)) (wb we_int)) (we_one (we_cU (c_is_name_1 (ok_is_name T)) pass0 hr (by omega) rfl (wa_cons (we_item (wb_v (pv 0)) (wb we_int)) wa_nil)))))) ws_nil)
      (ws_cons (ws_if (wt_eq hr.units (wb (we_item (wb_v (pv 0)) (wb we_int))) (wb we_str)) (ws_one (ws_ret (we_and (we_eq hr.units (wb (we_un (pe_callB call_lenA rfl T.z_len boot_len (pa_cons (wb_v (pv 0)) pa_nil)) len_ok)) (wb we_int)) (we_one (we_cU (c_is_expression_2 ih) pass0 hr (by omega) rfl (wa_cons (we_item (wb_v (pv 0)) (wb we_int)) (wa_cons (we_sub (wb_v (pv 1)) (wb we_int)) wa_nil))))))) ws_nil)
      (ws_cons (ws_if (wt_not (wt_tr (wb (we_cU (c_is_paired_1 (ok_is_paired T)) pass0 hr (by omega) rfl (wa_cons (we_v (pv 0)) wa_nil))))) (ws_one (ws_ret we_bl)) ws_nil)
      (ws_one (ws_ret (we_and (we_cU (c_is_expression_2 ih) pass0 hr (by omega) rfl (wa_cons (we_item (wb_v (pv 0)) (wb we_int)) (wa_cons (we_sub (wb_v (pv 1)) (wb we_int)) wa_nil))) (we_one (we_cU (c_is_expression_2 ih) pass0 hr (by omega) rfl (wa_cons (we_item (wb_v (pv 0)) (wb we_int)) (wa_cons (we_sub (wb_v (pv 1)) (wb we_int)) wa_nil)))))))))))))
abbrev s_expression_names : Stmt := top 20
theorem sc_expression_names : FnScope ["expression", "found", "part"] ["expression"] (defScope s_expression_names) := ⟨rfl, rfl, rfl, by decide +kernel, rfl, by decide +kernel, by decide +kernel⟩
theorem c_expression_names_1 {P : Program} {w : World} {K : PySem.W.Frag} {mg : Str → Option Value} {base : Heap} {cl : Nat → Addr} {CX : CXT} {k : Nat} {sp : Sp} (o : OkE P w K mg base CX k "expression_names" s_expression_names ["expression"] cl [] sp) : CalL P w K mg base CX k "expression_names" cl sp [] := o.cal fun _ _ _ _ _ _ us hl => match us, hl with | [_], _ => rfl
theorem ok_expression_names {P : Program} {w : World} {K : PySem.W.Frag} {mg : Str → Option Value} {base : Heap} {cl xl : Nat → Addr} {fI : Addr} (T : Txt w K mg cl xl fI) : ∀ n, OkE P w K mg base CX0 (2 + n) "expression_names" s_expression_names ["expression"] cl [] (spW K cl xl Sto.no (m_expression_names n))
  | 0 => okE_bot T.d_expression_names
  | n + 1 => by
    have ih := ok_expression_names (P := P) (w := w) (K := K) (mg := mg) (base := base) (cl := cl) (xl := xl) (fI := fI) T n
    exact ok0E T.d_expression_names sc_expression_names fun cdv A outer s H E G f hr => by
      have sc := sc_expression_names
      have hr : Room (2 + n) _ := hr
      exact (ws_cons (ws_if (wt_tr (wb (we_cU (c_is_digit_1 (ok_is_digit T)) pass0 hr (by omega) rfl (wa_cons (we_v (pv 0)) wa_nil)))) (ws_one (ws_ret (we_lst wa_nil))) ws_nil)
      (ws_cons (ws_if (wt_eq hr.units (wb (we_item (wb_v (pv 0)) (wb we_int))) (wb we_str)) (ws_one (ws_ret (we_lst (wa_cons (we_item (wb_v (pv 0)) (wb we_int)) wa_nil)))) ws_nil)
      (ws_cons (ws_set (i := 1) sc.nd rfl (Or.inl rfl) (we_lst wa_nil))
      (ws_cons (ws_for PassesOwn.never rfl (wr_walk (we_slice (wb_v (pv 0)) (wo_s we_int) wo_n)) (pg_name (i := 2) sc.nd rfl (Or.inl rfl)) tg_name (ws_one (ws_ext (ps_expr (pe_bm PySem.F.plainAttrs_list PySem.F.slot_list_extend PySem.F.type_list_extend mt_extend (pv 1) (pa_cons (we_cU (c_expression_names_1 ih) pass0 hr (by omega) rfl (wa_cons (we_v (pv 2)) wa_nil)) pa_nil))))))
      (ws_one (ws_retV (pv 1)))))))
abbrev s_is_block_shape : Stmt := top 22
theorem sc_is_block_shape : FnScope ["value"] ["value"] (defScope s_is_block_shape) := ⟨rfl, rfl, rfl, by decide +kernel, rfl, by decide +kernel, by decide +kernel⟩
theorem c_is_block_shape_1 {P : Program} {w : World} {K : PySem.W.Frag} {mg : Str → Option Value} {base : Heap} {cl : Nat → Addr} {CX : CXT} {k : Nat} {sp : Sp} (o : OkE P w K mg base CX k "is_block_shape" s_is_block_shape ["value"] cl [] sp) : CalL P w K mg base CX k "is_block_shape" cl sp [] := o.cal fun _ _ _ _ _ _ us hl => match us, hl with | [_], _ => rfl
theorem ok_is_block_shape {P : Program} {w : World} {K : PySem.W.Frag} {mg : Str → Option Value} {base : Heap} {cl xl : Nat → Addr} {fI : Addr} (T : Txt w K mg cl xl fI) : OkE P w K mg base CX0 1 "is_block_shape" s_is_block_shape ["value"] cl [] (spW K cl xl Sto.no (m_is_block_shape)) :=
  ok0E T.d_is_block_shape sc_is_block_shape fun cdv A outer s H E G f hr => by
    have sc := sc_is_block_shape
    exact (ws_one (ws_ret (we_and (we_isT (T := .tuple) T.ck (pe_callB call_isi rfl T.z_isinstance boot_isinstance (pa_cons (wb_v (pv 0)) (pa_cons (pe_bltn rfl T.z_tuple PyProof.Rows.boot_tuple rfl) pa_nil)))) (we_one (we_leI (wb (we_un (pe_callB call_lenA rfl T.z_len boot_len (pa_cons (wb_v (pv 0)) pa_nil)) len_ok)) (wb (we_gc T.g_MOST_STATEMENTS rfl)))))))
abbrev s_are_rows : Stmt := top 23
theorem sc_are_rows : FnScope ["value", "ports", "row"] ["value"] (defScope s_are_rows) := ⟨rfl, rfl, rfl, by decide +kernel, rfl, by decide +kernel, by decide +kernel⟩
theorem c_are_rows_1 {P : Program} {w : World} {K : PySem.W.Frag} {mg : Str → Option Value} {base : Heap} {cl : Nat → Addr} {CX : CXT} {k : Nat} {sp : Sp} (o : OkE P w K mg base CX k "are_rows" s_are_rows ["value"] cl [] sp) : CalL P w K mg base CX k "are_rows" cl sp [] := o.cal fun _ _ _ _ _ _ us hl => match us, hl with | [_], _ => rfl
theorem ok_are_rows {P : Program} {w : World} {K : PySem.W.Frag} {mg : Str → Option Value} {base : Heap} {cl xl : Nat → Addr} {fI : Addr} (T : Txt w K mg cl xl fI) : OkE P w K mg base CX0 2 "are_rows" s_are_rows ["value"] cl [] (spW K cl xl Sto.no (m_are_rows)) :=
  ok0E T.d_are_rows sc_are_rows fun cdv A outer s H E G f hr => by
    have sc := sc_are_rows
    exact (ws_cons (ws_if (PW.pt (wt_or (wt_not (wt_tr (wb (we_isT (T := .tuple) T.ck (pe_callB call_isi rfl T.z_isinstance boot_isinstance (pa_cons (wb_v (pv 0)) (pa_cons (pe_bltn rfl T.z_tuple PyProof.Rows.boot_tuple rfl) pa_nil))))))) (wt_or1 (wt_not (wt_ch op_le leI_ok op_le leI_ok (wb we_int) (wb (we_un (pe_callB call_lenA rfl T.z_len boot_len (pa_cons (wb_v (pv 0)) pa_nil)) len_ok)) (wb (we_gc T.g_MOST_ROWS rfl))))))) (ws_one (ws_ret we_bl)) ws_nil)
    (ws_cons (ws_set (i := 1) sc.nd rfl (Or.inl rfl) (we_lst wa_nil))
    (ws_cons (ws_for PassesOwn.never rfl (wr_walk (we_v (pv 0))) (pg_name (i := 2) sc.nd rfl (Or.inl rfl)) tg_name (ws_cons (ws_if (PW.pt (wt_or (wt_not (wt_tr (wb (we_cU (c_is_tuple_2 (ok_is_tuple T)) pass0 hr (by omega) rfl (wa_cons (we_v (pv 2)) (wa_cons we_int wa_nil)))))) (wt_or (wt_not (wt_tr (wb (we_cU (c_is_name_1 (ok_is_name T)) pass0 hr (by omega) rfl (wa_cons (we_item (wb_v (pv 2)) (wb we_int)) wa_nil))))) (wt_or1 (wt_not (wt_tr (wb (we_cU (c_is_name_1 (ok_is_name T)) pass0 hr (by omega) rfl (wa_cons (we_item (wb_v (pv 2)) (wb we_int)) wa_nil))))))))) (ws_one (ws_ret we_bl)) ws_nil)
    (ws_cons (ws_if (PW.pt (wt_or (wt_in (wb (we_item (wb_v (pv 2)) (wb we_int))) (wb_v (pv 1))) (wt_or1 (wt_not (wt_tr (wb (we_cU (c_is_block_shape_1 (ok_is_block_shape T)) pass0 hr (by omega) rfl (wa_cons (we_item (wb_v (pv 2)) (wb we_int)) wa_nil)))))))) (ws_one (ws_ret we_bl)) ws_nil)
    (ws_one (ws_app (ps_expr (pe_bm PySem.F.plainAttrs_list PySem.F.slot_list_append PySem.F.type_list_append mt_append (pv 1) (pa_cons (we_item (wb_v (pv 2)) (wb we_int)) pa_nil))))))))
    (ws_one (ws_ret we_bl)))))
abbrev s_are_blocks : Stmt := top 24
theorem sc_are_blocks : FnScope ["value", "block"] ["value"] (defScope s_are_blocks) := ⟨rfl, rfl, rfl, by decide +kernel, rfl, by decide +kernel, by decide +kernel⟩
theorem c_are_blocks_1 {P : Program} {w : World} {K : PySem.W.Frag} {mg : Str → Option Value} {base : Heap} {cl : Nat → Addr} {CX : CXT} {k : Nat} {sp : Sp} (o : OkE P w K mg base CX k "are_blocks" s_are_blocks ["value"] cl [] sp) : CalL P w K mg base CX k "are_blocks" cl sp [] := o.cal fun _ _ _ _ _ _ us hl => match us, hl with | [_], _ => rfl
theorem ok_are_blocks {P : Program} {w : World} {K : PySem.W.Frag} {mg : Str → Option Value} {base : Heap} {cl xl : Nat → Addr} {fI : Addr} (T : Txt w K mg cl xl fI) : OkE P w K mg base CX0 2 "are_blocks" s_are_blocks ["value"] cl [] (spW K cl xl Sto.no (m_are_blocks)) :=
  ok0E T.d_are_blocks sc_are_blocks fun cdv A outer s H E G f hr => by
    have sc := sc_are_blocks
    exact (ws_cons (ws_if (PW.pt (wt_or (wt_not (wt_tr (wb (we_isT (T := .tuple) T.ck (pe_callB call_isi rfl T.z_isinstance boot_isinstance (pa_cons (wb_v (pv 0)) (pa_cons (pe_bltn rfl T.z_tuple PyProof.Rows.boot_tuple rfl) pa_nil))))))) (wt_or1 (wt_not (wt_ch op_le leI_ok op_le leI_ok (wb we_int) (wb (we_un (pe_callB call_lenA rfl T.z_len boot_len (pa_cons (wb_v (pv 0)) pa_nil)) len_ok)) (wb (we_gc T.g_MOST_ROWS rfl))))))) (ws_one (ws_ret we_bl)) ws_nil)
    (ws_cons (ws_for PassesOwn.never rfl (wr_walk (we_v (pv 0))) (pg_name (i := 1) sc.nd rfl (Or.inl rfl)) tg_name (ws_one (ws_if (wt_not (wt_tr (wb (we_cU (c_is_block_shape_1 (ok_is_block_shape T)) pass0 hr (by omega) rfl (wa_cons (we_v (pv 1)) wa_nil))))) (ws_one (ws_ret we_bl)) ws_nil)))
    (ws_one (ws_ret we_bl))))
abbrev s_is_dealing_shape : Stmt := top 25
theorem sc_is_dealing_shape : FnScope ["value"] ["value"] (defScope s_is_dealing_shape) := ⟨rfl, rfl, rfl, by decide +kernel, rfl, by decide +kernel, by decide +kernel⟩
theorem c_is_dealing_shape_1 {P : Program} {w : World} {K : PySem.W.Frag} {mg : Str → Option Value} {base : Heap} {cl : Nat → Addr} {CX : CXT} {k : Nat} {sp : Sp} (o : OkE P w K mg base CX k "is_dealing_shape" s_is_dealing_shape ["value"] cl [] sp) : CalL P w K mg base CX k "is_dealing_shape" cl sp [] := o.cal fun _ _ _ _ _ _ us hl => match us, hl with | [_], _ => rfl
theorem ok_is_dealing_shape {P : Program} {w : World} {K : PySem.W.Frag} {mg : Str → Option Value} {base : Heap} {cl xl : Nat → Addr} {fI : Addr} (T : Txt w K mg cl xl fI) : OkE P w K mg base CX0 11 "is_dealing_shape" s_is_dealing_shape ["value"] cl [] (spW K cl xl Sto.no (m_is_dealing_shape)) :=
  ok0E T.d_is_dealing_shape sc_is_dealing_shape fun cdv A outer s H E G f hr => by
    have sc := sc_is_dealing_shape
    exact (ws_cons (ws_if (PW.pt (wt_or (wt_ne hr.units (wb (we_un (pe_callB call_lenA rfl T.z_len boot_len (pa_cons (wb_v (pv 0)) pa_nil)) len_ok)) (wb we_int)) (wt_or1 (wt_not (wt_tr (wb (we_cU (c_is_name_1 (ok_is_name T)) pass0 hr (by omega) rfl (wa_cons (we_item (wb_v (pv 0)) (wb we_int)) wa_nil)))))))) (ws_one (ws_ret we_bl)) ws_nil)
    (ws_cons (ws_if (wt_eq hr.units (wb (we_item (wb_v (pv 0)) (wb we_int))) (wb we_str)) (ws_one (ws_ret (we_cU (c_is_name_1 (ok_is_name T)) pass0 hr (by omega) rfl (wa_cons (we_item (wb_v (pv 0)) (wb we_int)) wa_nil)))) ws_nil)
    (ws_one (ws_ret (we_cU (c_is_expression_1 (ok_is_expression T 8)) pass0 hr (by omega) rfl (wa_cons (we_item (wb_v (pv 0)) (wb we_int)) wa_nil))))))
abbrev s_is_if_shape : Stmt := top 26
theorem sc_is_if_shape : FnScope ["value"] ["value"] (defScope s_is_if_shape) := ⟨rfl, rfl, rfl, by decide +kernel, rfl, by decide +kernel, by decide +kernel⟩
theorem c_is_if_shape_1 {P : Program} {w : World} {K : PySem.W.Frag} {mg : Str → Option Value} {base : Heap} {cl : Nat → Addr} {CX : CXT} {k : Nat} {sp : Sp} (o : OkE P w K mg base CX k "is_if_shape" s_is_if_shape ["value"] cl [] sp) : CalL P w K mg base CX k "is_if_shape" cl sp [] := o.cal fun _ _ _ _ _ _ us hl => match us, hl with | [_], _ => rfl
theorem ok_is_if_shape {P : Program} {w : World} {K : PySem.W.Frag} {mg : Str → Option Value} {base : Heap} {cl xl : Nat → Addr} {fI : Addr} (T : Txt w K mg cl xl fI) : OkE P w K mg base CX0 11 "is_if_shape" s_is_if_shape ["value"] cl [] (spW K cl xl Sto.no (m_is_if_shape)) :=
  ok0E T.d_is_if_shape sc_is_if_shape fun cdv A outer s H E G f hr => by
    have sc := sc_is_if_shape
    exact (ws_cons (ws_if (PW.pt (wt_or (wt_ne hr.units (wb (we_un (pe_callB call_lenA rfl T.z_len boot_len (pa_cons (wb_v (pv 0)) pa_nil)) len_ok)) (wb we_int)) (wt_or1 (wt_not (wt_tr (wb (we_cU (c_is_expression_1 (ok_is_expression T 8)) pass0 hr (by omega) rfl (wa_cons (we_item (wb_v (pv 0)) (wb we_int)) wa_nil)))))))) (ws_one (ws_ret we_bl)) ws_nil)
    (ws_one (ws_ret (we_and (we_cU (c_is_block_shape_1 (ok_is_block_shape T)) pass0 hr (by omega) rfl (wa_cons (we_item (wb_v (pv 0)) (wb we_int)) wa_nil)) (we_one (we_cU (c_is_block_shape_1 (ok_is_block_shape T)) pass0 hr (by omega) rfl (wa_cons (we_item (wb_v (pv 0)) (wb we_int)) wa_nil)))))))
abbrev s_is_statement : Stmt := top 27
theorem sc_is_statement : FnScope ["value", "kind"] ["value"] (defScope s_is_statement) := ⟨rfl, rfl, rfl, by decide +kernel, rfl, by decide +kernel, by decide +kernel⟩
theorem c_is_statement_1 {P : Program} {w : World} {K : PySem.W.Frag} {mg : Str → Option Value} {base : Heap} {cl : Nat → Addr} {CX : CXT} {k : Nat} {sp : Sp} (o : OkE P w K mg base CX k "is_statement" s_is_statement ["value"] cl [] sp) : CalL P w K mg base CX k "is_statement" cl sp [] := o.cal fun _ _ _ _ _ _ us hl => match us, hl with | [_], _ => rfl
theorem ok_is_statement {P : Program} {w : World} {K : PySem.W.Frag} {mg : Str → Option Value} {base : Heap} {cl xl : Nat → Addr} {fI : Addr} (T : Txt w K mg cl xl fI) : OkE P w K mg base CX0 12 "is_statement" s_is_statement ["value"] cl [] (spW K cl xl Sto.no (m_is_statement)) :=
  ok0E T.d_is_statement sc_is_statement fun cdv A outer s H E G f hr => by
    have sc := sc_is_statement
    exact (ws_cons (ws_if (PW.pt (wt_or (wt_not (wt_tr (wb (we_isT (T := .tuple) T.ck (pe_callB call_isi rfl T.z_isinstance boot_isinstance (pa_cons (wb_v (pv 0)) (pa_cons (pe_bltn rfl T.z_tuple PyProof.Rows.boot_tuple rfl) pa_nil))))))) (wt_or (wt_eq hr.units (wb (we_un (pe_callB call_lenA rfl T.z_len boot_len (pa_cons (wb_v (pv 0)) pa_nil)) len_ok)) (wb we_int)) (wt_or1 (wt_not (wt_tr (wb (we_isT (T := .str) T.ck (pe_callB call_isi rfl T.z_isinstance boot_isinstance (pa_cons (wb (we_item (wb_v (pv 0)) (wb we_int))) (pa_cons (pe_bltn rfl T.z_str PyProof.Rows.boot_str rfl) pa_nil))))))))))) (ws_one (ws_ret we_bl)) ws_nil)
    (ws_cons (ws_set (i := 1) sc.nd rfl (Or.inl rfl) (we_item (wb_v (pv 0)) (wb we_int)))
    (ws_cons (ws_if (wt_in (wb_v (pv 1)) (wb (we_tup (wa_cons we_str (wa_cons we_str (wa_cons we_str wa_nil)))))) (ws_one (ws_ret (we_cU (c_is_dealing_shape_1 (ok_is_dealing_shape T)) pass0 hr (by omega) rfl (wa_cons (we_v (pv 0)) wa_nil)))) ws_nil)
    (ws_cons (ws_if (wt_in (wb_v (pv 1)) (wb (we_tup (wa_cons we_str (wa_cons we_str (wa_cons we_str wa_nil)))))) (ws_one (ws_ret (we_eq hr.units (wb (we_un (pe_callB call_lenA rfl T.z_len boot_len (pa_cons (wb_v (pv 0)) pa_nil)) len_ok)) (wb we_int)))) ws_nil)
    (ws_cons (ws_if (wt_eq hr.units (wb_v (pv 1)) (wb we_str)) (ws_one (ws_ret (we_cU (c_is_if_shape_1 (ok_is_if_shape T)) pass0 hr (by omega) rfl (wa_cons (we_v (pv 0)) wa_nil)))) ws_nil)
    (ws_cons (ws_if (wt_ne hr.units (wb (we_un (pe_callB call_lenA rfl T.z_len boot_len (pa_cons (wb_v (pv 0)) pa_nil)) len_ok)) (wb we_int)) (ws_one (ws_ret we_bl)) ws_nil)
    (ws_cons (ws_if (wt_eq hr.units (wb_v (pv 1)) (wb we_str)) (ws_one (ws_ret (we_cU (c_are_rows_1 (ok_are_rows T)) pass0 hr (by omega) rfl (wa_cons (we_item (wb_v (pv 0)) (wb we_int)) wa_nil)))) ws_nil)
    (ws_cons (ws_if (wt_eq hr.units (wb_v (pv 1)) (wb we_str)) (ws_one (ws_ret (we_cU (c_are_blocks_1 (ok_are_blocks T)) pass0 hr (by omega) rfl (wa_cons (we_item (wb_v (pv 0)) (wb we_int)) wa_nil)))) ws_nil)
    (ws_one (ws_ret (we_and (we_eq hr.units (wb_v (pv 1)) (wb we_str)) (we_one (we_cU (c_is_block_shape_1 (ok_is_block_shape T)) pass0 hr (by omega) rfl (wa_cons (we_item (wb_v (pv 0)) (wb we_int)) wa_nil))))))))))))))
abbrev s_blocks_of : Stmt := top 28
theorem sc_blocks_of : FnScope ["statement", "kind", "row"] ["statement"] (defScope s_blocks_of) := ⟨rfl, rfl, rfl, by decide +kernel, rfl, by decide +kernel, by decide +kernel⟩
theorem c_blocks_of_1 {P : Program} {w : World} {K : PySem.W.Frag} {mg : Str → Option Value} {base : Heap} {cl : Nat → Addr} {CX : CXT} {k : Nat} {sp : Sp} (o : OkE P w K mg base CX k "blocks_of" s_blocks_of ["statement"] cl [] sp) : CalL P w K mg base CX k "blocks_of" cl sp [] := o.cal fun _ _ _ _ _ _ us hl => match us, hl with | [_], _ => rfl
theorem ok_blocks_of {P : Program} {w : World} {K : PySem.W.Frag} {mg : Str → Option Value} {base : Heap} {cl xl : Nat → Addr} {fI : Addr} (T : Txt w K mg cl xl fI) : OkE P w K mg base CX0 1 "blocks_of" s_blocks_of ["statement"] cl [] (spW K cl xl Sto.no (m_blocks_of)) :=
  ok0E T.d_blocks_of sc_blocks_of fun cdv A outer s H E G f hr => by
    have sc := sc_blocks_of
    exact (ws_cons (ws_set (i := 1) sc.nd rfl (Or.inl rfl) (we_item (wb_v (pv 0)) (wb we_int)))
    (ws_cons (ws_if (wt_eq hr.units (wb_v (pv 1)) (wb we_str)) (ws_one (ws_ret (we_lc (own := [("row", 2)]) rfl sc.nd (wr_walk (we_item (wb_v (pv 0)) (wb we_int))) (blkOk_by (N := ["statement", "kind", "row"]) (sc := defScope s_blocks_of) (by decide +kernel)) (fun _ _ _ _ _ => (pg_name (i := 2) sc.nd rfl (Or.inl rfl))) tg_name (gw_name (by decide)) (fun _ _ _ _ _ => wts_nil) (fun _ _ _ _ _ => (we_item (wb_v (pv 2)) (wb we_int)))))) ws_nil)
    (ws_cons (ws_if (wt_eq hr.units (wb_v (pv 1)) (wb we_str)) (ws_one (ws_ret (we_un (pe_callTy (call_listB rfl) rfl T.z_list boot_list (pa_cons (wb (we_item (wb_v (pv 0)) (wb we_int))) pa_nil)) list2_ok))) ws_nil)
    (ws_cons (ws_if (wt_eq hr.units (wb_v (pv 1)) (wb we_str)) (ws_one (ws_ret (we_lst (wa_cons (we_item (wb_v (pv 0)) (wb we_int)) (wa_cons (we_item (wb_v (pv 0)) (wb we_int)) wa_nil))))) ws_nil)
    (ws_cons (ws_if (wt_eq hr.units (wb_v (pv 1)) (wb we_str)) (ws_one (ws_ret (we_lst (wa_cons (we_item (wb_v (pv 0)) (wb we_int)) wa_nil)))) ws_nil)
    (ws_one (ws_ret (we_lst wa_nil))))))))
abbrev s_names_of : Stmt := top 29
theorem sc_names_of : FnScope ["statement", "kind", "row"] ["statement"] (defScope s_names_of) := ⟨rfl, rfl, rfl, by decide +kernel, rfl, by decide +kernel, by decide +kernel⟩
theorem c_names_of_1 {P : Program} {w : World} {K : PySem.W.Frag} {mg : Str → Option Value} {base : Heap} {cl : Nat → Addr} {CX : CXT} {k : Nat} {sp : Sp} (o : OkE P w K mg base CX k "names_of" s_names_of ["statement"] cl [] sp) : CalL P w K mg base CX k "names_of" cl sp [] := o.cal fun _ _ _ _ _ _ us hl => match us, hl with | [_], _ => rfl
theorem ok_names_of {P : Program} {w : World} {K : PySem.W.Frag} {mg : Str → Option Value} {base : Heap} {cl xl : Nat → Addr} {fI : Addr} (T : Txt w K mg cl xl fI) : OkE P w K mg base CX0 11 "names_of" s_names_of ["statement"] cl [] (spW K cl xl Sto.no (m_names_of)) :=
  ok0E T.d_names_of sc_names_of fun cdv A outer s H E G f hr => by
    have sc := sc_names_of
    exact (ws_cons (ws_set (i := 1) sc.nd rfl (Or.inl rfl) (we_item (wb_v (pv 0)) (wb we_int)))
    (ws_cons (ws_if (wt_eq hr.units (wb_v (pv 1)) (wb we_str)) (ws_one (ws_ret (we_add (wb (we_lst (wa_cons (we_item (wb_v (pv 0)) (wb we_int)) wa_nil))) (wb (we_cU (c_expression_names_1 (ok_expression_names T 8)) pass0 hr (by omega) rfl (wa_cons (we_item (wb_v (pv 0)) (wb we_int)) wa_nil)))))) ws_nil)
    (ws_cons (ws_if (wt_eq hr.units (wb_v (pv 1)) (wb we_str)) (ws_one (ws_ret (we_cU (c_expression_names_1 (ok_expression_names T 8)) pass0 hr (by omega) rfl (wa_cons (we_item (wb_v (pv 0)) (wb we_int)) wa_nil)))) ws_nil)
    (ws_cons (ws_if (wt_eq hr.units (wb_v (pv 1)) (wb we_str)) (ws_one (ws_ret (we_lst (wa_cons (we_item (wb_v (pv 0)) (wb we_int)) wa_nil)))) ws_nil)
    (ws_cons (ws_if (wt_eq hr.units (wb_v (pv 1)) (wb we_str)) (ws_one (ws_ret (we_lc (own := [("row", 2)]) rfl sc.nd (wr_walk (we_item (wb_v (pv 0)) (wb we_int))) (blkOk_by (N := ["statement", "kind", "row"]) (sc := defScope s_names_of) (by decide +kernel)) (fun _ _ _ _ _ => (pg_name (i := 2) sc.nd rfl (Or.inl rfl))) tg_name (gw_name (by decide)) (fun _ _ _ _ _ => wts_nil) (fun _ _ _ _ _ => (we_item (wb_v (pv 2)) (wb we_int)))))) ws_nil)
    (ws_cons (ws_if (wt_eq hr.units (wb_v (pv 1)) (wb we_str)) (ws_one (ws_ret (we_cU (c_expression_names_1 (ok_expression_names T 8)) pass0 hr (by omega) rfl (wa_cons (we_item (wb_v (pv 0)) (wb we_int)) wa_nil)))) ws_nil)
    (ws_one (ws_ret (we_lst wa_nil)))))))))
abbrev s_ports_of : Stmt := top 30
theorem sc_ports_of : FnScope ["statement", "kind", "row"] ["statement"] (defScope s_ports_of) := ⟨rfl, rfl, rfl, by decide +kernel, rfl, by decide +kernel, by decide +kernel⟩
theorem c_ports_of_1 {P : Program} {w : World} {K : PySem.W.Frag} {mg : Str → Option Value} {base : Heap} {cl : Nat → Addr} {CX : CXT} {k : Nat} {sp : Sp} (o : OkE P w K mg base CX k "ports_of" s_ports_of ["statement"] cl [] sp) : CalL P w K mg base CX k "ports_of" cl sp [] := o.cal fun _ _ _ _ _ _ us hl => match us, hl with | [_], _ => rfl
theorem ok_ports_of {P : Program} {w : World} {K : PySem.W.Frag} {mg : Str → Option Value} {base : Heap} {cl xl : Nat → Addr} {fI : Addr} (T : Txt w K mg cl xl fI) : OkE P w K mg base CX0 1 "ports_of" s_ports_of ["statement"] cl [] (spW K cl xl Sto.no (m_ports_of)) :=
  ok0E T.d_ports_of sc_ports_of fun cdv A outer s H E G f hr => by
    have sc := sc_ports_of
    exact (ws_cons (ws_set (i := 1) sc.nd rfl (Or.inl rfl) (we_item (wb_v (pv 0)) (wb we_int)))
    (ws_cons (ws_if (wt_in (wb_v (pv 1)) (wb (we_tup (wa_cons we_str (wa_cons we_str wa_nil))))) (ws_one (ws_ret (we_lst (wa_cons (we_item (wb_v (pv 0)) (wb we_int)) wa_nil)))) ws_nil)
    (ws_cons (ws_if (wt_eq hr.units (wb_v (pv 1)) (wb we_str)) (ws_one (ws_ret (we_lc (own := [("row", 2)]) rfl sc.nd (wr_walk (we_item (wb_v (pv 0)) (wb we_int))) (blkOk_by (N := ["statement", "kind", "row"]) (sc := defScope s_ports_of) (by decide +kernel)) (fun _ _ _ _ _ => (pg_name (i := 2) sc.nd rfl (Or.inl rfl))) tg_name (gw_name (by decide)) (fun _ _ _ _ _ => wts_nil) (fun _ _ _ _ _ => (we_item (wb_v (pv 2)) (wb we_int)))))) ws_nil)
    (ws_one (ws_ret (we_lst wa_nil))))))
abbrev s_listed : Stmt := top 31
theorem sc_listed : FnScope ["block", "ahead", "rows", "index", "statement", "path", "number", "part"] ["block", "ahead"] (defScope s_listed) := ⟨rfl, rfl, rfl, by decide +kernel, rfl, by decide +kernel, by decide +kernel⟩
theorem c_listed_2 {P : Program} {w : World} {K : PySem.W.Frag} {mg : Str → Option Value} {base : Heap} {cl : Nat → Addr} {CX : CXT} {k : Nat} {sp : Sp} (o : OkE P w K mg base CX k "listed" s_listed ["block", "ahead"] cl [.d (.tupK [])] sp) : CalL P w K mg base CX k "listed" cl sp [] := o.calD 2 1 (by simp) rfl fun _ _ _ _ _ _ _ us its h1 h2 => match us, its, h1, h2 with | [_, _], [_], _, _ => ⟨_, rfl, rfl⟩
theorem c_listed_1 {P : Program} {w : World} {K : PySem.W.Frag} {mg : Str → Option Value} {base : Heap} {cl : Nat → Addr} {CX : CXT} {k : Nat} {sp : Sp} (o : OkE P w K mg base CX k "listed" s_listed ["block", "ahead"] cl [.d (.tupK [])] sp) : CalL P w K mg base CX k "listed" cl sp [.d (.tupK [])] := o.calD 1 0 (by simp) rfl fun _ _ _ _ _ _ _ us its h1 h2 => match us, its, h1, h2 with | [_], [_], _, _ => ⟨_, rfl, rfl⟩
theorem ok_listed {P : Program} {w : World} {K : PySem.W.Frag} {mg : Str → Option Value} {base : Heap} {cl xl : Nat → Addr} {fI : Addr} (T : Txt w K mg cl xl fI) : ∀ n, OkE P w K mg base CX0 (1 + n) "listed" s_listed ["block", "ahead"] cl [.d (.tupK [])] (spW K cl xl Sto.no (m_listed n))
  | 0 => okE_bot T.d_listed
  | n + 1 => by
    have ih := ok_listed (P := P) (w := w) (K := K) (mg := mg) (base := base) (cl := cl) (xl := xl) (fI := fI) T n
    exact ok0E T.d_listed sc_listed fun cdv A outer s H E G f hr => by
      have sc := sc_listed
      have hr : Room (1 + n) _ := hr
      exact (ws_cons (ws_set (i := 2) sc.nd rfl (Or.inl rfl) (we_lst wa_nil))
      (ws_cons (ws_for PassesOwn.never rfl (wr_enum rfl T.z_enumerate (we_v (pv 0))) (pg_tup rfl (pgs_cons (pg_name (i := 3) sc.nd rfl (Or.inl rfl)) (pgs_cons (pg_name (i := 4) sc.nd rfl (Or.inl rfl)) pgs_nil))) (tg_tup (tgs_cons tg_name (tgs_cons tg_name tgs_nil))) (ws_cons (ws_set (i := 5) sc.nd rfl (Or.inl rfl) (we_add (wb_v (pv 1)) (wb (we_tup (wa_cons (we_v (pv 3)) wa_nil)))))
      (ws_cons (ws_frz 5 (ws_app (ps_expr (pe_bm PySem.F.plainAttrs_list PySem.F.slot_list_append PySem.F.type_list_append mt_append (pv 2) (pa_cons (we_tup (wa_cons (we_v (pv 5)) (wa_cons (we_v (pv 4)) wa_nil))) pa_nil)))))
      (ws_one (ws_for PassesOwn.never rfl (wr_enum rfl T.z_enumerate (we_cU (c_blocks_of_1 (ok_blocks_of T)) pass0 hr (by omega) rfl (wa_cons (we_v (pv 4)) wa_nil))) (pg_tup rfl (pgs_cons (pg_name (i := 6) sc.nd rfl (Or.inl rfl)) (pgs_cons (pg_name (i := 7) sc.nd rfl (Or.inl rfl)) pgs_nil))) (tg_tup (tgs_cons tg_name (tgs_cons tg_name tgs_nil))) (ws_one (ws_ext (ps_expr (pe_bm PySem.F.plainAttrs_list PySem.F.slot_list_extend PySem.F.type_list_extend mt_extend (pv 2) (pa_cons (we_cU (c_listed_2 ih) pass0 hr (by omega) rfl (wa_cons (we_v (pv 7)) (wa_cons (we_add (wb_v (pv 5)) (wb (we_tup (wa_cons (we_v (pv 6)) wa_nil)))) wa_nil))) pa_nil))))))))))
      (ws_one (ws_retV (pv 2)))))
abbrev s_statement_table : Stmt := top 32
theorem sc_statement_table : FnScope ["block", "table", "path", "statement"] ["block"] (defScope s_statement_table) := ⟨rfl, rfl, rfl, by decide +kernel, rfl, by decide +kernel, by decide +kernel⟩
theorem c_statement_table_1 {P : Program} {w : World} {K : PySem.W.Frag} {mg : Str → Option Value} {base : Heap} {cl : Nat → Addr} {CX : CXT} {k : Nat} {sp : Sp} (o : OkE P w K mg base CX k "statement_table" s_statement_table ["block"] cl [] sp) : CalL P w K mg base CX k "statement_table" cl sp [] := o.cal fun _ _ _ _ _ _ us hl => match us, hl with | [_], _ => rfl
theorem ok_statement_table {P : Program} {w : World} {K : PySem.W.Frag} {mg : Str → Option Value} {base : Heap} {cl xl : Nat → Addr} {fI : Addr} (T : Txt w K mg cl xl fI) : OkE P w K mg base CX0 16 "statement_table" s_statement_table ["block"] cl [] (spW K cl xl Sto.no (m_statement_table)) :=
  ok0E T.d_statement_table sc_statement_table fun cdv A outer s H E G f hr => by
    have sc := sc_statement_table
    exact (ws_cons (ws_set (i := 1) sc.nd rfl (Or.inl rfl) we_dt)
    (ws_cons (ws_for PassesOwn.never rfl (wr_walk (we_cU (c_listed_1 (ok_listed T 14)) pass0 hr (by omega) rfl (wa_cons (we_v (pv 0)) wa_nil))) (pg_tup rfl (pgs_cons (pg_name (i := 2) sc.nd rfl (Or.inl rfl)) (pgs_cons (pg_name (i := 3) sc.nd rfl (Or.inl rfl)) pgs_nil))) (tg_tup (tgs_cons tg_name (tgs_cons tg_name tgs_nil))) (ws_one (ws_dset (ps_dput hr.units1 (pv 1) (we_v (pv 2)) (we_v (pv 3)) rfl))))
    (ws_one (ws_retV (pv 1)))))
abbrev s_ascending : Stmt := top 33
theorem sc_ascending : FnScope ["items", "known", "item"] ["items"] (defScope s_ascending) := ⟨rfl, rfl, rfl, by decide +kernel, rfl, by decide +kernel, by decide +kernel⟩
theorem c_ascending_1 {P : Program} {w : World} {K : PySem.W.Frag} {mg : Str → Option Value} {base : Heap} {cl : Nat → Addr} {CX : CXT} {k : Nat} {sp : Sp} (o : OkE P w K mg base CX k "ascending" s_ascending ["items"] cl [] sp) : CalL P w K mg base CX k "ascending" cl sp [] := o.cal fun _ _ _ _ _ _ us hl => match us, hl with | [_], _ => rfl
theorem ok_ascending {P : Program} {w : World} {K : PySem.W.Frag} {mg : Str → Option Value} {base : Heap} {cl xl : Nat → Addr} {fI : Addr} (T : Txt w K mg cl xl fI) : OkE P w K mg base CX0 1 "ascending" s_ascending ["items"] cl [] (spW K cl xl Sto.no (m_ascending)) :=
  ok0E T.d_ascending sc_ascending fun cdv A outer s H E G f hr => by
    have sc := sc_ascending
    exact (ws_cons (ws_set (i := 1) sc.nd rfl (Or.inl rfl) we_dk)
    (ws_cons (ws_for PassesOwn.never rfl (wr_walk (we_v (pv 0))) (pg_name (i := 2) sc.nd rfl (Or.inl rfl)) tg_name (ws_one (ws_dset (ps_dput hr.units1 (pv 1) (we_v (pv 2)) we_bl rfl))))
    (ws_one (ws_ret (we_un (pe_callB (cr_sortedD hr.units) rfl T.z_sorted boot_sorted (pa_cons (wb (we_un (pe_callTy (call_listB rfl) rfl T.z_list boot_list (pa_cons (wb_v (pv 1)) pa_nil)) list2_ok)) pa_nil)) sortD_ok)))))
abbrev s_block_names : Stmt := top 34
theorem sc_block_names : FnScope ["statements", "found", "statement"] ["statements"] (defScope s_block_names) := ⟨rfl, rfl, rfl, by decide +kernel, rfl, by decide +kernel, by decide +kernel⟩
theorem c_block_names_1 {P : Program} {w : World} {K : PySem.W.Frag} {mg : Str → Option Value} {base : Heap} {cl : Nat → Addr} {CX : CXT} {k : Nat} {sp : Sp} (o : OkE P w K mg base CX k "block_names" s_block_names ["statements"] cl [] sp) : CalL P w K mg base CX k "block_names" cl sp [] := o.cal fun _ _ _ _ _ _ us hl => match us, hl with | [_], _ => rfl
theorem ok_block_names {P : Program} {w : World} {K : PySem.W.Frag} {mg : Str → Option Value} {base : Heap} {cl xl : Nat → Addr} {fI : Addr} (T : Txt w K mg cl xl fI) : OkE P w K mg base CX0 12 "block_names" s_block_names ["statements"] cl [] (spW K cl xl Sto.no (m_block_names)) :=
  ok0E T.d_block_names sc_block_names fun cdv A outer s H E G f hr => by
    have sc := sc_block_names
    exact (ws_cons (ws_set (i := 1) sc.nd rfl (Or.inl rfl) (we_lst wa_nil))
    (ws_cons (ws_for PassesOwn.never rfl (wr_walk (we_v (pv 0))) (pg_name (i := 2) sc.nd rfl (Or.inl rfl)) tg_name (ws_one (ws_ext (ps_expr (pe_bm PySem.F.plainAttrs_list PySem.F.slot_list_extend PySem.F.type_list_extend mt_extend (pv 1) (pa_cons (we_cU (c_names_of_1 (ok_names_of T)) pass0 hr (by omega) rfl (wa_cons (we_v (pv 2)) wa_nil)) pa_nil))))))
    (ws_one (ws_frz 1 (ws_ret (we_cU (c_ascending_1 (ok_ascending T)) pass0 hr (by omega) rfl (wa_cons (we_v (pv 1)) wa_nil)))))))
abbrev s_block_ports : Stmt := top 35
theorem sc_block_ports : FnScope ["statements", "found", "statement"] ["statements"] (defScope s_block_ports) := ⟨rfl, rfl, rfl, by decide +kernel, rfl, by decide +kernel, by decide +kernel⟩
theorem c_block_ports_1 {P : Program} {w : World} {K : PySem.W.Frag} {mg : Str → Option Value} {base : Heap} {cl : Nat → Addr} {CX : CXT} {k : Nat} {sp : Sp} (o : OkE P w K mg base CX k "block_ports" s_block_ports ["statements"] cl [] sp) : CalL P w K mg base CX k "block_ports" cl sp [] := o.cal fun _ _ _ _ _ _ us hl => match us, hl with | [_], _ => rfl
theorem ok_block_ports {P : Program} {w : World} {K : PySem.W.Frag} {mg : Str → Option Value} {base : Heap} {cl xl : Nat → Addr} {fI : Addr} (T : Txt w K mg cl xl fI) : OkE P w K mg base CX0 2 "block_ports" s_block_ports ["statements"] cl [] (spW K cl xl Sto.no (m_block_ports)) :=
  ok0E T.d_block_ports sc_block_ports fun cdv A outer s H E G f hr => by
    have sc := sc_block_ports
    exact (ws_cons (ws_set (i := 1) sc.nd rfl (Or.inl rfl) (we_lst wa_nil))
    (ws_cons (ws_for PassesOwn.never rfl (wr_walk (we_v (pv 0))) (pg_name (i := 2) sc.nd rfl (Or.inl rfl)) tg_name (ws_one (ws_ext (ps_expr (pe_bm PySem.F.plainAttrs_list PySem.F.slot_list_extend PySem.F.type_list_extend mt_extend (pv 1) (pa_cons (we_cU (c_ports_of_1 (ok_ports_of T)) pass0 hr (by omega) rfl (wa_cons (we_v (pv 2)) wa_nil)) pa_nil))))))
    (ws_one (ws_frz 1 (ws_ret (we_cU (c_ascending_1 (ok_ascending T)) pass0 hr (by omega) rfl (wa_cons (we_v (pv 1)) wa_nil)))))))
abbrev s_ways_of : Stmt := top 41
theorem sc_ways_of : FnScope ["statement", "depth", "kind", "found", "left", "block", "pair"] ["statement", "depth"] (defScope s_ways_of) := ⟨rfl, rfl, rfl, by decide +kernel, rfl, by decide +kernel, by decide +kernel⟩
abbrev s_ways_through : Stmt := top 42
theorem sc_ways_through : FnScope ["block", "depth", "left", "statement", "through", "leaving"] ["block", "depth"] (defScope s_ways_through) := ⟨rfl, rfl, rfl, by decide +kernel, rfl, by decide +kernel, by decide +kernel⟩
theorem c_ways_of_2 {P : Program} {w : World} {K : PySem.W.Frag} {mg : Str → Option Value} {base : Heap} {cl : Nat → Addr} {CX : CXT} {k : Nat} {sp : Sp} (o : OkE P w K mg base CX k "ways_of" s_ways_of ["statement", "depth"] cl [] sp) : CalL P w K mg base CX k "ways_of" cl sp [] := o.cal fun _ _ _ _ _ _ us hl => match us, hl with | [_, _], _ => rfl
theorem c_ways_through_2 {P : Program} {w : World} {K : PySem.W.Frag} {mg : Str → Option Value} {base : Heap} {cl : Nat → Addr} {CX : CXT} {k : Nat} {sp : Sp} (o : OkE P w K mg base CX k "ways_through" s_ways_through ["block", "depth"] cl [] sp) : CalL P w K mg base CX k "ways_through" cl sp [] := o.cal fun _ _ _ _ _ _ us hl => match us, hl with | [_, _], _ => rfl
theorem okg_ways_of {P : Program} {w : World} {K : PySem.W.Frag} {mg : Str → Option Value} {base : Heap} {cl xl : Nat → Addr} {fI : Addr} (T : Txt w K mg cl xl fI) : ∀ n, (OkE P w K mg base CX0 (12 + n) "ways_of" s_ways_of ["statement", "depth"] cl [] (spW K cl xl Sto.no (m_ways_of n))) ∧ (OkE P w K mg base CX0 (12 + n) "ways_through" s_ways_through ["block", "depth"] cl [] (spW K cl xl Sto.no (m_ways_through n)))
  | 0 => ⟨okE_bot T.d_ways_of, okE_bot T.d_ways_through⟩
  | n + 1 => by
    have ih := okg_ways_of (P := P) (w := w) (K := K) (mg := mg) (base := base) (cl := cl) (xl := xl) (fI := fI) T n
    refine ⟨?_, ?_⟩
    · exact ok0E T.d_ways_of sc_ways_of fun cdv A outer s H E G f hr => by
        have sc := sc_ways_of
        have hr : Room (12 + n) _ := hr
        exact (ws_cons (ws_if (wt_not (wt_tr (wb (we_cU (c_is_statement_1 (ok_is_statement T)) pass0 hr (by omega) rfl (wa_cons (we_v (pv 0)) wa_nil))))) (ws_one (ws_ret (we_tup (wa_cons we_bl (wa_cons we_bl wa_nil))))) ws_nil)
        (ws_cons (ws_set (i := 2) sc.nd rfl (Or.inl rfl) (we_item (wb_v (pv 0)) (wb we_int)))
        (ws_cons (ws_if (wt_eq hr.units (wb_v (pv 2)) (wb we_str)) (ws_one (ws_ret (we_tup (wa_cons we_bl (wa_cons we_bl wa_nil))))) ws_nil)
        (ws_cons (ws_if (wt_eq hr.units (wb_v (pv 2)) (wb we_str)) (ws_one (ws_ret (we_tup (wa_cons we_bl (wa_cons we_bl wa_nil))))) ws_nil)
        (ws_cons (ws_if (PW.pt (wt_or (wt_notin (wb_v (pv 2)) (wb (we_tup (wa_cons we_str (wa_cons we_str (wa_cons we_str wa_nil)))))) (wt_or1 (wt_geI (wb_v (pv 1)) (wb (we_gc T.g_MOST_DEPTH rfl)))))) (ws_one (ws_ret (we_tup (wa_cons we_bl (wa_cons we_bl wa_nil))))) ws_nil)
        (ws_cons (ws_setLc (i := 3) (own := [("block", 5)]) rfl sc.nd rfl rfl rfl (wr_walk (we_cU (c_blocks_of_1 (ok_blocks_of T)) pass0 hr (by omega) rfl (wa_cons (we_v (pv 0)) wa_nil))) (blkOk_by (N := ["statement", "depth", "kind", "found", "left", "block", "pair"]) (sc := defScope s_ways_of) (by decide +kernel)) (fun _ _ _ _ _ => (pg_name (i := 5) sc.nd rfl (Or.inl rfl))) tg_name (gw_name (by decide)) (fun _ _ _ _ _ => wts_nil) (fun _ _ _ _ _ => (we_cU (c_ways_through_2 ih.2) pass0 hr (by omega) rfl (wa_cons (we_v (pv 5)) (wa_cons (we_add (wb_v (pv 1)) (wb we_int)) wa_nil)))))
        (ws_cons (ws_frz 3 (ws_set (i := 4) sc.nd rfl (Or.inl rfl) (we_un (pe_callB (cr_any rfl) rfl T.z_any boot_any (pa_cons (wb (we_lc (own := [("pair", 6)]) rfl sc.nd (wr_walk (we_v (pv 3))) (blkOk_by (N := ["statement", "depth", "kind", "found", "left", "block", "pair"]) (sc := defScope s_ways_of) (by decide +kernel)) (fun _ _ _ _ _ => (pg_name (i := 6) sc.nd rfl (Or.inl rfl))) tg_name (gw_name (by decide)) (fun _ _ _ _ _ => wts_nil) (fun _ _ _ _ _ => (we_item (wb_v (pv 6)) (wb we_int))))) pa_nil)) any_ok)))
        (ws_cons (ws_if (wt_eq hr.units (wb_v (pv 2)) (wb we_str)) (ws_one (ws_frz 4 (ws_ret (we_tup (wa_cons (we_v (pv 4)) (wa_cons we_bl wa_nil)))))) ws_nil)
        (ws_one (ws_frz 3 (ws_frz 4 (ws_ret (we_tup (wa_cons (we_un (pe_callB (cr_any rfl) rfl T.z_any boot_any (pa_cons (wb (we_lc (own := [("pair", 6)]) rfl sc.nd (wr_walk (we_v (pv 3))) (blkOk_by (N := ["statement", "depth", "kind", "found", "left", "block", "pair"]) (sc := defScope s_ways_of) (by decide +kernel)) (fun _ _ _ _ _ => (pg_name (i := 6) sc.nd rfl (Or.inl rfl))) tg_name (gw_name (by decide)) (fun _ _ _ _ _ => wts_nil) (fun _ _ _ _ _ => (we_item (wb_v (pv 6)) (wb we_int))))) pa_nil)) any_ok) (wa_cons (we_v (pv 4)) wa_nil)))))))))))))))
    · exact ok0E T.d_ways_through sc_ways_through fun cdv A outer s H E G f hr => by
        have sc := sc_ways_through
        have hr : Room (12 + n) _ := hr
        exact (ws_cons (ws_set (i := 2) sc.nd rfl (Or.inl rfl) we_bl)
        (ws_cons (ws_for PassesOwn.never rfl (wr_walk (we_v (pv 0))) (pg_name (i := 3) sc.nd rfl (Or.inl rfl)) tg_name (ws_cons (ws_unp (we_cU (c_ways_of_2 ih.1) pass0 hr (by omega) rfl (wa_cons (we_v (pv 3)) (wa_cons (we_v (pv 1)) wa_nil))) (pg_tup rfl (pgs_cons (pg_name (i := 4) sc.nd rfl (Or.inl rfl)) (pgs_cons (pg_name (i := 5) sc.nd rfl (Or.inl rfl)) pgs_nil))) (tg_tup (tgs_cons tg_name (tgs_cons tg_name tgs_nil))))
        (ws_cons (ws_set (i := 2) sc.nd rfl (Or.inl rfl) (we_or (we_v (pv 2)) (we_one (we_v (pv 5)))))
        (ws_one (ws_if (wt_not (wt_tr (wb_v (pv 4)))) (ws_one (ws_ret (we_tup (wa_cons we_bl (wa_cons (we_v (pv 2)) wa_nil))))) ws_nil)))))
        (ws_one (ws_ret (we_tup (wa_cons we_bl (wa_cons (we_v (pv 2)) wa_nil)))))))
theorem ok_ways_of {P : Program} {w : World} {K : PySem.W.Frag} {mg : Str → Option Value} {base : Heap} {cl xl : Nat → Addr} {fI : Addr} (T : Txt w K mg cl xl fI) (n : Nat) : OkE P w K mg base CX0 (12 + n) "ways_of" s_ways_of ["statement", "depth"] cl [] (spW K cl xl Sto.no (m_ways_of n)) := (okg_ways_of T n).1
theorem ok_ways_through {P : Program} {w : World} {K : PySem.W.Frag} {mg : Str → Option Value} {base : Heap} {cl xl : Nat → Addr} {fI : Addr} (T : Txt w K mg cl xl fI) (n : Nat) : OkE P w K mg base CX0 (12 + n) "ways_through" s_ways_through ["block", "depth"] cl [] (spW K cl xl Sto.no (m_ways_through n)) := (okg_ways_of T n).2
abbrev s_deals : Stmt := top 43
theorem sc_deals : FnScope ["block", "depth"] ["block", "depth"] (defScope s_deals) := ⟨rfl, rfl, rfl, by decide +kernel, rfl, by decide +kernel, by decide +kernel⟩
theorem c_deals_2 {P : Program} {w : World} {K : PySem.W.Frag} {mg : Str → Option Value} {base : Heap} {cl : Nat → Addr} {CX : CXT} {k : Nat} {sp : Sp} (o : OkE P w K mg base CX k "deals" s_deals ["block", "depth"] cl [.d (.int 2)] sp) : CalL P w K mg base CX k "deals" cl sp [] := o.calD 2 1 (by simp) rfl fun _ _ _ _ _ _ _ us its h1 h2 => match us, its, h1, h2 with | [_, _], [_], _, _ => ⟨_, rfl, rfl⟩
theorem ok_deals {P : Program} {w : World} {K : PySem.W.Frag} {mg : Str → Option Value} {base : Heap} {cl xl : Nat → Addr} {fI : Addr} (T : Txt w K mg cl xl fI) : OkE P w K mg base CX0 39 "deals" s_deals ["block", "depth"] cl [.d (.int 2)] (spW K cl xl Sto.no (m_deals)) :=
  ok0E T.d_deals sc_deals fun cdv A outer s H E G f hr => by
    have sc := sc_deals
    exact (ws_one (ws_ret (we_not (we_item (wb (we_cU (c_ways_through_2 (ok_ways_through T 26)) pass0 hr (by omega) rfl (wa_cons (we_v (pv 0)) (wa_cons (we_v (pv 1)) wa_nil)))) (wb we_int)))))
abbrev s_is_wrong : Stmt := top 44
theorem sc_is_wrong : FnScope ["item", "depth", "looped"] ["item", "depth", "looped"] (defScope s_is_wrong) := ⟨rfl, rfl, rfl, by decide +kernel, rfl, by decide +kernel, by decide +kernel⟩
theorem c_is_wrong_3 {P : Program} {w : World} {K : PySem.W.Frag} {mg : Str → Option Value} {base : Heap} {cl : Nat → Addr} {CX : CXT} {k : Nat} {sp : Sp} (o : OkE P w K mg base CX k "is_wrong" s_is_wrong ["item", "depth", "looped"] cl [] sp) : CalL P w K mg base CX k "is_wrong" cl sp [] := o.cal fun _ _ _ _ _ _ us hl => match us, hl with | [_, _, _], _ => rfl
theorem ok_is_wrong {P : Program} {w : World} {K : PySem.W.Frag} {mg : Str → Option Value} {base : Heap} {cl xl : Nat → Addr} {fI : Addr} (T : Txt w K mg cl xl fI) : OkE P w K mg base CX0 40 "is_wrong" s_is_wrong ["item", "depth", "looped"] cl [] (spW K cl xl Sto.no (m_is_wrong)) :=
  ok0E T.d_is_wrong sc_is_wrong fun cdv A outer s H E G f hr => by
    have sc := sc_is_wrong
    exact (ws_cons (ws_if (wt_not (wt_tr (wb (we_cU (c_is_statement_1 (ok_is_statement T)) pass0 hr (by omega) rfl (wa_cons (we_v (pv 0)) wa_nil))))) (ws_one (ws_ret we_bl)) ws_nil)
    (ws_cons (ws_if (wt_eq hr.units (wb (we_item (wb_v (pv 0)) (wb we_int))) (wb we_str)) (ws_one (ws_ret (we_not (we_v (pv 2))))) ws_nil)
    (ws_cons (ws_if (PW.pt (wt_and (wt_gtI (wb (we_un (pe_callB call_lenA rfl T.z_len boot_len (pa_cons (wb (we_cU (c_blocks_of_1 (ok_blocks_of T)) pass0 hr (by omega) rfl (wa_cons (we_v (pv 0)) wa_nil))) pa_nil)) len_ok)) (wb we_int)) (wt_and1 (wt_geI (wb_v (pv 1)) (wb (we_gc T.g_MOST_DEPTH rfl)))))) (ws_one (ws_ret we_bl)) ws_nil)
    (ws_one (ws_ret (we_and (we_eq hr.units (wb (we_item (wb_v (pv 0)) (wb we_int))) (wb we_str)) (we_one (we_not (we_cU (c_deals_2 (ok_deals T)) pass0 hr (by omega) rfl (wa_cons (we_item (wb_v (pv 0)) (wb we_int)) (wa_cons (we_add (wb_v (pv 1)) (wb we_int)) wa_nil)))))))))))
abbrev s_first_wrong : Stmt := top 45
theorem sc_first_wrong : FnScope ["block", "ahead", "depth", "looped", "index", "item", "path", "within", "number", "part", "found"] ["block", "ahead", "depth", "looped"] (defScope s_first_wrong) := ⟨rfl, rfl, rfl, by decide +kernel, rfl, by decide +kernel, by decide +kernel⟩
theorem c_first_wrong_4 {P : Program} {w : World} {K : PySem.W.Frag} {mg : Str → Option Value} {base : Heap} {cl : Nat → Addr} {CX : CXT} {k : Nat} {sp : Sp} (o : OkE P w K mg base CX k "first_wrong" s_first_wrong ["block", "ahead", "depth", "looped"] cl [.d (.tupK []), .d (.int 1), .d (.bl false)] sp) : CalL P w K mg base CX k "first_wrong" cl sp [] := o.calD 4 3 (by simp) rfl fun _ _ _ _ _ _ _ us its h1 h2 => match us, its, h1, h2 with | [_, _, _, _], [_, _, _], _, _ => ⟨_, rfl, rfl⟩
theorem c_first_wrong_1 {P : Program} {w : World} {K : PySem.W.Frag} {mg : Str → Option Value} {base : Heap} {cl : Nat → Addr} {CX : CXT} {k : Nat} {sp : Sp} (o : OkE P w K mg base CX k "first_wrong" s_first_wrong ["block", "ahead", "depth", "looped"] cl [.d (.tupK []), .d (.int 1), .d (.bl false)] sp) : CalL P w K mg base CX k "first_wrong" cl sp [.d (.tupK []), .d (.int 1), .d (.bl false)] := o.calD 1 0 (by simp) rfl fun _ _ _ _ _ _ _ us its h1 h2 => match us, its, h1, h2 with | [_], [_, _, _], _, _ => ⟨_, rfl, rfl⟩
theorem ok_first_wrong {P : Program} {w : World} {K : PySem.W.Frag} {mg : Str → Option Value} {base : Heap} {cl xl : Nat → Addr} {fI : Addr} (T : Txt w K mg cl xl fI) : ∀ n, OkE P w K mg base CX0 (40 + n) "first_wrong" s_first_wrong ["block", "ahead", "depth", "looped"] cl [.d (.tupK []), .d (.int 1), .d (.bl false)] (spW K cl xl Sto.no (m_first_wrong n))
  | 0 => okE_bot T.d_first_wrong
  | n + 1 => by
    have ih := ok_first_wrong (P := P) (w := w) (K := K) (mg := mg) (base := base) (cl := cl) (xl := xl) (fI := fI) T n
    exact ok0E T.d_first_wrong sc_first_wrong fun cdv A outer s H E G f hr => by
      have sc := sc_first_wrong
      have hr : Room (40 + n) _ := hr
      exact (ws_cons (ws_for PassesOwn.never rfl (wr_enum rfl T.z_enumerate (we_v (pv 0))) (pg_tup rfl (pgs_cons (pg_name (i := 4) sc.nd rfl (Or.inl rfl)) (pgs_cons (pg_name (i := 5) sc.nd rfl (Or.inl rfl)) pgs_nil))) (tg_tup (tgs_cons tg_name (tgs_cons tg_name tgs_nil))) (ws_cons (ws_set (i := 6) sc.nd rfl (Or.inl rfl) (we_add (wb_v (pv 1)) (wb (we_tup (wa_cons (we_v (pv 4)) wa_nil)))))
      (ws_cons (ws_if (wt_tr (wb (we_cU (c_is_wrong_3 (ok_is_wrong T)) pass0 hr (by omega) rfl (wa_cons (we_v (pv 5)) (wa_cons (we_v (pv 2)) (wa_cons (we_v (pv 3)) wa_nil)))))) (ws_one (ws_retV (pv 6))) ws_nil)
      (ws_cons (ws_set (i := 7) sc.nd rfl (Or.inl rfl) (we_or (we_v (pv 3)) (we_one (we_eq hr.units (wb (we_item (wb_v (pv 5)) (wb we_int))) (wb we_str)))))
      (ws_one (ws_for PassesOwn.never rfl (wr_enum rfl T.z_enumerate (we_cU (c_blocks_of_1 (ok_blocks_of T)) pass0 hr (by omega) rfl (wa_cons (we_v (pv 5)) wa_nil))) (pg_tup rfl (pgs_cons (pg_name (i := 8) sc.nd rfl (Or.inl rfl)) (pgs_cons (pg_name (i := 9) sc.nd rfl (Or.inl rfl)) pgs_nil))) (tg_tup (tgs_cons tg_name (tgs_cons tg_name tgs_nil))) (ws_cons (ws_set (i := 10) sc.nd rfl (Or.inl rfl) (we_cU (c_first_wrong_4 ih) pass0 hr (by omega) rfl (wa_cons (we_v (pv 9)) (wa_cons (we_add (wb_v (pv 6)) (wb (we_tup (wa_cons (we_v (pv 8)) wa_nil)))) (wa_cons (we_add (wb_v (pv 2)) (wb we_int)) (wa_cons (we_v (pv 7)) wa_nil))))))
      (ws_one (ws_if (wt_isnot (wb_v (pv 10)) (wb we_non)) (ws_one (ws_retV (pv 10))) ws_nil)))))))))
      (ws_one (ws_ret we_non)))
abbrev s_statement_count : Stmt := top 46
theorem sc_statement_count : FnScope ["block", "many", "statement", "part"] ["block"] (defScope s_statement_count) := ⟨rfl, rfl, rfl, by decide +kernel, rfl, by decide +kernel, by decide +kernel⟩
theorem c_statement_count_1 {P : Program} {w : World} {K : PySem.W.Frag} {mg : Str → Option Value} {base : Heap} {cl : Nat → Addr} {CX : CXT} {k : Nat} {sp : Sp} (o : OkE P w K mg base CX k "statement_count" s_statement_count ["block"] cl [] sp) : CalL P w K mg base CX k "statement_count" cl sp [] := o.cal fun _ _ _ _ _ _ us hl => match us, hl with | [_], _ => rfl
theorem ok_statement_count {P : Program} {w : World} {K : PySem.W.Frag} {mg : Str → Option Value} {base : Heap} {cl xl : Nat → Addr} {fI : Addr} (T : Txt w K mg cl xl fI) : ∀ n, OkE P w K mg base CX0 (1 + n) "statement_count" s_statement_count ["block"] cl [] (spW K cl xl Sto.no (m_statement_count n))
  | 0 => okE_bot T.d_statement_count
  | n + 1 => by
    have ih := ok_statement_count (P := P) (w := w) (K := K) (mg := mg) (base := base) (cl := cl) (xl := xl) (fI := fI) T n
    exact ok0E T.d_statement_count sc_statement_count fun cdv A outer s H E G f hr => by
      have sc := sc_statement_count
      have hr : Room (1 + n) _ := hr
      exact (ws_cons (ws_set (i := 1) sc.nd rfl (Or.inl rfl) (we_un (pe_callB call_lenA rfl T.z_len boot_len (pa_cons (wb_v (pv 0)) pa_nil)) len_ok))
      (ws_cons (ws_for PassesOwn.never rfl (wr_walk (we_v (pv 0))) (pg_name (i := 2) sc.nd rfl (Or.inl rfl)) tg_name (ws_one (ws_for PassesOwn.never rfl (wr_walk (we_cU (c_blocks_of_1 (ok_blocks_of T)) pass0 hr (by omega) rfl (wa_cons (we_v (pv 2)) wa_nil))) (pg_name (i := 3) sc.nd rfl (Or.inl rfl)) tg_name (ws_one (ws_set (i := 1) sc.nd rfl (Or.inl rfl) (we_add (wb_v (pv 1)) (wb (we_cU (c_statement_count_1 ih) pass0 hr (by omega) rfl (wa_cons (we_v (pv 3)) wa_nil)))))))))
      (ws_one (ws_retV (pv 1)))))
abbrev s_check_top_block : Stmt := top 47
theorem sc_check_top_block : FnScope ["value", "wrong"] ["value"] (defScope s_check_top_block) := ⟨rfl, rfl, rfl, by decide +kernel, rfl, by decide +kernel, by decide +kernel⟩
theorem c_check_top_block_1 {P : Program} {w : World} {K : PySem.W.Frag} {mg : Str → Option Value} {base : Heap} {cl : Nat → Addr} {CX : CXT} {k : Nat} {sp : Sp} (o : OkE P w K mg base CX k "check_top_block" s_check_top_block ["value"] cl [] sp) : CalL P w K mg base CX k "check_top_block" cl sp [] := o.cal fun _ _ _ _ _ _ us hl => match us, hl with | [_], _ => rfl
theorem ok_check_top_block {P : Program} {w : World} {K : PySem.W.Frag} {mg : Str → Option Value} {base : Heap} {cl xl : Nat → Addr} {fI : Addr} (T : Txt w K mg cl xl fI) : OkE P w K mg base (L2.CX P w) 57 "check_top_block" s_check_top_block ["value"] cl [] (spW K cl xl Sto.no (m_check_top_block)) :=
  okXE T.d_check_top_block sc_check_top_block fun cdv A outer s H E G f hr => by
    have sc := sc_check_top_block
    have tk : Takes (cxOf (L2.CX P w) P w K mg base ["value", "wrong"] "check_top_block" (defScope s_check_top_block) f cdv A outer s H E) (fun cls d _ H => E cls d H) := takes_of rfl rfl rfl rfl
    have po : PassesOwn (model P w) (cxOf (L2.CX P w) P w K mg base ["value", "wrong"] "check_top_block" (defScope s_check_top_block) f cdv A outer s H E).A (cxOf (L2.CX P w) P w K mg base ["value", "wrong"] "check_top_block" (defScope s_check_top_block) f cdv A outer s H E).env (cxOf (L2.CX P w) P w K mg base ["value", "wrong"] "check_top_block" (defScope s_check_top_block) f cdv A outer s H E).xe := passes_of rfl
    exact (ws_cons (ws_if (wt_not (wt_tr (wb (we_cU (c_is_block_shape_1 (ok_is_block_shape T)) pass0 hr (by omega) rfl (wa_cons (we_v (pv 0)) wa_nil))))) (ws_one (ws_raise (c := 1) rfl (T.x 1) (init_ok T) hr tk T.e_BadRoutine rfl (we_tup wa_nil))) ws_nil)
    (ws_cons (ws_set (i := 1) sc.nd rfl (Or.inl rfl) (we_cU (c_first_wrong_1 (ok_first_wrong T 16)) pass0 hr (by omega) rfl (wa_cons (we_v (pv 0)) wa_nil)))
    (ws_cons (ws_if (wt_isnot (wb_v (pv 1)) (wb we_non)) (ws_one (ws_frz 1 (ws_raise (c := 1) rfl (T.x 1) (init_ok T) hr tk T.e_BadRoutine rfl (we_v (pv 1))))) ws_nil)
    (ws_one (ws_if (wt_gtI (wb (we_cU (c_statement_count_1 (ok_statement_count T 16)) pass0 hr (by omega) rfl (wa_cons (we_v (pv 0)) wa_nil))) (wb (we_gc T.g_MOST_ALL rfl))) (ws_one (ws_raise (c := 1) rfl (T.x 1) (init_ok T) hr tk T.e_BadRoutine rfl we_non)) ws_nil)))))
abbrev s__law_mixed : Stmt := top 52
theorem sc__law_mixed : FnScope ["_law_number", "_law_count"] ["_law_number", "_law_count"] (defScope s__law_mixed) := ⟨rfl, rfl, rfl, by decide +kernel, rfl, by decide +kernel, by decide +kernel⟩
theorem c__law_mixed_2 {P : Program} {w : World} {K : PySem.W.Frag} {mg : Str → Option Value} {base : Heap} {cl : Nat → Addr} {CX : CXT} {k : Nat} {sp : Sp} (o : OkE P w K mg base CX k "_law_mixed" s__law_mixed ["_law_number", "_law_count"] cl [] sp) : CalL P w K mg base CX k "_law_mixed" cl sp [] := o.cal fun _ _ _ _ _ _ us hl => match us, hl with | [_, _], _ => rfl
theorem ok__law_mixed {P : Program} {w : World} {K : PySem.W.Frag} {mg : Str → Option Value} {base : Heap} {cl xl : Nat → Addr} {fI : Addr} (T : Txt w K mg cl xl fI) : OkE P w K mg base CX0 1 "_law_mixed" s__law_mixed ["_law_number", "_law_count"] cl [] (spW K cl xl Sto.no (m__law_mixed)) :=
  ok0E T.d__law_mixed sc__law_mixed fun cdv A outer s H E G f hr => by
    have sc := sc__law_mixed
    exact (ws_cons (ws_set (i := 0) sc.nd rfl (Or.inl rfl) (we_mod (wb (we_mul2 (wb (we_un (pe_callTy call_int1 rfl T.z_int boot_int (pa_cons (wb (we_add (wb (we_add (wb_v (pv 0)) (wb (we_mul2 (wb we_int) (wb_v (pv 1)))))) (wb we_int))) pa_nil)) int_ok)) (wb we_int))) (wb we_int)))
    (ws_cons (ws_set (i := 0) sc.nd rfl (Or.inl rfl) (we_mod (wb (we_mul2 (wb (we_un (pe_callTy call_int1 rfl T.z_int boot_int (pa_cons (wb_v (pv 0)) pa_nil)) int_ok)) (wb (we_add (wb (we_fdiv (wb_v (pv 0)) (wb we_int))) (wb we_int))))) (wb we_int)))
    (ws_cons (ws_set (i := 0) sc.nd rfl (Or.inl rfl) (we_mod (wb (we_mul2 (wb (we_un (pe_callTy call_int1 rfl T.z_int boot_int (pa_cons (wb_v (pv 0)) pa_nil)) int_ok)) (wb (we_add (wb (we_fdiv (wb_v (pv 0)) (wb we_int))) (wb we_int))))) (wb we_int)))
    (ws_one (ws_ret (we_fdiv (wb_v (pv 0)) (wb we_int)))))))
abbrev s_Routine_paths : Stmt := inClass (top 49) 4
theorem sc_Routine_paths : FnScope ["self"] ["self"] (defScope s_Routine_paths) := ⟨rfl, rfl, rfl, by decide +kernel, rfl, by decide +kernel, by decide +kernel⟩
theorem ok_Routine_paths {P : Program} {w : World} {K : PySem.W.Frag} {mg : Str → Option Value} {base : Heap} {cl xl : Nat → Addr} {fI : Addr} (T : Txt w K mg cl xl fI) : MetL P w K mg base CX0 1 (cl 0) "paths" cl (spW K cl xl Sto.no m_Routine_paths) [] :=
  metE (qual := "Routine.paths") T.q_Routine_paths (T.cls 0) sc_Routine_paths (hb0 fun _ _ _ _ _ _ us hl => match us, hl with | [_], _ => rfl) fun cdv A outer s H E G f hr => by
    have sc := sc_Routine_paths
    exact (ws_one (ws_ret (we_un (pe_callB (cr_sortedD hr.units) rfl T.z_sorted boot_sorted (pa_cons (wb (we_un (pe_callTy (call_listB rfl) rfl T.z_list boot_list (pa_cons (wb (we_fld (c := 0) (T.cls 0) T.a_Routine_table (we_v (pv 0)))) pa_nil)) list2_ok)) pa_nil)) sortD_ok)))
abbrev s_init_Routine : Stmt := inClass (top 49) 0
theorem sc_init_Routine : FnScope ["self", "block"] ["self", "block"] (defScope s_init_Routine) := ⟨rfl, rfl, rfl, by decide +kernel, rfl, by decide +kernel, by decide +kernel⟩
theorem mk_Routine {P : Program} {w : World} {K : PySem.W.Frag} {mg : Str → Option Value} {base : Heap} {cl xl : Nat → Addr} {fI : Addr} (T : Txt w K mg cl xl fI) : MakL P w K mg base (L2.CX P w) 58 "Routine" cl xl 0 m_init_Routine [] :=
  mk_init (qual := "Routine.__init__") (st := s_init_Routine) T.i_Routine T.o_Routine T.mk_Routine T.kp_Routine sc_init_Routine (by simp) (hb0 fun _ _ _ _ _ _ us hl => match us, hl with | [_, _], _ => rfl) fun cdv A outer s H E H0 G f hr => by
    have sc := sc_init_Routine
    have tk : Takes (cxOf (L2.CX P w) P w K mg base ["self", "block"] "Routine.__init__" (defScope s_init_Routine) f cdv A outer s H E) (fun cls d _ H => E cls d H) := takes_of rfl rfl rfl rfl
    have po : PassesOwn (model P w) (cxOf (L2.CX P w) P w K mg base ["self", "block"] "Routine.__init__" (defScope s_init_Routine) f cdv A outer s H E).A (cxOf (L2.CX P w) P w K mg base ["self", "block"] "Routine.__init__" (defScope s_init_Routine) f cdv A outer s H E).env (cxOf (L2.CX P w) P w K mg base ["self", "block"] "Routine.__init__" (defScope s_init_Routine) f cdv A outer s H E).xe := passes_of rfl
    exact (ws_cons (ws_expr (we_cUX (c_check_top_block_1 (ok_check_top_block T)) tk hr (by omega) rfl (wa_cons (we_v (pv 1)) wa_nil)))
    (ws_cons (ws_ofld T.cls T.n_block (ps_fld (pv 0) (we_v (pv 1)) rfl))
    (ws_cons (ws_ofld T.cls T.n_table (ps_fld (pv 0) (we_cU (c_statement_table_1 (ok_statement_table T)) pass0 hr (by omega) rfl (wa_cons (we_v (pv 1)) wa_nil)) rfl))
    (ws_cons (ws_ofld T.cls T.n_name_list (ps_fld (pv 0) (we_cU (c_block_names_1 (ok_block_names T)) pass0 hr (by omega) rfl (wa_cons (we_lvals rfl rfl T.z_list (wb (we_oget T.cls T.n_table (pv 0)))) wa_nil)) rfl))
    (ws_one (ws_ofld T.cls T.n_port_list (ps_fld (pv 0) (we_cU (c_block_ports_1 (ok_block_ports T)) pass0 hr (by omega) rfl (wa_cons (we_lvals rfl rfl T.z_list (wb (we_oget T.cls T.n_table (pv 0)))) wa_nil)) rfl)))))))
end LW
namespace LW
open PySem PySem.Spec PyProof.Rows L2 DL
/-! the draws, by hand -/
abbrev s__law_draw : Stmt := top 53
theorem sc__law_draw : FnScope ["_law_source_here", "_law_many", "_law_cell"] ["_law_source_here", "_law_many"] (defScope s__law_draw) := ⟨rfl, rfl, rfl, by decide +kernel, rfl, by decide +kernel, by decide +kernel⟩
abbrev m__law_draw (ga : Addr) : MF Unit := mDraw ga
theorem c__law_draw_2 {P : Program} {w : World} {K : PySem.W.Frag} {mg : Str → Option Value} {base : Heap} {cl : Nat → Addr} {CX : CXT} {k : Nat} {sp : Sp} (o : OkE P w K mg base CX k "_law_draw" s__law_draw ["_law_source_here", "_law_many"] cl [] sp) : CalL P w K mg base CX k "_law_draw" cl sp [] := o.cal fun _ _ _ _ _ _ us hl => match us, hl with | [_, _], _ => rfl
theorem ifT {c : Bool} {A B : Prop} (hc : c = true) (h : A) : if c = true then A else B := by rw [if_pos hc]; exact h
theorem ifF {c : Bool} {A B : Prop} (hc : c = false) (h : B) : if c = true then A else B := by rw [hc, if_neg Bool.false_ne_true]; exact h
theorem cmulL {x m : Int} (y : Int) (h : 0 < m) (h2 : m ≤ 2 ^ 63) : CMul (x % m) y := .inl ⟨by have := Int.emod_nonneg x (Int.ne_of_gt h); omega, by have := Int.emod_lt_of_pos x h; omega⟩
theorem mixed_ok (i c : Int) (P : LV → Unit → Prop) (h : ∀ r : Int, P (.d (.int r)) ()) : m__law_mixed [.d (.int i), .d (.int c)] () P noX := by
  refine ⟨rfl, ?_⟩
  simp only [u__law_mixed, wSeq, wSet, wOp, wUn, wVb, wC, wRet, startN, LEnv.at, List.map, List.length, List.replicate, List.append, List.cons_append, List.nil_append, List.set, modF, iiF, mulF, fdivF, addF, intF, Nat.sub]
  exact ⟨.inl (by decide), .inr (by decide), by decide, ⟨by decide, by decide⟩, cmulL _ (by decide) (by decide), by decide, ⟨by decide, by decide⟩, cmulL _ (by decide) (by decide), by decide, ⟨by decide, by decide⟩, h _⟩
theorem ixL {K : PySem.W.Frag} {p : Addr} {i : Int} {vs : List V} {v : V} {H : Hp} {Q : VK} (h : H p = some (.lst vs)) (e : atI vs i = some v) (q : Q v H) : rIx K (.ref p) (.int i) H Q := .inl ⟨p, vs, i, v, rfl, rfl, .of h, e, q⟩
theorem cell_at {cells : List Int} {p : Int} (h0 : 0 ≤ p) (h : p < cells.length) : ∃ c j, atI (cells.map V.int) p = some (.int c) ∧ ixN (cells.map V.int).length p = some j := by
  have h1 : p.toNat < cells.length := by omega
  have e : ixN (cells.map V.int).length p = some p.toNat := by
    unfold ixN
    rw [List.length_map]
    first
      | (rw [if_pos h0, if_pos h]; done)
      | simp [h0, h, h1]
  refine ⟨cells[p.toNat], p.toNat, ?_, e⟩
  unfold atI
  rw [e]
  show (cells.map V.int)[p.toNat]? = _
  rw [List.getElem?_map, List.getElem?_eq_getElem h1]
  rfl
section
variable {P : Program} {w : World} {K : PySem.W.Frag} {mg : Str → Option Value} {base : Heap} {cl xl : Nat → Addr} {fI : Addr} {ga gb : Addr}
theorem ok__law_draw (T : Txt w K mg cl xl fI) : OkE P w K mg base CX0 3 "_law_draw" s__law_draw ["_law_source_here", "_law_many"] cl [] (spW K cl xl (Gen ga gb) (m__law_draw ga)) := by
  obtain ⟨f, dvs, F, hd⟩ := T.d__law_draw.ex
  obtain ⟨fd, F1⟩ := F.ex
  obtain ⟨dvm, ⟨fM, fdM, psM, dsM, FM, mM, kM, bM, dM⟩, hdM⟩ := (c__law_mixed_2 (ok__law_mixed (P := P) (base := base) T)).ex
  have e := hdM (fun _ => none) (fun _ => none)
  cases e
  have sc := sc__law_draw
  refine ⟨dvs, ⟨f, fd, F1, F.mgf, F1.ok sc (fun vs H Q E ⟨G, lvs, s, P, N, _, r, ⟨m, e, _⟩, _⟩ => by rw [r.length, e]; rfl) fun cdv A outer s H vs Q E hr h => ?_⟩, hd⟩
  obtain ⟨G, lvs, s', P', N, ⟨le, gF, ok⟩, r, ⟨many, rfl, hm, hlog, hP⟩, kQ, kE⟩ := h
  obtain ⟨ne, p, t, n, cells, h1, h2, hp, hl⟩ := ok
  cases r with
  | cons r0 _ r =>
  cases r with
  | cons r1 _ r =>
  cases r
  cases r0
  cases r1
  refine ⟨_, (show PSs (cxOf CX0 P w K mg base ["_law_source_here", "_law_many", "_law_cell"] "_law_draw" (defScope s__law_draw) f cdv A outer s H E).nox (defBody s__law_draw) _ from
    pss_cons (ps_asg (pe_op op_add (pe_ix ix_seq (pv 0) pe_int (fun _ _ => rfl)) pe_int) (pg_sub (pv 0) pe_int set_list))
    (pss_cons (ps_if (pt_cmpR op_ge (pe_ix ix_seq (pv 0) pe_int (fun _ _ => rfl)) (pe_callB call_len_seq rfl T.z_len PySem.boot_len (pa_cons (pe_ix ix_seq (pv 0) pe_int (fun _ _ => rfl)) pa_nil)) (nomark _))
      (pss_one (ps_ret (pe_op op_mod (pe_callTy call_int1 rfl T.z_int PyProof.Rows.boot_int (pa_cons (pe_call FM (hr.mono (by omega)) rfl mM kM bM dM pass0 (pa_cons (pe_ix ix_seq (pv 0) pe_int (fun _ _ => rfl)) (pa_cons (pe_ix ix_seq (pv 0) pe_int (fun _ _ => rfl)) pa_nil))) pa_nil)) (pv 1)))) pss_nil)
    (pss_cons (ps_set (i := 2) sc.nd rfl (Or.inl rfl) (pe_ix ix_seq (pe_ix ix_seq (pv 0) pe_int (fun _ _ => rfl)) (pe_ix ix_seq (pv 0) pe_int (fun _ _ => rfl)) (fun _ _ => rfl)))
    (pss_cons (ps_if (pt_cmpR op_lt (pv 2) (pe_op op_pow pe_int pe_int) (nomark _))
      (pss_cons (ps_asg (pe_op op_add (pe_ix ix_seq (pv 0) pe_int (fun _ _ => rfl)) pe_int) (pg_sub (pv 0) pe_int set_list))
        (pss_one (ps_ret (pe_op op_mod (pe_callTy call_int1 rfl T.z_int PyProof.Rows.boot_int (pa_cons (pe_call FM (hr.mono (by omega)) rfl mM kM bM dM pass0 (pa_cons (pv 2) (pa_cons (pe_ix ix_seq (pv 0) pe_int (fun _ _ => rfl)) pa_nil))) pa_nil)) (pv 1))))) pss_nil)
    (pss_cons (ps_asg (pe_op op_fdivW (pv 2) (pv 1)) (pg_sub (pe_ix ix_seq (pv 0) pe_int (fun _ _ => rfl)) (pe_ix ix_seq (pv 0) pe_int (fun _ _ => rfl)) set_list))
    (pss_one (ps_ret (pe_op op_mod (pe_callTy call_int1 rfl T.z_int PyProof.Rows.boot_int (pa_cons (pv 2) pa_nil)) (pv 1)))))))) ).nox, ?_⟩
  have fa : (Gen ga gb).F ga := .inl rfl
  have fb : (Gen ga gb).F gb := .inr rfl
  -- the number of draws
  refine ⟨.ref ga, rfl, ixL h1 rfl ⟨n, 1, rfl, rfl, .ref ga, rfl, ga, _, 3, 3, rfl, rfl, h1, rfl, ?_⟩⟩
  have le1 := (Stp.share (o := .lst [.ref gb, .int p, .int t, .int (n + 1)]) le gF fa)
  have g1 : (upd H ga (.lst [.ref gb, .int p, .int t, .int (n + 1)])) ga = some (.lst [.ref gb, .int p, .int t, .int (n + 1)]) := upd_same
  have g2 : (upd H ga (.lst [.ref gb, .int p, .int t, .int (n + 1)])) gb = some (.lst (cells.map V.int)) := by rw [upd_ne (Ne.symm ne)]; exact h2
  -- the mixing
  have mix : ∀ (i c : Int) (G2 H2 : Hp) (Q2 : VK), Le G2 H2 → (∀ r G' H', Stp Sto.no G2 H2 G' H' → Q2 (.int r) H') → spW K cl xl Sto.no m__law_mixed ([.int i, .int c] ++ []) H2 Q2 E0 := fun i c G2 H2 Q2 l2 q2 =>
    ⟨G2, [.d (.int i), .d (.int c)], (), _, noX, ⟨l2, fun _ z => False.elim z, True.intro⟩, .cons (Rp.int i) rfl (.cons (Rp.int c) rfl .nil), mixed_ok i c (fun lv _ => ∃ r, lv = .d (.int r)) (fun r => ⟨r, rfl⟩), fun lv s2 ⟨r, e⟩ v G' H' st _ rl _ => by subst e; cases rl; exact q2 r G' H' st, fun _ _ _ z => z.elim⟩
  have fin : ∀ (r : Int) (G2 H2 : Hp), Stp (Gen ga gb) G H G2 H2 → (Gen ga gb).ok () H2 → Q (.int (r % many)) H2 := fun r G2 H2 st ok2 =>
    kQ _ () (hP _ (Int.emod_nonneg r (Int.ne_of_gt hm)) (Int.emod_lt_of_pos r hm)) _ G2 H2 st ok2 (Rp.int _) (fun o => by cases o)
  have wid : ∀ {G2 H2 G3 H3 : Hp}, Stp (Gen ga gb) G H G2 H2 → (Gen ga gb).ok () H2 → Stp Sto.no G2 H2 G3 H3 → Stp (Gen ga gb) G H G3 H3 ∧ (Gen ga gb).ok () H3 := fun a o b =>
    ⟨a.trans (b.wide a.gF o), (Gen ga gb).stays o fun c u e => b.hh c u e (fun z => z)⟩
  have okn : ∀ {H2 : Hp} {p' t' n' : Int} {cs : List Int}, H2 ga = some (.lst [.ref gb, .int p', .int t', .int n']) → H2 gb = some (.lst (cs.map V.int)) → 0 ≤ p' → cs.length ≤ 1000 → (Gen ga gb).ok () H2 := fun h1 h2 h3 h4 => ⟨ne, _, _, _, _, h1, h2, h3, h4⟩
  refine ⟨.ref ga, rfl, ixL g1 rfl ⟨.ref ga, rfl, ixL g1 rfl ⟨gb, _, rfl, .inl (.of g2), p, _, rfl, rfl, _, rfl, ?_⟩⟩⟩
  by_cases c1 : ((cells.map V.int).length : Int) ≤ p
  · refine ifT (decide_eq_true c1) ?_
    refine ⟨.ref ga, rfl, ixL g1 rfl ⟨.ref ga, rfl, ixL g1 rfl (mix t (n + 1) G _ _ le1.le fun r G' H' st => ?_)⟩⟩
    obtain ⟨w1, w2⟩ := wid le1 (okn g1 g2 hp hl) st
    exact .inl ⟨r, rfl, ⟨_, rfl, _, _, rfl, rfl, hm, fin r G' H' w1 w2⟩⟩
  · refine ifF (decide_eq_false c1) ?_
    rw [List.length_map] at c1
    obtain ⟨cell, j, e1, e2⟩ := cell_at hp (by omega : p < cells.length)
    refine ⟨.ref ga, rfl, ixL g1 rfl ⟨.ref ga, rfl, ixL g1 rfl (ixL g2 e1 ?_)⟩⟩
    refine ⟨.int cell, rfl, 10, 18, rfl, rfl, ⟨by decide, by decide, by decide⟩, cell, _, rfl, rfl, _, rfl, ?_⟩
    by_cases c2 : cell < 10 ^ (18 : Int).toNat
    · refine ifT (decide_eq_true c2) ?_
      refine ⟨.ref ga, rfl, ixL g1 rfl ⟨p, 1, rfl, rfl, .ref ga, rfl, ga, _, 1, 1, rfl, rfl, g1, rfl, ?_⟩⟩
      have le2 := le1.trans (Stp.share (o := .lst [.ref gb, .int (p + 1), .int t, .int (n + 1)]) le1.le le1.gF fa)
      have k1 : (upd (upd H ga (.lst [.ref gb, .int p, .int t, .int (n + 1)])) ga (.lst [.ref gb, .int (p + 1), .int t, .int (n + 1)])) ga = some (.lst [.ref gb, .int (p + 1), .int t, .int (n + 1)]) := upd_same
      have k2 : (upd (upd H ga (.lst [.ref gb, .int p, .int t, .int (n + 1)])) ga (.lst [.ref gb, .int (p + 1), .int t, .int (n + 1)])) gb = some (.lst (cells.map V.int)) := by rw [upd_ne (Ne.symm ne)]; exact g2
      refine ⟨.int cell, rfl, .ref ga, rfl, ixL k1 rfl (mix cell (n + 1) G _ _ le2.le fun r G' H' st => ?_)⟩
      obtain ⟨w1, w2⟩ := wid le2 (okn k1 k2 (by omega) hl) st
      exact .inl ⟨r, rfl, ⟨_, rfl, _, _, rfl, rfl, hm, fin r G' H' w1 w2⟩⟩
    · refine ifF (decide_eq_false c2) ?_
      refine ⟨.int cell, rfl, .int many, rfl, cell, many, rfl, rfl, ⟨hm, hlog⟩, .ref ga, rfl, ixL g1 rfl ⟨.ref ga, rfl, ixL g1 rfl ⟨gb, _, p, j, rfl, rfl, g2, e2, ?_⟩⟩⟩
      have le2 := le1.trans (Stp.share (o := .lst ((cells.map V.int).set j (.int (cell / many)))) le1.le le1.gF fb)
      have k1 : (upd (upd H ga (.lst [.ref gb, .int p, .int t, .int (n + 1)])) gb (.lst ((cells.map V.int).set j (.int (cell / many))))) ga = some (.lst [.ref gb, .int p, .int t, .int (n + 1)]) := by rw [upd_ne ne]; exact g1
      have k2 : (upd (upd H ga (.lst [.ref gb, .int p, .int t, .int (n + 1)])) gb (.lst ((cells.map V.int).set j (.int (cell / many))))) gb = some (.lst ((cells.set j (cell / many)).map V.int)) := by rw [upd_same, List.map_set]
      exact ⟨.int cell, rfl, .inl ⟨cell, rfl, ⟨_, rfl, _, _, rfl, rfl, hm, fin cell G _ le2 (okn k1 k2 hp (by rw [List.length_set]; exact hl))⟩⟩⟩
end
end LW
namespace LW
open PySem PySem.Spec PyProof.Rows L2 DL
def u__law_alike (m__law_alike : MF Unit) : WS Unit :=
  (wSeq (wIfS (wTb (wOp (isF false) (wVb 1) (wC .non))) (wRet (wOp (isF false) (wVb 0) (wC .non))) wNx)
    (wSeq (wIfS (wTr (wUn (isT .bool) (wVb 1))) (wRet (wAnd (wUn (isT .bool) (wVb 0)) (wOp (eqF false) (wVb 0) (wVb 1)))) wNx)
    (wSeq (wIfS (wTr (wUn (isT .int) (wVb 1))) (wRet (wAnd (wUn (isT .int) (wVb 0)) (wAnd (wNot (wUn (isT .bool) (wVb 0))) (wOp (eqF false) (wVb 0) (wVb 1))))) wNx)
    (wSeq (wIfS (wTr (wUn (isT .str) (wVb 1))) (wRet (wAnd (wUn (isT .str) (wVb 0)) (wOp (eqF false) (wVb 0) (wVb 1)))) wNx)
    (wSeq (wIfS (wtAnd (wTr (wUn (isT .tuple) (wVb 1))) (wtNot (wTr (wUn (isT .tuple) (wVb 0))))) (wRet (wC (.bl false))) wNx)
    (wSeq (wIfS (wtAnd (wTr (wUn (isT .list) (wVb 1))) (wtNot (wTr (wUn (isT .list) (wVb 0))))) (wRet (wC (.bl false))) wNx)
    (wSeq (wIfS (wTb (wOp (eqF true) (wUn lenF (wVb 0)) (wUn lenF (wVb 1)))) (wRet (wC (.bl false))) wNx)
    (wSeq (wFor (wRng1 (wUn lenF (wVb 1))) (gN 2) (wIfS (wtNot (wTr (wClU m__law_alike [] (wCons (wOp ixF (wVb 0) (wVb 2)) (wCons (wOp ixF (wVb 1) (wVb 2)) wNil))))) (wRet (wC (.bl false))) wNx))
    (wRet (wC (.bl true)))))))))))
def m__law_alike : Nat → MF Unit
  | 0 => bot
  | n + 1 => mk0 2 3 (u__law_alike (m__law_alike n))
def u__law_simple (ga : Addr) : WS Unit :=
  (wSeq (wSet 1 (wCl (m__law_draw ga) [] (wCons (wV 0) (wCons (wC (.int 4)) wNil))))
    (wSeq (wIfS (wTb (wOp (eqF false) (wVb 1) (wC (.int 0)))) (wRet (wTup (wCons (wC (.str "set")) (wCons (wC (.str "a")) (wCons (wCl (m__law_draw ga) [] (wCons (wV 0) (wCons (wC (.int 10)) wNil))) wNil))))) wNx)
    (wSeq (wIfS (wTb (wOp (eqF false) (wVb 1) (wC (.int 1)))) (wRet (wTup (wCons (wC (.str "hear")) (wCons (wC (.str "p")) (wCons (wC (.str "a")) wNil))))) wNx)
    (wRet (wTup (wCons (wC (.str "tell")) (wCons (wC (.str "q")) (wCons (wTup (wCons (wC (.str "name")) (wCons (wC (.str "b")) wNil))) wNil))))))))
def m__law_simple (ga : Addr) : MF Unit := mk0 1 2 (u__law_simple ga)
def u__law_agrees : WS Unit :=
  (wSeq (wSet 3 (wC .non))
    (wSeq (wSet 4 (wC .non))
    (wSeq (wTryAs nXl hcf_BadRoutine 5 (wSet 4 (wMkX 0 m_init_Routine [] (wCons (wV 0) wNil))) (fun a d => (wSet 3 (wLst (wCons (wWhat 5 a d) wNil)))))
    (wSeq (wIfS (wTb (wOp (eqF false) (wVb 1) (wC (.str "let")))) (wSeq (wFrz 4 (wIfS (wtOr (wTb (wOp (isF true) (wVb 3) (wC .non))) (wtNot (wTr (wClU (m__law_alike 60) [] (wCons (wFld 0 "block" (wV 4)) (wCons (wV 0) wNil)))))) (wRet (wC (.bl false))) wNx))
    (wFrz 4 (wRet (wOr (wOp ltI (wVb 2) (wC (.int 0))) (wOp (eqF false) (wUn lenF (wMt 0 "paths" m_Routine_paths [] (wV 4) wNil)) (wVb 2)))))) wNx)
    (wRet (wAnd (wOp (isF true) (wVb 3) (wC .non)) (wClU (m__law_alike 60) [] (wCons (wOp ixF (wVb 3) (wC (.int 0))) (wCons (wV 1) wNil)))))))))
def m__law_agrees : MF Unit := mk0 3 6 (u__law_agrees)
def u__law_sizes_agree (ga : Addr) : WS Unit :=
  (wSeq (wSet 1 (wOp addF (wC (.int 9)) (wCl (m__law_draw ga) [] (wCons (wV 0) (wCons (wC (.int 6)) wNil)))))
    (wSeq (wFrz 1 (wSet 2 (wUn tupleF (wLc (wRng1 (wV 1)) (gN 5) wYes (wCl (m__law_simple ga) [] (wCons (wV 0) wNil)) [5]))))
    (wSeq (wSet 3 (wC (.str "let")))
    (wSeq (wIfS (wTb (wOp gtI (wVb 1) (wC (.int 12)))) (wSet 3 (wTup wNil)) wNx)
    (wSeq (wFrz 2 (wFrz 1 (wIfS (wtNot (wTr (wClU m__law_agrees [] (wCons (wV 2) (wCons (wV 3) (wCons (wV 1) wNil)))))) (wRet (wC (.bl false))) wNx)))
    (wSeq (wIfS (wTb (wOp gtI (wVb 1) (wC (.int 12)))) (wSet 3 (wTup (wCons (wC (.int 1)) wNil))) wNx)
    (wSeq (wFrz 2 (wSet 4 (wTup (wCons (wTup (wCons (wC (.str "tell")) (wCons (wC (.str "p")) (wCons (wC (.int 1)) wNil)))) (wCons (wTup (wCons (wC (.str "open")) (wCons (wTup (wCons (wTup wNil) (wCons (wV 2) wNil))) wNil))) wNil)))))
    (wSeq (wIfS (wTb (wOp (eqF false) (wCl (m__law_draw ga) [] (wCons (wV 0) (wCons (wC (.int 2)) wNil))) (wC (.int 0)))) (wSeq (wSet 4 (wTup (wCons (wTup (wCons (wC (.str "hear")) (wCons (wC (.str "p")) (wCons (wC (.str "a")) wNil)))) (wCons (wTup (wCons (wC (.str "repeat")) (wCons (wOp addF (wTup (wCons (wTup (wCons (wC (.str "tell")) (wCons (wC (.str "q")) (wCons (wC (.int 1)) wNil)))) wNil)) (wSl (wVb 2) (woS (wC (.int 1))) woN)) wNil))) (wCons (wTup (wCons (wC (.str "home")) wNil)) wNil)))))
    (wRet (wClU m__law_agrees [] (wCons (wV 4) (wCons (wV 3) (wCons (wOp addF (wVb 1) (wC (.int 3))) wNil)))))) wNx)
    (wRet (wClU m__law_agrees [] (wCons (wV 4) (wCons (wV 3) (wCons (wOp addF (wVb 1) (wC (.int 2))) wNil)))))))))))))
def m__law_sizes_agree (ga : Addr) : MF Unit := mk0 1 6 (u__law_sizes_agree ga)
def u__law_around (ga : Addr) : WS Unit :=
  (wSeq (wSet 2 (wCl (m__law_draw ga) [] (wCons (wV 0) (wCons (wC (.int 5)) wNil))))
    (wSeq (wIfS (wTb (wOp (eqF false) (wVb 2) (wC (.int 0)))) (wRet (wTup (wCons (wTup (wCons (wC (.str "repeat")) (wCons (wV 1) wNil))) (wCons (wC (.int 0)) wNil)))) wNx)
    (wSeq (wIfS (wTb (wOp (eqF false) (wVb 2) (wC (.int 1)))) (wRet (wTup (wCons (wTup (wCons (wC (.str "if")) (wCons (wTup (wCons (wC (.str "name")) (wCons (wC (.str "a")) wNil))) (wCons (wV 1) (wCons (wTup (wCons (wTup (wCons (wC (.str "home")) wNil)) wNil)) wNil))))) (wCons (wC (.int 0)) wNil)))) wNx)
    (wSeq (wIfS (wTb (wOp (eqF false) (wVb 2) (wC (.int 2)))) (wRet (wTup (wCons (wTup (wCons (wC (.str "if")) (wCons (wC (.int 0)) (wCons (wTup wNil) (wCons (wV 1) wNil))))) (wCons (wC (.int 1)) wNil)))) wNx)
    (wSeq (wIfS (wTb (wOp (eqF false) (wVb 2) (wC (.int 3)))) (wRet (wTup (wCons (wTup (wCons (wC (.str "wait")) (wCons (wTup (wCons (wTup (wCons (wC (.str "r")) (wCons (wC (.str "a")) (wCons (wTup wNil) wNil)))) (wCons (wTup (wCons (wC (.str "p")) (wCons (wC (.str "c")) (wCons (wV 1) wNil)))) (wCons (wTup (wCons (wC (.str "q")) (wCons (wC (.str "a")) (wCons (wTup wNil) wNil)))) wNil)))) wNil))) (wCons (wC (.int 1)) wNil)))) wNx)
    (wSeq (wSet 3 (wCl (m__law_draw ga) [] (wCons (wV 0) (wCons (wC (.int 4)) wNil))))
    (wFrz 3 (wRet (wTup (wCons (wTup (wCons (wC (.str "open")) (wCons (wOp addF (wOp addF (wOp mulF2 (wTup (wCons (wTup wNil) wNil)) (wVb 3)) (wTup (wCons (wV 1) wNil))) (wOp mulF2 (wTup (wCons (wTup wNil) wNil)) (wOp subF (wC (.int 3)) (wVb 3)))) wNil))) (wCons (wV 3) wNil)))))))))))
def m__law_around (ga : Addr) : MF Unit := mk0 2 4 (u__law_around ga)
def u__law_depths_agree (ga : Addr) : WS Unit :=
  (wSeq (wSet 1 (wOp addF (wC (.int 9)) (wCl (m__law_draw ga) [] (wCons (wV 0) (wCons (wC (.int 6)) wNil)))))
    (wSeq (wSet 2 (wTup (wCons (wTup (wCons (wC (.str "tell")) (wCons (wC (.str "p")) (wCons (wC (.int 1)) wNil)))) wNil)))
    (wSeq (wSet 3 (wC .non))
    (wSeq (wIfS (wTb (wOp (eqF false) (wCl (m__law_draw ga) [] (wCons (wV 0) (wCons (wC (.int 2)) wNil))) (wC (.int 0)))) (wSeq (wSet 2 (wOp addF (wVb 2) (wTup (wCons (wC (.int 7)) wNil))))
    (wSet 3 (wTup (wCons (wC (.int 1)) wNil)))) wNx)
    (wSeq (wSet 4 (wC (.str "let")))
    (wSeq (wFor (wRevR2 (wC (.int 2)) (wOp addF (wVb 1) (wC (.int 1)))) (gN 5) (wSeq (wFrz 2 (wUnp (wCl (m__law_around ga) [] (wCons (wV 0) (wCons (wV 2) wNil))) (gT 2 (gsC (gN 6) (gsC (gN 7) gsN)))))
    (wSeq (wSet 8 (wUn tupleF (wLc (wRng1 (wOp addF (wC (.int 1)) (wCl (m__law_draw ga) [] (wCons (wV 0) (wCons (wC (.int 3)) wNil))))) (gN 9) wYes (wTup (wCons (wC (.str "tell")) (wCons (wC (.str "q")) (wCons (wV 9) wNil)))) [9])))
    (wSeq (wSet 2 (wOp addF (wVb 8) (wTup (wCons (wV 6) wNil))))
    (wSeq (wIfS (wTb (wOp (isF true) (wVb 3) (wC .non))) (wSet 3 (wOp addF (wTup (wCons (wUn lenF (wVb 8)) (wCons (wV 7) wNil))) (wVb 3))) wNx)
    (wIfS (wTb (wOp (eqF false) (wVb 5) (wC (.int 13)))) (wSet 3 (wTup (wCons (wUn lenF (wVb 8)) wNil))) wNx))))))
    (wSeq (wIfS (wTb (wOp (isF true) (wVb 3) (wC .non))) (wFrz 3 (wSet 4 (wV 3))) wNx)
    (wFrz 2 (wFrz 4 (wRet (wClU m__law_agrees [] (wCons (wV 2) (wCons (wV 4) (wCons (wNeg (wC (.int 1))) wNil))))))))))))))
def m__law_depths_agree (ga : Addr) : MF Unit := mk0 1 10 (u__law_depths_agree ga)
def u__law_rows_agree (ga : Addr) : WS Unit :=
  (wSeq (wSet 1 (wOp addF (wC (.int 1)) (wCl (m__law_draw ga) [] (wCons (wV 0) (wCons (wC (.int 6)) wNil)))))
    (wSeq (wSet 2 (wCl (m__law_draw ga) [] (wCons (wV 0) (wCons (wC (.int 20)) wNil))))
    (wSeq (wFrz 1 (wSet 3 (wUn tupleF (wLc (wRng1 (wV 1)) (gN 6) wYes (wTup (wCons (wOp ixF (wC (.str "abcdefghijklmnopqrstuvwxyz")) (wOp addF (wVb 2) (wVb 6))) (wCons (wC (.str "a")) (wCons (wOp mulF2 (wTup (wCons (wTup (wCons (wC (.str "home")) wNil)) wNil)) (wOp modF (wVb 6) (wC (.int 2)))) wNil)))) [6]))))
    (wSeq (wFrz 1 (wSet 4 (wUn tupleF (wLc (wRng1 (wV 1)) (gN 6) wYes (wOp mulF2 (wTup (wCons (wTup (wCons (wC (.str "set")) (wCons (wC (.str "a")) (wCons (wV 6) wNil)))) wNil)) (wOp modF (wVb 6) (wC (.int 3)))) [6]))))
    (wSeq (wSet 5 (wC (.str "let")))
    (wSeq (wIfS (wTb (wOp gtI (wVb 1) (wC (.int 4)))) (wSet 5 (wTup (wCons (wC (.int 1)) wNil))) wNx)
    (wSeq (wFrz 3 (wIfS (wtNot (wTr (wClU m__law_agrees [] (wCons (wTup (wCons (wTup (wCons (wC (.str "set")) (wCons (wC (.str "b")) (wCons (wC (.int 1)) wNil)))) (wCons (wTup (wCons (wC (.str "wait")) (wCons (wV 3) wNil))) wNil))) (wCons (wV 5) (wCons (wNeg (wC (.int 1))) wNil)))))) (wRet (wC (.bl false))) wNx))
    (wFrz 4 (wRet (wClU m__law_agrees [] (wCons (wTup (wCons (wTup (wCons (wC (.str "set")) (wCons (wC (.str "b")) (wCons (wC (.int 1)) wNil)))) (wCons (wTup (wCons (wC (.str "open")) (wCons (wV 4) wNil))) (wCons (wTup (wCons (wC (.str "home")) wNil)) wNil)))) (wCons (wV 5) (wCons (wNeg (wC (.int 1))) wNil)))))))))))))
def m__law_rows_agree (ga : Addr) : MF Unit := mk0 1 7 (u__law_rows_agree ga)
def u__law_chain (ga : Addr) : WS Unit :=
  (wSeq (wSet 2 (wOp ixF (wLst (wCons (wC (.int 3)) (wCons (wTup (wCons (wC (.str "name")) (wCons (wC (.str "b")) wNil))) wNil))) (wCl (m__law_draw ga) [] (wCons (wV 0) (wCons (wC (.int 2)) wNil)))))
    (wSeq (wFor (wRng1 (wOp subF (wVb 1) (wC (.int 1)))) (gN 3) (wSeq (wSet 4 (wCl (m__law_draw ga) [] (wCons (wV 0) (wCons (wC (.int 3)) wNil))))
    (wSeq (wSet 5 (wOp ixF (wLst (wCons (wC (.str "plus")) (wCons (wC (.str "minus")) (wCons (wC (.str "same")) (wCons (wC (.str "less")) wNil))))) (wCl (m__law_draw ga) [] (wCons (wV 0) (wCons (wC (.int 4)) wNil)))))
    (wIfS (wTb (wOp (eqF false) (wVb 4) (wC (.int 0)))) (wFrz 2 (wSet 2 (wTup (wCons (wC (.str "not")) (wCons (wV 2) wNil))))) (wIfS (wTb (wOp (eqF false) (wVb 4) (wC (.int 1)))) (wFrz 5 (wFrz 2 (wSet 2 (wTup (wCons (wV 5) (wCons (wV 2) (wCons (wCl (m__law_draw ga) [] (wCons (wV 0) (wCons (wC (.int 10)) wNil))) wNil))))))) (wFrz 5 (wFrz 2 (wSet 2 (wTup (wCons (wV 5) (wCons (wTup (wCons (wC (.str "name")) (wCons (wC (.str "c")) wNil))) (wCons (wV 2) wNil))))))))))))
    (wRetV 2)))
def m__law_chain (ga : Addr) : MF Unit := mk0 2 6 (u__law_chain ga)
def u__law_expressions_agree (ga : Addr) : WS Unit :=
  (wSeq (wSet 1 (wOp addF (wC (.int 3)) (wCl (m__law_draw ga) [] (wCons (wV 0) (wCons (wC (.int 5)) wNil)))))
    (wSeq (wFrz 1 (wSet 2 (wCl (m__law_chain ga) [] (wCons (wV 0) (wCons (wV 1) wNil)))))
    (wSeq (wSet 3 (wC (.str "let")))
    (wSeq (wIfS (wTb (wOp gtI (wVb 1) (wC (.int 5)))) (wSet 3 (wTup (wCons (wC (.int 1)) wNil))) wNx)
    (wSeq (wFrz 2 (wFor (wWalk (wLst (wCons (wTup (wCons (wC (.str "set")) (wCons (wC (.str "a")) (wCons (wV 2) wNil)))) (wCons (wTup (wCons (wC (.str "tell")) (wCons (wC (.str "p")) (wCons (wV 2) wNil)))) (wCons (wTup (wCons (wC (.str "if")) (wCons (wV 2) (wCons (wTup wNil) (wCons (wTup (wCons (wTup (wCons (wC (.str "fail")) wNil)) wNil)) wNil))))) wNil))))) (gN 4) (wIfS (wtNot (wTr (wClU m__law_agrees [] (wCons (wTup (wCons (wTup (wCons (wC (.str "home")) wNil)) (wCons (wV 4) wNil))) (wCons (wV 3) (wCons (wNeg (wC (.int 1))) wNil)))))) (wRet (wC (.bl false))) wNx)))
    (wRet (wC (.bl true))))))))
def m__law_expressions_agree (ga : Addr) : MF Unit := mk0 1 5 (u__law_expressions_agree ga)
def u__law_letters_agree (ga : Addr) : WS Unit :=
  (wSeq (wSet 1 (wOp addF (wC (.int 1)) (wCl (m__law_draw ga) [] (wCons (wV 0) (wCons (wC (.int 10)) wNil)))))
    (wSeq (wSet 2 (wOp ixF (wLst (wCons (wC (.str "a")) (wCons (wC (.str "z")) (wCons (wC (.str "m")) (wCons (wC (.str "kq")) wNil))))) (wCl (m__law_draw ga) [] (wCons (wV 0) (wCons (wC (.int 4)) wNil)))))
    (wSeq (wFor (wRng1 (wC (.int 10))) (gN 3) (wSet 2 (wOp addF (wVb 2) (wOp ixF (wC (.str "abcdefghijklmnopqrstuvwxyz")) (wCl (m__law_draw ga) [] (wCons (wV 0) (wCons (wC (.int 26)) wNil)))))))
    (wSeq (wFrz 1 (wSet 2 (wSl (wVb 2) woN (woS (wV 1)))))
    (wSeq (wSet 4 (wC (.str "on or if set not own end tell hear wait open else home fail plus same less over")))
    (wSeq (wIfS (wtOr (wTb (wOp (inF false) (wVb 2) (wSplit (wV 4) (wC (.str " "))))) (wTb (wOp (inF false) (wVb 2) (wTup (wCons (wC (.str "repeat")) (wCons (wC (.str "leave")) (wCons (wC (.str "minus")) (wCons (wC (.str "routine")) wNil)))))))) (wSet 2 (wC (.str "kq"))) wNx)
    (wSeq (wSet 5 (wC (.str "let")))
    (wSeq (wIfS (wTb (wOp gtI (wUn lenF (wVb 2)) (wC (.int 8)))) (wSet 5 (wTup (wCons (wC (.int 1)) wNil))) wNx)
    (wSeq (wFrz 2 (wFor (wWalk (wLst (wCons (wTup (wCons (wC (.str "set")) (wCons (wV 2) (wCons (wC (.int 1)) wNil)))) (wCons (wTup (wCons (wC (.str "tell")) (wCons (wV 2) (wCons (wC (.int 1)) wNil)))) (wCons (wTup (wCons (wC (.str "hear")) (wCons (wV 2) (wCons (wV 2) wNil)))) (wCons (wTup (wCons (wC (.str "tell")) (wCons (wC (.str "p")) (wCons (wTup (wCons (wC (.str "name")) (wCons (wV 2) wNil))) wNil)))) wNil)))))) (gN 6) (wIfS (wtNot (wTr (wClU m__law_agrees [] (wCons (wTup (wCons (wTup (wCons (wC (.str "home")) wNil)) (wCons (wV 6) wNil))) (wCons (wV 5) (wCons (wC (.int 2)) wNil)))))) (wRet (wC (.bl false))) wNx)))
    (wRet (wC (.bl true))))))))))))
def m__law_letters_agree (ga : Addr) : MF Unit := mk0 1 7 (u__law_letters_agree ga)
def u__law_large (m__law_large : MF Unit) (m__law_sized : MF Unit) : WS Unit :=
  (wSeq (wIfS (wTb (wOp (eqF false) (wVb 0) (wC (.int 1)))) (wRet (wTup (wCons (wC (.str "tell")) (wCons (wC (.str "p")) (wCons (wC (.int 1)) wNil))))) wNx)
    (wSeq (wSet 2 (wOp subF (wVb 0) (wC (.int 1))))
    (wSeq (wSet 3 (wLst wNil))
    (wSeq (wFor (wRng1 (wC (.int 4))) (gN 4) (wSeq (wSet 5 (wOp fdivF (wOp subF (wOp addF (wVb 2) (wC (.int 3))) (wVb 4)) (wOp subF (wC (.int 4)) (wVb 4))))
    (wSeq (wFrz 5 (wApp 3 (wClU m__law_sized [] (wCons (wV 5) (wCons (wOp subF (wVb 1) (wC (.int 1))) wNil)))))
    (wSet 2 (wOp subF (wVb 2) (wVb 5))))))
    (wRet (wTup (wCons (wC (.str "open")) (wCons (wUn tupleF (wVb 3)) wNil))))))))
def u__law_sized (m__law_large : MF Unit) (m__law_sized : MF Unit) : WS Unit :=
  (wSeq (wIfS (wTb (wOp ltI (wVb 1) (wC (.int 1)))) (wRet (wOp mulF2 (wTup (wCons (wTup (wCons (wC (.str "hear")) (wCons (wC (.str "p")) (wCons (wC (.str "a")) wNil)))) wNil)) (wVb 0))) wNx)
    (wSeq (wSet 2 (wLst wNil))
    (wSeq (wSet 3 (wV 0))
    (wSeq (wFor (wRng1 (wC (.int 12))) (gN 4) (wSeq (wSet 5 (wOp fdivF (wOp subF (wOp addF (wVb 3) (wC (.int 11))) (wVb 4)) (wOp subF (wC (.int 12)) (wVb 4))))
    (wIfS (wTb (wOp gtI (wVb 5) (wC (.int 0)))) (wSeq (wFrz 5 (wApp 2 (wClU m__law_large [] (wCons (wV 5) (wCons (wV 1) wNil)))))
    (wSet 3 (wOp subF (wVb 3) (wVb 5)))) wNx)))
    (wRet (wUn tupleF (wVb 2)))))))
def g__law_large : Nat → MF Unit × MF Unit
  | 0 => (bot, bot)
  | n + 1 => (mk0 2 6 (u__law_large (g__law_large n).1 (g__law_large n).2), mk0 2 6 (u__law_sized (g__law_large n).1 (g__law_large n).2))
def m__law_large (n : Nat) : MF Unit := (g__law_large n).1
def m__law_sized (n : Nat) : MF Unit := (g__law_large n).2
def u__law_counts_agree (ga : Addr) : WS Unit :=
  (wSeq (wSet 1 (wOp addF (wC (.int 5996)) (wCl (m__law_draw ga) [] (wCons (wV 0) (wCons (wC (.int 8)) wNil)))))
    (wSeq (wIfS (wTb (wOp (eqF false) (wCl (m__law_draw ga) [] (wCons (wV 0) (wCons (wC (.int 3)) wNil))) (wC (.int 0)))) (wFrz 1 (wRet (wClU m__law_agrees [] (wCons (wOp addF (wSl (wClU (m__law_sized 8) [] (wCons (wOp addF (wVb 1) (wC (.int 600))) (wCons (wC (.int 2)) wNil))) woN (woS (wC (.int 11)))) (wTup (wCons (wTup (wCons (wC (.str "leave")) wNil)) wNil))) (wCons (wTup (wCons (wC (.int 11)) wNil)) (wCons (wV 1) wNil)))))) wNx)
    (wSeq (wSet 2 (wC (.str "let")))
    (wSeq (wIfS (wTb (wOp gtI (wVb 1) (wC (.int 6000)))) (wSet 2 (wC .non)) wNx)
    (wFrz 1 (wRet (wClU m__law_agrees [] (wCons (wClU (m__law_sized 8) [] (wCons (wV 1) (wCons (wC (.int 2)) wNil))) (wCons (wV 2) (wCons (wV 1) wNil))))))))))
def m__law_counts_agree (ga : Addr) : MF Unit := mk0 1 3 (u__law_counts_agree ga)
abbrev s__law_alike : Stmt := top 54
theorem sc__law_alike : FnScope ["_law_actual", "_law_due", "_law_k"] ["_law_actual", "_law_due"] (defScope s__law_alike) := ⟨rfl, rfl, rfl, by decide +kernel, rfl, by decide +kernel, by decide +kernel⟩
theorem c__law_alike_2 {P : Program} {w : World} {K : PySem.W.Frag} {mg : Str → Option Value} {base : Heap} {cl : Nat → Addr} {CX : CXT} {k : Nat} {sp : Sp} (o : OkE P w K mg base CX k "_law_alike" s__law_alike ["_law_actual", "_law_due"] cl [] sp) : CalL P w K mg base CX k "_law_alike" cl sp [] := o.cal fun _ _ _ _ _ _ us hl => match us, hl with | [_, _], _ => rfl
theorem ok__law_alike {P : Program} {w : World} {K : PySem.W.Frag} {mg : Str → Option Value} {base : Heap} {cl xl : Nat → Addr} {fI : Addr} (T : Txt w K mg cl xl fI) : ∀ n, OkE P w K mg base CX0 (0 + n) "_law_alike" s__law_alike ["_law_actual", "_law_due"] cl [] (spW K cl xl Sto.no (m__law_alike n))
  | 0 => okE_bot T.d__law_alike
  | n + 1 => by
    have ih := ok__law_alike (P := P) (w := w) (K := K) (mg := mg) (base := base) (cl := cl) (xl := xl) (fI := fI) T n
    exact ok0E T.d__law_alike sc__law_alike fun cdv A outer s H E G f hr => by
      have sc := sc__law_alike
      have hr : Room (0 + n) _ := hr
      exact (ws_cons (ws_if (wt_is (wb_v (pv 1)) (wb we_non)) (ws_one (ws_ret (we_is (wb_v (pv 0)) (wb we_non)))) ws_nil)
      (ws_cons (ws_if (wt_tr (wb (we_isT (T := .bool) T.ck (pe_callB call_isi rfl T.z_isinstance boot_isinstance (pa_cons (wb_v (pv 1)) (pa_cons (pe_bltn rfl T.z_bool PyProof.Rows.boot_bool rfl) pa_nil)))))) (ws_one (ws_ret (we_and (we_isT (T := .bool) T.ck (pe_callB call_isi rfl T.z_isinstance boot_isinstance (pa_cons (wb_v (pv 0)) (pa_cons (pe_bltn rfl T.z_bool PyProof.Rows.boot_bool rfl) pa_nil)))) (we_one (we_eq hr.units (wb_v (pv 0)) (wb_v (pv 1))))))) ws_nil)
      (ws_cons (ws_if (wt_tr (wb (we_isT (T := .int) T.ck (pe_callB call_isi rfl T.z_isinstance boot_isinstance (pa_cons (wb_v (pv 1)) (pa_cons (pe_bltn rfl T.z_int PyProof.Rows.boot_int rfl) pa_nil)))))) (ws_one (ws_ret (we_and (we_isT (T := .int) T.ck (pe_callB call_isi rfl T.z_isinstance boot_isinstance (pa_cons (wb_v (pv 0)) (pa_cons (pe_bltn rfl T.z_int PyProof.Rows.boot_int rfl) pa_nil)))) (we_and (we_not (we_isT (T := .bool) T.ck (pe_callB call_isi rfl T.z_isinstance boot_isinstance (pa_cons (wb_v (pv 0)) (pa_cons (pe_bltn rfl T.z_bool PyProof.Rows.boot_bool rfl) pa_nil))))) (we_one (we_eq hr.units (wb_v (pv 0)) (wb_v (pv 1)))))))) ws_nil)
      (ws_cons (ws_if (wt_tr (wb (we_isT (T := .str) T.ck (pe_callB call_isi rfl T.z_isinstance boot_isinstance (pa_cons (wb_v (pv 1)) (pa_cons (pe_bltn rfl T.z_str PyProof.Rows.boot_str rfl) pa_nil)))))) (ws_one (ws_ret (we_and (we_isT (T := .str) T.ck (pe_callB call_isi rfl T.z_isinstance boot_isinstance (pa_cons (wb_v (pv 0)) (pa_cons (pe_bltn rfl T.z_str PyProof.Rows.boot_str rfl) pa_nil)))) (we_one (we_eq hr.units (wb_v (pv 0)) (wb_v (pv 1))))))) ws_nil)
      (ws_cons (ws_if (PW.pt (wt_and (wt_tr (wb (we_isT (T := .tuple) T.ck (pe_callB call_isi rfl T.z_isinstance boot_isinstance (pa_cons (wb_v (pv 1)) (pa_cons (pe_bltn rfl T.z_tuple PyProof.Rows.boot_tuple rfl) pa_nil)))))) (wt_and1 (wt_not (wt_tr (wb (we_isT (T := .tuple) T.ck (pe_callB call_isi rfl T.z_isinstance boot_isinstance (pa_cons (wb_v (pv 0)) (pa_cons (pe_bltn rfl T.z_tuple PyProof.Rows.boot_tuple rfl) pa_nil)))))))))) (ws_one (ws_ret we_bl)) ws_nil)
      (ws_cons (ws_if (PW.pt (wt_and (wt_tr (wb (we_isT (T := .list) T.ck (pe_callB call_isi rfl T.z_isinstance boot_isinstance (pa_cons (wb_v (pv 1)) (pa_cons (pe_bltn rfl T.z_list PyProof.Rows.boot_list rfl) pa_nil)))))) (wt_and1 (wt_not (wt_tr (wb (we_isT (T := .list) T.ck (pe_callB call_isi rfl T.z_isinstance boot_isinstance (pa_cons (wb_v (pv 0)) (pa_cons (pe_bltn rfl T.z_list PyProof.Rows.boot_list rfl) pa_nil)))))))))) (ws_one (ws_ret we_bl)) ws_nil)
      (ws_cons (ws_if (wt_ne hr.units (wb (we_un (pe_callB call_lenA rfl T.z_len boot_len (pa_cons (wb_v (pv 0)) pa_nil)) len_ok)) (wb (we_un (pe_callB call_lenA rfl T.z_len boot_len (pa_cons (wb_v (pv 1)) pa_nil)) len_ok))) (ws_one (ws_ret we_bl)) ws_nil)
      (ws_cons (ws_for PassesOwn.never rfl (wr_rng1 rfl T.z_range (we_un (pe_callB call_lenA rfl T.z_len boot_len (pa_cons (wb_v (pv 1)) pa_nil)) len_ok)) (pg_name (i := 2) sc.nd rfl (Or.inl rfl)) tg_name (ws_one (ws_if (wt_not (wt_tr (wb (we_cU (c__law_alike_2 ih) pass0 hr (by omega) rfl (wa_cons (we_item (wb_v (pv 0)) (wb_v (pv 2))) (wa_cons (we_item (wb_v (pv 1)) (wb_v (pv 2))) wa_nil)))))) (ws_one (ws_ret we_bl)) ws_nil)))
      (ws_one (ws_ret we_bl))))))))))
abbrev s__law_simple : Stmt := top 55
theorem sc__law_simple : FnScope ["_law_source_here", "_law_kind"] ["_law_source_here"] (defScope s__law_simple) := ⟨rfl, rfl, rfl, by decide +kernel, rfl, by decide +kernel, by decide +kernel⟩
theorem c__law_simple_1 {P : Program} {w : World} {K : PySem.W.Frag} {mg : Str → Option Value} {base : Heap} {cl : Nat → Addr} {CX : CXT} {k : Nat} {sp : Sp} (o : OkE P w K mg base CX k "_law_simple" s__law_simple ["_law_source_here"] cl [] sp) : CalL P w K mg base CX k "_law_simple" cl sp [] := o.cal fun _ _ _ _ _ _ us hl => match us, hl with | [_], _ => rfl
theorem ok__law_simple {P : Program} {w : World} {K : PySem.W.Frag} {mg : Str → Option Value} {base : Heap} {cl xl : Nat → Addr} {fI : Addr} {ga gb : Addr} (T : Txt w K mg cl xl fI) : OkE P w K mg base CX0 4 "_law_simple" s__law_simple ["_law_source_here"] cl [] (spW K cl xl (Gen ga gb) (m__law_simple ga)) :=
  ok0E T.d__law_simple sc__law_simple fun cdv A outer s H E G f hr => by
    have sc := sc__law_simple
    exact (ws_cons (ws_set (i := 1) sc.nd rfl (Or.inl rfl) (we_c (c__law_draw_2 (ok__law_draw (ga := ga) (gb := gb) T)) pass0 hr (by omega) rfl (wa_cons (we_v (pv 0)) (wa_cons we_int wa_nil))))
    (ws_cons (ws_if (wt_eq hr.units (wb_v (pv 1)) (wb we_int)) (ws_one (ws_ret (we_tup (wa_cons we_str (wa_cons we_str (wa_cons (we_c (c__law_draw_2 (ok__law_draw (ga := ga) (gb := gb) T)) pass0 hr (by omega) rfl (wa_cons (we_v (pv 0)) (wa_cons we_int wa_nil))) wa_nil)))))) ws_nil)
    (ws_cons (ws_if (wt_eq hr.units (wb_v (pv 1)) (wb we_int)) (ws_one (ws_ret (we_tup (wa_cons we_str (wa_cons we_str (wa_cons we_str wa_nil)))))) ws_nil)
    (ws_one (ws_ret (we_tup (wa_cons we_str (wa_cons we_str (wa_cons (we_tup (wa_cons we_str (wa_cons we_str wa_nil))) wa_nil)))))))))
abbrev s__law_agrees : Stmt := top 56
theorem sc__law_agrees : FnScope ["_law_block", "_law_due", "_law_many", "_law_found", "_law_routine", "e"] ["_law_block", "_law_due", "_law_many"] (defScope s__law_agrees) := ⟨rfl, rfl, rfl, by decide +kernel, rfl, by decide +kernel, by decide +kernel⟩
theorem c__law_agrees_3 {P : Program} {w : World} {K : PySem.W.Frag} {mg : Str → Option Value} {base : Heap} {cl : Nat → Addr} {CX : CXT} {k : Nat} {sp : Sp} (o : OkE P w K mg base CX k "_law_agrees" s__law_agrees ["_law_block", "_law_due", "_law_many"] cl [] sp) : CalL P w K mg base CX k "_law_agrees" cl sp [] := o.cal fun _ _ _ _ _ _ us hl => match us, hl with | [_, _, _], _ => rfl
theorem ok__law_agrees {P : Program} {w : World} {K : PySem.W.Frag} {mg : Str → Option Value} {base : Heap} {cl xl : Nat → Addr} {fI : Addr} (T : Txt w K mg cl xl fI) : OkE P w K mg base CX0 61 "_law_agrees" s__law_agrees ["_law_block", "_law_due", "_law_many"] cl [] (spW K cl xl Sto.no (m__law_agrees)) :=
  ok0E T.d__law_agrees sc__law_agrees fun cdv A outer s H E G f hr => by
    have sc := sc__law_agrees
    exact (ws_cons (ws_set (i := 3) sc.nd rfl (Or.inl rfl) we_non)
    (ws_cons (ws_set (i := 4) sc.nd rfl (Or.inl rfl) we_non)
    (ws_cons (ws_try_as (n := "e") (i := 5) rfl rfl sc.nd rfl rfl ⟨rfl, by decide, Or.inl T.e_BadRoutine⟩ takes0 (fun c _ => T.x c) (T.h_BadRoutine) (by first | exact fun _ _ _ _ _ _ z => z | exact gen_xd) (fun W pn xe tk po => (ws_one (ws_set (i := 4) sc.nd rfl (Or.inl rfl) (we_mkX (mk_Routine T) tk hr (by omega) rfl (wa_cons (we_v (pv 0)) wa_nil))))) (fun a oe pn d H1 G1 hh => (ws_one (ws_set (i := 3) sc.nd rfl (Or.inl rfl) (we_lst (wa_cons (we_what hh (pv 5)) wa_nil))))))
    (ws_cons (ws_if (wt_eq hr.units (wb_v (pv 1)) (wb we_str)) (ws_cons (ws_frz 4 (ws_if (PW.pt (wt_or (wt_isnot (wb_v (pv 3)) (wb we_non)) (wt_or1 (wt_not (wt_tr (wb (we_cU (c__law_alike_2 (ok__law_alike T 60)) pass0 hr (by omega) rfl (wa_cons (we_fld (c := 0) (T.cls 0) T.a_Routine_block (we_v (pv 4))) (wa_cons (we_v (pv 0)) wa_nil))))))))) (ws_one (ws_ret we_bl)) ws_nil))
    (ws_one (ws_frz 4 (ws_ret (we_or (we_ltI (wb_v (pv 2)) (wb we_int)) (we_one (we_eq hr.units (wb (we_un (pe_callB call_lenA rfl T.z_len boot_len (pa_cons (wb (we_mt0 (ok_Routine_paths T) pass0 hr (by omega) (we_v (pv 4)))) pa_nil)) len_ok)) (wb_v (pv 2))))))))) ws_nil)
    (ws_one (ws_ret (we_and (we_isnot (wb_v (pv 3)) (wb we_non)) (we_one (we_cU (c__law_alike_2 (ok__law_alike T 60)) pass0 hr (by omega) rfl (wa_cons (we_item (wb_v (pv 3)) (wb we_int)) (wa_cons (we_v (pv 1)) wa_nil)))))))))))
abbrev s__law_sizes_agree : Stmt := top 57
theorem sc__law_sizes_agree : FnScope ["_law_source_here", "_law_size", "_law_block", "_law_due", "_law_outer", "_law_k"] ["_law_source_here"] (defScope s__law_sizes_agree) := ⟨rfl, rfl, rfl, by decide +kernel, rfl, by decide +kernel, by decide +kernel⟩
theorem c__law_sizes_agree_1 {P : Program} {w : World} {K : PySem.W.Frag} {mg : Str → Option Value} {base : Heap} {cl : Nat → Addr} {CX : CXT} {k : Nat} {sp : Sp} (o : OkE P w K mg base CX k "_law_sizes_agree" s__law_sizes_agree ["_law_source_here"] cl [] sp) : CalL P w K mg base CX k "_law_sizes_agree" cl sp [] := o.cal fun _ _ _ _ _ _ us hl => match us, hl with | [_], _ => rfl
theorem ok__law_sizes_agree {P : Program} {w : World} {K : PySem.W.Frag} {mg : Str → Option Value} {base : Heap} {cl xl : Nat → Addr} {fI : Addr} {ga gb : Addr} (T : Txt w K mg cl xl fI) : OkE P w K mg base CX0 62 "_law_sizes_agree" s__law_sizes_agree ["_law_source_here"] cl [] (spW K cl xl (Gen ga gb) (m__law_sizes_agree ga)) :=
  ok0E T.d__law_sizes_agree sc__law_sizes_agree fun cdv A outer s H E G f hr => by
    have sc := sc__law_sizes_agree
    exact (ws_cons (ws_set (i := 1) sc.nd rfl (Or.inl rfl) (we_add (wb we_int) (wb (we_c (c__law_draw_2 (ok__law_draw (ga := ga) (gb := gb) T)) pass0 hr (by omega) rfl (wa_cons (we_v (pv 0)) (wa_cons we_int wa_nil))))))
    (ws_cons (ws_frz 1 (ws_set (i := 2) sc.nd rfl (Or.inl rfl) (we_un (pe_callTy call_tuple_of rfl T.z_tuple boot_tuple (pa_cons (wb (we_lc (own := [("_law_k", 5)]) rfl sc.nd (wr_rng1 rfl T.z_range (we_v (pv 1))) (blkOk_by (N := ["_law_source_here", "_law_size", "_law_block", "_law_due", "_law_outer", "_law_k"]) (sc := defScope s__law_sizes_agree) (by decide +kernel)) (fun _ _ _ _ _ => (pg_name (i := 5) sc.nd rfl (Or.inl rfl))) tg_name (gw_name (by decide)) (fun _ _ _ _ _ => wts_nil) (fun _ _ _ _ _ => (we_c (c__law_simple_1 (ok__law_simple (ga := ga) (gb := gb) T)) pass0 hr (by omega) rfl (wa_cons (we_v (pv 0)) wa_nil))))) pa_nil)) tuple_ok)))
    (ws_cons (ws_set (i := 3) sc.nd rfl (Or.inl rfl) we_str)
    (ws_cons (ws_if (wt_gtI (wb_v (pv 1)) (wb we_int)) (ws_one (ws_set (i := 3) sc.nd rfl (Or.inl rfl) (we_tup wa_nil))) ws_nil)
    (ws_cons (ws_frz 2 (ws_frz 1 (ws_if (wt_not (wt_tr (wb (we_cU (c__law_agrees_3 (ok__law_agrees T)) pass0 hr (by omega) rfl (wa_cons (we_v (pv 2)) (wa_cons (we_v (pv 3)) (wa_cons (we_v (pv 1)) wa_nil))))))) (ws_one (ws_ret we_bl)) ws_nil)))
    (ws_cons (ws_if (wt_gtI (wb_v (pv 1)) (wb we_int)) (ws_one (ws_set (i := 3) sc.nd rfl (Or.inl rfl) (we_tup (wa_cons we_int wa_nil)))) ws_nil)
    (ws_cons (ws_frz 2 (ws_set (i := 4) sc.nd rfl (Or.inl rfl) (we_tup (wa_cons (we_tup (wa_cons we_str (wa_cons we_str (wa_cons we_int wa_nil)))) (wa_cons (we_tup (wa_cons we_str (wa_cons (we_tup (wa_cons (we_tup wa_nil) (wa_cons (we_v (pv 2)) wa_nil))) wa_nil))) wa_nil)))))
    (ws_cons (ws_if (wt_eq hr.units (wb (we_c (c__law_draw_2 (ok__law_draw (ga := ga) (gb := gb) T)) pass0 hr (by omega) rfl (wa_cons (we_v (pv 0)) (wa_cons we_int wa_nil)))) (wb we_int)) (ws_cons (ws_set (i := 4) sc.nd rfl (Or.inl rfl) (we_tup (wa_cons (we_tup (wa_cons we_str (wa_cons we_str (wa_cons we_str wa_nil)))) (wa_cons (we_tup (wa_cons we_str (wa_cons (we_add (wb (we_tup (wa_cons (we_tup (wa_cons we_str (wa_cons we_str (wa_cons we_int wa_nil)))) wa_nil))) (wb (we_slice (wb_v (pv 2)) (wo_s we_int) wo_n))) wa_nil))) (wa_cons (we_tup (wa_cons we_str wa_nil)) wa_nil)))))
    (ws_one (ws_ret (we_cU (c__law_agrees_3 (ok__law_agrees T)) pass0 hr (by omega) rfl (wa_cons (we_v (pv 4)) (wa_cons (we_v (pv 3)) (wa_cons (we_add (wb_v (pv 1)) (wb we_int)) wa_nil))))))) ws_nil)
    (ws_one (ws_ret (we_cU (c__law_agrees_3 (ok__law_agrees T)) pass0 hr (by omega) rfl (wa_cons (we_v (pv 4)) (wa_cons (we_v (pv 3)) (wa_cons (we_add (wb_v (pv 1)) (wb we_int)) wa_nil))))))))))))))
abbrev s__law_around : Stmt := top 58
theorem sc__law_around : FnScope ["_law_source_here", "_law_block", "_law_kind", "_law_number"] ["_law_source_here", "_law_block"] (defScope s__law_around) := ⟨rfl, rfl, rfl, by decide +kernel, rfl, by decide +kernel, by decide +kernel⟩
theorem c__law_around_2 {P : Program} {w : World} {K : PySem.W.Frag} {mg : Str → Option Value} {base : Heap} {cl : Nat → Addr} {CX : CXT} {k : Nat} {sp : Sp} (o : OkE P w K mg base CX k "_law_around" s__law_around ["_law_source_here", "_law_block"] cl [] sp) : CalL P w K mg base CX k "_law_around" cl sp [] := o.cal fun _ _ _ _ _ _ us hl => match us, hl with | [_, _], _ => rfl
theorem ok__law_around {P : Program} {w : World} {K : PySem.W.Frag} {mg : Str → Option Value} {base : Heap} {cl xl : Nat → Addr} {fI : Addr} {ga gb : Addr} (T : Txt w K mg cl xl fI) : OkE P w K mg base CX0 4 "_law_around" s__law_around ["_law_source_here", "_law_block"] cl [] (spW K cl xl (Gen ga gb) (m__law_around ga)) :=
  ok0E T.d__law_around sc__law_around fun cdv A outer s H E G f hr => by
    have sc := sc__law_around
    exact (ws_cons (ws_set (i := 2) sc.nd rfl (Or.inl rfl) (we_c (c__law_draw_2 (ok__law_draw (ga := ga) (gb := gb) T)) pass0 hr (by omega) rfl (wa_cons (we_v (pv 0)) (wa_cons we_int wa_nil))))
    (ws_cons (ws_if (wt_eq hr.units (wb_v (pv 2)) (wb we_int)) (ws_one (ws_ret (we_tup (wa_cons (we_tup (wa_cons we_str (wa_cons (we_v (pv 1)) wa_nil))) (wa_cons we_int wa_nil))))) ws_nil)
    (ws_cons (ws_if (wt_eq hr.units (wb_v (pv 2)) (wb we_int)) (ws_one (ws_ret (we_tup (wa_cons (we_tup (wa_cons we_str (wa_cons (we_tup (wa_cons we_str (wa_cons we_str wa_nil))) (wa_cons (we_v (pv 1)) (wa_cons (we_tup (wa_cons (we_tup (wa_cons we_str wa_nil)) wa_nil)) wa_nil))))) (wa_cons we_int wa_nil))))) ws_nil)
    (ws_cons (ws_if (wt_eq hr.units (wb_v (pv 2)) (wb we_int)) (ws_one (ws_ret (we_tup (wa_cons (we_tup (wa_cons we_str (wa_cons we_int (wa_cons (we_tup wa_nil) (wa_cons (we_v (pv 1)) wa_nil))))) (wa_cons we_int wa_nil))))) ws_nil)
    (ws_cons (ws_if (wt_eq hr.units (wb_v (pv 2)) (wb we_int)) (ws_one (ws_ret (we_tup (wa_cons (we_tup (wa_cons we_str (wa_cons (we_tup (wa_cons (we_tup (wa_cons we_str (wa_cons we_str (wa_cons (we_tup wa_nil) wa_nil)))) (wa_cons (we_tup (wa_cons we_str (wa_cons we_str (wa_cons (we_v (pv 1)) wa_nil)))) (wa_cons (we_tup (wa_cons we_str (wa_cons we_str (wa_cons (we_tup wa_nil) wa_nil)))) wa_nil)))) wa_nil))) (wa_cons we_int wa_nil))))) ws_nil)
    (ws_cons (ws_set (i := 3) sc.nd rfl (Or.inl rfl) (we_c (c__law_draw_2 (ok__law_draw (ga := ga) (gb := gb) T)) pass0 hr (by omega) rfl (wa_cons (we_v (pv 0)) (wa_cons we_int wa_nil))))
    (ws_one (ws_frz 3 (ws_ret (we_tup (wa_cons (we_tup (wa_cons we_str (wa_cons (we_add (wb (we_add (wb (we_mul2 (wb (we_tup (wa_cons (we_tup wa_nil) wa_nil))) (wb_v (pv 3)))) (wb (we_tup (wa_cons (we_v (pv 1)) wa_nil))))) (wb (we_mul2 (wb (we_tup (wa_cons (we_tup wa_nil) wa_nil))) (wb (we_sub (wb we_int) (wb_v (pv 3))))))) wa_nil))) (wa_cons (we_v (pv 3)) wa_nil))))))))))))
abbrev s__law_depths_agree : Stmt := top 59
theorem sc__law_depths_agree : FnScope ["_law_source_here", "_law_many", "_law_block", "_law_path", "_law_due", "_law_level", "_law_statement", "_law_number", "_law_ahead", "_law_k"] ["_law_source_here"] (defScope s__law_depths_agree) := ⟨rfl, rfl, rfl, by decide +kernel, rfl, by decide +kernel, by decide +kernel⟩
theorem c__law_depths_agree_1 {P : Program} {w : World} {K : PySem.W.Frag} {mg : Str → Option Value} {base : Heap} {cl : Nat → Addr} {CX : CXT} {k : Nat} {sp : Sp} (o : OkE P w K mg base CX k "_law_depths_agree" s__law_depths_agree ["_law_source_here"] cl [] sp) : CalL P w K mg base CX k "_law_depths_agree" cl sp [] := o.cal fun _ _ _ _ _ _ us hl => match us, hl with | [_], _ => rfl
theorem ok__law_depths_agree {P : Program} {w : World} {K : PySem.W.Frag} {mg : Str → Option Value} {base : Heap} {cl xl : Nat → Addr} {fI : Addr} {ga gb : Addr} (T : Txt w K mg cl xl fI) : OkE P w K mg base CX0 62 "_law_depths_agree" s__law_depths_agree ["_law_source_here"] cl [] (spW K cl xl (Gen ga gb) (m__law_depths_agree ga)) :=
  ok0E T.d__law_depths_agree sc__law_depths_agree fun cdv A outer s H E G f hr => by
    have sc := sc__law_depths_agree
    exact (ws_cons (ws_set (i := 1) sc.nd rfl (Or.inl rfl) (we_add (wb we_int) (wb (we_c (c__law_draw_2 (ok__law_draw (ga := ga) (gb := gb) T)) pass0 hr (by omega) rfl (wa_cons (we_v (pv 0)) (wa_cons we_int wa_nil))))))
    (ws_cons (ws_set (i := 2) sc.nd rfl (Or.inl rfl) (we_tup (wa_cons (we_tup (wa_cons we_str (wa_cons we_str (wa_cons we_int wa_nil)))) wa_nil)))
    (ws_cons (ws_set (i := 3) sc.nd rfl (Or.inl rfl) we_non)
    (ws_cons (ws_if (wt_eq hr.units (wb (we_c (c__law_draw_2 (ok__law_draw (ga := ga) (gb := gb) T)) pass0 hr (by omega) rfl (wa_cons (we_v (pv 0)) (wa_cons we_int wa_nil)))) (wb we_int)) (ws_cons (ws_set (i := 2) sc.nd rfl (Or.inl rfl) (we_add (wb_v (pv 2)) (wb (we_tup (wa_cons we_int wa_nil)))))
    (ws_one (ws_set (i := 3) sc.nd rfl (Or.inl rfl) (we_tup (wa_cons we_int wa_nil))))) ws_nil)
    (ws_cons (ws_set (i := 4) sc.nd rfl (Or.inl rfl) we_str)
    (ws_cons (ws_for PassesOwn.never rfl (wr_revR2 rfl T.z_reversed rfl T.z_range we_int (we_add (wb_v (pv 1)) (wb we_int))) (pg_name (i := 5) sc.nd rfl (Or.inl rfl)) tg_name (ws_cons (ws_frz 2 (ws_unp (we_c (c__law_around_2 (ok__law_around (ga := ga) (gb := gb) T)) pass0 hr (by omega) rfl (wa_cons (we_v (pv 0)) (wa_cons (we_v (pv 2)) wa_nil))) (pg_tup rfl (pgs_cons (pg_name (i := 6) sc.nd rfl (Or.inl rfl)) (pgs_cons (pg_name (i := 7) sc.nd rfl (Or.inl rfl)) pgs_nil))) (tg_tup (tgs_cons tg_name (tgs_cons tg_name tgs_nil)))))
    (ws_cons (ws_set (i := 8) sc.nd rfl (Or.inl rfl) (we_un (pe_callTy call_tuple_of rfl T.z_tuple boot_tuple (pa_cons (wb (we_lc (own := [("_law_k", 9)]) rfl sc.nd (wr_rng1 rfl T.z_range (we_add (wb we_int) (wb (we_c (c__law_draw_2 (ok__law_draw (ga := ga) (gb := gb) T)) pass0 hr (by omega) rfl (wa_cons (we_v (pv 0)) (wa_cons we_int wa_nil)))))) (blkOk_by (N := ["_law_source_here", "_law_many", "_law_block", "_law_path", "_law_due", "_law_level", "_law_statement", "_law_number", "_law_ahead", "_law_k"]) (sc := defScope s__law_depths_agree) (by decide +kernel)) (fun _ _ _ _ _ => (pg_name (i := 9) sc.nd rfl (Or.inl rfl))) tg_name (gw_name (by decide)) (fun _ _ _ _ _ => wts_nil) (fun _ _ _ _ _ => (we_tup (wa_cons we_str (wa_cons we_str (wa_cons (we_v (pv 9)) wa_nil))))))) pa_nil)) tuple_ok))
    (ws_cons (ws_set (i := 2) sc.nd rfl (Or.inl rfl) (we_add (wb_v (pv 8)) (wb (we_tup (wa_cons (we_v (pv 6)) wa_nil)))))
    (ws_cons (ws_if (wt_isnot (wb_v (pv 3)) (wb we_non)) (ws_one (ws_set (i := 3) sc.nd rfl (Or.inl rfl) (we_add (wb (we_tup (wa_cons (we_un (pe_callB call_lenA rfl T.z_len boot_len (pa_cons (wb_v (pv 8)) pa_nil)) len_ok) (wa_cons (we_v (pv 7)) wa_nil)))) (wb_v (pv 3))))) ws_nil)
    (ws_one (ws_if (wt_eq hr.units (wb_v (pv 5)) (wb we_int)) (ws_one (ws_set (i := 3) sc.nd rfl (Or.inl rfl) (we_tup (wa_cons (we_un (pe_callB call_lenA rfl T.z_len boot_len (pa_cons (wb_v (pv 8)) pa_nil)) len_ok) wa_nil)))) ws_nil)))))))
    (ws_cons (ws_if (wt_isnot (wb_v (pv 3)) (wb we_non)) (ws_one (ws_frz 3 (ws_set (i := 4) sc.nd rfl (Or.inl rfl) (we_v (pv 3))))) ws_nil)
    (ws_one (ws_frz 2 (ws_frz 4 (ws_ret (we_cU (c__law_agrees_3 (ok__law_agrees T)) pass0 hr (by omega) rfl (wa_cons (we_v (pv 2)) (wa_cons (we_v (pv 4)) (wa_cons (we_neg (wb we_int)) wa_nil)))))))))))))))
abbrev s__law_rows_agree : Stmt := top 60
theorem sc__law_rows_agree : FnScope ["_law_source_here", "_law_many", "_law_shift", "_law_rows", "_law_blocks", "_law_due", "_law_k"] ["_law_source_here"] (defScope s__law_rows_agree) := ⟨rfl, rfl, rfl, by decide +kernel, rfl, by decide +kernel, by decide +kernel⟩
theorem c__law_rows_agree_1 {P : Program} {w : World} {K : PySem.W.Frag} {mg : Str → Option Value} {base : Heap} {cl : Nat → Addr} {CX : CXT} {k : Nat} {sp : Sp} (o : OkE P w K mg base CX k "_law_rows_agree" s__law_rows_agree ["_law_source_here"] cl [] sp) : CalL P w K mg base CX k "_law_rows_agree" cl sp [] := o.cal fun _ _ _ _ _ _ us hl => match us, hl with | [_], _ => rfl
theorem ok__law_rows_agree {P : Program} {w : World} {K : PySem.W.Frag} {mg : Str → Option Value} {base : Heap} {cl xl : Nat → Addr} {fI : Addr} {ga gb : Addr} (T : Txt w K mg cl xl fI) : OkE P w K mg base CX0 62 "_law_rows_agree" s__law_rows_agree ["_law_source_here"] cl [] (spW K cl xl (Gen ga gb) (m__law_rows_agree ga)) :=
  ok0E T.d__law_rows_agree sc__law_rows_agree fun cdv A outer s H E G f hr => by
    have sc := sc__law_rows_agree
    exact (ws_cons (ws_set (i := 1) sc.nd rfl (Or.inl rfl) (we_add (wb we_int) (wb (we_c (c__law_draw_2 (ok__law_draw (ga := ga) (gb := gb) T)) pass0 hr (by omega) rfl (wa_cons (we_v (pv 0)) (wa_cons we_int wa_nil))))))
    (ws_cons (ws_set (i := 2) sc.nd rfl (Or.inr rfl) (we_c (c__law_draw_2 (ok__law_draw (ga := ga) (gb := gb) T)) pass0 hr (by omega) rfl (wa_cons (we_v (pv 0)) (wa_cons we_int wa_nil))))
    (ws_cons (ws_frz 1 (ws_set (i := 3) sc.nd rfl (Or.inl rfl) (we_un (pe_callTy call_tuple_of rfl T.z_tuple boot_tuple (pa_cons (wb (we_lc (own := [("_law_k", 6)]) rfl sc.nd (wr_rng1 rfl T.z_range (we_v (pv 1))) (blkOk_by (N := ["_law_source_here", "_law_many", "_law_shift", "_law_rows", "_law_blocks", "_law_due", "_law_k"]) (sc := defScope s__law_rows_agree) (by decide +kernel)) (fun _ _ _ _ _ => (pg_name (i := 6) sc.nd rfl (Or.inl rfl))) tg_name (gw_name (by decide)) (fun _ _ _ _ _ => wts_nil) (fun _ _ _ _ _ => (we_tup (wa_cons (we_item (wb we_str) (wb (we_add (wb_v (pv 2)) (wb_v (pv 6))))) (wa_cons we_str (wa_cons (we_mul2 (wb (we_tup (wa_cons (we_tup (wa_cons we_str wa_nil)) wa_nil))) (wb (we_mod (wb_v (pv 6)) (wb we_int)))) wa_nil))))))) pa_nil)) tuple_ok)))
    (ws_cons (ws_frz 1 (ws_set (i := 4) sc.nd rfl (Or.inl rfl) (we_un (pe_callTy call_tuple_of rfl T.z_tuple boot_tuple (pa_cons (wb (we_lc (own := [("_law_k", 6)]) rfl sc.nd (wr_rng1 rfl T.z_range (we_v (pv 1))) (blkOk_by (N := ["_law_source_here", "_law_many", "_law_shift", "_law_rows", "_law_blocks", "_law_due", "_law_k"]) (sc := defScope s__law_rows_agree) (by decide +kernel)) (fun _ _ _ _ _ => (pg_name (i := 6) sc.nd rfl (Or.inl rfl))) tg_name (gw_name (by decide)) (fun _ _ _ _ _ => wts_nil) (fun _ _ _ _ _ => (we_mul2 (wb (we_tup (wa_cons (we_tup (wa_cons we_str (wa_cons we_str (wa_cons (we_v (pv 6)) wa_nil)))) wa_nil))) (wb (we_mod (wb_v (pv 6)) (wb we_int))))))) pa_nil)) tuple_ok)))
    (ws_cons (ws_set (i := 5) sc.nd rfl (Or.inl rfl) we_str)
    (ws_cons (ws_if (wt_gtI (wb_v (pv 1)) (wb we_int)) (ws_one (ws_set (i := 5) sc.nd rfl (Or.inl rfl) (we_tup (wa_cons we_int wa_nil)))) ws_nil)
    (ws_cons (ws_frz 3 (ws_if (wt_not (wt_tr (wb (we_cU (c__law_agrees_3 (ok__law_agrees T)) pass0 hr (by omega) rfl (wa_cons (we_tup (wa_cons (we_tup (wa_cons we_str (wa_cons we_str (wa_cons we_int wa_nil)))) (wa_cons (we_tup (wa_cons we_str (wa_cons (we_v (pv 3)) wa_nil))) wa_nil))) (wa_cons (we_v (pv 5)) (wa_cons (we_neg (wb we_int)) wa_nil))))))) (ws_one (ws_ret we_bl)) ws_nil))
    (ws_one (ws_frz 4 (ws_ret (we_cU (c__law_agrees_3 (ok__law_agrees T)) pass0 hr (by omega) rfl (wa_cons (we_tup (wa_cons (we_tup (wa_cons we_str (wa_cons we_str (wa_cons we_int wa_nil)))) (wa_cons (we_tup (wa_cons we_str (wa_cons (we_v (pv 4)) wa_nil))) (wa_cons (we_tup (wa_cons we_str wa_nil)) wa_nil)))) (wa_cons (we_v (pv 5)) (wa_cons (we_neg (wb we_int)) wa_nil))))))))))))))
abbrev s__law_chain : Stmt := top 61
theorem sc__law_chain : FnScope ["_law_source_here", "_law_deep", "_law_value", "_law_k", "_law_kind", "_law_word"] ["_law_source_here", "_law_deep"] (defScope s__law_chain) := ⟨rfl, rfl, rfl, by decide +kernel, rfl, by decide +kernel, by decide +kernel⟩
theorem c__law_chain_2 {P : Program} {w : World} {K : PySem.W.Frag} {mg : Str → Option Value} {base : Heap} {cl : Nat → Addr} {CX : CXT} {k : Nat} {sp : Sp} (o : OkE P w K mg base CX k "_law_chain" s__law_chain ["_law_source_here", "_law_deep"] cl [] sp) : CalL P w K mg base CX k "_law_chain" cl sp [] := o.cal fun _ _ _ _ _ _ us hl => match us, hl with | [_, _], _ => rfl
theorem ok__law_chain {P : Program} {w : World} {K : PySem.W.Frag} {mg : Str → Option Value} {base : Heap} {cl xl : Nat → Addr} {fI : Addr} {ga gb : Addr} (T : Txt w K mg cl xl fI) : OkE P w K mg base CX0 4 "_law_chain" s__law_chain ["_law_source_here", "_law_deep"] cl [] (spW K cl xl (Gen ga gb) (m__law_chain ga)) :=
  ok0E T.d__law_chain sc__law_chain fun cdv A outer s H E G f hr => by
    have sc := sc__law_chain
    exact (ws_cons (ws_set (i := 2) sc.nd rfl (Or.inl rfl) (we_item (wb (we_lst (wa_cons we_int (wa_cons (we_tup (wa_cons we_str (wa_cons we_str wa_nil))) wa_nil)))) (wb (we_c (c__law_draw_2 (ok__law_draw (ga := ga) (gb := gb) T)) pass0 hr (by omega) rfl (wa_cons (we_v (pv 0)) (wa_cons we_int wa_nil))))))
    (ws_cons (ws_for PassesOwn.never rfl (wr_rng1 rfl T.z_range (we_sub (wb_v (pv 1)) (wb we_int))) (pg_name (i := 3) sc.nd rfl (Or.inl rfl)) tg_name (ws_cons (ws_set (i := 4) sc.nd rfl (Or.inl rfl) (we_c (c__law_draw_2 (ok__law_draw (ga := ga) (gb := gb) T)) pass0 hr (by omega) rfl (wa_cons (we_v (pv 0)) (wa_cons we_int wa_nil))))
    (ws_cons (ws_set (i := 5) sc.nd rfl (Or.inl rfl) (we_item (wb (we_lst (wa_cons we_str (wa_cons we_str (wa_cons we_str (wa_cons we_str wa_nil)))))) (wb (we_c (c__law_draw_2 (ok__law_draw (ga := ga) (gb := gb) T)) pass0 hr (by omega) rfl (wa_cons (we_v (pv 0)) (wa_cons we_int wa_nil))))))
    (ws_one (ws_if (wt_eq hr.units (wb_v (pv 4)) (wb we_int)) (ws_one (ws_frz 2 (ws_set (i := 2) sc.nd rfl (Or.inl rfl) (we_tup (wa_cons we_str (wa_cons (we_v (pv 2)) wa_nil)))))) (ws_one (ws_if (wt_eq hr.units (wb_v (pv 4)) (wb we_int)) (ws_one (ws_frz 5 (ws_frz 2 (ws_set (i := 2) sc.nd rfl (Or.inl rfl) (we_tup (wa_cons (we_v (pv 5)) (wa_cons (we_v (pv 2)) (wa_cons (we_c (c__law_draw_2 (ok__law_draw (ga := ga) (gb := gb) T)) pass0 hr (by omega) rfl (wa_cons (we_v (pv 0)) (wa_cons we_int wa_nil))) wa_nil)))))))) (ws_one (ws_frz 5 (ws_frz 2 (ws_set (i := 2) sc.nd rfl (Or.inl rfl) (we_tup (wa_cons (we_v (pv 5)) (wa_cons (we_tup (wa_cons we_str (wa_cons we_str wa_nil))) (wa_cons (we_v (pv 2)) wa_nil)))))))))))))))
    (ws_one (ws_retV (pv 2)))))
abbrev s__law_expressions_agree : Stmt := top 62
theorem sc__law_expressions_agree : FnScope ["_law_source_here", "_law_deep", "_law_value", "_law_due", "_law_statement"] ["_law_source_here"] (defScope s__law_expressions_agree) := ⟨rfl, rfl, rfl, by decide +kernel, rfl, by decide +kernel, by decide +kernel⟩
theorem c__law_expressions_agree_1 {P : Program} {w : World} {K : PySem.W.Frag} {mg : Str → Option Value} {base : Heap} {cl : Nat → Addr} {CX : CXT} {k : Nat} {sp : Sp} (o : OkE P w K mg base CX k "_law_expressions_agree" s__law_expressions_agree ["_law_source_here"] cl [] sp) : CalL P w K mg base CX k "_law_expressions_agree" cl sp [] := o.cal fun _ _ _ _ _ _ us hl => match us, hl with | [_], _ => rfl
theorem ok__law_expressions_agree {P : Program} {w : World} {K : PySem.W.Frag} {mg : Str → Option Value} {base : Heap} {cl xl : Nat → Addr} {fI : Addr} {ga gb : Addr} (T : Txt w K mg cl xl fI) : OkE P w K mg base CX0 62 "_law_expressions_agree" s__law_expressions_agree ["_law_source_here"] cl [] (spW K cl xl (Gen ga gb) (m__law_expressions_agree ga)) :=
  ok0E T.d__law_expressions_agree sc__law_expressions_agree fun cdv A outer s H E G f hr => by
    have sc := sc__law_expressions_agree
    exact (ws_cons (ws_set (i := 1) sc.nd rfl (Or.inl rfl) (we_add (wb we_int) (wb (we_c (c__law_draw_2 (ok__law_draw (ga := ga) (gb := gb) T)) pass0 hr (by omega) rfl (wa_cons (we_v (pv 0)) (wa_cons we_int wa_nil))))))
    (ws_cons (ws_frz 1 (ws_set (i := 2) sc.nd rfl (Or.inl rfl) (we_c (c__law_chain_2 (ok__law_chain (ga := ga) (gb := gb) T)) pass0 hr (by omega) rfl (wa_cons (we_v (pv 0)) (wa_cons (we_v (pv 1)) wa_nil)))))
    (ws_cons (ws_set (i := 3) sc.nd rfl (Or.inl rfl) we_str)
    (ws_cons (ws_if (wt_gtI (wb_v (pv 1)) (wb we_int)) (ws_one (ws_set (i := 3) sc.nd rfl (Or.inl rfl) (we_tup (wa_cons we_int wa_nil)))) ws_nil)
    (ws_cons (ws_frz 2 (ws_for PassesOwn.never rfl (wr_walk (we_lst (wa_cons (we_tup (wa_cons we_str (wa_cons we_str (wa_cons (we_v (pv 2)) wa_nil)))) (wa_cons (we_tup (wa_cons we_str (wa_cons we_str (wa_cons (we_v (pv 2)) wa_nil)))) (wa_cons (we_tup (wa_cons we_str (wa_cons (we_v (pv 2)) (wa_cons (we_tup wa_nil) (wa_cons (we_tup (wa_cons (we_tup (wa_cons we_str wa_nil)) wa_nil)) wa_nil))))) wa_nil))))) (pg_name (i := 4) sc.nd rfl (Or.inl rfl)) tg_name (ws_one (ws_if (wt_not (wt_tr (wb (we_cU (c__law_agrees_3 (ok__law_agrees T)) pass0 hr (by omega) rfl (wa_cons (we_tup (wa_cons (we_tup (wa_cons we_str wa_nil)) (wa_cons (we_v (pv 4)) wa_nil))) (wa_cons (we_v (pv 3)) (wa_cons (we_neg (wb we_int)) wa_nil))))))) (ws_one (ws_ret we_bl)) ws_nil))))
    (ws_one (ws_ret we_bl)))))))
abbrev s__law_letters_agree : Stmt := top 63
theorem sc__law_letters_agree : FnScope ["_law_source_here", "_law_size", "_law_name", "_law_k", "_law_words", "_law_due", "_law_statement"] ["_law_source_here"] (defScope s__law_letters_agree) := ⟨rfl, rfl, rfl, by decide +kernel, rfl, by decide +kernel, by decide +kernel⟩
theorem c__law_letters_agree_1 {P : Program} {w : World} {K : PySem.W.Frag} {mg : Str → Option Value} {base : Heap} {cl : Nat → Addr} {CX : CXT} {k : Nat} {sp : Sp} (o : OkE P w K mg base CX k "_law_letters_agree" s__law_letters_agree ["_law_source_here"] cl [] sp) : CalL P w K mg base CX k "_law_letters_agree" cl sp [] := o.cal fun _ _ _ _ _ _ us hl => match us, hl with | [_], _ => rfl
theorem ok__law_letters_agree {P : Program} {w : World} {K : PySem.W.Frag} {mg : Str → Option Value} {base : Heap} {cl xl : Nat → Addr} {fI : Addr} {ga gb : Addr} (T : Txt w K mg cl xl fI) : OkE P w K mg base CX0 62 "_law_letters_agree" s__law_letters_agree ["_law_source_here"] cl [] (spW K cl xl (Gen ga gb) (m__law_letters_agree ga)) :=
  ok0E T.d__law_letters_agree sc__law_letters_agree fun cdv A outer s H E G f hr => by
    have sc := sc__law_letters_agree
    exact (ws_cons (ws_set (i := 1) sc.nd rfl (Or.inl rfl) (we_add (wb we_int) (wb (we_c (c__law_draw_2 (ok__law_draw (ga := ga) (gb := gb) T)) pass0 hr (by omega) rfl (wa_cons (we_v (pv 0)) (wa_cons we_int wa_nil))))))
    (ws_cons (ws_set (i := 2) sc.nd rfl (Or.inl rfl) (we_item (wb (we_lst (wa_cons we_str (wa_cons we_str (wa_cons we_str (wa_cons we_str wa_nil)))))) (wb (we_c (c__law_draw_2 (ok__law_draw (ga := ga) (gb := gb) T)) pass0 hr (by omega) rfl (wa_cons (we_v (pv 0)) (wa_cons we_int wa_nil))))))
    (ws_cons (ws_for PassesOwn.never rfl (wr_rng1 rfl T.z_range we_int) (pg_name (i := 3) sc.nd rfl (Or.inl rfl)) tg_name (ws_one (ws_set (i := 2) sc.nd rfl (Or.inl rfl) (we_add (wb_v (pv 2)) (wb (we_item (wb we_str) (wb (we_c (c__law_draw_2 (ok__law_draw (ga := ga) (gb := gb) T)) pass0 hr (by omega) rfl (wa_cons (we_v (pv 0)) (wa_cons we_int wa_nil))))))))))
    (ws_cons (ws_frz 1 (ws_set (i := 2) sc.nd rfl (Or.inl rfl) (we_slice (wb_v (pv 2)) wo_n (wo_s (we_v (pv 1))))))
    (ws_cons (ws_set (i := 4) sc.nd rfl (Or.inl rfl) we_str)
    (ws_cons (ws_if (PW.pt (wt_or (wt_in (wb_v (pv 2)) (wb (we_split (pe_bm PySem.F.plainAttrs_str PySem.F.slot_str_split PySem.F.type_str_split mt_split (we_v (pv 4)) (pa_cons we_str pa_nil))))) (wt_or1 (wt_in (wb_v (pv 2)) (wb (we_tup (wa_cons we_str (wa_cons we_str (wa_cons we_str (wa_cons we_str wa_nil)))))))))) (ws_one (ws_set (i := 2) sc.nd rfl (Or.inl rfl) we_str)) ws_nil)
    (ws_cons (ws_set (i := 5) sc.nd rfl (Or.inl rfl) we_str)
    (ws_cons (ws_if (wt_gtI (wb (we_un (pe_callB call_lenA rfl T.z_len boot_len (pa_cons (wb_v (pv 2)) pa_nil)) len_ok)) (wb we_int)) (ws_one (ws_set (i := 5) sc.nd rfl (Or.inl rfl) (we_tup (wa_cons we_int wa_nil)))) ws_nil)
    (ws_cons (ws_frz 2 (ws_for PassesOwn.never rfl (wr_walk (we_lst (wa_cons (we_tup (wa_cons we_str (wa_cons (we_v (pv 2)) (wa_cons we_int wa_nil)))) (wa_cons (we_tup (wa_cons we_str (wa_cons (we_v (pv 2)) (wa_cons we_int wa_nil)))) (wa_cons (we_tup (wa_cons we_str (wa_cons (we_v (pv 2)) (wa_cons (we_v (pv 2)) wa_nil)))) (wa_cons (we_tup (wa_cons we_str (wa_cons we_str (wa_cons (we_tup (wa_cons we_str (wa_cons (we_v (pv 2)) wa_nil))) wa_nil)))) wa_nil)))))) (pg_name (i := 6) sc.nd rfl (Or.inl rfl)) tg_name (ws_one (ws_if (wt_not (wt_tr (wb (we_cU (c__law_agrees_3 (ok__law_agrees T)) pass0 hr (by omega) rfl (wa_cons (we_tup (wa_cons (we_tup (wa_cons we_str wa_nil)) (wa_cons (we_v (pv 6)) wa_nil))) (wa_cons (we_v (pv 5)) (wa_cons we_int wa_nil))))))) (ws_one (ws_ret we_bl)) ws_nil))))
    (ws_one (ws_ret we_bl)))))))))))
abbrev s__law_large : Stmt := top 64
theorem sc__law_large : FnScope ["_law_share", "_law_depth", "_law_rest", "_law_blocks", "_law_k", "_law_part"] ["_law_share", "_law_depth"] (defScope s__law_large) := ⟨rfl, rfl, rfl, by decide +kernel, rfl, by decide +kernel, by decide +kernel⟩
abbrev s__law_sized : Stmt := top 65
theorem sc__law_sized : FnScope ["_law_many", "_law_depth", "_law_found", "_law_rest", "_law_k", "_law_share"] ["_law_many", "_law_depth"] (defScope s__law_sized) := ⟨rfl, rfl, rfl, by decide +kernel, rfl, by decide +kernel, by decide +kernel⟩
theorem c__law_large_2 {P : Program} {w : World} {K : PySem.W.Frag} {mg : Str → Option Value} {base : Heap} {cl : Nat → Addr} {CX : CXT} {k : Nat} {sp : Sp} (o : OkE P w K mg base CX k "_law_large" s__law_large ["_law_share", "_law_depth"] cl [] sp) : CalL P w K mg base CX k "_law_large" cl sp [] := o.cal fun _ _ _ _ _ _ us hl => match us, hl with | [_, _], _ => rfl
theorem c__law_sized_2 {P : Program} {w : World} {K : PySem.W.Frag} {mg : Str → Option Value} {base : Heap} {cl : Nat → Addr} {CX : CXT} {k : Nat} {sp : Sp} (o : OkE P w K mg base CX k "_law_sized" s__law_sized ["_law_many", "_law_depth"] cl [] sp) : CalL P w K mg base CX k "_law_sized" cl sp [] := o.cal fun _ _ _ _ _ _ us hl => match us, hl with | [_, _], _ => rfl
theorem okg__law_large {P : Program} {w : World} {K : PySem.W.Frag} {mg : Str → Option Value} {base : Heap} {cl xl : Nat → Addr} {fI : Addr} (T : Txt w K mg cl xl fI) : ∀ n, (OkE P w K mg base CX0 (0 + n) "_law_large" s__law_large ["_law_share", "_law_depth"] cl [] (spW K cl xl Sto.no (m__law_large n))) ∧ (OkE P w K mg base CX0 (0 + n) "_law_sized" s__law_sized ["_law_many", "_law_depth"] cl [] (spW K cl xl Sto.no (m__law_sized n)))
  | 0 => ⟨okE_bot T.d__law_large, okE_bot T.d__law_sized⟩
  | n + 1 => by
    have ih := okg__law_large (P := P) (w := w) (K := K) (mg := mg) (base := base) (cl := cl) (xl := xl) (fI := fI) T n
    refine ⟨?_, ?_⟩
    · exact ok0E T.d__law_large sc__law_large fun cdv A outer s H E G f hr => by
        have sc := sc__law_large
        have hr : Room (0 + n) _ := hr
        exact (ws_cons (ws_if (wt_eq hr.units (wb_v (pv 0)) (wb we_int)) (ws_one (ws_ret (we_tup (wa_cons we_str (wa_cons we_str (wa_cons we_int wa_nil)))))) ws_nil)
        (ws_cons (ws_set (i := 2) sc.nd rfl (Or.inl rfl) (we_sub (wb_v (pv 0)) (wb we_int)))
        (ws_cons (ws_set (i := 3) sc.nd rfl (Or.inl rfl) (we_lst wa_nil))
        (ws_cons (ws_for PassesOwn.never rfl (wr_rng1 rfl T.z_range we_int) (pg_name (i := 4) sc.nd rfl (Or.inl rfl)) tg_name (ws_cons (ws_set (i := 5) sc.nd rfl (Or.inl rfl) (we_fdiv (wb (we_sub (wb (we_add (wb_v (pv 2)) (wb we_int))) (wb_v (pv 4)))) (wb (we_sub (wb we_int) (wb_v (pv 4))))))
        (ws_cons (ws_frz 5 (ws_app (ps_expr (pe_bm PySem.F.plainAttrs_list PySem.F.slot_list_append PySem.F.type_list_append mt_append (pv 3) (pa_cons (we_cU (c__law_sized_2 ih.2) pass0 hr (by omega) rfl (wa_cons (we_v (pv 5)) (wa_cons (we_sub (wb_v (pv 1)) (wb we_int)) wa_nil))) pa_nil)))))
        (ws_one (ws_set (i := 2) sc.nd rfl (Or.inl rfl) (we_sub (wb_v (pv 2)) (wb_v (pv 5))))))))
        (ws_one (ws_ret (we_tup (wa_cons we_str (wa_cons (we_un (pe_callTy call_tuple_of rfl T.z_tuple boot_tuple (pa_cons (wb_v (pv 3)) pa_nil)) tuple_ok) wa_nil)))))))))
    · exact ok0E T.d__law_sized sc__law_sized fun cdv A outer s H E G f hr => by
        have sc := sc__law_sized
        have hr : Room (0 + n) _ := hr
        exact (ws_cons (ws_if (wt_ltI (wb_v (pv 1)) (wb we_int)) (ws_one (ws_ret (we_mul2 (wb (we_tup (wa_cons (we_tup (wa_cons we_str (wa_cons we_str (wa_cons we_str wa_nil)))) wa_nil))) (wb_v (pv 0))))) ws_nil)
        (ws_cons (ws_set (i := 2) sc.nd rfl (Or.inl rfl) (we_lst wa_nil))
        (ws_cons (ws_set (i := 3) sc.nd rfl (Or.inl rfl) (we_v (pv 0)))
        (ws_cons (ws_for PassesOwn.never rfl (wr_rng1 rfl T.z_range we_int) (pg_name (i := 4) sc.nd rfl (Or.inl rfl)) tg_name (ws_cons (ws_set (i := 5) sc.nd rfl (Or.inl rfl) (we_fdiv (wb (we_sub (wb (we_add (wb_v (pv 3)) (wb we_int))) (wb_v (pv 4)))) (wb (we_sub (wb we_int) (wb_v (pv 4))))))
        (ws_one (ws_if (wt_gtI (wb_v (pv 5)) (wb we_int)) (ws_cons (ws_frz 5 (ws_app (ps_expr (pe_bm PySem.F.plainAttrs_list PySem.F.slot_list_append PySem.F.type_list_append mt_append (pv 2) (pa_cons (we_cU (c__law_large_2 ih.1) pass0 hr (by omega) rfl (wa_cons (we_v (pv 5)) (wa_cons (we_v (pv 1)) wa_nil))) pa_nil)))))
        (ws_one (ws_set (i := 3) sc.nd rfl (Or.inl rfl) (we_sub (wb_v (pv 3)) (wb_v (pv 5)))))) ws_nil))))
        (ws_one (ws_ret (we_un (pe_callTy call_tuple_of rfl T.z_tuple boot_tuple (pa_cons (wb_v (pv 2)) pa_nil)) tuple_ok)))))))
theorem ok__law_large {P : Program} {w : World} {K : PySem.W.Frag} {mg : Str → Option Value} {base : Heap} {cl xl : Nat → Addr} {fI : Addr} (T : Txt w K mg cl xl fI) (n : Nat) : OkE P w K mg base CX0 (0 + n) "_law_large" s__law_large ["_law_share", "_law_depth"] cl [] (spW K cl xl Sto.no (m__law_large n)) := (okg__law_large T n).1
theorem ok__law_sized {P : Program} {w : World} {K : PySem.W.Frag} {mg : Str → Option Value} {base : Heap} {cl xl : Nat → Addr} {fI : Addr} (T : Txt w K mg cl xl fI) (n : Nat) : OkE P w K mg base CX0 (0 + n) "_law_sized" s__law_sized ["_law_many", "_law_depth"] cl [] (spW K cl xl Sto.no (m__law_sized n)) := (okg__law_large T n).2
abbrev s__law_counts_agree : Stmt := top 66
theorem sc__law_counts_agree : FnScope ["_law_source_here", "_law_many", "_law_due"] ["_law_source_here"] (defScope s__law_counts_agree) := ⟨rfl, rfl, rfl, by decide +kernel, rfl, by decide +kernel, by decide +kernel⟩
theorem c__law_counts_agree_1 {P : Program} {w : World} {K : PySem.W.Frag} {mg : Str → Option Value} {base : Heap} {cl : Nat → Addr} {CX : CXT} {k : Nat} {sp : Sp} (o : OkE P w K mg base CX k "_law_counts_agree" s__law_counts_agree ["_law_source_here"] cl [] sp) : CalL P w K mg base CX k "_law_counts_agree" cl sp [] := o.cal fun _ _ _ _ _ _ us hl => match us, hl with | [_], _ => rfl
theorem ok__law_counts_agree {P : Program} {w : World} {K : PySem.W.Frag} {mg : Str → Option Value} {base : Heap} {cl xl : Nat → Addr} {fI : Addr} {ga gb : Addr} (T : Txt w K mg cl xl fI) : OkE P w K mg base CX0 62 "_law_counts_agree" s__law_counts_agree ["_law_source_here"] cl [] (spW K cl xl (Gen ga gb) (m__law_counts_agree ga)) :=
  ok0E T.d__law_counts_agree sc__law_counts_agree fun cdv A outer s H E G f hr => by
    have sc := sc__law_counts_agree
    exact (ws_cons (ws_set (i := 1) sc.nd rfl (Or.inl rfl) (we_add (wb we_int) (wb (we_c (c__law_draw_2 (ok__law_draw (ga := ga) (gb := gb) T)) pass0 hr (by omega) rfl (wa_cons (we_v (pv 0)) (wa_cons we_int wa_nil))))))
    (ws_cons (ws_if (wt_eq hr.units (wb (we_c (c__law_draw_2 (ok__law_draw (ga := ga) (gb := gb) T)) pass0 hr (by omega) rfl (wa_cons (we_v (pv 0)) (wa_cons we_int wa_nil)))) (wb we_int)) (ws_one (ws_frz 1 (ws_ret (we_cU (c__law_agrees_3 (ok__law_agrees T)) pass0 hr (by omega) rfl (wa_cons (we_add (wb (we_slice (wb (we_cU (c__law_sized_2 (ok__law_sized T 8)) pass0 hr (by omega) rfl (wa_cons (we_add (wb_v (pv 1)) (wb we_int)) (wa_cons we_int wa_nil)))) wo_n (wo_s we_int))) (wb (we_tup (wa_cons (we_tup (wa_cons we_str wa_nil)) wa_nil)))) (wa_cons (we_tup (wa_cons we_int wa_nil)) (wa_cons (we_v (pv 1)) wa_nil))))))) ws_nil)
    (ws_cons (ws_set (i := 2) sc.nd rfl (Or.inl rfl) we_str)
    (ws_cons (ws_if (wt_gtI (wb_v (pv 1)) (wb we_int)) (ws_one (ws_set (i := 2) sc.nd rfl (Or.inl rfl) we_non)) ws_nil)
    (ws_one (ws_frz 1 (ws_ret (we_cU (c__law_agrees_3 (ok__law_agrees T)) pass0 hr (by omega) rfl (wa_cons (we_cU (c__law_sized_2 (ok__law_sized T 8)) pass0 hr (by omega) rfl (wa_cons (we_v (pv 1)) (wa_cons we_int wa_nil))) (wa_cons (we_v (pv 2)) (wa_cons (we_v (pv 1)) wa_nil)))))))))))
end LW
namespace LW
open PySem PySem.Spec PyProof.Rows L2 DL
def u__law_source (sa : Addr) (sns : List Int) : WS Unit :=
  (wSeq (wSet 1 (wLc (wWalk (wScr 0 sa sns woN (woS (wC (.int 63))))) (gN 2) wYes (wUn intF (wVb 2)) [2]))
    (wFrz 1 (wRet (wLst (wCons (wV 1) (wCons (wC (.int 0)) (wCons (wOp modF (wUn intF (wUn sumF (wVb 1))) (wC (.int 2147483629))) (wCons (wC (.int 0)) wNil))))))))
def u_law (ga : Addr) : WS Unit :=
  (wSeq (wSet 2 (wOp (eqF false) (wCl (m__law_draw ga) [] (wCons (wV 1) (wCons (wC (.int 12)) wNil))) (wC (.int 0))))
    (wSeq (wIfS (wtOr (wtNot (wTr (wCl (m__law_sizes_agree ga) [] (wCons (wV 1) wNil)))) (wtOr (wtNot (wTr (wCl (m__law_depths_agree ga) [] (wCons (wV 1) wNil)))) (wtNot (wTr (wCl (m__law_rows_agree ga) [] (wCons (wV 1) wNil)))))) (wRet (wC (.bl false))) wNx)
    (wSeq (wIfS (wtOr (wtNot (wTr (wCl (m__law_expressions_agree ga) [] (wCons (wV 1) wNil)))) (wtNot (wTr (wCl (m__law_letters_agree ga) [] (wCons (wV 1) wNil))))) (wRet (wC (.bl false))) wNx)
    (wSeq (wIfS (wTr (wVb 2)) (wRet (wCl (m__law_counts_agree ga) [] (wCons (wV 1) wNil))) wNx)
    (wRet (wC (.bl true)))))))
abbrev s__law_source : Stmt := top 51
theorem sc__law_source : FnScope ["_law_script", "_law_cells", "_law_cell"] ["_law_script"] (defScope s__law_source) := ⟨rfl, rfl, rfl, by decide +kernel, rfl, by decide +kernel, by decide +kernel⟩
theorem c__law_source_1 {P : Program} {w : World} {K : PySem.W.Frag} {mg : Str → Option Value} {base : Heap} {cl : Nat → Addr} {CX : CXT} {k : Nat} {sp : Sp} (o : OkE P w K mg base CX k "_law_source" s__law_source ["_law_script"] cl [] sp) : CalL P w K mg base CX k "_law_source" cl sp [] := o.cal fun _ _ _ _ _ _ us hl => match us, hl with | [_], _ => rfl
theorem ok__law_source {P : Program} {w : World} {K : PySem.W.Frag} {mg : Str → Option Value} {base : Heap} {cl xl : Nat → Addr} {fI : Addr} (T : Txt w K mg cl xl fI) (hu : ∀ a ns, ns.length ≤ 63 → u__law_source a ns (edSrc ns) (startN 3 [.raw (.ref a)]) ()) : OkE P w K mg base CX0 3 "_law_source" s__law_source ["_law_script"] cl [] (spSrc K) :=
  ok_src (xl := xl) T.d__law_source sc__law_source hu fun cdv A outer s H E f sa sns hS hr => by
    have sc := sc__law_source
    exact (ws_cons (ws_setLc (i := 1) (own := [("_law_cell", 2)]) rfl sc.nd rfl rfl rfl (wr_walk (we_scr (fun _ z => z) hS (pv 0) wo_n (wo_s we_int))) (blkOk_by (N := ["_law_script", "_law_cells", "_law_cell"]) (sc := defScope s__law_source) (by decide +kernel)) (fun _ _ _ _ _ => (pg_name (i := 2) sc.nd rfl (Or.inl rfl))) tg_name (gw_name (by decide)) (fun _ _ _ _ _ => wts_nil) (fun _ _ _ _ _ => (we_un (pe_callTy call_int1 rfl T.z_int boot_int (pa_cons (wb_v (pv 2)) pa_nil)) int_ok)))
    (ws_one (ws_frz 1 (ws_ret (we_lst (wa_cons (we_v (pv 1)) (wa_cons we_int (wa_cons (we_mod (wb (we_un (pe_callTy call_int1 rfl T.z_int boot_int (pa_cons (wb (we_un (pe_callB (cr_sum rfl) rfl T.z_sum boot_sum (pa_cons (wb_v (pv 1)) pa_nil)) sum_ok)) pa_nil)) int_ok)) (wb we_int)) (wa_cons we_int wa_nil)))))))))
abbrev s_law : Stmt := top 67
theorem sc_law : FnScope ["_law_script", "_law_source_here", "_law_large_here"] ["_law_script"] (defScope s_law) := ⟨rfl, rfl, rfl, by decide +kernel, rfl, by decide +kernel, by decide +kernel⟩
theorem ok_law {P : Program} {w : World} {K : PySem.W.Frag} {mg : Str → Option Value} {base : Heap} {cl xl : Nat → Addr} {fI : Addr} (T : Txt w K mg cl xl fI) (hu : ∀ a ns, ns.length ≤ 63 → u__law_source a ns (edSrc ns) (startN 3 [.raw (.ref a)]) ()) (hv : ∀ a ga, u_law ga edLaw ((startN 3 [.raw (.ref a)]).set 1 (some (.raw (.ref ga)))) ()) {f : Addr} {fd : FuncData} (F1 : FunD K "law" "law" (defArgs s_law) (defBody s_law) (defScope s_law) [] [] f fd) : FnOk P w K mg base CX0 63 f fd ["_law_script"] (spLawD K) := by
  obtain ⟨dvs, ⟨fS, fdS, psS, dsS, FS, mS, kS, bS, dS⟩, hdS⟩ := (c__law_source_1 (ok__law_source (P := P) (base := base) T hu)).ex
  have e := hdS (fun _ => none) (fun _ => none)
  cases e
  have sc := sc_law
  refine ok_lawD (cl := cl) (xl := xl) F1 sc (v := u_law) (te := tVar 0) rfl hv (fun cdv A outer s H E hr => ?_) fun cdv A outer s H E ga gb H1 hr => ?_
  · exact ps_asg (pe_call FS (hr.mono (by omega)) rfl mS kS bS dS pass0 (pa_cons (pv 0) pa_nil)) (pg_name (i := 1) sc.nd rfl (Or.inl rfl))
  · exact (ws_cons (ws_set (i := 2) sc.nd rfl (Or.inl rfl) (we_eq hr.units (wb (we_c (c__law_draw_2 (ok__law_draw (ga := ga) (gb := gb) T)) pass0 hr (by omega) rfl (wa_cons (we_v (pv 1)) (wa_cons we_int wa_nil)))) (wb we_int)))
    (ws_cons (ws_if (PW.pt (wt_or (wt_not (wt_tr (wb (we_c (c__law_sizes_agree_1 (ok__law_sizes_agree (ga := ga) (gb := gb) T)) pass0 hr (by omega) rfl (wa_cons (we_v (pv 1)) wa_nil))))) (wt_or (wt_not (wt_tr (wb (we_c (c__law_depths_agree_1 (ok__law_depths_agree (ga := ga) (gb := gb) T)) pass0 hr (by omega) rfl (wa_cons (we_v (pv 1)) wa_nil))))) (wt_or1 (wt_not (wt_tr (wb (we_c (c__law_rows_agree_1 (ok__law_rows_agree (ga := ga) (gb := gb) T)) pass0 hr (by omega) rfl (wa_cons (we_v (pv 1)) wa_nil))))))))) (ws_one (ws_ret we_bl)) ws_nil)
    (ws_cons (ws_if (PW.pt (wt_or (wt_not (wt_tr (wb (we_c (c__law_expressions_agree_1 (ok__law_expressions_agree (ga := ga) (gb := gb) T)) pass0 hr (by omega) rfl (wa_cons (we_v (pv 1)) wa_nil))))) (wt_or1 (wt_not (wt_tr (wb (we_c (c__law_letters_agree_1 (ok__law_letters_agree (ga := ga) (gb := gb) T)) pass0 hr (by omega) rfl (wa_cons (we_v (pv 1)) wa_nil)))))))) (ws_one (ws_ret we_bl)) ws_nil)
    (ws_cons (ws_if (wt_tr (wb_v (pv 2))) (ws_one (ws_ret (we_c (c__law_counts_agree_1 (ok__law_counts_agree (ga := ga) (gb := gb) T)) pass0 hr (by omega) rfl (wa_cons (we_v (pv 1)) wa_nil)))) ws_nil)
    (ws_one (ws_ret we_bl))))))
end LW
namespace LW
open PySem PySem.Spec PyProof.Rows L2 DL
/-! the mathematics: the core -/
def isInt : D → Bool
  | .int _ => true
  | _ => false
def isDig : D → Bool
  | .int i => decide (0 ≤ i) && decide (i ≤ 9)
  | _ => false
theorem e_integer (x : D) (P : LV → Unit → Prop) : m_is_integer [.d x] () P noX = P (.d (.bl (isInt x))) () := by
  cases x <;> simp [m_is_integer, mk0, u_is_integer, isInt, wSeq, wSet, wOp, wUn, wVb, wV, wC, wRet, wRetV, wRetN, wIfS, wNx, wBrk, wCnt, wFor, wWalk, wEnum, wRng1, wRng2, wRev, walkD, gN, gT, gsC, gsN, wAnd, wOr, wNot, wCh, wTb, wTr, wtAnd, wtOr, wtNot, wClU, wCl, wClX, wClUX, wCons, wNil, wTup, wLst, wDk, wDt, wFld, wSl, woN, woS, wKw, wRaise, wNeg, wFrz, wApp, wExt, wDrop, wUnp, wIf, wYes, wDisp1, wSplit, wLvals, wOFld, wOGet, wMk, wMkX, wDSet, wDGet, wDIn, wScr, wMt, wMtX, startN, LEnv.at, tru, isT, isC, LV.dd, LV.fz, LV.seq, LV.lis, LV.tpl, Ty6.has, lenF, intF, listF, tupleF, anyF, sumF, eqF, sEq, isF, LV.isN, inF, ixF, ltI, leI, gtI, geI, ii0, iiF, subF, modF, mulF, mulF2, fdivF, addF, powF, slF, dsOf, D.sign, D.flat, List.map_cons, List.map_nil, List.length_cons, List.length_nil, List.cons_append, List.nil_append, List.append_nil, List.set_cons_zero, List.set_cons_succ, List.set_nil, Nat.sub_self, Nat.reduceSub, Nat.reduceAdd, List.replicate_succ, List.replicate_zero, Bool.false_eq_true, if_true, if_false, true_and, and_true, false_and, and_false]
theorem e_digit (x : D) (P : LV → Unit → Prop) : m_is_digit [.d x] () P noX = P (.d (.bl (isDig x))) () := by
  unfold m_is_digit mk0 u_is_digit
  simp only [e_integer, wSeq, wSet, wOp, wUn, wVb, wV, wC, wRet, wRetV, wRetN, wIfS, wNx, wBrk, wCnt, wFor, wWalk, wEnum, wRng1, wRng2, wRev, walkD, gN, gT, gsC, gsN, wAnd, wOr, wNot, wCh, wTb, wTr, wtAnd, wtOr, wtNot, wClU, wCl, wClX, wClUX, wCons, wNil, wTup, wLst, wDk, wDt, wFld, wSl, woN, woS, wKw, wRaise, wNeg, wFrz, wApp, wExt, wDrop, wUnp, wIf, wYes, wDisp1, wSplit, wLvals, wOFld, wOGet, wMk, wMkX, wDSet, wDGet, wDIn, wScr, wMt, wMtX, startN, LEnv.at, tru, isT, isC, LV.dd, LV.fz, LV.seq, LV.lis, LV.tpl, Ty6.has, lenF, intF, listF, tupleF, anyF, sumF, eqF, sEq, isF, LV.isN, inF, ixF, ltI, leI, gtI, geI, ii0, iiF, subF, modF, mulF, mulF2, fdivF, addF, powF, slF, dsOf, D.sign, D.flat, List.map_cons, List.map_nil, List.length_cons, List.length_nil, List.cons_append, List.nil_append, List.append_nil, List.set_cons_zero, List.set_cons_succ, List.set_nil, Nat.sub_self, Nat.reduceSub, Nat.reduceAdd, List.replicate_succ, List.replicate_zero, Bool.false_eq_true, if_true, if_false, true_and, and_true, false_and, and_false]
  cases x <;> simp [isInt, isDig, wSeq, wSet, wOp, wUn, wVb, wV, wC, wRet, wRetV, wRetN, wIfS, wNx, wBrk, wCnt, wFor, wWalk, wEnum, wRng1, wRng2, wRev, walkD, gN, gT, gsC, gsN, wAnd, wOr, wNot, wCh, wTb, wTr, wtAnd, wtOr, wtNot, wClU, wCl, wClX, wClUX, wCons, wNil, wTup, wLst, wDk, wDt, wFld, wSl, woN, woS, wKw, wRaise, wNeg, wFrz, wApp, wExt, wDrop, wUnp, wIf, wYes, wDisp1, wSplit, wLvals, wOFld, wOGet, wMk, wMkX, wDSet, wDGet, wDIn, wScr, wMt, wMtX, startN, LEnv.at, tru, isT, isC, LV.dd, LV.fz, LV.seq, LV.lis, LV.tpl, Ty6.has, lenF, intF, listF, tupleF, anyF, sumF, eqF, sEq, isF, LV.isN, inF, ixF, ltI, leI, gtI, geI, ii0, iiF, subF, modF, mulF, mulF2, fdivF, addF, powF, slF, dsOf, D.sign, D.flat, List.map_cons, List.map_nil, List.length_cons, List.length_nil, List.cons_append, List.nil_append, List.append_nil, List.set_cons_zero, List.set_cons_succ, List.set_nil, Nat.sub_self, Nat.reduceSub, Nat.reduceAdd, List.replicate_succ, List.replicate_zero, Bool.false_eq_true, if_true, if_false, true_and, and_true, false_and, and_false]
  rename_i i
  by_cases h : 0 ≤ i <;> simp [h]
def lettersS : Str := "abcdefghijklmnopqrstuvwxyz"
def isName : D → Bool
  | .str z => decide (1 ≤ (z.length : Int)) && decide ((z.length : Int) ≤ 8) && z.cps.toList.all (fun c => decide (c ∈ lettersS.cps.toList)) && !decide (z ∈ kw_KEPT_WORDS)
  | _ => false
/-- texts are short -/
def Short : D → Prop
  | .str z => z.length ≤ sizeLine
  | _ => True
theorem sign_one (c : Nat) : D.sign (.str ⟨#[c]⟩) = some c := rfl
def nameBody : WS Unit := wIfS (wTb (wOp (inF true) (wVb 1) (wC (.str "abcdefghijklmnopqrstuvwxyz")))) (wRet (wC (.bl false))) wNx
theorem name_loop (M : ED Unit) (x : Option LV) (R : Prop) (hR : ∀ o, M.nx [x, o] () = R) : ∀ (l : List Nat) (o : Option LV), wGo (gN 1) nameBody M (l.map fun c => D.str ⟨#[c]⟩) [x, o] () = (if l.all (fun c => decide (c ∈ lettersS.cps.toList)) = true then R else M.rt (.d (.bl false)) ())
  | [], o => by rw [List.map_nil]; show M.nx [x, o] () = _; rw [hR]; simp
  | c :: l, o => by
    rw [List.map_cons]
    show gN 1 (D.str ⟨#[c]⟩) [x, o] (fun env' => nameBody { M with nx := wGo (gN 1) nameBody M (l.map fun c => D.str ⟨#[c]⟩), ct := wGo (gN 1) nameBody M (l.map fun c => D.str ⟨#[c]⟩), bk := M.nx } env' ()) = _
    have ih := name_loop M x R hR l
    unfold nameBody
    simp only [wSeq, wSet, wOp, wUn, wVb, wV, wC, wRet, wRetV, wRetN, wIfS, wNx, wBrk, wCnt, wFor, wWalk, wEnum, wRng1, wRng2, wRev, walkD, gN, gT, gsC, gsN, wAnd, wOr, wNot, wCh, wTb, wTr, wtAnd, wtOr, wtNot, wClU, wCl, wClX, wClUX, wCons, wNil, wTup, wLst, wDk, wDt, wFld, wSl, woN, woS, wKw, wRaise, wNeg, wFrz, wApp, wExt, wDrop, wUnp, wIf, wYes, wDisp1, wSplit, wLvals, wOFld, wOGet, wMk, wMkX, wDSet, wDGet, wDIn, wScr, wMt, wMtX, startN, LEnv.at, tru, isT, isC, LV.dd, LV.fz, LV.seq, LV.lis, LV.tpl, Ty6.has, lenF, intF, listF, tupleF, anyF, sumF, eqF, sEq, isF, LV.isN, inF, ixF, ltI, leI, gtI, geI, ii0, iiF, subF, modF, mulF, mulF2, fdivF, addF, powF, slF, dsOf, D.sign, D.flat, List.map_cons, List.map_nil, List.length_cons, List.length_nil, List.cons_append, List.nil_append, List.append_nil, List.set_cons_zero, List.set_cons_succ, List.set_nil, Nat.sub_self, Nat.reduceSub, Nat.reduceAdd, List.replicate_succ, List.replicate_zero, Bool.false_eq_true, if_true, if_false, true_and, and_true, false_and, and_false, sign_one]
    rw [List.all_cons]
    have e : (Str.ofString "abcdefghijklmnopqrstuvwxyz") = lettersS := rfl
    by_cases h : c ∈ lettersS.cps.toList
    · simp only [e, h, decide_true, Bool.not_true, Bool.true_and, if_false, Bool.false_eq_true]
      exact ih _
    · simp only [e, h, decide_false, Bool.not_false, Bool.false_and, if_true, if_false, Bool.false_eq_true]
theorem e_name (x : D) (hx : Short x) (P : LV → Unit → Prop) : m_is_name [.d x] () P noX = P (.d (.bl (isName x))) () := by
  unfold m_is_name mk0 u_is_name
  cases x <;> try (simp [wSeq, wSet, wOp, wUn, wVb, wV, wC, wRet, wRetV, wRetN, wIfS, wNx, wBrk, wCnt, wFor, wWalk, wEnum, wRng1, wRng2, wRev, walkD, gN, gT, gsC, gsN, wAnd, wOr, wNot, wCh, wTb, wTr, wtAnd, wtOr, wtNot, wClU, wCl, wClX, wClUX, wCons, wNil, wTup, wLst, wDk, wDt, wFld, wSl, woN, woS, wKw, wRaise, wNeg, wFrz, wApp, wExt, wDrop, wUnp, wIf, wYes, wDisp1, wSplit, wLvals, wOFld, wOGet, wMk, wMkX, wDSet, wDGet, wDIn, wScr, wMt, wMtX, startN, LEnv.at, tru, isT, isC, LV.dd, LV.fz, LV.seq, LV.lis, LV.tpl, Ty6.has, lenF, intF, listF, tupleF, anyF, sumF, eqF, sEq, isF, LV.isN, inF, ixF, ltI, leI, gtI, geI, ii0, iiF, subF, modF, mulF, mulF2, fdivF, addF, powF, slF, dsOf, D.sign, D.flat, List.map_cons, List.map_nil, List.length_cons, List.length_nil, List.cons_append, List.nil_append, List.append_nil, List.set_cons_zero, List.set_cons_succ, List.set_nil, Nat.sub_self, Nat.reduceSub, Nat.reduceAdd, List.replicate_succ, List.replicate_zero, Bool.false_eq_true, if_true, if_false, true_and, and_true, false_and, and_false, isName]; done)
  rename_i z
  have hz : z.length ≤ sizeLine := hx
  have e : Str.ofString "abcdefghijklmnopqrstuvwxyz" = lettersS := rfl
  simp only [wSeq, wSet, wOp, wUn, wVb, wV, wC, wRet, wRetV, wRetN, wIfS, wNx, wBrk, wCnt, wFor, wWalk, wEnum, wRng1, wRng2, wRev, walkD, gN, gT, gsC, gsN, wAnd, wOr, wNot, wCh, wTb, wTr, wtAnd, wtOr, wtNot, wClU, wCl, wClX, wClUX, wCons, wNil, wTup, wLst, wDk, wDt, wFld, wSl, woN, woS, wKw, wRaise, wNeg, wFrz, wApp, wExt, wDrop, wUnp, wIf, wYes, wDisp1, wSplit, wLvals, wOFld, wOGet, wMk, wMkX, wDSet, wDGet, wDIn, wScr, wMt, wMtX, startN, LEnv.at, tru, isT, isC, LV.dd, LV.fz, LV.seq, LV.lis, LV.tpl, Ty6.has, lenF, intF, listF, tupleF, anyF, sumF, eqF, sEq, isF, LV.isN, inF, ixF, ltI, leI, gtI, geI, ii0, iiF, subF, modF, mulF, mulF2, fdivF, addF, powF, slF, dsOf, D.sign, D.flat, List.map_cons, List.map_nil, List.length_cons, List.length_nil, List.cons_append, List.nil_append, List.append_nil, List.set_cons_zero, List.set_cons_succ, List.set_nil, Nat.sub_self, Nat.reduceSub, Nat.reduceAdd, List.replicate_succ, List.replicate_zero, Bool.false_eq_true, if_true, if_false, true_and, and_true, false_and, and_false, hz]
  by_cases h1 : 1 ≤ (z.length : Int)
  · by_cases h2 : (z.length : Int) ≤ 8
    · simp only [h1, h2, decide_true, wSeq, wSet, wOp, wUn, wVb, wV, wC, wRet, wRetV, wRetN, wIfS, wNx, wBrk, wCnt, wFor, wWalk, wEnum, wRng1, wRng2, wRev, walkD, gN, gT, gsC, gsN, wAnd, wOr, wNot, wCh, wTb, wTr, wtAnd, wtOr, wtNot, wClU, wCl, wClX, wClUX, wCons, wNil, wTup, wLst, wDk, wDt, wFld, wSl, woN, woS, wKw, wRaise, wNeg, wFrz, wApp, wExt, wDrop, wUnp, wIf, wYes, wDisp1, wSplit, wLvals, wOFld, wOGet, wMk, wMkX, wDSet, wDGet, wDIn, wScr, wMt, wMtX, startN, LEnv.at, tru, isT, isC, LV.dd, LV.fz, LV.seq, LV.lis, LV.tpl, Ty6.has, lenF, intF, listF, tupleF, anyF, sumF, eqF, sEq, isF, LV.isN, inF, ixF, ltI, leI, gtI, geI, ii0, iiF, subF, modF, mulF, mulF2, fdivF, addF, powF, slF, dsOf, D.sign, D.flat, List.map_cons, List.map_nil, List.length_cons, List.length_nil, List.cons_append, List.nil_append, List.append_nil, List.set_cons_zero, List.set_cons_succ, List.set_nil, Nat.sub_self, Nat.reduceSub, Nat.reduceAdd, List.replicate_succ, List.replicate_zero, Bool.false_eq_true, if_true, if_false, true_and, and_true, false_and, and_false, Bool.not_true]
      refine (name_loop _ (some (.d (.str z))) (P (.d (.bl (!decide (z ∈ kw_KEPT_WORDS))))  ()) (fun o => rfl) z.cps.toList none).trans ?_
      unfold isName
      cases hh : z.cps.toList.all fun c => decide (c ∈ lettersS.cps.toList) <;> simp only [h1, h2, hh, decide_true, Bool.true_and, Bool.false_and, if_true, if_false, Bool.false_eq_true, eq_self]
    · simp [h1, h2, wSeq, wSet, wOp, wUn, wVb, wV, wC, wRet, wRetV, wRetN, wIfS, wNx, wBrk, wCnt, wFor, wWalk, wEnum, wRng1, wRng2, wRev, walkD, gN, gT, gsC, gsN, wAnd, wOr, wNot, wCh, wTb, wTr, wtAnd, wtOr, wtNot, wClU, wCl, wClX, wClUX, wCons, wNil, wTup, wLst, wDk, wDt, wFld, wSl, woN, woS, wKw, wRaise, wNeg, wFrz, wApp, wExt, wDrop, wUnp, wIf, wYes, wDisp1, wSplit, wLvals, wOFld, wOGet, wMk, wMkX, wDSet, wDGet, wDIn, wScr, wMt, wMtX, startN, LEnv.at, tru, isT, isC, LV.dd, LV.fz, LV.seq, LV.lis, LV.tpl, Ty6.has, lenF, intF, listF, tupleF, anyF, sumF, eqF, sEq, isF, LV.isN, inF, ixF, ltI, leI, gtI, geI, ii0, iiF, subF, modF, mulF, mulF2, fdivF, addF, powF, slF, dsOf, D.sign, D.flat, List.map_cons, List.map_nil, List.length_cons, List.length_nil, List.cons_append, List.nil_append, List.append_nil, List.set_cons_zero, List.set_cons_succ, List.set_nil, Nat.sub_self, Nat.reduceSub, Nat.reduceAdd, List.replicate_succ, List.replicate_zero, Bool.false_eq_true, if_true, if_false, true_and, and_true, false_and, and_false, isName]
  · simp [h1, wSeq, wSet, wOp, wUn, wVb, wV, wC, wRet, wRetV, wRetN, wIfS, wNx, wBrk, wCnt, wFor, wWalk, wEnum, wRng1, wRng2, wRev, walkD, gN, gT, gsC, gsN, wAnd, wOr, wNot, wCh, wTb, wTr, wtAnd, wtOr, wtNot, wClU, wCl, wClX, wClUX, wCons, wNil, wTup, wLst, wDk, wDt, wFld, wSl, woN, woS, wKw, wRaise, wNeg, wFrz, wApp, wExt, wDrop, wUnp, wIf, wYes, wDisp1, wSplit, wLvals, wOFld, wOGet, wMk, wMkX, wDSet, wDGet, wDIn, wScr, wMt, wMtX, startN, LEnv.at, tru, isT, isC, LV.dd, LV.fz, LV.seq, LV.lis, LV.tpl, Ty6.has, lenF, intF, listF, tupleF, anyF, sumF, eqF, sEq, isF, LV.isN, inF, ixF, ltI, leI, gtI, geI, ii0, iiF, subF, modF, mulF, mulF2, fdivF, addF, powF, slF, dsOf, D.sign, D.flat, List.map_cons, List.map_nil, List.length_cons, List.length_nil, List.cons_append, List.nil_append, List.append_nil, List.set_cons_zero, List.set_cons_succ, List.set_nil, Nat.sub_self, Nat.reduceSub, Nat.reduceAdd, List.replicate_succ, List.replicate_zero, Bool.false_eq_true, if_true, if_false, true_and, and_true, false_and, and_false, isName]
theorem e_tuple (x : D) (hx : Short x) (n : Int) (P : LV → Unit → Prop) : m_is_tuple [.d x, .d (.int n)] () P noX = P (.d (.bl (match x with | .tup xs => decide ((xs.length : Int) = n) | .tupK xs => decide ((xs.length : Int) = n) | _ => false))) () := by
  unfold m_is_tuple mk0 u_is_tuple
  cases x <;> simp [wSeq, wSet, wOp, wUn, wVb, wV, wC, wRet, wRetV, wRetN, wIfS, wNx, wBrk, wCnt, wFor, wWalk, wEnum, wRng1, wRng2, wRev, walkD, gN, gT, gsC, gsN, wAnd, wOr, wNot, wCh, wTb, wTr, wtAnd, wtOr, wtNot, wClU, wCl, wClX, wClUX, wCons, wNil, wTup, wLst, wDk, wDt, wFld, wSl, woN, woS, wKw, wRaise, wNeg, wFrz, wApp, wExt, wDrop, wUnp, wIf, wYes, wDisp1, wSplit, wLvals, wOFld, wOGet, wMk, wMkX, wDSet, wDGet, wDIn, wScr, wMt, wMtX, startN, LEnv.at, tru, isT, isC, LV.dd, LV.fz, LV.seq, LV.lis, LV.tpl, Ty6.has, lenF, intF, listF, tupleF, anyF, sumF, eqF, sEq, isF, LV.isN, inF, ixF, ltI, leI, gtI, geI, ii0, iiF, subF, modF, mulF, mulF2, fdivF, addF, powF, slF, dsOf, D.sign, D.flat, List.map_cons, List.map_nil, List.length_cons, List.length_nil, List.cons_append, List.nil_append, List.append_nil, List.set_cons_zero, List.set_cons_succ, List.set_nil, Nat.sub_self, Nat.reduceSub, Nat.reduceAdd, List.replicate_succ, List.replicate_zero, Bool.false_eq_true, if_true, if_false, true_and, and_true, false_and, and_false]
def isBlk : D → Bool
  | .tup xs => decide ((xs.length : Int) ≤ 12)
  | .tupK xs => decide ((xs.length : Int) ≤ 12)
  | _ => false
theorem e_blk (x : D) (P : LV → Unit → Prop) : m_is_block_shape [.d x] () P noX = P (.d (.bl (isBlk x))) () := by
  unfold m_is_block_shape mk0 u_is_block_shape
  cases x <;> simp [wSeq, wSet, wOp, wUn, wVb, wV, wC, wRet, wRetV, wRetN, wIfS, wNx, wBrk, wCnt, wFor, wWalk, wEnum, wRng1, wRng2, wRev, walkD, gN, gT, gsC, gsN, wAnd, wOr, wNot, wCh, wTb, wTr, wtAnd, wtOr, wtNot, wClU, wCl, wClX, wClUX, wCons, wNil, wTup, wLst, wDk, wDt, wFld, wSl, woN, woS, wKw, wRaise, wNeg, wFrz, wApp, wExt, wDrop, wUnp, wIf, wYes, wDisp1, wSplit, wLvals, wOFld, wOGet, wMk, wMkX, wDSet, wDGet, wDIn, wScr, wMt, wMtX, startN, LEnv.at, tru, isT, isC, LV.dd, LV.fz, LV.seq, LV.lis, LV.tpl, Ty6.has, lenF, intF, listF, tupleF, anyF, sumF, eqF, sEq, isF, LV.isN, inF, ixF, ltI, leI, gtI, geI, ii0, iiF, subF, modF, mulF, mulF2, fdivF, addF, powF, slF, dsOf, D.sign, D.flat, List.map_cons, List.map_nil, List.length_cons, List.length_nil, List.cons_append, List.nil_append, List.append_nil, List.set_cons_zero, List.set_cons_succ, List.set_nil, Nat.sub_self, Nat.reduceSub, Nat.reduceAdd, List.replicate_succ, List.replicate_zero, Bool.false_eq_true, if_true, if_false, true_and, and_true, false_and, and_false, isBlk]
mutual
def good : D → Bool
  | .str z => decide (z.length ≤ 1000)
  | .tup xs => goods xs
  | .lst xs => goods xs
  | .dK _ xs => goods xs
  | .dT _ _ => false
  | .tupK _ => false
  | _ => true
def goods : List D → Bool
  | [] => true
  | x :: xs => good x && goods xs
end
theorem good_short {x : D} (h : good x = true) : Short x := by
  cases x <;> try exact True.intro
  unfold good at h
  exact small_line (of_decide_eq_true h)
theorem goods_cons {x : D} {xs : List D} (h : goods (x :: xs) = true) : good x = true ∧ goods xs = true := by
  unfold goods at h
  simpa using h
theorem at0 (x : D) (r : List D) : atI (x :: r) 0 = some x := by simp [atI, ixN]
theorem at1 (x y : D) (r : List D) : atI (x :: y :: r) 1 = some y := by
  simp [atI, ixN]
  rw [if_pos (by omega)]
  rfl
theorem at2 (x y z : D) (r : List D) : atI (x :: y :: z :: r) 2 = some z := by
  simp [atI, ixN]
  rw [if_pos (by omega)]
  rfl
def pairedW : List Str := ["plus", "minus", "same", "less"]
def isExpr : Nat → D → Int → Bool
  | 0, _, _ => false
  | n + 1, x, r => if r < 1 then false else if isDig x = true then true else match x with
    | .tup (.str k :: rest) => if k = "name" then (match rest with | [y] => isName y | _ => false)
      else if k = "not" then (match rest with | [y] => isExpr n y (r - 1) | _ => false)
      else if k ∈ pairedW then (match rest with | [y, z] => isExpr n y (r - 1) && isExpr n z (r - 1) | _ => false) else false
    | _ => false
theorem e_paired (k : Str) (rest : List D) (P : LV → Unit → Prop) : m_is_paired [.d (.tup (.str k :: rest))] () P noX = P (.d (.bl (decide (((D.str k :: rest).length : Int) = 3) && decide (k ∈ pairedW)))) () := by
  unfold m_is_paired mk0 u_is_paired
  simp only [wSeq, wSet, wOp, wUn, wVb, wV, wC, wRet, wRetV, wRetN, wIfS, wNx, wBrk, wCnt, wFor, wWalk, wEnum, wRng1, wRng2, wRev, walkD, gN, gT, gsC, gsN, wAnd, wOr, wNot, wCh, wTb, wTr, wtAnd, wtOr, wtNot, wClU, wCl, wClX, wClUX, wCons, wNil, wTup, wLst, wDk, wDt, wFld, wSl, woN, woS, wKw, wRaise, wNeg, wFrz, wApp, wExt, wDrop, wUnp, wIf, wYes, wDisp1, wSplit, wLvals, wOFld, wOGet, wMk, wMkX, wDSet, wDGet, wDIn, wScr, wMt, wMtX, startN, LEnv.at, tru, isT, isC, LV.dd, LV.fz, LV.seq, LV.lis, LV.tpl, Ty6.has, lenF, intF, listF, tupleF, anyF, sumF, eqF, sEq, isF, LV.isN, inF, ixF, ltI, leI, gtI, geI, ii0, iiF, subF, modF, mulF, mulF2, fdivF, addF, powF, slF, dsOf, D.sign, D.flat, List.map_cons, List.map_nil, List.length_cons, List.length_nil, List.cons_append, List.nil_append, List.append_nil, List.set_cons_zero, List.set_cons_succ, List.set_nil, Nat.sub_self, Nat.reduceSub, Nat.reduceAdd, List.replicate_succ, List.replicate_zero, Bool.false_eq_true, if_true, if_false, true_and, and_true, false_and, and_false, at0]
  by_cases h : ((rest.length + 1 : Nat) : Int) = 3
  · simp only [h, decide_true, Bool.true_and]
    have e1 : ([D.str "plus", D.str "minus", D.str "same", D.str "less"].any fun z => D.eqf z (D.str k)) = decide (k ∈ pairedW) := by
      unfold pairedW
      by_cases h1 : k = "plus"
      · subst h1; decide +kernel
      by_cases h2 : k = "minus"
      · subst h2; decide +kernel
      by_cases h3 : k = "same"
      · subst h3; decide +kernel
      by_cases h4 : k = "less"
      · subst h4; decide +kernel
      have f : ∀ a : Str, k ≠ a → (a == k) = false := fun a q => by simpa using fun z : a = k => q z.symm
      simp only [List.any_cons, List.any_nil, D.eqf, f _ h1, f _ h2, f _ h3, f _ h4, Bool.or_false]
      symm
      simp only [decide_eq_false_iff_not, List.mem_cons, List.not_mem_nil, h1, h2, h3, h4, or_self, not_false_eq_true]
    rw [e1]
    exact propext (and_iff_right (by decide))
  · simp only [h, decide_false, Bool.false_and]
theorem e_expr : ∀ (n : Nat) (x : D) (r : Int) (P : LV → Unit → Prop), good x = true → r ≤ n → m_is_expression (n + 1) [.d x, .d (.int r)] () P noX = P (.d (.bl (isExpr (n + 1) x r))) () := by
  intro n
  induction n with
  | zero =>
    intro x r P hx hr
    show mk0 2 2 (u_is_expression (m_is_expression 0)) _ _ _ _ = _
    unfold mk0 u_is_expression isExpr
    have h1 : r < 1 := by omega
    simp only [wSeq, wSet, wOp, wUn, wVb, wV, wC, wRet, wRetV, wRetN, wIfS, wNx, wBrk, wCnt, wFor, wWalk, wEnum, wRng1, wRng2, wRev, walkD, gN, gT, gsC, gsN, wAnd, wOr, wNot, wCh, wTb, wTr, wtAnd, wtOr, wtNot, wClU, wCl, wClX, wClUX, wCons, wNil, wTup, wLst, wDk, wDt, wFld, wSl, woN, woS, wKw, wRaise, wNeg, wFrz, wApp, wExt, wDrop, wUnp, wIf, wYes, wDisp1, wSplit, wLvals, wOFld, wOGet, wMk, wMkX, wDSet, wDGet, wDIn, wScr, wMt, wMtX, startN, LEnv.at, tru, isT, isC, LV.dd, LV.fz, LV.seq, LV.lis, LV.tpl, Ty6.has, lenF, intF, listF, tupleF, anyF, sumF, eqF, sEq, isF, LV.isN, inF, ixF, ltI, leI, gtI, geI, ii0, iiF, subF, modF, mulF, mulF2, fdivF, addF, powF, slF, dsOf, D.sign, D.flat, List.map_cons, List.map_nil, List.length_cons, List.length_nil, List.cons_append, List.nil_append, List.append_nil, List.set_cons_zero, List.set_cons_succ, List.set_nil, Nat.sub_self, Nat.reduceSub, Nat.reduceAdd, List.replicate_succ, List.replicate_zero, Bool.false_eq_true, if_true, if_false, true_and, and_true, false_and, and_false, h1, decide_true]
  | succ n ih =>
    intro x r P hx hr
    show mk0 2 2 (u_is_expression (m_is_expression (n + 1))) _ _ _ _ = _
    unfold mk0 u_is_expression isExpr
    by_cases h1 : r < 1
    · simp only [wSeq, wSet, wOp, wUn, wVb, wV, wC, wRet, wRetV, wRetN, wIfS, wNx, wBrk, wCnt, wFor, wWalk, wEnum, wRng1, wRng2, wRev, walkD, gN, gT, gsC, gsN, wAnd, wOr, wNot, wCh, wTb, wTr, wtAnd, wtOr, wtNot, wClU, wCl, wClX, wClUX, wCons, wNil, wTup, wLst, wDk, wDt, wFld, wSl, woN, woS, wKw, wRaise, wNeg, wFrz, wApp, wExt, wDrop, wUnp, wIf, wYes, wDisp1, wSplit, wLvals, wOFld, wOGet, wMk, wMkX, wDSet, wDGet, wDIn, wScr, wMt, wMtX, startN, LEnv.at, tru, isT, isC, LV.dd, LV.fz, LV.seq, LV.lis, LV.tpl, Ty6.has, lenF, intF, listF, tupleF, anyF, sumF, eqF, sEq, isF, LV.isN, inF, ixF, ltI, leI, gtI, geI, ii0, iiF, subF, modF, mulF, mulF2, fdivF, addF, powF, slF, dsOf, D.sign, D.flat, List.map_cons, List.map_nil, List.length_cons, List.length_nil, List.cons_append, List.nil_append, List.append_nil, List.set_cons_zero, List.set_cons_succ, List.set_nil, Nat.sub_self, Nat.reduceSub, Nat.reduceAdd, List.replicate_succ, List.replicate_zero, Bool.false_eq_true, if_true, if_false, true_and, and_true, false_and, and_false, h1, decide_true]
    · simp only [wSeq, wSet, wOp, wUn, wVb, wV, wC, wRet, wRetV, wRetN, wIfS, wNx, wBrk, wCnt, wFor, wWalk, wEnum, wRng1, wRng2, wRev, walkD, gN, gT, gsC, gsN, wAnd, wOr, wNot, wCh, wTb, wTr, wtAnd, wtOr, wtNot, wClU, wCl, wClX, wClUX, wCons, wNil, wTup, wLst, wDk, wDt, wFld, wSl, woN, woS, wKw, wRaise, wNeg, wFrz, wApp, wExt, wDrop, wUnp, wIf, wYes, wDisp1, wSplit, wLvals, wOFld, wOGet, wMk, wMkX, wDSet, wDGet, wDIn, wScr, wMt, wMtX, startN, LEnv.at, tru, isT, isC, LV.dd, LV.fz, LV.seq, LV.lis, LV.tpl, Ty6.has, lenF, intF, listF, tupleF, anyF, sumF, eqF, sEq, isF, LV.isN, inF, ixF, ltI, leI, gtI, geI, ii0, iiF, subF, modF, mulF, mulF2, fdivF, addF, powF, slF, dsOf, D.sign, D.flat, List.map_cons, List.map_nil, List.length_cons, List.length_nil, List.cons_append, List.nil_append, List.append_nil, List.set_cons_zero, List.set_cons_succ, List.set_nil, Nat.sub_self, Nat.reduceSub, Nat.reduceAdd, List.replicate_succ, List.replicate_zero, Bool.false_eq_true, if_true, if_false, true_and, and_true, false_and, and_false, h1, decide_false, e_digit]
      cases hd : isDig x with
      | true => simp only [wSeq, wSet, wOp, wUn, wVb, wV, wC, wRet, wRetV, wRetN, wIfS, wNx, wBrk, wCnt, wFor, wWalk, wEnum, wRng1, wRng2, wRev, walkD, gN, gT, gsC, gsN, wAnd, wOr, wNot, wCh, wTb, wTr, wtAnd, wtOr, wtNot, wClU, wCl, wClX, wClUX, wCons, wNil, wTup, wLst, wDk, wDt, wFld, wSl, woN, woS, wKw, wRaise, wNeg, wFrz, wApp, wExt, wDrop, wUnp, wIf, wYes, wDisp1, wSplit, wLvals, wOFld, wOGet, wMk, wMkX, wDSet, wDGet, wDIn, wScr, wMt, wMtX, startN, LEnv.at, tru, isT, isC, LV.dd, LV.fz, LV.seq, LV.lis, LV.tpl, Ty6.has, lenF, intF, listF, tupleF, anyF, sumF, eqF, sEq, isF, LV.isN, inF, ixF, ltI, leI, gtI, geI, ii0, iiF, subF, modF, mulF, mulF2, fdivF, addF, powF, slF, dsOf, D.sign, D.flat, List.map_cons, List.map_nil, List.length_cons, List.length_nil, List.cons_append, List.nil_append, List.append_nil, List.set_cons_zero, List.set_cons_succ, List.set_nil, Nat.sub_self, Nat.reduceSub, Nat.reduceAdd, List.replicate_succ, List.replicate_zero, Bool.false_eq_true, if_true, if_false, true_and, and_true, false_and, and_false, hd]
      | false =>
        simp only [wSeq, wSet, wOp, wUn, wVb, wV, wC, wRet, wRetV, wRetN, wIfS, wNx, wBrk, wCnt, wFor, wWalk, wEnum, wRng1, wRng2, wRev, walkD, gN, gT, gsC, gsN, wAnd, wOr, wNot, wCh, wTb, wTr, wtAnd, wtOr, wtNot, wClU, wCl, wClX, wClUX, wCons, wNil, wTup, wLst, wDk, wDt, wFld, wSl, woN, woS, wKw, wRaise, wNeg, wFrz, wApp, wExt, wDrop, wUnp, wIf, wYes, wDisp1, wSplit, wLvals, wOFld, wOGet, wMk, wMkX, wDSet, wDGet, wDIn, wScr, wMt, wMtX, startN, LEnv.at, tru, isT, isC, LV.dd, LV.fz, LV.seq, LV.lis, LV.tpl, Ty6.has, lenF, intF, listF, tupleF, anyF, sumF, eqF, sEq, isF, LV.isN, inF, ixF, ltI, leI, gtI, geI, ii0, iiF, subF, modF, mulF, mulF2, fdivF, addF, powF, slF, dsOf, D.sign, D.flat, List.map_cons, List.map_nil, List.length_cons, List.length_nil, List.cons_append, List.nil_append, List.append_nil, List.set_cons_zero, List.set_cons_succ, List.set_nil, Nat.sub_self, Nat.reduceSub, Nat.reduceAdd, List.replicate_succ, List.replicate_zero, Bool.false_eq_true, if_true, if_false, true_and, and_true, false_and, and_false, hd]
        cases x <;> try (simp only [wSeq, wSet, wOp, wUn, wVb, wV, wC, wRet, wRetV, wRetN, wIfS, wNx, wBrk, wCnt, wFor, wWalk, wEnum, wRng1, wRng2, wRev, walkD, gN, gT, gsC, gsN, wAnd, wOr, wNot, wCh, wTb, wTr, wtAnd, wtOr, wtNot, wClU, wCl, wClX, wClUX, wCons, wNil, wTup, wLst, wDk, wDt, wFld, wSl, woN, woS, wKw, wRaise, wNeg, wFrz, wApp, wExt, wDrop, wUnp, wIf, wYes, wDisp1, wSplit, wLvals, wOFld, wOGet, wMk, wMkX, wDSet, wDGet, wDIn, wScr, wMt, wMtX, startN, LEnv.at, tru, isT, isC, LV.dd, LV.fz, LV.seq, LV.lis, LV.tpl, Ty6.has, lenF, intF, listF, tupleF, anyF, sumF, eqF, sEq, isF, LV.isN, inF, ixF, ltI, leI, gtI, geI, ii0, iiF, subF, modF, mulF, mulF2, fdivF, addF, powF, slF, dsOf, D.sign, D.flat, List.map_cons, List.map_nil, List.length_cons, List.length_nil, List.cons_append, List.nil_append, List.append_nil, List.set_cons_zero, List.set_cons_succ, List.set_nil, Nat.sub_self, Nat.reduceSub, Nat.reduceAdd, List.replicate_succ, List.replicate_zero, Bool.false_eq_true, if_true, if_false, true_and, and_true, false_and, and_false, Bool.not_false]; done)
        · rename_i xs
          cases xs with
          | nil => simp [wSeq, wSet, wOp, wUn, wVb, wV, wC, wRet, wRetV, wRetN, wIfS, wNx, wBrk, wCnt, wFor, wWalk, wEnum, wRng1, wRng2, wRev, walkD, gN, gT, gsC, gsN, wAnd, wOr, wNot, wCh, wTb, wTr, wtAnd, wtOr, wtNot, wClU, wCl, wClX, wClUX, wCons, wNil, wTup, wLst, wDk, wDt, wFld, wSl, woN, woS, wKw, wRaise, wNeg, wFrz, wApp, wExt, wDrop, wUnp, wIf, wYes, wDisp1, wSplit, wLvals, wOFld, wOGet, wMk, wMkX, wDSet, wDGet, wDIn, wScr, wMt, wMtX, startN, LEnv.at, tru, isT, isC, LV.dd, LV.fz, LV.seq, LV.lis, LV.tpl, Ty6.has, lenF, intF, listF, tupleF, anyF, sumF, eqF, sEq, isF, LV.isN, inF, ixF, ltI, leI, gtI, geI, ii0, iiF, subF, modF, mulF, mulF2, fdivF, addF, powF, slF, dsOf, D.sign, D.flat, List.map_cons, List.map_nil, List.length_cons, List.length_nil, List.cons_append, List.nil_append, List.append_nil, List.set_cons_zero, List.set_cons_succ, List.set_nil, Nat.sub_self, Nat.reduceSub, Nat.reduceAdd, List.replicate_succ, List.replicate_zero, Bool.false_eq_true, if_true, if_false, true_and, and_true, false_and, and_false]
          | cons y rest =>
            have hg := goods_cons (show goods (y :: rest) = true from hx)
            simp only [wSeq, wSet, wOp, wUn, wVb, wV, wC, wRet, wRetV, wRetN, wIfS, wNx, wBrk, wCnt, wFor, wWalk, wEnum, wRng1, wRng2, wRev, walkD, gN, gT, gsC, gsN, wAnd, wOr, wNot, wCh, wTb, wTr, wtAnd, wtOr, wtNot, wClU, wCl, wClX, wClUX, wCons, wNil, wTup, wLst, wDk, wDt, wFld, wSl, woN, woS, wKw, wRaise, wNeg, wFrz, wApp, wExt, wDrop, wUnp, wIf, wYes, wDisp1, wSplit, wLvals, wOFld, wOGet, wMk, wMkX, wDSet, wDGet, wDIn, wScr, wMt, wMtX, startN, LEnv.at, tru, isT, isC, LV.dd, LV.fz, LV.seq, LV.lis, LV.tpl, Ty6.has, lenF, intF, listF, tupleF, anyF, sumF, eqF, sEq, isF, LV.isN, inF, ixF, ltI, leI, gtI, geI, ii0, iiF, subF, modF, mulF, mulF2, fdivF, addF, powF, slF, dsOf, D.sign, D.flat, List.map_cons, List.map_nil, List.length_cons, List.length_nil, List.cons_append, List.nil_append, List.append_nil, List.set_cons_zero, List.set_cons_succ, List.set_nil, Nat.sub_self, Nat.reduceSub, Nat.reduceAdd, List.replicate_succ, List.replicate_zero, Bool.false_eq_true, if_true, if_false, true_and, and_true, false_and, and_false, at0, List.isEmpty_cons, Bool.not_true, Bool.not_false]
            cases y <;> try (simp only [wSeq, wSet, wOp, wUn, wVb, wV, wC, wRet, wRetV, wRetN, wIfS, wNx, wBrk, wCnt, wFor, wWalk, wEnum, wRng1, wRng2, wRev, walkD, gN, gT, gsC, gsN, wAnd, wOr, wNot, wCh, wTb, wTr, wtAnd, wtOr, wtNot, wClU, wCl, wClX, wClUX, wCons, wNil, wTup, wLst, wDk, wDt, wFld, wSl, woN, woS, wKw, wRaise, wNeg, wFrz, wApp, wExt, wDrop, wUnp, wIf, wYes, wDisp1, wSplit, wLvals, wOFld, wOGet, wMk, wMkX, wDSet, wDGet, wDIn, wScr, wMt, wMtX, startN, LEnv.at, tru, isT, isC, LV.dd, LV.fz, LV.seq, LV.lis, LV.tpl, Ty6.has, lenF, intF, listF, tupleF, anyF, sumF, eqF, sEq, isF, LV.isN, inF, ixF, ltI, leI, gtI, geI, ii0, iiF, subF, modF, mulF, mulF2, fdivF, addF, powF, slF, dsOf, D.sign, D.flat, List.map_cons, List.map_nil, List.length_cons, List.length_nil, List.cons_append, List.nil_append, List.append_nil, List.set_cons_zero, List.set_cons_succ, List.set_nil, Nat.sub_self, Nat.reduceSub, Nat.reduceAdd, List.replicate_succ, List.replicate_zero, Bool.false_eq_true, if_true, if_false, true_and, and_true, false_and, and_false, Bool.not_false, Bool.not_true]; done)
            rename_i k
            simp only [wSeq, wSet, wOp, wUn, wVb, wV, wC, wRet, wRetV, wRetN, wIfS, wNx, wBrk, wCnt, wFor, wWalk, wEnum, wRng1, wRng2, wRev, walkD, gN, gT, gsC, gsN, wAnd, wOr, wNot, wCh, wTb, wTr, wtAnd, wtOr, wtNot, wClU, wCl, wClX, wClUX, wCons, wNil, wTup, wLst, wDk, wDt, wFld, wSl, woN, woS, wKw, wRaise, wNeg, wFrz, wApp, wExt, wDrop, wUnp, wIf, wYes, wDisp1, wSplit, wLvals, wOFld, wOGet, wMk, wMkX, wDSet, wDGet, wDIn, wScr, wMt, wMtX, startN, LEnv.at, tru, isT, isC, LV.dd, LV.fz, LV.seq, LV.lis, LV.tpl, Ty6.has, lenF, intF, listF, tupleF, anyF, sumF, eqF, sEq, isF, LV.isN, inF, ixF, ltI, leI, gtI, geI, ii0, iiF, subF, modF, mulF, mulF2, fdivF, addF, powF, slF, dsOf, D.sign, D.flat, List.map_cons, List.map_nil, List.length_cons, List.length_nil, List.cons_append, List.nil_append, List.append_nil, List.set_cons_zero, List.set_cons_succ, List.set_nil, Nat.sub_self, Nat.reduceSub, Nat.reduceAdd, List.replicate_succ, List.replicate_zero, Bool.false_eq_true, if_true, if_false, true_and, and_true, false_and, and_false, Bool.not_true, at0]
            by_cases k1 : k = "name"
            · simp only [k1, decide_true, wSeq, wSet, wOp, wUn, wVb, wV, wC, wRet, wRetV, wRetN, wIfS, wNx, wBrk, wCnt, wFor, wWalk, wEnum, wRng1, wRng2, wRev, walkD, gN, gT, gsC, gsN, wAnd, wOr, wNot, wCh, wTb, wTr, wtAnd, wtOr, wtNot, wClU, wCl, wClX, wClUX, wCons, wNil, wTup, wLst, wDk, wDt, wFld, wSl, woN, woS, wKw, wRaise, wNeg, wFrz, wApp, wExt, wDrop, wUnp, wIf, wYes, wDisp1, wSplit, wLvals, wOFld, wOGet, wMk, wMkX, wDSet, wDGet, wDIn, wScr, wMt, wMtX, startN, LEnv.at, tru, isT, isC, LV.dd, LV.fz, LV.seq, LV.lis, LV.tpl, Ty6.has, lenF, intF, listF, tupleF, anyF, sumF, eqF, sEq, isF, LV.isN, inF, ixF, ltI, leI, gtI, geI, ii0, iiF, subF, modF, mulF, mulF2, fdivF, addF, powF, slF, dsOf, D.sign, D.flat, List.map_cons, List.map_nil, List.length_cons, List.length_nil, List.cons_append, List.nil_append, List.append_nil, List.set_cons_zero, List.set_cons_succ, List.set_nil, Nat.sub_self, Nat.reduceSub, Nat.reduceAdd, List.replicate_succ, List.replicate_zero, Bool.false_eq_true, if_true, if_false, true_and, and_true, false_and, and_false]
              cases rest with
              | nil => simp [wSeq, wSet, wOp, wUn, wVb, wV, wC, wRet, wRetV, wRetN, wIfS, wNx, wBrk, wCnt, wFor, wWalk, wEnum, wRng1, wRng2, wRev, walkD, gN, gT, gsC, gsN, wAnd, wOr, wNot, wCh, wTb, wTr, wtAnd, wtOr, wtNot, wClU, wCl, wClX, wClUX, wCons, wNil, wTup, wLst, wDk, wDt, wFld, wSl, woN, woS, wKw, wRaise, wNeg, wFrz, wApp, wExt, wDrop, wUnp, wIf, wYes, wDisp1, wSplit, wLvals, wOFld, wOGet, wMk, wMkX, wDSet, wDGet, wDIn, wScr, wMt, wMtX, startN, LEnv.at, tru, isT, isC, LV.dd, LV.fz, LV.seq, LV.lis, LV.tpl, Ty6.has, lenF, intF, listF, tupleF, anyF, sumF, eqF, sEq, isF, LV.isN, inF, ixF, ltI, leI, gtI, geI, ii0, iiF, subF, modF, mulF, mulF2, fdivF, addF, powF, slF, dsOf, D.sign, D.flat, List.map_cons, List.map_nil, List.length_cons, List.length_nil, List.cons_append, List.nil_append, List.append_nil, List.set_cons_zero, List.set_cons_succ, List.set_nil, Nat.sub_self, Nat.reduceSub, Nat.reduceAdd, List.replicate_succ, List.replicate_zero, Bool.false_eq_true, if_true, if_false, true_and, and_true, false_and, and_false]
              | cons z rest =>
                cases rest with
                | nil =>
                  have hz := goods_cons hg.2
                  simp only [wSeq, wSet, wOp, wUn, wVb, wV, wC, wRet, wRetV, wRetN, wIfS, wNx, wBrk, wCnt, wFor, wWalk, wEnum, wRng1, wRng2, wRev, walkD, gN, gT, gsC, gsN, wAnd, wOr, wNot, wCh, wTb, wTr, wtAnd, wtOr, wtNot, wClU, wCl, wClX, wClUX, wCons, wNil, wTup, wLst, wDk, wDt, wFld, wSl, woN, woS, wKw, wRaise, wNeg, wFrz, wApp, wExt, wDrop, wUnp, wIf, wYes, wDisp1, wSplit, wLvals, wOFld, wOGet, wMk, wMkX, wDSet, wDGet, wDIn, wScr, wMt, wMtX, startN, LEnv.at, tru, isT, isC, LV.dd, LV.fz, LV.seq, LV.lis, LV.tpl, Ty6.has, lenF, intF, listF, tupleF, anyF, sumF, eqF, sEq, isF, LV.isN, inF, ixF, ltI, leI, gtI, geI, ii0, iiF, subF, modF, mulF, mulF2, fdivF, addF, powF, slF, dsOf, D.sign, D.flat, List.map_cons, List.map_nil, List.length_cons, List.length_nil, List.cons_append, List.nil_append, List.append_nil, List.set_cons_zero, List.set_cons_succ, List.set_nil, Nat.sub_self, Nat.reduceSub, Nat.reduceAdd, List.replicate_succ, List.replicate_zero, Bool.false_eq_true, if_true, if_false, true_and, and_true, false_and, and_false, at1, e_name z (good_short hz.1)]
                  simp
                | cons z2 rest =>
                  have q : ¬ (((rest.length + 1 + 1 + 1 : Nat) : Int) = 2) := by omega
                  simp only [wSeq, wSet, wOp, wUn, wVb, wV, wC, wRet, wRetV, wRetN, wIfS, wNx, wBrk, wCnt, wFor, wWalk, wEnum, wRng1, wRng2, wRev, walkD, gN, gT, gsC, gsN, wAnd, wOr, wNot, wCh, wTb, wTr, wtAnd, wtOr, wtNot, wClU, wCl, wClX, wClUX, wCons, wNil, wTup, wLst, wDk, wDt, wFld, wSl, woN, woS, wKw, wRaise, wNeg, wFrz, wApp, wExt, wDrop, wUnp, wIf, wYes, wDisp1, wSplit, wLvals, wOFld, wOGet, wMk, wMkX, wDSet, wDGet, wDIn, wScr, wMt, wMtX, startN, LEnv.at, tru, isT, isC, LV.dd, LV.fz, LV.seq, LV.lis, LV.tpl, Ty6.has, lenF, intF, listF, tupleF, anyF, sumF, eqF, sEq, isF, LV.isN, inF, ixF, ltI, leI, gtI, geI, ii0, iiF, subF, modF, mulF, mulF2, fdivF, addF, powF, slF, dsOf, D.sign, D.flat, List.map_cons, List.map_nil, List.length_cons, List.length_nil, List.cons_append, List.nil_append, List.append_nil, List.set_cons_zero, List.set_cons_succ, List.set_nil, Nat.sub_self, Nat.reduceSub, Nat.reduceAdd, List.replicate_succ, List.replicate_zero, Bool.false_eq_true, if_true, if_false, true_and, and_true, false_and, and_false, q, decide_false]
            · simp only [k1, decide_false, wSeq, wSet, wOp, wUn, wVb, wV, wC, wRet, wRetV, wRetN, wIfS, wNx, wBrk, wCnt, wFor, wWalk, wEnum, wRng1, wRng2, wRev, walkD, gN, gT, gsC, gsN, wAnd, wOr, wNot, wCh, wTb, wTr, wtAnd, wtOr, wtNot, wClU, wCl, wClX, wClUX, wCons, wNil, wTup, wLst, wDk, wDt, wFld, wSl, woN, woS, wKw, wRaise, wNeg, wFrz, wApp, wExt, wDrop, wUnp, wIf, wYes, wDisp1, wSplit, wLvals, wOFld, wOGet, wMk, wMkX, wDSet, wDGet, wDIn, wScr, wMt, wMtX, startN, LEnv.at, tru, isT, isC, LV.dd, LV.fz, LV.seq, LV.lis, LV.tpl, Ty6.has, lenF, intF, listF, tupleF, anyF, sumF, eqF, sEq, isF, LV.isN, inF, ixF, ltI, leI, gtI, geI, ii0, iiF, subF, modF, mulF, mulF2, fdivF, addF, powF, slF, dsOf, D.sign, D.flat, List.map_cons, List.map_nil, List.length_cons, List.length_nil, List.cons_append, List.nil_append, List.append_nil, List.set_cons_zero, List.set_cons_succ, List.set_nil, Nat.sub_self, Nat.reduceSub, Nat.reduceAdd, List.replicate_succ, List.replicate_zero, Bool.false_eq_true, if_true, if_false, true_and, and_true, false_and, and_false]
              by_cases k2 : k = "not"
              · simp only [k2, decide_true, wSeq, wSet, wOp, wUn, wVb, wV, wC, wRet, wRetV, wRetN, wIfS, wNx, wBrk, wCnt, wFor, wWalk, wEnum, wRng1, wRng2, wRev, walkD, gN, gT, gsC, gsN, wAnd, wOr, wNot, wCh, wTb, wTr, wtAnd, wtOr, wtNot, wClU, wCl, wClX, wClUX, wCons, wNil, wTup, wLst, wDk, wDt, wFld, wSl, woN, woS, wKw, wRaise, wNeg, wFrz, wApp, wExt, wDrop, wUnp, wIf, wYes, wDisp1, wSplit, wLvals, wOFld, wOGet, wMk, wMkX, wDSet, wDGet, wDIn, wScr, wMt, wMtX, startN, LEnv.at, tru, isT, isC, LV.dd, LV.fz, LV.seq, LV.lis, LV.tpl, Ty6.has, lenF, intF, listF, tupleF, anyF, sumF, eqF, sEq, isF, LV.isN, inF, ixF, ltI, leI, gtI, geI, ii0, iiF, subF, modF, mulF, mulF2, fdivF, addF, powF, slF, dsOf, D.sign, D.flat, List.map_cons, List.map_nil, List.length_cons, List.length_nil, List.cons_append, List.nil_append, List.append_nil, List.set_cons_zero, List.set_cons_succ, List.set_nil, Nat.sub_self, Nat.reduceSub, Nat.reduceAdd, List.replicate_succ, List.replicate_zero, Bool.false_eq_true, if_true, if_false, true_and, and_true, false_and, and_false]
                cases rest with
                | nil => simp [wSeq, wSet, wOp, wUn, wVb, wV, wC, wRet, wRetV, wRetN, wIfS, wNx, wBrk, wCnt, wFor, wWalk, wEnum, wRng1, wRng2, wRev, walkD, gN, gT, gsC, gsN, wAnd, wOr, wNot, wCh, wTb, wTr, wtAnd, wtOr, wtNot, wClU, wCl, wClX, wClUX, wCons, wNil, wTup, wLst, wDk, wDt, wFld, wSl, woN, woS, wKw, wRaise, wNeg, wFrz, wApp, wExt, wDrop, wUnp, wIf, wYes, wDisp1, wSplit, wLvals, wOFld, wOGet, wMk, wMkX, wDSet, wDGet, wDIn, wScr, wMt, wMtX, startN, LEnv.at, tru, isT, isC, LV.dd, LV.fz, LV.seq, LV.lis, LV.tpl, Ty6.has, lenF, intF, listF, tupleF, anyF, sumF, eqF, sEq, isF, LV.isN, inF, ixF, ltI, leI, gtI, geI, ii0, iiF, subF, modF, mulF, mulF2, fdivF, addF, powF, slF, dsOf, D.sign, D.flat, List.map_cons, List.map_nil, List.length_cons, List.length_nil, List.cons_append, List.nil_append, List.append_nil, List.set_cons_zero, List.set_cons_succ, List.set_nil, Nat.sub_self, Nat.reduceSub, Nat.reduceAdd, List.replicate_succ, List.replicate_zero, Bool.false_eq_true, if_true, if_false, true_and, and_true, false_and, and_false]
                | cons z rest =>
                  cases rest with
                  | nil =>
                    have hz := goods_cons hg.2
                    simp only [wSeq, wSet, wOp, wUn, wVb, wV, wC, wRet, wRetV, wRetN, wIfS, wNx, wBrk, wCnt, wFor, wWalk, wEnum, wRng1, wRng2, wRev, walkD, gN, gT, gsC, gsN, wAnd, wOr, wNot, wCh, wTb, wTr, wtAnd, wtOr, wtNot, wClU, wCl, wClX, wClUX, wCons, wNil, wTup, wLst, wDk, wDt, wFld, wSl, woN, woS, wKw, wRaise, wNeg, wFrz, wApp, wExt, wDrop, wUnp, wIf, wYes, wDisp1, wSplit, wLvals, wOFld, wOGet, wMk, wMkX, wDSet, wDGet, wDIn, wScr, wMt, wMtX, startN, LEnv.at, tru, isT, isC, LV.dd, LV.fz, LV.seq, LV.lis, LV.tpl, Ty6.has, lenF, intF, listF, tupleF, anyF, sumF, eqF, sEq, isF, LV.isN, inF, ixF, ltI, leI, gtI, geI, ii0, iiF, subF, modF, mulF, mulF2, fdivF, addF, powF, slF, dsOf, D.sign, D.flat, List.map_cons, List.map_nil, List.length_cons, List.length_nil, List.cons_append, List.nil_append, List.append_nil, List.set_cons_zero, List.set_cons_succ, List.set_nil, Nat.sub_self, Nat.reduceSub, Nat.reduceAdd, List.replicate_succ, List.replicate_zero, Bool.false_eq_true, if_true, if_false, true_and, and_true, false_and, and_false, at1, ih z (r - 1) _ hz.1 (by omega)]
                    simp
                  | cons z2 rest =>
                  have q : ¬ (((rest.length + 1 + 1 + 1 : Nat) : Int) = 2) := by omega
                  simp only [wSeq, wSet, wOp, wUn, wVb, wV, wC, wRet, wRetV, wRetN, wIfS, wNx, wBrk, wCnt, wFor, wWalk, wEnum, wRng1, wRng2, wRev, walkD, gN, gT, gsC, gsN, wAnd, wOr, wNot, wCh, wTb, wTr, wtAnd, wtOr, wtNot, wClU, wCl, wClX, wClUX, wCons, wNil, wTup, wLst, wDk, wDt, wFld, wSl, woN, woS, wKw, wRaise, wNeg, wFrz, wApp, wExt, wDrop, wUnp, wIf, wYes, wDisp1, wSplit, wLvals, wOFld, wOGet, wMk, wMkX, wDSet, wDGet, wDIn, wScr, wMt, wMtX, startN, LEnv.at, tru, isT, isC, LV.dd, LV.fz, LV.seq, LV.lis, LV.tpl, Ty6.has, lenF, intF, listF, tupleF, anyF, sumF, eqF, sEq, isF, LV.isN, inF, ixF, ltI, leI, gtI, geI, ii0, iiF, subF, modF, mulF, mulF2, fdivF, addF, powF, slF, dsOf, D.sign, D.flat, List.map_cons, List.map_nil, List.length_cons, List.length_nil, List.cons_append, List.nil_append, List.append_nil, List.set_cons_zero, List.set_cons_succ, List.set_nil, Nat.sub_self, Nat.reduceSub, Nat.reduceAdd, List.replicate_succ, List.replicate_zero, Bool.false_eq_true, if_true, if_false, true_and, and_true, false_and, and_false, q, decide_false]
              · simp only [k2, decide_false, wSeq, wSet, wOp, wUn, wVb, wV, wC, wRet, wRetV, wRetN, wIfS, wNx, wBrk, wCnt, wFor, wWalk, wEnum, wRng1, wRng2, wRev, walkD, gN, gT, gsC, gsN, wAnd, wOr, wNot, wCh, wTb, wTr, wtAnd, wtOr, wtNot, wClU, wCl, wClX, wClUX, wCons, wNil, wTup, wLst, wDk, wDt, wFld, wSl, woN, woS, wKw, wRaise, wNeg, wFrz, wApp, wExt, wDrop, wUnp, wIf, wYes, wDisp1, wSplit, wLvals, wOFld, wOGet, wMk, wMkX, wDSet, wDGet, wDIn, wScr, wMt, wMtX, startN, LEnv.at, tru, isT, isC, LV.dd, LV.fz, LV.seq, LV.lis, LV.tpl, Ty6.has, lenF, intF, listF, tupleF, anyF, sumF, eqF, sEq, isF, LV.isN, inF, ixF, ltI, leI, gtI, geI, ii0, iiF, subF, modF, mulF, mulF2, fdivF, addF, powF, slF, dsOf, D.sign, D.flat, List.map_cons, List.map_nil, List.length_cons, List.length_nil, List.cons_append, List.nil_append, List.append_nil, List.set_cons_zero, List.set_cons_succ, List.set_nil, Nat.sub_self, Nat.reduceSub, Nat.reduceAdd, List.replicate_succ, List.replicate_zero, Bool.false_eq_true, if_true, if_false, true_and, and_true, false_and, and_false, e_paired]
                by_cases k3 : k ∈ pairedW
                · cases rest with
                  | nil => simp [wSeq, wSet, wOp, wUn, wVb, wV, wC, wRet, wRetV, wRetN, wIfS, wNx, wBrk, wCnt, wFor, wWalk, wEnum, wRng1, wRng2, wRev, walkD, gN, gT, gsC, gsN, wAnd, wOr, wNot, wCh, wTb, wTr, wtAnd, wtOr, wtNot, wClU, wCl, wClX, wClUX, wCons, wNil, wTup, wLst, wDk, wDt, wFld, wSl, woN, woS, wKw, wRaise, wNeg, wFrz, wApp, wExt, wDrop, wUnp, wIf, wYes, wDisp1, wSplit, wLvals, wOFld, wOGet, wMk, wMkX, wDSet, wDGet, wDIn, wScr, wMt, wMtX, startN, LEnv.at, tru, isT, isC, LV.dd, LV.fz, LV.seq, LV.lis, LV.tpl, Ty6.has, lenF, intF, listF, tupleF, anyF, sumF, eqF, sEq, isF, LV.isN, inF, ixF, ltI, leI, gtI, geI, ii0, iiF, subF, modF, mulF, mulF2, fdivF, addF, powF, slF, dsOf, D.sign, D.flat, List.map_cons, List.map_nil, List.length_cons, List.length_nil, List.cons_append, List.nil_append, List.append_nil, List.set_cons_zero, List.set_cons_succ, List.set_nil, Nat.sub_self, Nat.reduceSub, Nat.reduceAdd, List.replicate_succ, List.replicate_zero, Bool.false_eq_true, if_true, if_false, true_and, and_true, false_and, and_false, k3]
                  | cons z rest =>
                    cases rest with
                    | nil => simp [wSeq, wSet, wOp, wUn, wVb, wV, wC, wRet, wRetV, wRetN, wIfS, wNx, wBrk, wCnt, wFor, wWalk, wEnum, wRng1, wRng2, wRev, walkD, gN, gT, gsC, gsN, wAnd, wOr, wNot, wCh, wTb, wTr, wtAnd, wtOr, wtNot, wClU, wCl, wClX, wClUX, wCons, wNil, wTup, wLst, wDk, wDt, wFld, wSl, woN, woS, wKw, wRaise, wNeg, wFrz, wApp, wExt, wDrop, wUnp, wIf, wYes, wDisp1, wSplit, wLvals, wOFld, wOGet, wMk, wMkX, wDSet, wDGet, wDIn, wScr, wMt, wMtX, startN, LEnv.at, tru, isT, isC, LV.dd, LV.fz, LV.seq, LV.lis, LV.tpl, Ty6.has, lenF, intF, listF, tupleF, anyF, sumF, eqF, sEq, isF, LV.isN, inF, ixF, ltI, leI, gtI, geI, ii0, iiF, subF, modF, mulF, mulF2, fdivF, addF, powF, slF, dsOf, D.sign, D.flat, List.map_cons, List.map_nil, List.length_cons, List.length_nil, List.cons_append, List.nil_append, List.append_nil, List.set_cons_zero, List.set_cons_succ, List.set_nil, Nat.sub_self, Nat.reduceSub, Nat.reduceAdd, List.replicate_succ, List.replicate_zero, Bool.false_eq_true, if_true, if_false, true_and, and_true, false_and, and_false, k3]
                    | cons z2 rest =>
                      cases rest with
                      | nil =>
                        have hz := goods_cons hg.2
                        have hz2 := goods_cons hz.2
                        simp only [wSeq, wSet, wOp, wUn, wVb, wV, wC, wRet, wRetV, wRetN, wIfS, wNx, wBrk, wCnt, wFor, wWalk, wEnum, wRng1, wRng2, wRev, walkD, gN, gT, gsC, gsN, wAnd, wOr, wNot, wCh, wTb, wTr, wtAnd, wtOr, wtNot, wClU, wCl, wClX, wClUX, wCons, wNil, wTup, wLst, wDk, wDt, wFld, wSl, woN, woS, wKw, wRaise, wNeg, wFrz, wApp, wExt, wDrop, wUnp, wIf, wYes, wDisp1, wSplit, wLvals, wOFld, wOGet, wMk, wMkX, wDSet, wDGet, wDIn, wScr, wMt, wMtX, startN, LEnv.at, tru, isT, isC, LV.dd, LV.fz, LV.seq, LV.lis, LV.tpl, Ty6.has, lenF, intF, listF, tupleF, anyF, sumF, eqF, sEq, isF, LV.isN, inF, ixF, ltI, leI, gtI, geI, ii0, iiF, subF, modF, mulF, mulF2, fdivF, addF, powF, slF, dsOf, D.sign, D.flat, List.map_cons, List.map_nil, List.length_cons, List.length_nil, List.cons_append, List.nil_append, List.append_nil, List.set_cons_zero, List.set_cons_succ, List.set_nil, Nat.sub_self, Nat.reduceSub, Nat.reduceAdd, List.replicate_succ, List.replicate_zero, Bool.false_eq_true, if_true, if_false, true_and, and_true, false_and, and_false, at1, at2, ih z (r - 1) _ hz.1 (by omega), ih z2 (r - 1) _ hz2.1 (by omega), k3]
                        cases isExpr (n + 1) z (r - 1) <;> simp
                      | cons z3 rest =>
                        have q : ¬ (((rest.length + 1 + 1 + 1 + 1 : Nat) : Int) = 3) := by omega
                        simp only [wSeq, wSet, wOp, wUn, wVb, wV, wC, wRet, wRetV, wRetN, wIfS, wNx, wBrk, wCnt, wFor, wWalk, wEnum, wRng1, wRng2, wRev, walkD, gN, gT, gsC, gsN, wAnd, wOr, wNot, wCh, wTb, wTr, wtAnd, wtOr, wtNot, wClU, wCl, wClX, wClUX, wCons, wNil, wTup, wLst, wDk, wDt, wFld, wSl, woN, woS, wKw, wRaise, wNeg, wFrz, wApp, wExt, wDrop, wUnp, wIf, wYes, wDisp1, wSplit, wLvals, wOFld, wOGet, wMk, wMkX, wDSet, wDGet, wDIn, wScr, wMt, wMtX, startN, LEnv.at, tru, isT, isC, LV.dd, LV.fz, LV.seq, LV.lis, LV.tpl, Ty6.has, lenF, intF, listF, tupleF, anyF, sumF, eqF, sEq, isF, LV.isN, inF, ixF, ltI, leI, gtI, geI, ii0, iiF, subF, modF, mulF, mulF2, fdivF, addF, powF, slF, dsOf, D.sign, D.flat, List.map_cons, List.map_nil, List.length_cons, List.length_nil, List.cons_append, List.nil_append, List.append_nil, List.set_cons_zero, List.set_cons_succ, List.set_nil, Nat.sub_self, Nat.reduceSub, Nat.reduceAdd, List.replicate_succ, List.replicate_zero, Bool.false_eq_true, if_true, if_false, true_and, and_true, false_and, and_false, q, k3, decide_false, Bool.false_and, Bool.not_false]
                · simp [wSeq, wSet, wOp, wUn, wVb, wV, wC, wRet, wRetV, wRetN, wIfS, wNx, wBrk, wCnt, wFor, wWalk, wEnum, wRng1, wRng2, wRev, walkD, gN, gT, gsC, gsN, wAnd, wOr, wNot, wCh, wTb, wTr, wtAnd, wtOr, wtNot, wClU, wCl, wClX, wClUX, wCons, wNil, wTup, wLst, wDk, wDt, wFld, wSl, woN, woS, wKw, wRaise, wNeg, wFrz, wApp, wExt, wDrop, wUnp, wIf, wYes, wDisp1, wSplit, wLvals, wOFld, wOGet, wMk, wMkX, wDSet, wDGet, wDIn, wScr, wMt, wMtX, startN, LEnv.at, tru, isT, isC, LV.dd, LV.fz, LV.seq, LV.lis, LV.tpl, Ty6.has, lenF, intF, listF, tupleF, anyF, sumF, eqF, sEq, isF, LV.isN, inF, ixF, ltI, leI, gtI, geI, ii0, iiF, subF, modF, mulF, mulF2, fdivF, addF, powF, slF, dsOf, D.sign, D.flat, List.map_cons, List.map_nil, List.length_cons, List.length_nil, List.cons_append, List.nil_append, List.append_nil, List.set_cons_zero, List.set_cons_succ, List.set_nil, Nat.sub_self, Nat.reduceSub, Nat.reduceAdd, List.replicate_succ, List.replicate_zero, Bool.false_eq_true, if_true, if_false, true_and, and_true, false_and, and_false, k3]
        · exact absurd hx (by simp [good])
end LW
namespace LW
open PySem PySem.Spec PyProof.Rows L2 DL
/-! rows, blocks, statements -/
def blkBody : WS Unit := wIfS (wtNot (wTr (wClU m_is_block_shape [] (wCons (wV 1) wNil)))) (wRet (wC (.bl false))) wNx
theorem blocks_loop (M : ED Unit) (x : Option LV) (R : Prop) (hR : ∀ o, M.nx [x, o] () = R) : ∀ (l : List D) (o : Option LV), wGo (gN 1) blkBody M l [x, o] () = (if l.all isBlk = true then R else M.rt (.d (.bl false)) ())
  | [], o => by show M.nx [x, o] () = _; rw [hR]; simp
  | c :: l, o => by
    show gN 1 c [x, o] (fun env' => blkBody { M with nx := wGo (gN 1) blkBody M l, ct := wGo (gN 1) blkBody M l, bk := M.nx } env' ()) = _
    have ih := blocks_loop M x R hR l
    unfold blkBody
    simp only [wSeq, wSet, wOp, wUn, wVb, wV, wC, wRet, wRetV, wRetN, wIfS, wNx, wBrk, wCnt, wFor, wWalk, wEnum, wRng1, wRng2, wRev, walkD, gN, gT, gsC, gsN, wAnd, wOr, wNot, wCh, wTb, wTr, wtAnd, wtOr, wtNot, wClU, wCl, wClX, wClUX, wCons, wNil, wTup, wLst, wDk, wDt, wFld, wSl, woN, woS, wKw, wRaise, wNeg, wFrz, wApp, wExt, wDrop, wUnp, wIf, wYes, wDisp1, wSplit, wLvals, wOFld, wOGet, wMk, wMkX, wDSet, wDGet, wDIn, wScr, wMt, wMtX, startN, LEnv.at, tru, isT, isC, LV.dd, LV.fz, LV.seq, LV.lis, LV.tpl, Ty6.has, lenF, intF, listF, tupleF, anyF, sumF, eqF, sEq, isF, LV.isN, inF, ixF, ltI, leI, gtI, geI, ii0, iiF, subF, modF, mulF, mulF2, fdivF, addF, powF, slF, dsOf, D.sign, D.flat, List.map_cons, List.map_nil, List.length_cons, List.length_nil, List.cons_append, List.nil_append, List.append_nil, List.set_cons_zero, List.set_cons_succ, List.set_nil, Nat.sub_self, Nat.reduceSub, Nat.reduceAdd, List.replicate_succ, List.replicate_zero, Bool.false_eq_true, if_true, if_false, true_and, and_true, false_and, and_false, e_blk]
    rw [List.all_cons]
    cases h : isBlk c with
    | true => simp only [Bool.not_true, Bool.true_and, if_false, Bool.false_eq_true]; exact ih _
    | false => simp only [Bool.not_false, Bool.false_and, if_true, if_false, Bool.false_eq_true]
def areBlocks : D → Bool
  | .tup xs => decide (1 ≤ (xs.length : Int)) && decide ((xs.length : Int) ≤ 4) && xs.all isBlk
  | _ => false
theorem e_blocks (x : D) (hx : good x = true) (P : LV → Unit → Prop) : m_are_blocks [.d x] () P noX = P (.d (.bl (areBlocks x))) () := by
  unfold m_are_blocks mk0 u_are_blocks
  cases x <;> try (simp [wSeq, wSet, wOp, wUn, wVb, wV, wC, wRet, wRetV, wRetN, wIfS, wNx, wBrk, wCnt, wFor, wWalk, wEnum, wRng1, wRng2, wRev, walkD, gN, gT, gsC, gsN, wAnd, wOr, wNot, wCh, wTb, wTr, wtAnd, wtOr, wtNot, wClU, wCl, wClX, wClUX, wCons, wNil, wTup, wLst, wDk, wDt, wFld, wSl, woN, woS, wKw, wRaise, wNeg, wFrz, wApp, wExt, wDrop, wUnp, wIf, wYes, wDisp1, wSplit, wLvals, wOFld, wOGet, wMk, wMkX, wDSet, wDGet, wDIn, wScr, wMt, wMtX, startN, LEnv.at, tru, isT, isC, LV.dd, LV.fz, LV.seq, LV.lis, LV.tpl, Ty6.has, lenF, intF, listF, tupleF, anyF, sumF, eqF, sEq, isF, LV.isN, inF, ixF, ltI, leI, gtI, geI, ii0, iiF, subF, modF, mulF, mulF2, fdivF, addF, powF, slF, dsOf, D.sign, D.flat, List.map_cons, List.map_nil, List.length_cons, List.length_nil, List.cons_append, List.nil_append, List.append_nil, List.set_cons_zero, List.set_cons_succ, List.set_nil, Nat.sub_self, Nat.reduceSub, Nat.reduceAdd, List.replicate_succ, List.replicate_zero, Bool.false_eq_true, if_true, if_false, true_and, and_true, false_and, and_false, areBlocks]; done)
  · rename_i xs
    simp only [wSeq, wSet, wOp, wUn, wVb, wV, wC, wRet, wRetV, wRetN, wIfS, wNx, wBrk, wCnt, wFor, wWalk, wEnum, wRng1, wRng2, wRev, walkD, gN, gT, gsC, gsN, wAnd, wOr, wNot, wCh, wTb, wTr, wtAnd, wtOr, wtNot, wClU, wCl, wClX, wClUX, wCons, wNil, wTup, wLst, wDk, wDt, wFld, wSl, woN, woS, wKw, wRaise, wNeg, wFrz, wApp, wExt, wDrop, wUnp, wIf, wYes, wDisp1, wSplit, wLvals, wOFld, wOGet, wMk, wMkX, wDSet, wDGet, wDIn, wScr, wMt, wMtX, startN, LEnv.at, tru, isT, isC, LV.dd, LV.fz, LV.seq, LV.lis, LV.tpl, Ty6.has, lenF, intF, listF, tupleF, anyF, sumF, eqF, sEq, isF, LV.isN, inF, ixF, ltI, leI, gtI, geI, ii0, iiF, subF, modF, mulF, mulF2, fdivF, addF, powF, slF, dsOf, D.sign, D.flat, List.map_cons, List.map_nil, List.length_cons, List.length_nil, List.cons_append, List.nil_append, List.append_nil, List.set_cons_zero, List.set_cons_succ, List.set_nil, Nat.sub_self, Nat.reduceSub, Nat.reduceAdd, List.replicate_succ, List.replicate_zero, Bool.false_eq_true, if_true, if_false, true_and, and_true, false_and, and_false]
    by_cases h1 : 1 ≤ (xs.length : Int)
    · by_cases h2 : (xs.length : Int) ≤ 4
      · simp only [h1, h2, decide_true, wSeq, wSet, wOp, wUn, wVb, wV, wC, wRet, wRetV, wRetN, wIfS, wNx, wBrk, wCnt, wFor, wWalk, wEnum, wRng1, wRng2, wRev, walkD, gN, gT, gsC, gsN, wAnd, wOr, wNot, wCh, wTb, wTr, wtAnd, wtOr, wtNot, wClU, wCl, wClX, wClUX, wCons, wNil, wTup, wLst, wDk, wDt, wFld, wSl, woN, woS, wKw, wRaise, wNeg, wFrz, wApp, wExt, wDrop, wUnp, wIf, wYes, wDisp1, wSplit, wLvals, wOFld, wOGet, wMk, wMkX, wDSet, wDGet, wDIn, wScr, wMt, wMtX, startN, LEnv.at, tru, isT, isC, LV.dd, LV.fz, LV.seq, LV.lis, LV.tpl, Ty6.has, lenF, intF, listF, tupleF, anyF, sumF, eqF, sEq, isF, LV.isN, inF, ixF, ltI, leI, gtI, geI, ii0, iiF, subF, modF, mulF, mulF2, fdivF, addF, powF, slF, dsOf, D.sign, D.flat, List.map_cons, List.map_nil, List.length_cons, List.length_nil, List.cons_append, List.nil_append, List.append_nil, List.set_cons_zero, List.set_cons_succ, List.set_nil, Nat.sub_self, Nat.reduceSub, Nat.reduceAdd, List.replicate_succ, List.replicate_zero, Bool.false_eq_true, if_true, if_false, true_and, and_true, false_and, and_false, Bool.not_true]
        refine (blocks_loop _ (some (.d (.tup xs))) (P (.d (.bl true)) ()) (fun o => rfl) xs none).trans ?_
        unfold areBlocks
        cases hh : xs.all isBlk <;> simp only [h1, h2, hh, decide_true, Bool.true_and, Bool.false_and, if_true, if_false, Bool.false_eq_true, eq_self, Bool.and_false, Bool.and_true]
      · simp [h1, h2, wSeq, wSet, wOp, wUn, wVb, wV, wC, wRet, wRetV, wRetN, wIfS, wNx, wBrk, wCnt, wFor, wWalk, wEnum, wRng1, wRng2, wRev, walkD, gN, gT, gsC, gsN, wAnd, wOr, wNot, wCh, wTb, wTr, wtAnd, wtOr, wtNot, wClU, wCl, wClX, wClUX, wCons, wNil, wTup, wLst, wDk, wDt, wFld, wSl, woN, woS, wKw, wRaise, wNeg, wFrz, wApp, wExt, wDrop, wUnp, wIf, wYes, wDisp1, wSplit, wLvals, wOFld, wOGet, wMk, wMkX, wDSet, wDGet, wDIn, wScr, wMt, wMtX, startN, LEnv.at, tru, isT, isC, LV.dd, LV.fz, LV.seq, LV.lis, LV.tpl, Ty6.has, lenF, intF, listF, tupleF, anyF, sumF, eqF, sEq, isF, LV.isN, inF, ixF, ltI, leI, gtI, geI, ii0, iiF, subF, modF, mulF, mulF2, fdivF, addF, powF, slF, dsOf, D.sign, D.flat, List.map_cons, List.map_nil, List.length_cons, List.length_nil, List.cons_append, List.nil_append, List.append_nil, List.set_cons_zero, List.set_cons_succ, List.set_nil, Nat.sub_self, Nat.reduceSub, Nat.reduceAdd, List.replicate_succ, List.replicate_zero, Bool.false_eq_true, if_true, if_false, true_and, and_true, false_and, and_false, areBlocks]
    · simp [h1, wSeq, wSet, wOp, wUn, wVb, wV, wC, wRet, wRetV, wRetN, wIfS, wNx, wBrk, wCnt, wFor, wWalk, wEnum, wRng1, wRng2, wRev, walkD, gN, gT, gsC, gsN, wAnd, wOr, wNot, wCh, wTb, wTr, wtAnd, wtOr, wtNot, wClU, wCl, wClX, wClUX, wCons, wNil, wTup, wLst, wDk, wDt, wFld, wSl, woN, woS, wKw, wRaise, wNeg, wFrz, wApp, wExt, wDrop, wUnp, wIf, wYes, wDisp1, wSplit, wLvals, wOFld, wOGet, wMk, wMkX, wDSet, wDGet, wDIn, wScr, wMt, wMtX, startN, LEnv.at, tru, isT, isC, LV.dd, LV.fz, LV.seq, LV.lis, LV.tpl, Ty6.has, lenF, intF, listF, tupleF, anyF, sumF, eqF, sEq, isF, LV.isN, inF, ixF, ltI, leI, gtI, geI, ii0, iiF, subF, modF, mulF, mulF2, fdivF, addF, powF, slF, dsOf, D.sign, D.flat, List.map_cons, List.map_nil, List.length_cons, List.length_nil, List.cons_append, List.nil_append, List.append_nil, List.set_cons_zero, List.set_cons_succ, List.set_nil, Nat.sub_self, Nat.reduceSub, Nat.reduceAdd, List.replicate_succ, List.replicate_zero, Bool.false_eq_true, if_true, if_false, true_and, and_true, false_and, and_false, areBlocks]
  · exact absurd hx (by simp [good])
def rowsOk : List D → List D → Bool
  | [], _ => true
  | x :: r, ps => match x with
    | .tup [p, a, b] => isName p && isName a && !(ps.any fun z => D.eqf z p) && isBlk b && rowsOk r (ps ++ [p])
    | _ => false
def rowBody : WS Unit := wSeq (wIfS (wtOr (wtNot (wTr (wClU m_is_tuple [] (wCons (wV 2) (wCons (wC (.int 3)) wNil))))) (wtOr (wtNot (wTr (wClU m_is_name [] (wCons (wOp ixF (wVb 2) (wC (.int 0))) wNil)))) (wtNot (wTr (wClU m_is_name [] (wCons (wOp ixF (wVb 2) (wC (.int 1))) wNil)))))) (wRet (wC (.bl false))) wNx)
    (wSeq (wIfS (wtOr (wTb (wOp (inF false) (wOp ixF (wVb 2) (wC (.int 0))) (wVb 1))) (wtNot (wTr (wClU m_is_block_shape [] (wCons (wOp ixF (wVb 2) (wC (.int 2))) wNil))))) (wRet (wC (.bl false))) wNx)
    (wApp 1 (wOp ixF (wVb 2) (wC (.int 0)))))
theorem name_str {x : D} (h : isName x = true) : ∃ z, x = .str z := by
  cases x <;> first
    | exact ⟨_, rfl⟩
    | (simp [isName] at h)
theorem rows_loop (M : ED Unit) (x : Option LV) (R : Prop) (hR : ∀ ps o, M.nx [x, some (.l ps), o] () = R) : ∀ (l ps : List D) (o : Option LV), goods l = true → ps.all D.flat = true → ps.length + l.length ≤ 100 →
    wGo (gN 2) rowBody M l [x, some (.l ps), o] () = (if rowsOk l ps = true then R else M.rt (.d (.bl false)) ())
  | [], ps, o, _, _, _ => by show M.nx [x, _, o] () = _; rw [hR]; simp [rowsOk]
  | c :: l, ps, o, hg, hf, hl => by
    obtain ⟨hc, hg'⟩ := goods_cons hg
    show gN 2 c [x, some (.l ps), o] (fun env' => rowBody { M with nx := wGo (gN 2) rowBody M l, ct := wGo (gN 2) rowBody M l, bk := M.nx } env' ()) = _
    have ih := rows_loop M x R hR l
    unfold rowBody
    simp only [wSeq, wSet, wOp, wUn, wVb, wV, wC, wRet, wRetV, wRetN, wIfS, wNx, wBrk, wCnt, wFor, wWalk, wEnum, wRng1, wRng2, wRev, walkD, gN, gT, gsC, gsN, wAnd, wOr, wNot, wCh, wTb, wTr, wtAnd, wtOr, wtNot, wClU, wCl, wClX, wClUX, wCons, wNil, wTup, wLst, wDk, wDt, wFld, wSl, woN, woS, wKw, wRaise, wNeg, wFrz, wApp, wExt, wDrop, wUnp, wIf, wYes, wDisp1, wSplit, wLvals, wOFld, wOGet, wMk, wMkX, wDSet, wDGet, wDIn, wScr, wMt, wMtX, startN, LEnv.at, tru, isT, isC, LV.dd, LV.fz, LV.seq, LV.lis, LV.tpl, Ty6.has, lenF, intF, listF, tupleF, anyF, sumF, eqF, sEq, isF, LV.isN, inF, ixF, ltI, leI, gtI, geI, ii0, iiF, subF, modF, mulF, mulF2, fdivF, addF, powF, slF, dsOf, D.sign, D.flat, List.map_cons, List.map_nil, List.length_cons, List.length_nil, List.cons_append, List.nil_append, List.append_nil, List.set_cons_zero, List.set_cons_succ, List.set_nil, Nat.sub_self, Nat.reduceSub, Nat.reduceAdd, List.replicate_succ, List.replicate_zero, Bool.false_eq_true, if_true, if_false, true_and, and_true, false_and, and_false, e_tuple c (good_short hc)]
    cases c <;> try (simp [wSeq, wSet, wOp, wUn, wVb, wV, wC, wRet, wRetV, wRetN, wIfS, wNx, wBrk, wCnt, wFor, wWalk, wEnum, wRng1, wRng2, wRev, walkD, gN, gT, gsC, gsN, wAnd, wOr, wNot, wCh, wTb, wTr, wtAnd, wtOr, wtNot, wClU, wCl, wClX, wClUX, wCons, wNil, wTup, wLst, wDk, wDt, wFld, wSl, woN, woS, wKw, wRaise, wNeg, wFrz, wApp, wExt, wDrop, wUnp, wIf, wYes, wDisp1, wSplit, wLvals, wOFld, wOGet, wMk, wMkX, wDSet, wDGet, wDIn, wScr, wMt, wMtX, startN, LEnv.at, tru, isT, isC, LV.dd, LV.fz, LV.seq, LV.lis, LV.tpl, Ty6.has, lenF, intF, listF, tupleF, anyF, sumF, eqF, sEq, isF, LV.isN, inF, ixF, ltI, leI, gtI, geI, ii0, iiF, subF, modF, mulF, mulF2, fdivF, addF, powF, slF, dsOf, D.sign, D.flat, List.map_cons, List.map_nil, List.length_cons, List.length_nil, List.cons_append, List.nil_append, List.append_nil, List.set_cons_zero, List.set_cons_succ, List.set_nil, Nat.sub_self, Nat.reduceSub, Nat.reduceAdd, List.replicate_succ, List.replicate_zero, Bool.false_eq_true, if_true, if_false, true_and, and_true, false_and, and_false, rowsOk]; done)
    · rename_i xs
      have ht : goods xs = true := hc
      match xs, ht with
      | [], _ => simp [wSeq, wSet, wOp, wUn, wVb, wV, wC, wRet, wRetV, wRetN, wIfS, wNx, wBrk, wCnt, wFor, wWalk, wEnum, wRng1, wRng2, wRev, walkD, gN, gT, gsC, gsN, wAnd, wOr, wNot, wCh, wTb, wTr, wtAnd, wtOr, wtNot, wClU, wCl, wClX, wClUX, wCons, wNil, wTup, wLst, wDk, wDt, wFld, wSl, woN, woS, wKw, wRaise, wNeg, wFrz, wApp, wExt, wDrop, wUnp, wIf, wYes, wDisp1, wSplit, wLvals, wOFld, wOGet, wMk, wMkX, wDSet, wDGet, wDIn, wScr, wMt, wMtX, startN, LEnv.at, tru, isT, isC, LV.dd, LV.fz, LV.seq, LV.lis, LV.tpl, Ty6.has, lenF, intF, listF, tupleF, anyF, sumF, eqF, sEq, isF, LV.isN, inF, ixF, ltI, leI, gtI, geI, ii0, iiF, subF, modF, mulF, mulF2, fdivF, addF, powF, slF, dsOf, D.sign, D.flat, List.map_cons, List.map_nil, List.length_cons, List.length_nil, List.cons_append, List.nil_append, List.append_nil, List.set_cons_zero, List.set_cons_succ, List.set_nil, Nat.sub_self, Nat.reduceSub, Nat.reduceAdd, List.replicate_succ, List.replicate_zero, Bool.false_eq_true, if_true, if_false, true_and, and_true, false_and, and_false, rowsOk]
      | [a], _ => simp [wSeq, wSet, wOp, wUn, wVb, wV, wC, wRet, wRetV, wRetN, wIfS, wNx, wBrk, wCnt, wFor, wWalk, wEnum, wRng1, wRng2, wRev, walkD, gN, gT, gsC, gsN, wAnd, wOr, wNot, wCh, wTb, wTr, wtAnd, wtOr, wtNot, wClU, wCl, wClX, wClUX, wCons, wNil, wTup, wLst, wDk, wDt, wFld, wSl, woN, woS, wKw, wRaise, wNeg, wFrz, wApp, wExt, wDrop, wUnp, wIf, wYes, wDisp1, wSplit, wLvals, wOFld, wOGet, wMk, wMkX, wDSet, wDGet, wDIn, wScr, wMt, wMtX, startN, LEnv.at, tru, isT, isC, LV.dd, LV.fz, LV.seq, LV.lis, LV.tpl, Ty6.has, lenF, intF, listF, tupleF, anyF, sumF, eqF, sEq, isF, LV.isN, inF, ixF, ltI, leI, gtI, geI, ii0, iiF, subF, modF, mulF, mulF2, fdivF, addF, powF, slF, dsOf, D.sign, D.flat, List.map_cons, List.map_nil, List.length_cons, List.length_nil, List.cons_append, List.nil_append, List.append_nil, List.set_cons_zero, List.set_cons_succ, List.set_nil, Nat.sub_self, Nat.reduceSub, Nat.reduceAdd, List.replicate_succ, List.replicate_zero, Bool.false_eq_true, if_true, if_false, true_and, and_true, false_and, and_false, rowsOk]
      | [a, b], _ => simp [wSeq, wSet, wOp, wUn, wVb, wV, wC, wRet, wRetV, wRetN, wIfS, wNx, wBrk, wCnt, wFor, wWalk, wEnum, wRng1, wRng2, wRev, walkD, gN, gT, gsC, gsN, wAnd, wOr, wNot, wCh, wTb, wTr, wtAnd, wtOr, wtNot, wClU, wCl, wClX, wClUX, wCons, wNil, wTup, wLst, wDk, wDt, wFld, wSl, woN, woS, wKw, wRaise, wNeg, wFrz, wApp, wExt, wDrop, wUnp, wIf, wYes, wDisp1, wSplit, wLvals, wOFld, wOGet, wMk, wMkX, wDSet, wDGet, wDIn, wScr, wMt, wMtX, startN, LEnv.at, tru, isT, isC, LV.dd, LV.fz, LV.seq, LV.lis, LV.tpl, Ty6.has, lenF, intF, listF, tupleF, anyF, sumF, eqF, sEq, isF, LV.isN, inF, ixF, ltI, leI, gtI, geI, ii0, iiF, subF, modF, mulF, mulF2, fdivF, addF, powF, slF, dsOf, D.sign, D.flat, List.map_cons, List.map_nil, List.length_cons, List.length_nil, List.cons_append, List.nil_append, List.append_nil, List.set_cons_zero, List.set_cons_succ, List.set_nil, Nat.sub_self, Nat.reduceSub, Nat.reduceAdd, List.replicate_succ, List.replicate_zero, Bool.false_eq_true, if_true, if_false, true_and, and_true, false_and, and_false, rowsOk]
      | [p, a, b], ht =>
        have g1 := goods_cons ht
        have g2 := goods_cons g1.2
        have g3 := goods_cons g2.2
        simp only [wSeq, wSet, wOp, wUn, wVb, wV, wC, wRet, wRetV, wRetN, wIfS, wNx, wBrk, wCnt, wFor, wWalk, wEnum, wRng1, wRng2, wRev, walkD, gN, gT, gsC, gsN, wAnd, wOr, wNot, wCh, wTb, wTr, wtAnd, wtOr, wtNot, wClU, wCl, wClX, wClUX, wCons, wNil, wTup, wLst, wDk, wDt, wFld, wSl, woN, woS, wKw, wRaise, wNeg, wFrz, wApp, wExt, wDrop, wUnp, wIf, wYes, wDisp1, wSplit, wLvals, wOFld, wOGet, wMk, wMkX, wDSet, wDGet, wDIn, wScr, wMt, wMtX, startN, LEnv.at, tru, isT, isC, LV.dd, LV.fz, LV.seq, LV.lis, LV.tpl, Ty6.has, lenF, intF, listF, tupleF, anyF, sumF, eqF, sEq, isF, LV.isN, inF, ixF, ltI, leI, gtI, geI, ii0, iiF, subF, modF, mulF, mulF2, fdivF, addF, powF, slF, dsOf, D.sign, D.flat, List.map_cons, List.map_nil, List.length_cons, List.length_nil, List.cons_append, List.nil_append, List.append_nil, List.set_cons_zero, List.set_cons_succ, List.set_nil, Nat.sub_self, Nat.reduceSub, Nat.reduceAdd, List.replicate_succ, List.replicate_zero, Bool.false_eq_true, if_true, if_false, true_and, and_true, false_and, and_false, at0, at1, at2, e_name p (good_short g1.1), e_name a (good_short g2.1), e_blk]
        cases h1 : isName p with
        | false => simp [wSeq, wSet, wOp, wUn, wVb, wV, wC, wRet, wRetV, wRetN, wIfS, wNx, wBrk, wCnt, wFor, wWalk, wEnum, wRng1, wRng2, wRev, walkD, gN, gT, gsC, gsN, wAnd, wOr, wNot, wCh, wTb, wTr, wtAnd, wtOr, wtNot, wClU, wCl, wClX, wClUX, wCons, wNil, wTup, wLst, wDk, wDt, wFld, wSl, woN, woS, wKw, wRaise, wNeg, wFrz, wApp, wExt, wDrop, wUnp, wIf, wYes, wDisp1, wSplit, wLvals, wOFld, wOGet, wMk, wMkX, wDSet, wDGet, wDIn, wScr, wMt, wMtX, startN, LEnv.at, tru, isT, isC, LV.dd, LV.fz, LV.seq, LV.lis, LV.tpl, Ty6.has, lenF, intF, listF, tupleF, anyF, sumF, eqF, sEq, isF, LV.isN, inF, ixF, ltI, leI, gtI, geI, ii0, iiF, subF, modF, mulF, mulF2, fdivF, addF, powF, slF, dsOf, D.sign, D.flat, List.map_cons, List.map_nil, List.length_cons, List.length_nil, List.cons_append, List.nil_append, List.append_nil, List.set_cons_zero, List.set_cons_succ, List.set_nil, Nat.sub_self, Nat.reduceSub, Nat.reduceAdd, List.replicate_succ, List.replicate_zero, Bool.false_eq_true, if_true, if_false, true_and, and_true, false_and, and_false, rowsOk, h1]
        | true =>
          cases h2 : isName a with
          | false => simp [wSeq, wSet, wOp, wUn, wVb, wV, wC, wRet, wRetV, wRetN, wIfS, wNx, wBrk, wCnt, wFor, wWalk, wEnum, wRng1, wRng2, wRev, walkD, gN, gT, gsC, gsN, wAnd, wOr, wNot, wCh, wTb, wTr, wtAnd, wtOr, wtNot, wClU, wCl, wClX, wClUX, wCons, wNil, wTup, wLst, wDk, wDt, wFld, wSl, woN, woS, wKw, wRaise, wNeg, wFrz, wApp, wExt, wDrop, wUnp, wIf, wYes, wDisp1, wSplit, wLvals, wOFld, wOGet, wMk, wMkX, wDSet, wDGet, wDIn, wScr, wMt, wMtX, startN, LEnv.at, tru, isT, isC, LV.dd, LV.fz, LV.seq, LV.lis, LV.tpl, Ty6.has, lenF, intF, listF, tupleF, anyF, sumF, eqF, sEq, isF, LV.isN, inF, ixF, ltI, leI, gtI, geI, ii0, iiF, subF, modF, mulF, mulF2, fdivF, addF, powF, slF, dsOf, D.sign, D.flat, List.map_cons, List.map_nil, List.length_cons, List.length_nil, List.cons_append, List.nil_append, List.append_nil, List.set_cons_zero, List.set_cons_succ, List.set_nil, Nat.sub_self, Nat.reduceSub, Nat.reduceAdd, List.replicate_succ, List.replicate_zero, Bool.false_eq_true, if_true, if_false, true_and, and_true, false_and, and_false, rowsOk, h1, h2]
          | true =>
            obtain ⟨z, rfl⟩ := name_str h1
            simp only [wSeq, wSet, wOp, wUn, wVb, wV, wC, wRet, wRetV, wRetN, wIfS, wNx, wBrk, wCnt, wFor, wWalk, wEnum, wRng1, wRng2, wRev, walkD, gN, gT, gsC, gsN, wAnd, wOr, wNot, wCh, wTb, wTr, wtAnd, wtOr, wtNot, wClU, wCl, wClX, wClUX, wCons, wNil, wTup, wLst, wDk, wDt, wFld, wSl, woN, woS, wKw, wRaise, wNeg, wFrz, wApp, wExt, wDrop, wUnp, wIf, wYes, wDisp1, wSplit, wLvals, wOFld, wOGet, wMk, wMkX, wDSet, wDGet, wDIn, wScr, wMt, wMtX, startN, LEnv.at, tru, isT, isC, LV.dd, LV.fz, LV.seq, LV.lis, LV.tpl, Ty6.has, lenF, intF, listF, tupleF, anyF, sumF, eqF, sEq, isF, LV.isN, inF, ixF, ltI, leI, gtI, geI, ii0, iiF, subF, modF, mulF, mulF2, fdivF, addF, powF, slF, dsOf, D.sign, D.flat, List.map_cons, List.map_nil, List.length_cons, List.length_nil, List.cons_append, List.nil_append, List.append_nil, List.set_cons_zero, List.set_cons_succ, List.set_nil, Nat.sub_self, Nat.reduceSub, Nat.reduceAdd, List.replicate_succ, List.replicate_zero, Bool.false_eq_true, if_true, if_false, true_and, and_true, false_and, and_false, hf, at0, at2]
            have hlt : ps.length < sizeLine := small1000 (by omega)
            rw [rowsOk, h1, h2]
            cases h3 : ps.any fun z' => D.eqf z' (.str z) with
            | true => simp [wSeq, wSet, wOp, wUn, wVb, wV, wC, wRet, wRetV, wRetN, wIfS, wNx, wBrk, wCnt, wFor, wWalk, wEnum, wRng1, wRng2, wRev, walkD, gN, gT, gsC, gsN, wAnd, wOr, wNot, wCh, wTb, wTr, wtAnd, wtOr, wtNot, wClU, wCl, wClX, wClUX, wCons, wNil, wTup, wLst, wDk, wDt, wFld, wSl, woN, woS, wKw, wRaise, wNeg, wFrz, wApp, wExt, wDrop, wUnp, wIf, wYes, wDisp1, wSplit, wLvals, wOFld, wOGet, wMk, wMkX, wDSet, wDGet, wDIn, wScr, wMt, wMtX, startN, LEnv.at, tru, isT, isC, LV.dd, LV.fz, LV.seq, LV.lis, LV.tpl, Ty6.has, lenF, intF, listF, tupleF, anyF, sumF, eqF, sEq, isF, LV.isN, inF, ixF, ltI, leI, gtI, geI, ii0, iiF, subF, modF, mulF, mulF2, fdivF, addF, powF, slF, dsOf, D.sign, D.flat, List.map_cons, List.map_nil, List.length_cons, List.length_nil, List.cons_append, List.nil_append, List.append_nil, List.set_cons_zero, List.set_cons_succ, List.set_nil, Nat.sub_self, Nat.reduceSub, Nat.reduceAdd, List.replicate_succ, List.replicate_zero, Bool.false_eq_true, if_true, if_false, true_and, and_true, false_and, and_false]
            | false =>
              cases h4 : isBlk b with
              | false => simp [wSeq, wSet, wOp, wUn, wVb, wV, wC, wRet, wRetV, wRetN, wIfS, wNx, wBrk, wCnt, wFor, wWalk, wEnum, wRng1, wRng2, wRev, walkD, gN, gT, gsC, gsN, wAnd, wOr, wNot, wCh, wTb, wTr, wtAnd, wtOr, wtNot, wClU, wCl, wClX, wClUX, wCons, wNil, wTup, wLst, wDk, wDt, wFld, wSl, woN, woS, wKw, wRaise, wNeg, wFrz, wApp, wExt, wDrop, wUnp, wIf, wYes, wDisp1, wSplit, wLvals, wOFld, wOGet, wMk, wMkX, wDSet, wDGet, wDIn, wScr, wMt, wMtX, startN, LEnv.at, tru, isT, isC, LV.dd, LV.fz, LV.seq, LV.lis, LV.tpl, Ty6.has, lenF, intF, listF, tupleF, anyF, sumF, eqF, sEq, isF, LV.isN, inF, ixF, ltI, leI, gtI, geI, ii0, iiF, subF, modF, mulF, mulF2, fdivF, addF, powF, slF, dsOf, D.sign, D.flat, List.map_cons, List.map_nil, List.length_cons, List.length_nil, List.cons_append, List.nil_append, List.append_nil, List.set_cons_zero, List.set_cons_succ, List.set_nil, Nat.sub_self, Nat.reduceSub, Nat.reduceAdd, List.replicate_succ, List.replicate_zero, Bool.false_eq_true, if_true, if_false, true_and, and_true, false_and, and_false]
              | true =>
                simp only [wSeq, wSet, wOp, wUn, wVb, wV, wC, wRet, wRetV, wRetN, wIfS, wNx, wBrk, wCnt, wFor, wWalk, wEnum, wRng1, wRng2, wRev, walkD, gN, gT, gsC, gsN, wAnd, wOr, wNot, wCh, wTb, wTr, wtAnd, wtOr, wtNot, wClU, wCl, wClX, wClUX, wCons, wNil, wTup, wLst, wDk, wDt, wFld, wSl, woN, woS, wKw, wRaise, wNeg, wFrz, wApp, wExt, wDrop, wUnp, wIf, wYes, wDisp1, wSplit, wLvals, wOFld, wOGet, wMk, wMkX, wDSet, wDGet, wDIn, wScr, wMt, wMtX, startN, LEnv.at, tru, isT, isC, LV.dd, LV.fz, LV.seq, LV.lis, LV.tpl, Ty6.has, lenF, intF, listF, tupleF, anyF, sumF, eqF, sEq, isF, LV.isN, inF, ixF, ltI, leI, gtI, geI, ii0, iiF, subF, modF, mulF, mulF2, fdivF, addF, powF, slF, dsOf, D.sign, D.flat, List.map_cons, List.map_nil, List.length_cons, List.length_nil, List.cons_append, List.nil_append, List.append_nil, List.set_cons_zero, List.set_cons_succ, List.set_nil, Nat.sub_self, Nat.reduceSub, Nat.reduceAdd, List.replicate_succ, List.replicate_zero, Bool.false_eq_true, if_true, if_false, true_and, and_true, false_and, and_false, decide_true, Bool.not_true, Bool.not_false, Bool.true_and, Bool.and_true, hlt, at0]
                exact ih _ _ hg' (by simp [hf, D.flat]) (by simp at hl ⊢; omega)
      | a :: b :: c :: d :: r, _ =>
        have q : ¬ (((r.length + 1 + 1 + 1 + 1 : Nat) : Int) = 3) := by omega
        simp only [wSeq, wSet, wOp, wUn, wVb, wV, wC, wRet, wRetV, wRetN, wIfS, wNx, wBrk, wCnt, wFor, wWalk, wEnum, wRng1, wRng2, wRev, walkD, gN, gT, gsC, gsN, wAnd, wOr, wNot, wCh, wTb, wTr, wtAnd, wtOr, wtNot, wClU, wCl, wClX, wClUX, wCons, wNil, wTup, wLst, wDk, wDt, wFld, wSl, woN, woS, wKw, wRaise, wNeg, wFrz, wApp, wExt, wDrop, wUnp, wIf, wYes, wDisp1, wSplit, wLvals, wOFld, wOGet, wMk, wMkX, wDSet, wDGet, wDIn, wScr, wMt, wMtX, startN, LEnv.at, tru, isT, isC, LV.dd, LV.fz, LV.seq, LV.lis, LV.tpl, Ty6.has, lenF, intF, listF, tupleF, anyF, sumF, eqF, sEq, isF, LV.isN, inF, ixF, ltI, leI, gtI, geI, ii0, iiF, subF, modF, mulF, mulF2, fdivF, addF, powF, slF, dsOf, D.sign, D.flat, List.map_cons, List.map_nil, List.length_cons, List.length_nil, List.cons_append, List.nil_append, List.append_nil, List.set_cons_zero, List.set_cons_succ, List.set_nil, Nat.sub_self, Nat.reduceSub, Nat.reduceAdd, List.replicate_succ, List.replicate_zero, Bool.false_eq_true, if_true, if_false, true_and, and_true, false_and, and_false, q, decide_false, Bool.not_false, rowsOk]
    · exact absurd hc (by simp [good])
end LW
namespace LW
open PySem PySem.Spec PyProof.Rows L2 DL
/-! statements -/
def areRows : D → Bool
  | .tup xs => decide (1 ≤ (xs.length : Int)) && decide ((xs.length : Int) ≤ 4) && rowsOk xs []
  | _ => false
theorem e_rows (x : D) (hx : good x = true) (P : LV → Unit → Prop) : m_are_rows [.d x] () P noX = P (.d (.bl (areRows x))) () := by
  unfold m_are_rows mk0 u_are_rows
  cases x <;> try (simp [wSeq, wSet, wOp, wUn, wVb, wV, wC, wRet, wRetV, wRetN, wIfS, wNx, wBrk, wCnt, wFor, wWalk, wEnum, wRng1, wRng2, wRev, walkD, gN, gT, gsC, gsN, wAnd, wOr, wNot, wCh, wTb, wTr, wtAnd, wtOr, wtNot, wClU, wCl, wClX, wClUX, wCons, wNil, wTup, wLst, wDk, wDt, wFld, wSl, woN, woS, wKw, wRaise, wNeg, wFrz, wApp, wExt, wDrop, wUnp, wIf, wYes, wDisp1, wSplit, wLvals, wOFld, wOGet, wMk, wMkX, wDSet, wDGet, wDIn, wScr, wMt, wMtX, startN, LEnv.at, tru, isT, isC, LV.dd, LV.fz, LV.seq, LV.lis, LV.tpl, Ty6.has, lenF, intF, listF, tupleF, anyF, sumF, eqF, sEq, isF, LV.isN, inF, ixF, ltI, leI, gtI, geI, ii0, iiF, subF, modF, mulF, mulF2, fdivF, addF, powF, slF, dsOf, D.sign, D.flat, List.map_cons, List.map_nil, List.length_cons, List.length_nil, List.cons_append, List.nil_append, List.append_nil, List.set_cons_zero, List.set_cons_succ, List.set_nil, Nat.sub_self, Nat.reduceSub, Nat.reduceAdd, List.replicate_succ, List.replicate_zero, Bool.false_eq_true, if_true, if_false, true_and, and_true, false_and, and_false, areRows]; done)
  · rename_i xs
    simp only [wSeq, wSet, wOp, wUn, wVb, wV, wC, wRet, wRetV, wRetN, wIfS, wNx, wBrk, wCnt, wFor, wWalk, wEnum, wRng1, wRng2, wRev, walkD, gN, gT, gsC, gsN, wAnd, wOr, wNot, wCh, wTb, wTr, wtAnd, wtOr, wtNot, wClU, wCl, wClX, wClUX, wCons, wNil, wTup, wLst, wDk, wDt, wFld, wSl, woN, woS, wKw, wRaise, wNeg, wFrz, wApp, wExt, wDrop, wUnp, wIf, wYes, wDisp1, wSplit, wLvals, wOFld, wOGet, wMk, wMkX, wDSet, wDGet, wDIn, wScr, wMt, wMtX, startN, LEnv.at, tru, isT, isC, LV.dd, LV.fz, LV.seq, LV.lis, LV.tpl, Ty6.has, lenF, intF, listF, tupleF, anyF, sumF, eqF, sEq, isF, LV.isN, inF, ixF, ltI, leI, gtI, geI, ii0, iiF, subF, modF, mulF, mulF2, fdivF, addF, powF, slF, dsOf, D.sign, D.flat, List.map_cons, List.map_nil, List.length_cons, List.length_nil, List.cons_append, List.nil_append, List.append_nil, List.set_cons_zero, List.set_cons_succ, List.set_nil, Nat.sub_self, Nat.reduceSub, Nat.reduceAdd, List.replicate_succ, List.replicate_zero, Bool.false_eq_true, if_true, if_false, true_and, and_true, false_and, and_false]
    by_cases h1 : 1 ≤ (xs.length : Int)
    · by_cases h2 : (xs.length : Int) ≤ 4
      · simp only [h1, h2, decide_true, wSeq, wSet, wOp, wUn, wVb, wV, wC, wRet, wRetV, wRetN, wIfS, wNx, wBrk, wCnt, wFor, wWalk, wEnum, wRng1, wRng2, wRev, walkD, gN, gT, gsC, gsN, wAnd, wOr, wNot, wCh, wTb, wTr, wtAnd, wtOr, wtNot, wClU, wCl, wClX, wClUX, wCons, wNil, wTup, wLst, wDk, wDt, wFld, wSl, woN, woS, wKw, wRaise, wNeg, wFrz, wApp, wExt, wDrop, wUnp, wIf, wYes, wDisp1, wSplit, wLvals, wOFld, wOGet, wMk, wMkX, wDSet, wDGet, wDIn, wScr, wMt, wMtX, startN, LEnv.at, tru, isT, isC, LV.dd, LV.fz, LV.seq, LV.lis, LV.tpl, Ty6.has, lenF, intF, listF, tupleF, anyF, sumF, eqF, sEq, isF, LV.isN, inF, ixF, ltI, leI, gtI, geI, ii0, iiF, subF, modF, mulF, mulF2, fdivF, addF, powF, slF, dsOf, D.sign, D.flat, List.map_cons, List.map_nil, List.length_cons, List.length_nil, List.cons_append, List.nil_append, List.append_nil, List.set_cons_zero, List.set_cons_succ, List.set_nil, Nat.sub_self, Nat.reduceSub, Nat.reduceAdd, List.replicate_succ, List.replicate_zero, Bool.false_eq_true, if_true, if_false, true_and, and_true, false_and, and_false, Bool.not_true, Nat.zero_le]
        refine (rows_loop _ (some (.d (.tup xs))) (P (.d (.bl true)) ()) (fun ps o => rfl) xs [] none hx rfl (by simp; omega)).trans ?_
        unfold areRows
        cases hh : rowsOk xs [] <;> simp only [h1, h2, hh, decide_true, Bool.true_and, Bool.false_and, if_true, if_false, Bool.false_eq_true, eq_self, Bool.and_false, Bool.and_true]
      · simp [h1, h2, wSeq, wSet, wOp, wUn, wVb, wV, wC, wRet, wRetV, wRetN, wIfS, wNx, wBrk, wCnt, wFor, wWalk, wEnum, wRng1, wRng2, wRev, walkD, gN, gT, gsC, gsN, wAnd, wOr, wNot, wCh, wTb, wTr, wtAnd, wtOr, wtNot, wClU, wCl, wClX, wClUX, wCons, wNil, wTup, wLst, wDk, wDt, wFld, wSl, woN, woS, wKw, wRaise, wNeg, wFrz, wApp, wExt, wDrop, wUnp, wIf, wYes, wDisp1, wSplit, wLvals, wOFld, wOGet, wMk, wMkX, wDSet, wDGet, wDIn, wScr, wMt, wMtX, startN, LEnv.at, tru, isT, isC, LV.dd, LV.fz, LV.seq, LV.lis, LV.tpl, Ty6.has, lenF, intF, listF, tupleF, anyF, sumF, eqF, sEq, isF, LV.isN, inF, ixF, ltI, leI, gtI, geI, ii0, iiF, subF, modF, mulF, mulF2, fdivF, addF, powF, slF, dsOf, D.sign, D.flat, List.map_cons, List.map_nil, List.length_cons, List.length_nil, List.cons_append, List.nil_append, List.append_nil, List.set_cons_zero, List.set_cons_succ, List.set_nil, Nat.sub_self, Nat.reduceSub, Nat.reduceAdd, List.replicate_succ, List.replicate_zero, Bool.false_eq_true, if_true, if_false, true_and, and_true, false_and, and_false, areRows]
    · simp [h1, wSeq, wSet, wOp, wUn, wVb, wV, wC, wRet, wRetV, wRetN, wIfS, wNx, wBrk, wCnt, wFor, wWalk, wEnum, wRng1, wRng2, wRev, walkD, gN, gT, gsC, gsN, wAnd, wOr, wNot, wCh, wTb, wTr, wtAnd, wtOr, wtNot, wClU, wCl, wClX, wClUX, wCons, wNil, wTup, wLst, wDk, wDt, wFld, wSl, woN, woS, wKw, wRaise, wNeg, wFrz, wApp, wExt, wDrop, wUnp, wIf, wYes, wDisp1, wSplit, wLvals, wOFld, wOGet, wMk, wMkX, wDSet, wDGet, wDIn, wScr, wMt, wMtX, startN, LEnv.at, tru, isT, isC, LV.dd, LV.fz, LV.seq, LV.lis, LV.tpl, Ty6.has, lenF, intF, listF, tupleF, anyF, sumF, eqF, sEq, isF, LV.isN, inF, ixF, ltI, leI, gtI, geI, ii0, iiF, subF, modF, mulF, mulF2, fdivF, addF, powF, slF, dsOf, D.sign, D.flat, List.map_cons, List.map_nil, List.length_cons, List.length_nil, List.cons_append, List.nil_append, List.append_nil, List.set_cons_zero, List.set_cons_succ, List.set_nil, Nat.sub_self, Nat.reduceSub, Nat.reduceAdd, List.replicate_succ, List.replicate_zero, Bool.false_eq_true, if_true, if_false, true_and, and_true, false_and, and_false, areRows]
  · exact absurd hx (by simp [good])
/-- set, tell, hear -/
def isDeal (k : Str) : List D → Bool
  | [a, b] => isName a && (if k = "hear" then isName b else isExpr 8 b 5)
  | _ => false
theorem e_deal (k : Str) (rest : List D) (hg : goods rest = true) (P : LV → Unit → Prop) : m_is_dealing_shape [.d (.tup (.str k :: rest))] () P noX = P (.d (.bl (isDeal k rest))) () := by
  unfold m_is_dealing_shape mk0 u_is_dealing_shape
  match rest, hg with
  | [], _ => simp [wSeq, wSet, wOp, wUn, wVb, wV, wC, wRet, wRetV, wRetN, wIfS, wNx, wBrk, wCnt, wFor, wWalk, wEnum, wRng1, wRng2, wRev, walkD, gN, gT, gsC, gsN, wAnd, wOr, wNot, wCh, wTb, wTr, wtAnd, wtOr, wtNot, wClU, wCl, wClX, wClUX, wCons, wNil, wTup, wLst, wDk, wDt, wFld, wSl, woN, woS, wKw, wRaise, wNeg, wFrz, wApp, wExt, wDrop, wUnp, wIf, wYes, wDisp1, wSplit, wLvals, wOFld, wOGet, wMk, wMkX, wDSet, wDGet, wDIn, wScr, wMt, wMtX, startN, LEnv.at, tru, isT, isC, LV.dd, LV.fz, LV.seq, LV.lis, LV.tpl, Ty6.has, lenF, intF, listF, tupleF, anyF, sumF, eqF, sEq, isF, LV.isN, inF, ixF, ltI, leI, gtI, geI, ii0, iiF, subF, modF, mulF, mulF2, fdivF, addF, powF, slF, dsOf, D.sign, D.flat, List.map_cons, List.map_nil, List.length_cons, List.length_nil, List.cons_append, List.nil_append, List.append_nil, List.set_cons_zero, List.set_cons_succ, List.set_nil, Nat.sub_self, Nat.reduceSub, Nat.reduceAdd, List.replicate_succ, List.replicate_zero, Bool.false_eq_true, if_true, if_false, true_and, and_true, false_and, and_false, isDeal]
  | [a], _ => simp [wSeq, wSet, wOp, wUn, wVb, wV, wC, wRet, wRetV, wRetN, wIfS, wNx, wBrk, wCnt, wFor, wWalk, wEnum, wRng1, wRng2, wRev, walkD, gN, gT, gsC, gsN, wAnd, wOr, wNot, wCh, wTb, wTr, wtAnd, wtOr, wtNot, wClU, wCl, wClX, wClUX, wCons, wNil, wTup, wLst, wDk, wDt, wFld, wSl, woN, woS, wKw, wRaise, wNeg, wFrz, wApp, wExt, wDrop, wUnp, wIf, wYes, wDisp1, wSplit, wLvals, wOFld, wOGet, wMk, wMkX, wDSet, wDGet, wDIn, wScr, wMt, wMtX, startN, LEnv.at, tru, isT, isC, LV.dd, LV.fz, LV.seq, LV.lis, LV.tpl, Ty6.has, lenF, intF, listF, tupleF, anyF, sumF, eqF, sEq, isF, LV.isN, inF, ixF, ltI, leI, gtI, geI, ii0, iiF, subF, modF, mulF, mulF2, fdivF, addF, powF, slF, dsOf, D.sign, D.flat, List.map_cons, List.map_nil, List.length_cons, List.length_nil, List.cons_append, List.nil_append, List.append_nil, List.set_cons_zero, List.set_cons_succ, List.set_nil, Nat.sub_self, Nat.reduceSub, Nat.reduceAdd, List.replicate_succ, List.replicate_zero, Bool.false_eq_true, if_true, if_false, true_and, and_true, false_and, and_false, isDeal]
  | [a, b], hg =>
    have g1 := goods_cons hg
    have g2 := goods_cons g1.2
    simp only [wSeq, wSet, wOp, wUn, wVb, wV, wC, wRet, wRetV, wRetN, wIfS, wNx, wBrk, wCnt, wFor, wWalk, wEnum, wRng1, wRng2, wRev, walkD, gN, gT, gsC, gsN, wAnd, wOr, wNot, wCh, wTb, wTr, wtAnd, wtOr, wtNot, wClU, wCl, wClX, wClUX, wCons, wNil, wTup, wLst, wDk, wDt, wFld, wSl, woN, woS, wKw, wRaise, wNeg, wFrz, wApp, wExt, wDrop, wUnp, wIf, wYes, wDisp1, wSplit, wLvals, wOFld, wOGet, wMk, wMkX, wDSet, wDGet, wDIn, wScr, wMt, wMtX, startN, LEnv.at, tru, isT, isC, LV.dd, LV.fz, LV.seq, LV.lis, LV.tpl, Ty6.has, lenF, intF, listF, tupleF, anyF, sumF, eqF, sEq, isF, LV.isN, inF, ixF, ltI, leI, gtI, geI, ii0, iiF, subF, modF, mulF, mulF2, fdivF, addF, powF, slF, dsOf, D.sign, D.flat, List.map_cons, List.map_nil, List.length_cons, List.length_nil, List.cons_append, List.nil_append, List.append_nil, List.set_cons_zero, List.set_cons_succ, List.set_nil, Nat.sub_self, Nat.reduceSub, Nat.reduceAdd, List.replicate_succ, List.replicate_zero, Bool.false_eq_true, if_true, if_false, true_and, and_true, false_and, and_false, at0, at1, at2, e_name a (good_short g1.1), e_name b (good_short g2.1), e_expr 7 b 5 _ g2.1 (by omega), isDeal]
    cases h1 : isName a with
    | false => simp [wSeq, wSet, wOp, wUn, wVb, wV, wC, wRet, wRetV, wRetN, wIfS, wNx, wBrk, wCnt, wFor, wWalk, wEnum, wRng1, wRng2, wRev, walkD, gN, gT, gsC, gsN, wAnd, wOr, wNot, wCh, wTb, wTr, wtAnd, wtOr, wtNot, wClU, wCl, wClX, wClUX, wCons, wNil, wTup, wLst, wDk, wDt, wFld, wSl, woN, woS, wKw, wRaise, wNeg, wFrz, wApp, wExt, wDrop, wUnp, wIf, wYes, wDisp1, wSplit, wLvals, wOFld, wOGet, wMk, wMkX, wDSet, wDGet, wDIn, wScr, wMt, wMtX, startN, LEnv.at, tru, isT, isC, LV.dd, LV.fz, LV.seq, LV.lis, LV.tpl, Ty6.has, lenF, intF, listF, tupleF, anyF, sumF, eqF, sEq, isF, LV.isN, inF, ixF, ltI, leI, gtI, geI, ii0, iiF, subF, modF, mulF, mulF2, fdivF, addF, powF, slF, dsOf, D.sign, D.flat, List.map_cons, List.map_nil, List.length_cons, List.length_nil, List.cons_append, List.nil_append, List.append_nil, List.set_cons_zero, List.set_cons_succ, List.set_nil, Nat.sub_self, Nat.reduceSub, Nat.reduceAdd, List.replicate_succ, List.replicate_zero, Bool.false_eq_true, if_true, if_false, true_and, and_true, false_and, and_false]
    | true =>
      by_cases h2 : k = "hear"
      · simp [wSeq, wSet, wOp, wUn, wVb, wV, wC, wRet, wRetV, wRetN, wIfS, wNx, wBrk, wCnt, wFor, wWalk, wEnum, wRng1, wRng2, wRev, walkD, gN, gT, gsC, gsN, wAnd, wOr, wNot, wCh, wTb, wTr, wtAnd, wtOr, wtNot, wClU, wCl, wClX, wClUX, wCons, wNil, wTup, wLst, wDk, wDt, wFld, wSl, woN, woS, wKw, wRaise, wNeg, wFrz, wApp, wExt, wDrop, wUnp, wIf, wYes, wDisp1, wSplit, wLvals, wOFld, wOGet, wMk, wMkX, wDSet, wDGet, wDIn, wScr, wMt, wMtX, startN, LEnv.at, tru, isT, isC, LV.dd, LV.fz, LV.seq, LV.lis, LV.tpl, Ty6.has, lenF, intF, listF, tupleF, anyF, sumF, eqF, sEq, isF, LV.isN, inF, ixF, ltI, leI, gtI, geI, ii0, iiF, subF, modF, mulF, mulF2, fdivF, addF, powF, slF, dsOf, D.sign, D.flat, List.map_cons, List.map_nil, List.length_cons, List.length_nil, List.cons_append, List.nil_append, List.append_nil, List.set_cons_zero, List.set_cons_succ, List.set_nil, Nat.sub_self, Nat.reduceSub, Nat.reduceAdd, List.replicate_succ, List.replicate_zero, Bool.false_eq_true, if_true, if_false, true_and, and_true, false_and, and_false, h2, isDeal]
      · simp [wSeq, wSet, wOp, wUn, wVb, wV, wC, wRet, wRetV, wRetN, wIfS, wNx, wBrk, wCnt, wFor, wWalk, wEnum, wRng1, wRng2, wRev, walkD, gN, gT, gsC, gsN, wAnd, wOr, wNot, wCh, wTb, wTr, wtAnd, wtOr, wtNot, wClU, wCl, wClX, wClUX, wCons, wNil, wTup, wLst, wDk, wDt, wFld, wSl, woN, woS, wKw, wRaise, wNeg, wFrz, wApp, wExt, wDrop, wUnp, wIf, wYes, wDisp1, wSplit, wLvals, wOFld, wOGet, wMk, wMkX, wDSet, wDGet, wDIn, wScr, wMt, wMtX, startN, LEnv.at, tru, isT, isC, LV.dd, LV.fz, LV.seq, LV.lis, LV.tpl, Ty6.has, lenF, intF, listF, tupleF, anyF, sumF, eqF, sEq, isF, LV.isN, inF, ixF, ltI, leI, gtI, geI, ii0, iiF, subF, modF, mulF, mulF2, fdivF, addF, powF, slF, dsOf, D.sign, D.flat, List.map_cons, List.map_nil, List.length_cons, List.length_nil, List.cons_append, List.nil_append, List.append_nil, List.set_cons_zero, List.set_cons_succ, List.set_nil, Nat.sub_self, Nat.reduceSub, Nat.reduceAdd, List.replicate_succ, List.replicate_zero, Bool.false_eq_true, if_true, if_false, true_and, and_true, false_and, and_false, h2, isDeal]
  | a :: b :: c :: r, _ =>
    have q : ¬ (((r.length + 1 + 1 + 1 + 1 : Nat) : Int) = 3) := by omega
    simp only [wSeq, wSet, wOp, wUn, wVb, wV, wC, wRet, wRetV, wRetN, wIfS, wNx, wBrk, wCnt, wFor, wWalk, wEnum, wRng1, wRng2, wRev, walkD, gN, gT, gsC, gsN, wAnd, wOr, wNot, wCh, wTb, wTr, wtAnd, wtOr, wtNot, wClU, wCl, wClX, wClUX, wCons, wNil, wTup, wLst, wDk, wDt, wFld, wSl, woN, woS, wKw, wRaise, wNeg, wFrz, wApp, wExt, wDrop, wUnp, wIf, wYes, wDisp1, wSplit, wLvals, wOFld, wOGet, wMk, wMkX, wDSet, wDGet, wDIn, wScr, wMt, wMtX, startN, LEnv.at, tru, isT, isC, LV.dd, LV.fz, LV.seq, LV.lis, LV.tpl, Ty6.has, lenF, intF, listF, tupleF, anyF, sumF, eqF, sEq, isF, LV.isN, inF, ixF, ltI, leI, gtI, geI, ii0, iiF, subF, modF, mulF, mulF2, fdivF, addF, powF, slF, dsOf, D.sign, D.flat, List.map_cons, List.map_nil, List.length_cons, List.length_nil, List.cons_append, List.nil_append, List.append_nil, List.set_cons_zero, List.set_cons_succ, List.set_nil, Nat.sub_self, Nat.reduceSub, Nat.reduceAdd, List.replicate_succ, List.replicate_zero, Bool.false_eq_true, if_true, if_false, true_and, and_true, false_and, and_false, q, decide_false, Bool.not_false, isDeal]
def isIf : List D → Bool
  | [a, b, c] => isExpr 8 a 5 && isBlk b && isBlk c
  | _ => false
theorem at3 (x y z u : D) (r : List D) : atI (x :: y :: z :: u :: r) 3 = some u := by
  simp [atI, ixN]
  rw [if_pos (by omega)]
  rfl
theorem e_if (k : Str) (rest : List D) (hg : goods rest = true) (P : LV → Unit → Prop) : m_is_if_shape [.d (.tup (.str k :: rest))] () P noX = P (.d (.bl (isIf rest))) () := by
  unfold m_is_if_shape mk0 u_is_if_shape
  match rest, hg with
  | [], _ => simp [wSeq, wSet, wOp, wUn, wVb, wV, wC, wRet, wRetV, wRetN, wIfS, wNx, wBrk, wCnt, wFor, wWalk, wEnum, wRng1, wRng2, wRev, walkD, gN, gT, gsC, gsN, wAnd, wOr, wNot, wCh, wTb, wTr, wtAnd, wtOr, wtNot, wClU, wCl, wClX, wClUX, wCons, wNil, wTup, wLst, wDk, wDt, wFld, wSl, woN, woS, wKw, wRaise, wNeg, wFrz, wApp, wExt, wDrop, wUnp, wIf, wYes, wDisp1, wSplit, wLvals, wOFld, wOGet, wMk, wMkX, wDSet, wDGet, wDIn, wScr, wMt, wMtX, startN, LEnv.at, tru, isT, isC, LV.dd, LV.fz, LV.seq, LV.lis, LV.tpl, Ty6.has, lenF, intF, listF, tupleF, anyF, sumF, eqF, sEq, isF, LV.isN, inF, ixF, ltI, leI, gtI, geI, ii0, iiF, subF, modF, mulF, mulF2, fdivF, addF, powF, slF, dsOf, D.sign, D.flat, List.map_cons, List.map_nil, List.length_cons, List.length_nil, List.cons_append, List.nil_append, List.append_nil, List.set_cons_zero, List.set_cons_succ, List.set_nil, Nat.sub_self, Nat.reduceSub, Nat.reduceAdd, List.replicate_succ, List.replicate_zero, Bool.false_eq_true, if_true, if_false, true_and, and_true, false_and, and_false, isIf]
  | [a], _ => simp [wSeq, wSet, wOp, wUn, wVb, wV, wC, wRet, wRetV, wRetN, wIfS, wNx, wBrk, wCnt, wFor, wWalk, wEnum, wRng1, wRng2, wRev, walkD, gN, gT, gsC, gsN, wAnd, wOr, wNot, wCh, wTb, wTr, wtAnd, wtOr, wtNot, wClU, wCl, wClX, wClUX, wCons, wNil, wTup, wLst, wDk, wDt, wFld, wSl, woN, woS, wKw, wRaise, wNeg, wFrz, wApp, wExt, wDrop, wUnp, wIf, wYes, wDisp1, wSplit, wLvals, wOFld, wOGet, wMk, wMkX, wDSet, wDGet, wDIn, wScr, wMt, wMtX, startN, LEnv.at, tru, isT, isC, LV.dd, LV.fz, LV.seq, LV.lis, LV.tpl, Ty6.has, lenF, intF, listF, tupleF, anyF, sumF, eqF, sEq, isF, LV.isN, inF, ixF, ltI, leI, gtI, geI, ii0, iiF, subF, modF, mulF, mulF2, fdivF, addF, powF, slF, dsOf, D.sign, D.flat, List.map_cons, List.map_nil, List.length_cons, List.length_nil, List.cons_append, List.nil_append, List.append_nil, List.set_cons_zero, List.set_cons_succ, List.set_nil, Nat.sub_self, Nat.reduceSub, Nat.reduceAdd, List.replicate_succ, List.replicate_zero, Bool.false_eq_true, if_true, if_false, true_and, and_true, false_and, and_false, isIf]
  | [a, b], _ => simp [wSeq, wSet, wOp, wUn, wVb, wV, wC, wRet, wRetV, wRetN, wIfS, wNx, wBrk, wCnt, wFor, wWalk, wEnum, wRng1, wRng2, wRev, walkD, gN, gT, gsC, gsN, wAnd, wOr, wNot, wCh, wTb, wTr, wtAnd, wtOr, wtNot, wClU, wCl, wClX, wClUX, wCons, wNil, wTup, wLst, wDk, wDt, wFld, wSl, woN, woS, wKw, wRaise, wNeg, wFrz, wApp, wExt, wDrop, wUnp, wIf, wYes, wDisp1, wSplit, wLvals, wOFld, wOGet, wMk, wMkX, wDSet, wDGet, wDIn, wScr, wMt, wMtX, startN, LEnv.at, tru, isT, isC, LV.dd, LV.fz, LV.seq, LV.lis, LV.tpl, Ty6.has, lenF, intF, listF, tupleF, anyF, sumF, eqF, sEq, isF, LV.isN, inF, ixF, ltI, leI, gtI, geI, ii0, iiF, subF, modF, mulF, mulF2, fdivF, addF, powF, slF, dsOf, D.sign, D.flat, List.map_cons, List.map_nil, List.length_cons, List.length_nil, List.cons_append, List.nil_append, List.append_nil, List.set_cons_zero, List.set_cons_succ, List.set_nil, Nat.sub_self, Nat.reduceSub, Nat.reduceAdd, List.replicate_succ, List.replicate_zero, Bool.false_eq_true, if_true, if_false, true_and, and_true, false_and, and_false, isIf]
  | [a, b, c], hg =>
    have g1 := goods_cons hg
    simp only [wSeq, wSet, wOp, wUn, wVb, wV, wC, wRet, wRetV, wRetN, wIfS, wNx, wBrk, wCnt, wFor, wWalk, wEnum, wRng1, wRng2, wRev, walkD, gN, gT, gsC, gsN, wAnd, wOr, wNot, wCh, wTb, wTr, wtAnd, wtOr, wtNot, wClU, wCl, wClX, wClUX, wCons, wNil, wTup, wLst, wDk, wDt, wFld, wSl, woN, woS, wKw, wRaise, wNeg, wFrz, wApp, wExt, wDrop, wUnp, wIf, wYes, wDisp1, wSplit, wLvals, wOFld, wOGet, wMk, wMkX, wDSet, wDGet, wDIn, wScr, wMt, wMtX, startN, LEnv.at, tru, isT, isC, LV.dd, LV.fz, LV.seq, LV.lis, LV.tpl, Ty6.has, lenF, intF, listF, tupleF, anyF, sumF, eqF, sEq, isF, LV.isN, inF, ixF, ltI, leI, gtI, geI, ii0, iiF, subF, modF, mulF, mulF2, fdivF, addF, powF, slF, dsOf, D.sign, D.flat, List.map_cons, List.map_nil, List.length_cons, List.length_nil, List.cons_append, List.nil_append, List.append_nil, List.set_cons_zero, List.set_cons_succ, List.set_nil, Nat.sub_self, Nat.reduceSub, Nat.reduceAdd, List.replicate_succ, List.replicate_zero, Bool.false_eq_true, if_true, if_false, true_and, and_true, false_and, and_false, at0, at1, at2, at3, e_expr 7 a 5 _ g1.1 (by omega), e_blk, isIf]
    cases h1 : isExpr 8 a 5 with
    | false => simp [wSeq, wSet, wOp, wUn, wVb, wV, wC, wRet, wRetV, wRetN, wIfS, wNx, wBrk, wCnt, wFor, wWalk, wEnum, wRng1, wRng2, wRev, walkD, gN, gT, gsC, gsN, wAnd, wOr, wNot, wCh, wTb, wTr, wtAnd, wtOr, wtNot, wClU, wCl, wClX, wClUX, wCons, wNil, wTup, wLst, wDk, wDt, wFld, wSl, woN, woS, wKw, wRaise, wNeg, wFrz, wApp, wExt, wDrop, wUnp, wIf, wYes, wDisp1, wSplit, wLvals, wOFld, wOGet, wMk, wMkX, wDSet, wDGet, wDIn, wScr, wMt, wMtX, startN, LEnv.at, tru, isT, isC, LV.dd, LV.fz, LV.seq, LV.lis, LV.tpl, Ty6.has, lenF, intF, listF, tupleF, anyF, sumF, eqF, sEq, isF, LV.isN, inF, ixF, ltI, leI, gtI, geI, ii0, iiF, subF, modF, mulF, mulF2, fdivF, addF, powF, slF, dsOf, D.sign, D.flat, List.map_cons, List.map_nil, List.length_cons, List.length_nil, List.cons_append, List.nil_append, List.append_nil, List.set_cons_zero, List.set_cons_succ, List.set_nil, Nat.sub_self, Nat.reduceSub, Nat.reduceAdd, List.replicate_succ, List.replicate_zero, Bool.false_eq_true, if_true, if_false, true_and, and_true, false_and, and_false]
    | true => cases h2 : isBlk b <;> simp [wSeq, wSet, wOp, wUn, wVb, wV, wC, wRet, wRetV, wRetN, wIfS, wNx, wBrk, wCnt, wFor, wWalk, wEnum, wRng1, wRng2, wRev, walkD, gN, gT, gsC, gsN, wAnd, wOr, wNot, wCh, wTb, wTr, wtAnd, wtOr, wtNot, wClU, wCl, wClX, wClUX, wCons, wNil, wTup, wLst, wDk, wDt, wFld, wSl, woN, woS, wKw, wRaise, wNeg, wFrz, wApp, wExt, wDrop, wUnp, wIf, wYes, wDisp1, wSplit, wLvals, wOFld, wOGet, wMk, wMkX, wDSet, wDGet, wDIn, wScr, wMt, wMtX, startN, LEnv.at, tru, isT, isC, LV.dd, LV.fz, LV.seq, LV.lis, LV.tpl, Ty6.has, lenF, intF, listF, tupleF, anyF, sumF, eqF, sEq, isF, LV.isN, inF, ixF, ltI, leI, gtI, geI, ii0, iiF, subF, modF, mulF, mulF2, fdivF, addF, powF, slF, dsOf, D.sign, D.flat, List.map_cons, List.map_nil, List.length_cons, List.length_nil, List.cons_append, List.nil_append, List.append_nil, List.set_cons_zero, List.set_cons_succ, List.set_nil, Nat.sub_self, Nat.reduceSub, Nat.reduceAdd, List.replicate_succ, List.replicate_zero, Bool.false_eq_true, if_true, if_false, true_and, and_true, false_and, and_false]
  | a :: b :: c :: d :: r, _ =>
    have q : ¬ (((r.length + 1 + 1 + 1 + 1 + 1 : Nat) : Int) = 4) := by omega
    simp only [wSeq, wSet, wOp, wUn, wVb, wV, wC, wRet, wRetV, wRetN, wIfS, wNx, wBrk, wCnt, wFor, wWalk, wEnum, wRng1, wRng2, wRev, walkD, gN, gT, gsC, gsN, wAnd, wOr, wNot, wCh, wTb, wTr, wtAnd, wtOr, wtNot, wClU, wCl, wClX, wClUX, wCons, wNil, wTup, wLst, wDk, wDt, wFld, wSl, woN, woS, wKw, wRaise, wNeg, wFrz, wApp, wExt, wDrop, wUnp, wIf, wYes, wDisp1, wSplit, wLvals, wOFld, wOGet, wMk, wMkX, wDSet, wDGet, wDIn, wScr, wMt, wMtX, startN, LEnv.at, tru, isT, isC, LV.dd, LV.fz, LV.seq, LV.lis, LV.tpl, Ty6.has, lenF, intF, listF, tupleF, anyF, sumF, eqF, sEq, isF, LV.isN, inF, ixF, ltI, leI, gtI, geI, ii0, iiF, subF, modF, mulF, mulF2, fdivF, addF, powF, slF, dsOf, D.sign, D.flat, List.map_cons, List.map_nil, List.length_cons, List.length_nil, List.cons_append, List.nil_append, List.append_nil, List.set_cons_zero, List.set_cons_succ, List.set_nil, Nat.sub_self, Nat.reduceSub, Nat.reduceAdd, List.replicate_succ, List.replicate_zero, Bool.false_eq_true, if_true, if_false, true_and, and_true, false_and, and_false, q, decide_false, Bool.not_false, isIf]
def isStmt : D → Bool
  | .tup (.str k :: rest) => if k = "set" ∨ k = "tell" ∨ k = "hear" then isDeal k rest
    else if k = "leave" ∨ k = "home" ∨ k = "fail" then rest.isEmpty
    else if k = "if" then isIf rest
    else match rest with
      | [v] => if k = "wait" then areRows v else if k = "open" then areBlocks v else decide (k = "repeat") && isBlk v
      | _ => false
  | _ => false
theorem in3 (k a b c : Str) : ([D.str a, D.str b, D.str c].any fun z => D.eqf z (.str k)) = decide (k = a ∨ k = b ∨ k = c) := by
  have f : ∀ x : Str, (x == k) = decide (k = x) := fun x => by
    by_cases h : k = x
    · subst h; simp
    · rw [decide_eq_false h]; simpa using fun z : x = k => h z.symm
  simp only [List.any_cons, List.any_nil, D.eqf, f, Bool.or_false]
  by_cases h1 : k = a <;> by_cases h2 : k = b <;> by_cases h3 : k = c <;> simp [h1, h2, h3]
theorem and3 (a b c : Str) (X : Prop) : (3 ≤ 1000 ∧ [D.str a, D.str b, D.str c].all D.flat = true ∧ X) = X := propext ⟨fun h => h.2.2, fun h => ⟨by decide, rfl, h⟩⟩
theorem e_stmt (x : D) (hx : good x = true) (P : LV → Unit → Prop) : m_is_statement [.d x] () P noX = P (.d (.bl (isStmt x))) () := by
  unfold m_is_statement mk0 u_is_statement
  cases x <;> try (simp [wSeq, wSet, wOp, wUn, wVb, wV, wC, wRet, wRetV, wRetN, wIfS, wNx, wBrk, wCnt, wFor, wWalk, wEnum, wRng1, wRng2, wRev, walkD, gN, gT, gsC, gsN, wAnd, wOr, wNot, wCh, wTb, wTr, wtAnd, wtOr, wtNot, wClU, wCl, wClX, wClUX, wCons, wNil, wTup, wLst, wDk, wDt, wFld, wSl, woN, woS, wKw, wRaise, wNeg, wFrz, wApp, wExt, wDrop, wUnp, wIf, wYes, wDisp1, wSplit, wLvals, wOFld, wOGet, wMk, wMkX, wDSet, wDGet, wDIn, wScr, wMt, wMtX, startN, LEnv.at, tru, isT, isC, LV.dd, LV.fz, LV.seq, LV.lis, LV.tpl, Ty6.has, lenF, intF, listF, tupleF, anyF, sumF, eqF, sEq, isF, LV.isN, inF, ixF, ltI, leI, gtI, geI, ii0, iiF, subF, modF, mulF, mulF2, fdivF, addF, powF, slF, dsOf, D.sign, D.flat, List.map_cons, List.map_nil, List.length_cons, List.length_nil, List.cons_append, List.nil_append, List.append_nil, List.set_cons_zero, List.set_cons_succ, List.set_nil, Nat.sub_self, Nat.reduceSub, Nat.reduceAdd, List.replicate_succ, List.replicate_zero, Bool.false_eq_true, if_true, if_false, true_and, and_true, false_and, and_false, isStmt]; done)
  · rename_i xs
    cases xs with
    | nil => simp [wSeq, wSet, wOp, wUn, wVb, wV, wC, wRet, wRetV, wRetN, wIfS, wNx, wBrk, wCnt, wFor, wWalk, wEnum, wRng1, wRng2, wRev, walkD, gN, gT, gsC, gsN, wAnd, wOr, wNot, wCh, wTb, wTr, wtAnd, wtOr, wtNot, wClU, wCl, wClX, wClUX, wCons, wNil, wTup, wLst, wDk, wDt, wFld, wSl, woN, woS, wKw, wRaise, wNeg, wFrz, wApp, wExt, wDrop, wUnp, wIf, wYes, wDisp1, wSplit, wLvals, wOFld, wOGet, wMk, wMkX, wDSet, wDGet, wDIn, wScr, wMt, wMtX, startN, LEnv.at, tru, isT, isC, LV.dd, LV.fz, LV.seq, LV.lis, LV.tpl, Ty6.has, lenF, intF, listF, tupleF, anyF, sumF, eqF, sEq, isF, LV.isN, inF, ixF, ltI, leI, gtI, geI, ii0, iiF, subF, modF, mulF, mulF2, fdivF, addF, powF, slF, dsOf, D.sign, D.flat, List.map_cons, List.map_nil, List.length_cons, List.length_nil, List.cons_append, List.nil_append, List.append_nil, List.set_cons_zero, List.set_cons_succ, List.set_nil, Nat.sub_self, Nat.reduceSub, Nat.reduceAdd, List.replicate_succ, List.replicate_zero, Bool.false_eq_true, if_true, if_false, true_and, and_true, false_and, and_false, isStmt]
    | cons y rest =>
      have hg := goods_cons (show goods (y :: rest) = true from hx)
      have q0 : ¬ (((rest.length + 1 : Nat) : Int) = 0) := by omega
      simp only [wSeq, wSet, wOp, wUn, wVb, wV, wC, wRet, wRetV, wRetN, wIfS, wNx, wBrk, wCnt, wFor, wWalk, wEnum, wRng1, wRng2, wRev, walkD, gN, gT, gsC, gsN, wAnd, wOr, wNot, wCh, wTb, wTr, wtAnd, wtOr, wtNot, wClU, wCl, wClX, wClUX, wCons, wNil, wTup, wLst, wDk, wDt, wFld, wSl, woN, woS, wKw, wRaise, wNeg, wFrz, wApp, wExt, wDrop, wUnp, wIf, wYes, wDisp1, wSplit, wLvals, wOFld, wOGet, wMk, wMkX, wDSet, wDGet, wDIn, wScr, wMt, wMtX, startN, LEnv.at, tru, isT, isC, LV.dd, LV.fz, LV.seq, LV.lis, LV.tpl, Ty6.has, lenF, intF, listF, tupleF, anyF, sumF, eqF, sEq, isF, LV.isN, inF, ixF, ltI, leI, gtI, geI, ii0, iiF, subF, modF, mulF, mulF2, fdivF, addF, powF, slF, dsOf, D.sign, D.flat, List.map_cons, List.map_nil, List.length_cons, List.length_nil, List.cons_append, List.nil_append, List.append_nil, List.set_cons_zero, List.set_cons_succ, List.set_nil, Nat.sub_self, Nat.reduceSub, Nat.reduceAdd, List.replicate_succ, List.replicate_zero, Bool.false_eq_true, if_true, if_false, true_and, and_true, false_and, and_false, at0, q0, decide_false, Bool.not_true, Bool.not_false]
      cases y <;> try (simp [wSeq, wSet, wOp, wUn, wVb, wV, wC, wRet, wRetV, wRetN, wIfS, wNx, wBrk, wCnt, wFor, wWalk, wEnum, wRng1, wRng2, wRev, walkD, gN, gT, gsC, gsN, wAnd, wOr, wNot, wCh, wTb, wTr, wtAnd, wtOr, wtNot, wClU, wCl, wClX, wClUX, wCons, wNil, wTup, wLst, wDk, wDt, wFld, wSl, woN, woS, wKw, wRaise, wNeg, wFrz, wApp, wExt, wDrop, wUnp, wIf, wYes, wDisp1, wSplit, wLvals, wOFld, wOGet, wMk, wMkX, wDSet, wDGet, wDIn, wScr, wMt, wMtX, startN, LEnv.at, tru, isT, isC, LV.dd, LV.fz, LV.seq, LV.lis, LV.tpl, Ty6.has, lenF, intF, listF, tupleF, anyF, sumF, eqF, sEq, isF, LV.isN, inF, ixF, ltI, leI, gtI, geI, ii0, iiF, subF, modF, mulF, mulF2, fdivF, addF, powF, slF, dsOf, D.sign, D.flat, List.map_cons, List.map_nil, List.length_cons, List.length_nil, List.cons_append, List.nil_append, List.append_nil, List.set_cons_zero, List.set_cons_succ, List.set_nil, Nat.sub_self, Nat.reduceSub, Nat.reduceAdd, List.replicate_succ, List.replicate_zero, Bool.false_eq_true, if_true, if_false, true_and, and_true, false_and, and_false, isStmt]; done)
      rename_i k
      simp only [wSeq, wSet, wOp, wUn, wVb, wV, wC, wRet, wRetV, wRetN, wIfS, wNx, wBrk, wCnt, wFor, wWalk, wEnum, wRng1, wRng2, wRev, walkD, gN, gT, gsC, gsN, wAnd, wOr, wNot, wCh, wTb, wTr, wtAnd, wtOr, wtNot, wClU, wCl, wClX, wClUX, wCons, wNil, wTup, wLst, wDk, wDt, wFld, wSl, woN, woS, wKw, wRaise, wNeg, wFrz, wApp, wExt, wDrop, wUnp, wIf, wYes, wDisp1, wSplit, wLvals, wOFld, wOGet, wMk, wMkX, wDSet, wDGet, wDIn, wScr, wMt, wMtX, startN, LEnv.at, tru, isT, isC, LV.dd, LV.fz, LV.seq, LV.lis, LV.tpl, Ty6.has, lenF, intF, listF, tupleF, anyF, sumF, eqF, sEq, isF, LV.isN, inF, ixF, ltI, leI, gtI, geI, ii0, iiF, subF, modF, mulF, mulF2, fdivF, addF, powF, slF, dsOf, D.sign, D.flat, List.map_cons, List.map_nil, List.length_cons, List.length_nil, List.cons_append, List.nil_append, List.append_nil, List.set_cons_zero, List.set_cons_succ, List.set_nil, Nat.sub_self, Nat.reduceSub, Nat.reduceAdd, List.replicate_succ, List.replicate_zero, Bool.false_eq_true, if_true, if_false, true_and, and_true, false_and, and_false, Bool.not_true, in3, e_deal k rest hg.2, e_if k rest hg.2]
      simp only [and3, decide_eq_true_eq, isStmt]
      by_cases k1 : k = "set" ∨ k = "tell" ∨ k = "hear"
      · simp only [k1, if_true]
      · simp only [k1, if_false]
        by_cases k2 : k = "leave" ∨ k = "home" ∨ k = "fail"
        · simp only [k2, if_true]
          cases rest with
          | nil => simp
          | cons y r =>
            have q : ¬ (((r.length + 1 + 1 : Nat) : Int) = 1) := by omega
            simp only [wSeq, wSet, wOp, wUn, wVb, wV, wC, wRet, wRetV, wRetN, wIfS, wNx, wBrk, wCnt, wFor, wWalk, wEnum, wRng1, wRng2, wRev, walkD, gN, gT, gsC, gsN, wAnd, wOr, wNot, wCh, wTb, wTr, wtAnd, wtOr, wtNot, wClU, wCl, wClX, wClUX, wCons, wNil, wTup, wLst, wDk, wDt, wFld, wSl, woN, woS, wKw, wRaise, wNeg, wFrz, wApp, wExt, wDrop, wUnp, wIf, wYes, wDisp1, wSplit, wLvals, wOFld, wOGet, wMk, wMkX, wDSet, wDGet, wDIn, wScr, wMt, wMtX, startN, LEnv.at, tru, isT, isC, LV.dd, LV.fz, LV.seq, LV.lis, LV.tpl, Ty6.has, lenF, intF, listF, tupleF, anyF, sumF, eqF, sEq, isF, LV.isN, inF, ixF, ltI, leI, gtI, geI, ii0, iiF, subF, modF, mulF, mulF2, fdivF, addF, powF, slF, dsOf, D.sign, D.flat, List.map_cons, List.map_nil, List.length_cons, List.length_nil, List.cons_append, List.nil_append, List.append_nil, List.set_cons_zero, List.set_cons_succ, List.set_nil, Nat.sub_self, Nat.reduceSub, Nat.reduceAdd, List.replicate_succ, List.replicate_zero, Bool.false_eq_true, if_true, if_false, true_and, and_true, false_and, and_false, q, decide_false, List.isEmpty_cons]
        · simp only [k2, if_false]
          by_cases k3 : k = "if"
          · simp only [k3, if_true]
          · simp only [k3, if_false]
            match rest, hg.2 with
            | [], _ => simp
            | [v], hv =>
              have gv := goods_cons hv
              simp only [wSeq, wSet, wOp, wUn, wVb, wV, wC, wRet, wRetV, wRetN, wIfS, wNx, wBrk, wCnt, wFor, wWalk, wEnum, wRng1, wRng2, wRev, walkD, gN, gT, gsC, gsN, wAnd, wOr, wNot, wCh, wTb, wTr, wtAnd, wtOr, wtNot, wClU, wCl, wClX, wClUX, wCons, wNil, wTup, wLst, wDk, wDt, wFld, wSl, woN, woS, wKw, wRaise, wNeg, wFrz, wApp, wExt, wDrop, wUnp, wIf, wYes, wDisp1, wSplit, wLvals, wOFld, wOGet, wMk, wMkX, wDSet, wDGet, wDIn, wScr, wMt, wMtX, startN, LEnv.at, tru, isT, isC, LV.dd, LV.fz, LV.seq, LV.lis, LV.tpl, Ty6.has, lenF, intF, listF, tupleF, anyF, sumF, eqF, sEq, isF, LV.isN, inF, ixF, ltI, leI, gtI, geI, ii0, iiF, subF, modF, mulF, mulF2, fdivF, addF, powF, slF, dsOf, D.sign, D.flat, List.map_cons, List.map_nil, List.length_cons, List.length_nil, List.cons_append, List.nil_append, List.append_nil, List.set_cons_zero, List.set_cons_succ, List.set_nil, Nat.sub_self, Nat.reduceSub, Nat.reduceAdd, List.replicate_succ, List.replicate_zero, Bool.false_eq_true, if_true, if_false, true_and, and_true, false_and, and_false, at1, e_rows v gv.1, e_blocks v gv.1, e_blk]
              by_cases k4 : k = "wait"
              · simp only [k4, if_true, decide_true]
                rfl
              · by_cases k5 : k = "open"
                · simp only [k4, if_false]
                  simp only [k5, if_true]
                  rfl
                · simp only [k4, k5, if_false]
                  by_cases k6 : k = "repeat"
                  · simp only [k6, decide_true, Bool.true_and]
                    rfl
                  · simp only [k6, decide_false, Bool.false_and]
                    rfl
            | a :: b :: r, _ =>
              have q : ¬ (((r.length + 1 + 1 + 1 : Nat) : Int) = 2) := by omega
              simp only [wSeq, wSet, wOp, wUn, wVb, wV, wC, wRet, wRetV, wRetN, wIfS, wNx, wBrk, wCnt, wFor, wWalk, wEnum, wRng1, wRng2, wRev, walkD, gN, gT, gsC, gsN, wAnd, wOr, wNot, wCh, wTb, wTr, wtAnd, wtOr, wtNot, wClU, wCl, wClX, wClUX, wCons, wNil, wTup, wLst, wDk, wDt, wFld, wSl, woN, woS, wKw, wRaise, wNeg, wFrz, wApp, wExt, wDrop, wUnp, wIf, wYes, wDisp1, wSplit, wLvals, wOFld, wOGet, wMk, wMkX, wDSet, wDGet, wDIn, wScr, wMt, wMtX, startN, LEnv.at, tru, isT, isC, LV.dd, LV.fz, LV.seq, LV.lis, LV.tpl, Ty6.has, lenF, intF, listF, tupleF, anyF, sumF, eqF, sEq, isF, LV.isN, inF, ixF, ltI, leI, gtI, geI, ii0, iiF, subF, modF, mulF, mulF2, fdivF, addF, powF, slF, dsOf, D.sign, D.flat, List.map_cons, List.map_nil, List.length_cons, List.length_nil, List.cons_append, List.nil_append, List.append_nil, List.set_cons_zero, List.set_cons_succ, List.set_nil, Nat.sub_self, Nat.reduceSub, Nat.reduceAdd, List.replicate_succ, List.replicate_zero, Bool.false_eq_true, if_true, if_false, true_and, and_true, false_and, and_false, q, decide_false, Bool.not_false]
  · exact absurd hx (by simp [good])
end LW
namespace LW
open PySem PySem.Spec PyProof.Rows L2 DL
/-! the blocks of a statement -/
def third : D → D
  | .tup [_, _, b] => b
  | x => x
def itemsOf : D → List D
  | .tup xs => xs
  | _ => []
def blocksOf : D → List D
  | .tup (.str k :: rest) => if k = "wait" then (match rest with | [v] => (itemsOf v).map third | _ => [])
    else if k = "open" then (match rest with | [v] => itemsOf v | _ => [])
    else if k = "if" then (match rest with | [_, b, c] => [b, c] | _ => [])
    else if k = "repeat" then (match rest with | [v] => [v] | _ => []) else []
  | _ => []
theorem rows_three : ∀ {l ps : List D}, rowsOk l ps = true → ∀ r ∈ l, ∃ p a b, r = .tup [p, a, b]
  | [], _, _, r, h => by cases h
  | x :: l, ps, e, r, h => by
    unfold rowsOk at e
    split at e
    · rename_i p a b
      simp only [Bool.and_eq_true] at e
      rcases List.mem_cons.mp h with z | z
      · exact ⟨p, a, b, z⟩
      · exact rows_three e.2 r z
    · cases e
theorem lc_rows (x o : Option LV) (P : LV → Unit → Prop) : ∀ (l acc : List D), (∀ r ∈ l, ∃ p a b, r = D.tup [p, a, b]) → wLcGo (gN 2) wYes (wOp ixF (wVb 2) (wC (.int 2))) [x, o, none] P l acc () = P (.l (acc ++ l.map third)) ()
  | [], acc, _ => by rw [List.map_nil, List.append_nil]; rfl
  | r :: l, acc, h => by
    obtain ⟨p, a, b, e⟩ := h r List.mem_cons_self
    subst e
    have ih := lc_rows x o P l (acc ++ [b]) fun q hq => h q (List.mem_cons_of_mem _ hq)
    unfold wLcGo
    simp only [wSeq, wSet, wOp, wUn, wVb, wV, wC, wRet, wRetV, wRetN, wIfS, wNx, wBrk, wCnt, wFor, wWalk, wEnum, wRng1, wRng2, wRev, walkD, gN, gT, gsC, gsN, wAnd, wOr, wNot, wCh, wTb, wTr, wtAnd, wtOr, wtNot, wClU, wCl, wClX, wClUX, wCons, wNil, wTup, wLst, wDk, wDt, wFld, wSl, woN, woS, wKw, wRaise, wNeg, wFrz, wApp, wExt, wDrop, wUnp, wIf, wYes, wDisp1, wSplit, wLvals, wOFld, wOGet, wMk, wMkX, wDSet, wDGet, wDIn, wScr, wMt, wMtX, startN, LEnv.at, tru, isT, isC, LV.dd, LV.fz, LV.seq, LV.lis, LV.tpl, Ty6.has, lenF, intF, listF, tupleF, anyF, sumF, eqF, sEq, isF, LV.isN, inF, ixF, ltI, leI, gtI, geI, ii0, iiF, subF, modF, mulF, mulF2, listF2, LV.dt, fdivF, addF, powF, slF, dsOf, D.sign, D.flat, List.map_cons, List.map_nil, List.length_cons, List.length_nil, List.cons_append, List.nil_append, List.append_nil, List.set_cons_zero, List.set_cons_succ, List.set_nil, Nat.sub_self, Nat.reduceSub, Nat.reduceAdd, List.replicate_succ, List.replicate_zero, Bool.false_eq_true, if_true, if_false, true_and, and_true, false_and, and_false, at2]
    rw [ih, List.append_assoc]
    rfl
theorem e_blocksof (x : D) (hs : isStmt x = true) (P : LV → Unit → Prop) : m_blocks_of [.d x] () P noX = P (.l (blocksOf x)) () := by
  unfold m_blocks_of mk0 u_blocks_of
  unfold isStmt at hs
  split at hs
  · rename_i k rest
    simp only [wSeq, wSet, wOp, wUn, wVb, wV, wC, wRet, wRetV, wRetN, wIfS, wNx, wBrk, wCnt, wFor, wWalk, wEnum, wRng1, wRng2, wRev, walkD, gN, gT, gsC, gsN, wAnd, wOr, wNot, wCh, wTb, wTr, wtAnd, wtOr, wtNot, wClU, wCl, wClX, wClUX, wCons, wNil, wTup, wLst, wDk, wDt, wFld, wSl, woN, woS, wKw, wRaise, wNeg, wFrz, wApp, wExt, wDrop, wUnp, wIf, wYes, wDisp1, wSplit, wLvals, wOFld, wOGet, wMk, wMkX, wDSet, wDGet, wDIn, wScr, wMt, wMtX, startN, LEnv.at, tru, isT, isC, LV.dd, LV.fz, LV.seq, LV.lis, LV.tpl, Ty6.has, lenF, intF, listF, tupleF, anyF, sumF, eqF, sEq, isF, LV.isN, inF, ixF, ltI, leI, gtI, geI, ii0, iiF, subF, modF, mulF, mulF2, listF2, LV.dt, fdivF, addF, powF, slF, dsOf, D.sign, D.flat, List.map_cons, List.map_nil, List.length_cons, List.length_nil, List.cons_append, List.nil_append, List.append_nil, List.set_cons_zero, List.set_cons_succ, List.set_nil, Nat.sub_self, Nat.reduceSub, Nat.reduceAdd, List.replicate_succ, List.replicate_zero, Bool.false_eq_true, if_true, if_false, true_and, and_true, false_and, and_false, at0, decide_eq_true_eq]
    unfold blocksOf
    by_cases k1 : k = "wait"
    · have n1 : ¬ (k = "set" ∨ k = "tell" ∨ k = "hear") := by rw [k1]; decide
      have n2 : ¬ (k = "leave" ∨ k = "home" ∨ k = "fail") := by rw [k1]; decide
      have n3 : ¬ k = "if" := by rw [k1]; decide
      simp only [n1, n2, n3, if_false] at hs
      split at hs
      · rename_i v
        rw [if_pos k1] at hs
        simp only [k1, if_true, wSeq, wSet, wOp, wUn, wVb, wV, wC, wRet, wRetV, wRetN, wIfS, wNx, wBrk, wCnt, wFor, wWalk, wEnum, wRng1, wRng2, wRev, walkD, gN, gT, gsC, gsN, wAnd, wOr, wNot, wCh, wTb, wTr, wtAnd, wtOr, wtNot, wClU, wCl, wClX, wClUX, wCons, wNil, wTup, wLst, wDk, wDt, wFld, wSl, woN, woS, wKw, wRaise, wNeg, wFrz, wApp, wExt, wDrop, wUnp, wIf, wYes, wDisp1, wSplit, wLvals, wOFld, wOGet, wMk, wMkX, wDSet, wDGet, wDIn, wScr, wMt, wMtX, startN, LEnv.at, tru, isT, isC, LV.dd, LV.fz, LV.seq, LV.lis, LV.tpl, Ty6.has, lenF, intF, listF, tupleF, anyF, sumF, eqF, sEq, isF, LV.isN, inF, ixF, ltI, leI, gtI, geI, ii0, iiF, subF, modF, mulF, mulF2, listF2, LV.dt, fdivF, addF, powF, slF, dsOf, D.sign, D.flat, List.map_cons, List.map_nil, List.length_cons, List.length_nil, List.cons_append, List.nil_append, List.append_nil, List.set_cons_zero, List.set_cons_succ, List.set_nil, Nat.sub_self, Nat.reduceSub, Nat.reduceAdd, List.replicate_succ, List.replicate_zero, Bool.false_eq_true, if_true, if_false, true_and, and_true, false_and, and_false, at1]
        cases v <;> try (simp [areRows] at hs; done)
        rename_i xs
        unfold areRows at hs
        simp only [Bool.and_eq_true, decide_eq_true_eq] at hs
        have hl : xs.length ≤ sizeLine := small_line (by omega)
        simp only [wLc, wSeq, wSet, wOp, wUn, wVb, wV, wC, wRet, wRetV, wRetN, wIfS, wNx, wBrk, wCnt, wFor, wWalk, wEnum, wRng1, wRng2, wRev, walkD, gN, gT, gsC, gsN, wAnd, wOr, wNot, wCh, wTb, wTr, wtAnd, wtOr, wtNot, wClU, wCl, wClX, wClUX, wCons, wNil, wTup, wLst, wDk, wDt, wFld, wSl, woN, woS, wKw, wRaise, wNeg, wFrz, wApp, wExt, wDrop, wUnp, wIf, wYes, wDisp1, wSplit, wLvals, wOFld, wOGet, wMk, wMkX, wDSet, wDGet, wDIn, wScr, wMt, wMtX, startN, LEnv.at, tru, isT, isC, LV.dd, LV.fz, LV.seq, LV.lis, LV.tpl, Ty6.has, lenF, intF, listF, tupleF, anyF, sumF, eqF, sEq, isF, LV.isN, inF, ixF, ltI, leI, gtI, geI, ii0, iiF, subF, modF, mulF, mulF2, listF2, LV.dt, fdivF, addF, powF, slF, dsOf, D.sign, D.flat, List.map_cons, List.map_nil, List.length_cons, List.length_nil, List.cons_append, List.nil_append, List.append_nil, List.set_cons_zero, List.set_cons_succ, List.set_nil, Nat.sub_self, Nat.reduceSub, Nat.reduceAdd, List.replicate_succ, List.replicate_zero, Bool.false_eq_true, if_true, if_false, true_and, and_true, false_and, and_false, at1, hl, wipeE]
        exact lc_rows _ _ _ xs [] (rows_three hs.2)
      · cases hs
    · simp only [k1, if_false]
      by_cases k2 : k = "open"
      · have n1 : ¬ (k = "set" ∨ k = "tell" ∨ k = "hear") := by rw [k2]; decide
        have n2 : ¬ (k = "leave" ∨ k = "home" ∨ k = "fail") := by rw [k2]; decide
        have n3 : ¬ k = "if" := by rw [k2]; decide
        simp only [n1, n2, n3, if_false] at hs
        split at hs
        · rename_i v
          rw [if_neg k1, if_pos k2] at hs
          simp only [k2, if_true, wSeq, wSet, wOp, wUn, wVb, wV, wC, wRet, wRetV, wRetN, wIfS, wNx, wBrk, wCnt, wFor, wWalk, wEnum, wRng1, wRng2, wRev, walkD, gN, gT, gsC, gsN, wAnd, wOr, wNot, wCh, wTb, wTr, wtAnd, wtOr, wtNot, wClU, wCl, wClX, wClUX, wCons, wNil, wTup, wLst, wDk, wDt, wFld, wSl, woN, woS, wKw, wRaise, wNeg, wFrz, wApp, wExt, wDrop, wUnp, wIf, wYes, wDisp1, wSplit, wLvals, wOFld, wOGet, wMk, wMkX, wDSet, wDGet, wDIn, wScr, wMt, wMtX, startN, LEnv.at, tru, isT, isC, LV.dd, LV.fz, LV.seq, LV.lis, LV.tpl, Ty6.has, lenF, intF, listF, tupleF, anyF, sumF, eqF, sEq, isF, LV.isN, inF, ixF, ltI, leI, gtI, geI, ii0, iiF, subF, modF, mulF, mulF2, listF2, LV.dt, fdivF, addF, powF, slF, dsOf, D.sign, D.flat, List.map_cons, List.map_nil, List.length_cons, List.length_nil, List.cons_append, List.nil_append, List.append_nil, List.set_cons_zero, List.set_cons_succ, List.set_nil, Nat.sub_self, Nat.reduceSub, Nat.reduceAdd, List.replicate_succ, List.replicate_zero, Bool.false_eq_true, if_true, if_false, true_and, and_true, false_and, and_false, at1]
          cases v <;> try (simp [areBlocks] at hs; done)
          simp [wSeq, wSet, wOp, wUn, wVb, wV, wC, wRet, wRetV, wRetN, wIfS, wNx, wBrk, wCnt, wFor, wWalk, wEnum, wRng1, wRng2, wRev, walkD, gN, gT, gsC, gsN, wAnd, wOr, wNot, wCh, wTb, wTr, wtAnd, wtOr, wtNot, wClU, wCl, wClX, wClUX, wCons, wNil, wTup, wLst, wDk, wDt, wFld, wSl, woN, woS, wKw, wRaise, wNeg, wFrz, wApp, wExt, wDrop, wUnp, wIf, wYes, wDisp1, wSplit, wLvals, wOFld, wOGet, wMk, wMkX, wDSet, wDGet, wDIn, wScr, wMt, wMtX, startN, LEnv.at, tru, isT, isC, LV.dd, LV.fz, LV.seq, LV.lis, LV.tpl, Ty6.has, lenF, intF, listF, tupleF, anyF, sumF, eqF, sEq, isF, LV.isN, inF, ixF, ltI, leI, gtI, geI, ii0, iiF, subF, modF, mulF, mulF2, listF2, LV.dt, fdivF, addF, powF, slF, dsOf, D.sign, D.flat, List.map_cons, List.map_nil, List.length_cons, List.length_nil, List.cons_append, List.nil_append, List.append_nil, List.set_cons_zero, List.set_cons_succ, List.set_nil, Nat.sub_self, Nat.reduceSub, Nat.reduceAdd, List.replicate_succ, List.replicate_zero, Bool.false_eq_true, if_true, if_false, true_and, and_true, false_and, and_false, itemsOf]
        · cases hs
      · simp only [k2, if_false]
        by_cases k3 : k = "if"
        · have n1 : ¬ (k = "set" ∨ k = "tell" ∨ k = "hear") := by rw [k3]; decide
          have n2 : ¬ (k = "leave" ∨ k = "home" ∨ k = "fail") := by rw [k3]; decide
          simp only [n1, n2, if_false, if_pos k3] at hs
          unfold isIf at hs
          split at hs
          · rename_i a b c
            simp [k3, wSeq, wSet, wOp, wUn, wVb, wV, wC, wRet, wRetV, wRetN, wIfS, wNx, wBrk, wCnt, wFor, wWalk, wEnum, wRng1, wRng2, wRev, walkD, gN, gT, gsC, gsN, wAnd, wOr, wNot, wCh, wTb, wTr, wtAnd, wtOr, wtNot, wClU, wCl, wClX, wClUX, wCons, wNil, wTup, wLst, wDk, wDt, wFld, wSl, woN, woS, wKw, wRaise, wNeg, wFrz, wApp, wExt, wDrop, wUnp, wIf, wYes, wDisp1, wSplit, wLvals, wOFld, wOGet, wMk, wMkX, wDSet, wDGet, wDIn, wScr, wMt, wMtX, startN, LEnv.at, tru, isT, isC, LV.dd, LV.fz, LV.seq, LV.lis, LV.tpl, Ty6.has, lenF, intF, listF, tupleF, anyF, sumF, eqF, sEq, isF, LV.isN, inF, ixF, ltI, leI, gtI, geI, ii0, iiF, subF, modF, mulF, mulF2, listF2, LV.dt, fdivF, addF, powF, slF, dsOf, D.sign, D.flat, List.map_cons, List.map_nil, List.length_cons, List.length_nil, List.cons_append, List.nil_append, List.append_nil, List.set_cons_zero, List.set_cons_succ, List.set_nil, Nat.sub_self, Nat.reduceSub, Nat.reduceAdd, List.replicate_succ, List.replicate_zero, Bool.false_eq_true, if_true, if_false, true_and, and_true, false_and, and_false, at2, at3]
          · cases hs
        · simp only [k3, if_false]
          by_cases k4 : k = "repeat"
          · have n1 : ¬ (k = "set" ∨ k = "tell" ∨ k = "hear") := by rw [k4]; decide
            have n2 : ¬ (k = "leave" ∨ k = "home" ∨ k = "fail") := by rw [k4]; decide
            simp only [n1, n2, k3, if_false] at hs
            split at hs
            · simp [k4, wSeq, wSet, wOp, wUn, wVb, wV, wC, wRet, wRetV, wRetN, wIfS, wNx, wBrk, wCnt, wFor, wWalk, wEnum, wRng1, wRng2, wRev, walkD, gN, gT, gsC, gsN, wAnd, wOr, wNot, wCh, wTb, wTr, wtAnd, wtOr, wtNot, wClU, wCl, wClX, wClUX, wCons, wNil, wTup, wLst, wDk, wDt, wFld, wSl, woN, woS, wKw, wRaise, wNeg, wFrz, wApp, wExt, wDrop, wUnp, wIf, wYes, wDisp1, wSplit, wLvals, wOFld, wOGet, wMk, wMkX, wDSet, wDGet, wDIn, wScr, wMt, wMtX, startN, LEnv.at, tru, isT, isC, LV.dd, LV.fz, LV.seq, LV.lis, LV.tpl, Ty6.has, lenF, intF, listF, tupleF, anyF, sumF, eqF, sEq, isF, LV.isN, inF, ixF, ltI, leI, gtI, geI, ii0, iiF, subF, modF, mulF, mulF2, listF2, LV.dt, fdivF, addF, powF, slF, dsOf, D.sign, D.flat, List.map_cons, List.map_nil, List.length_cons, List.length_nil, List.cons_append, List.nil_append, List.append_nil, List.set_cons_zero, List.set_cons_succ, List.set_nil, Nat.sub_self, Nat.reduceSub, Nat.reduceAdd, List.replicate_succ, List.replicate_zero, Bool.false_eq_true, if_true, if_false, true_and, and_true, false_and, and_false, at1]
            · cases hs
          · simp [k4, wSeq, wSet, wOp, wUn, wVb, wV, wC, wRet, wRetV, wRetN, wIfS, wNx, wBrk, wCnt, wFor, wWalk, wEnum, wRng1, wRng2, wRev, walkD, gN, gT, gsC, gsN, wAnd, wOr, wNot, wCh, wTb, wTr, wtAnd, wtOr, wtNot, wClU, wCl, wClX, wClUX, wCons, wNil, wTup, wLst, wDk, wDt, wFld, wSl, woN, woS, wKw, wRaise, wNeg, wFrz, wApp, wExt, wDrop, wUnp, wIf, wYes, wDisp1, wSplit, wLvals, wOFld, wOGet, wMk, wMkX, wDSet, wDGet, wDIn, wScr, wMt, wMtX, startN, LEnv.at, tru, isT, isC, LV.dd, LV.fz, LV.seq, LV.lis, LV.tpl, Ty6.has, lenF, intF, listF, tupleF, anyF, sumF, eqF, sEq, isF, LV.isN, inF, ixF, ltI, leI, gtI, geI, ii0, iiF, subF, modF, mulF, mulF2, listF2, LV.dt, fdivF, addF, powF, slF, dsOf, D.sign, D.flat, List.map_cons, List.map_nil, List.length_cons, List.length_nil, List.cons_append, List.nil_append, List.append_nil, List.set_cons_zero, List.set_cons_succ, List.set_nil, Nat.sub_self, Nat.reduceSub, Nat.reduceAdd, List.replicate_succ, List.replicate_zero, Bool.false_eq_true, if_true, if_false, true_and, and_true, false_and, and_false]
  · cases hs
end LW
namespace LW
open PySem PySem.Spec PyProof.Rows L2 DL
/-! the ways through a block -/
def prD (p : Bool × Bool) : D := .tup [.bl p.1, .bl p.2]
def wThr (f : D → Bool × Bool) : List D → Bool → Bool × Bool
  | [], left => (true, left)
  | x :: r, left => if (f x).1 = true then wThr f r (left || (f x).2) else (false, left || (f x).2)
def headW : D → Str
  | .tup (.str k :: _) => k
  | _ => ""
def waysOf : Nat → D → Int → Bool × Bool
  | 0, _, _ => (false, false)
  | n + 1, x, d => if isStmt x = false then (false, false) else if headW x = "set" then (true, false) else if headW x = "leave" then (false, true)
    else if ¬ (headW x = "if" ∨ headW x = "open" ∨ headW x = "repeat") ∨ 12 ≤ d then (false, false)
    else if headW x = "repeat" then (((blocksOf x).map fun b => wThr (fun y => waysOf n y (d + 1)) (itemsOf b) false).any (·.2), false)
    else (((blocksOf x).map fun b => wThr (fun y => waysOf n y (d + 1)) (itemsOf b) false).any (·.1), ((blocksOf x).map fun b => wThr (fun y => waysOf n y (d + 1)) (itemsOf b) false).any (·.2))
theorem stmt_head {x : D} (h : isStmt x = true) : ∃ k rest, x = .tup (.str k :: rest) := by
  unfold isStmt at h
  split at h
  · exact ⟨_, _, rfl⟩
  · cases h
theorem blsOf_map : ∀ bs : List Bool, blsOf (bs.map D.bl) = some bs
  | [] => rfl
  | b :: bs => by show (match blsOf (bs.map D.bl) with | some r => some (b :: r) | none => none) = _; rw [blsOf_map bs]
theorem gT2 (a b : D) (i j : Nat) (env : LEnv) (k : LEnv → Prop) : gT 2 (gsC (gN i) (gsC (gN j) gsN)) (.tup [a, b]) env k = k ((env.set i (some (.d a))).set j (some (.d b))) := by
  simp [gT, gsC, gN, gsN]
def thrBody (m : MF Unit) : WS Unit := wSeq (wUnp (wClU m [] (wCons (wV 3) (wCons (wV 1) wNil))) (gT 2 (gsC (gN 4) (gsC (gN 5) gsN))))
    (wSeq (wSet 2 (wOr (wV 2) (wV 5)))
    (wIfS (wtNot (wTr (wVb 4))) (wRet (wTup (wCons (wC (.bl false)) (wCons (wV 2) wNil)))) wNx))
theorem thr_loop (m : MF Unit) (f : D → Bool × Bool) (d : Int) (M : ED Unit) (x0 : Option LV) (R : Bool → Prop) (hR : ∀ b o3 o4 o5, M.nx [x0, some (.d (.int d)), some (.d (.bl b)), o3, o4, o5] () = R b) :
    ∀ (l : List D) (b : Bool) (o3 o4 o5 : Option LV), (∀ y ∈ l, ∀ P, m [.d y, .d (.int d)] () P noX = P (.d (prD (f y))) ()) →
      wGo (gN 3) (thrBody m) M l [x0, some (.d (.int d)), some (.d (.bl b)), o3, o4, o5] () = (if (wThr f l b).1 = true then R (wThr f l b).2 else M.rt (.d (prD (false, (wThr f l b).2))) ())
  | [], b, o3, o4, o5, _ => by show M.nx [x0, _, _, o3, o4, o5] () = _; rw [hR]; simp [wThr]
  | y :: l, b, o3, o4, o5, hm => by
    show gN 3 y [x0, some (.d (.int d)), some (.d (.bl b)), o3, o4, o5] (fun env' => thrBody m { M with nx := wGo (gN 3) (thrBody m) M l, ct := wGo (gN 3) (thrBody m) M l, bk := M.nx } env' ()) = _
    have ih := thr_loop m f d M x0 R hR l
    have hy := hm y List.mem_cons_self
    unfold thrBody at *
    simp only [wSeq, wUnp, wClU, wCons, wV, wNil, gN, LEnv.at, LV.fz, List.cons_append, List.nil_append, List.append_nil, hy, prD, gT2, List.set_cons_succ, List.set_cons_zero]
    cases h1 : (f y).1 with
    | true =>
      have e : wThr f (y :: l) b = wThr f l (b || (f y).2) := by simp [wThr, h1]
      rw [e]
      cases b <;> (simp only [wSeq, wSet, wOp, wUn, wVb, wV, wC, wRet, wRetV, wRetN, wIfS, wNx, wBrk, wCnt, wFor, wWalk, wEnum, wRng1, wRng2, wRev, walkD, gN, gT, gsC, gsN, wAnd, wOr, wNot, wCh, wTb, wTr, wtAnd, wtOr, wtNot, wClU, wCl, wClX, wClUX, wCons, wNil, wTup, wLst, wDk, wDt, wFld, wSl, woN, woS, wKw, wRaise, wNeg, wFrz, wApp, wExt, wDrop, wUnp, wIf, wYes, wDisp1, wSplit, wLvals, wOFld, wOGet, wMk, wMkX, wDSet, wDGet, wDIn, wScr, wMt, wMtX, startN, LEnv.at, tru, isT, isC, LV.dd, LV.fz, LV.seq, LV.lis, LV.tpl, Ty6.has, lenF, intF, listF, tupleF, anyF, sumF, eqF, sEq, isF, LV.isN, inF, ixF, ltI, leI, gtI, geI, ii0, iiF, subF, modF, mulF, mulF2, listF2, LV.dt, fdivF, addF, powF, slF, dsOf, D.sign, D.flat, List.map_cons, List.map_nil, List.length_cons, List.length_nil, List.cons_append, List.nil_append, List.append_nil, List.set_cons_zero, List.set_cons_succ, List.set_nil, Nat.sub_self, Nat.reduceSub, Nat.reduceAdd, List.replicate_succ, List.replicate_zero, Bool.false_eq_true, if_true, if_false, true_and, and_true, false_and, and_false, Bool.not_true, Bool.true_or, Bool.false_or]; exact ih _ _ _ _ fun z hz => hm z (List.mem_cons_of_mem _ hz))
    | false =>
      have e : wThr f (y :: l) b = (false, b || (f y).2) := by simp [wThr, h1]
      rw [e]
      cases b <;> simp [wSeq, wSet, wOp, wUn, wVb, wV, wC, wRet, wRetV, wRetN, wIfS, wNx, wBrk, wCnt, wFor, wWalk, wEnum, wRng1, wRng2, wRev, walkD, gN, gT, gsC, gsN, wAnd, wOr, wNot, wCh, wTb, wTr, wtAnd, wtOr, wtNot, wClU, wCl, wClX, wClUX, wCons, wNil, wTup, wLst, wDk, wDt, wFld, wSl, woN, woS, wKw, wRaise, wNeg, wFrz, wApp, wExt, wDrop, wUnp, wIf, wYes, wDisp1, wSplit, wLvals, wOFld, wOGet, wMk, wMkX, wDSet, wDGet, wDIn, wScr, wMt, wMtX, startN, LEnv.at, tru, isT, isC, LV.dd, LV.fz, LV.seq, LV.lis, LV.tpl, Ty6.has, lenF, intF, listF, tupleF, anyF, sumF, eqF, sEq, isF, LV.isN, inF, ixF, ltI, leI, gtI, geI, ii0, iiF, subF, modF, mulF, mulF2, listF2, LV.dt, fdivF, addF, powF, slF, dsOf, D.sign, D.flat, List.map_cons, List.map_nil, List.length_cons, List.length_nil, List.cons_append, List.nil_append, List.append_nil, List.set_cons_zero, List.set_cons_succ, List.set_nil, Nat.sub_self, Nat.reduceSub, Nat.reduceAdd, List.replicate_succ, List.replicate_zero, Bool.false_eq_true, if_true, if_false, true_and, and_true, false_and, and_false, prD]
theorem lc_thr (m : MF Unit) (f : D → Bool × Bool) (d : Int) (x0 o2 o3 o4 o5 o6 : Option LV) (P : LV → Unit → Prop) : ∀ (l acc : List D), (∀ y ∈ l, ∀ P, m [.d y, .d (.int (d + 1))] () P noX = P (.d (prD (f y))) ()) →
    wLcGo (gN 5) wYes (wClU m [] (wCons (wV 5) (wCons (wOp addF (wVb 1) (wC (.int 1))) wNil))) [x0, some (.d (.int d)), o2, o3, o4, o5, o6] P l acc () = P (.l (acc ++ l.map fun b => prD (f b))) ()
  | [], acc, _ => by rw [List.map_nil, List.append_nil]; rfl
  | y :: l, acc, hm => by
    have ih := lc_thr m f d x0 o2 o3 o4 o5 o6 P l (acc ++ [prD (f y)]) fun q hq => hm q (List.mem_cons_of_mem _ hq)
    have hy := hm y List.mem_cons_self
    unfold wLcGo
    simp only [wSeq, wSet, wOp, wUn, wVb, wV, wC, wRet, wRetV, wRetN, wIfS, wNx, wBrk, wCnt, wFor, wWalk, wEnum, wRng1, wRng2, wRev, walkD, gN, gT, gsC, gsN, wAnd, wOr, wNot, wCh, wTb, wTr, wtAnd, wtOr, wtNot, wClU, wCl, wClX, wClUX, wCons, wNil, wTup, wLst, wDk, wDt, wFld, wSl, woN, woS, wKw, wRaise, wNeg, wFrz, wApp, wExt, wDrop, wUnp, wIf, wYes, wDisp1, wSplit, wLvals, wOFld, wOGet, wMk, wMkX, wDSet, wDGet, wDIn, wScr, wMt, wMtX, startN, LEnv.at, tru, isT, isC, LV.dd, LV.fz, LV.seq, LV.lis, LV.tpl, Ty6.has, lenF, intF, listF, tupleF, anyF, sumF, eqF, sEq, isF, LV.isN, inF, ixF, ltI, leI, gtI, geI, ii0, iiF, subF, modF, mulF, mulF2, listF2, LV.dt, fdivF, addF, powF, slF, dsOf, D.sign, D.flat, List.map_cons, List.map_nil, List.length_cons, List.length_nil, List.cons_append, List.nil_append, List.append_nil, List.set_cons_zero, List.set_cons_succ, List.set_nil, Nat.sub_self, Nat.reduceSub, Nat.reduceAdd, List.replicate_succ, List.replicate_zero, Bool.false_eq_true, if_true, if_false, true_and, and_true, false_and, and_false, hy]
    rw [ih, List.append_assoc]
    rfl
theorem lc_pick (j : Nat) (g : Bool × Bool → Bool) (i : Int) (hg : ∀ p, atI [D.bl p.1, D.bl p.2] i = some (.bl (g p))) (x0 o1 o2 o3 o4 o5 o6 : Option LV) (P : LV → Unit → Prop) : ∀ (l : List (Bool × Bool)) (acc : List D),
    wLcGo (gN 6) wYes (wOp ixF (wVb 6) (wC (.int i))) [x0, o1, o2, o3, o4, o5, o6] P (l.map prD) acc () = P (.l (acc ++ (l.map g).map D.bl)) ()
  | [], acc => by rw [List.map_nil, List.map_nil, List.map_nil, List.append_nil]; rfl
  | y :: l, acc => by
    have ih := lc_pick j g i hg x0 o1 o2 o3 o4 o5 o6 P l (acc ++ [.bl (g y)])
    rw [List.map_cons]
    unfold wLcGo
    simp only [wSeq, wSet, wOp, wUn, wVb, wV, wC, wRet, wRetV, wRetN, wIfS, wNx, wBrk, wCnt, wFor, wWalk, wEnum, wRng1, wRng2, wRev, walkD, gN, gT, gsC, gsN, wAnd, wOr, wNot, wCh, wTb, wTr, wtAnd, wtOr, wtNot, wClU, wCl, wClX, wClUX, wCons, wNil, wTup, wLst, wDk, wDt, wFld, wSl, woN, woS, wKw, wRaise, wNeg, wFrz, wApp, wExt, wDrop, wUnp, wIf, wYes, wDisp1, wSplit, wLvals, wOFld, wOGet, wMk, wMkX, wDSet, wDGet, wDIn, wScr, wMt, wMtX, startN, LEnv.at, tru, isT, isC, LV.dd, LV.fz, LV.seq, LV.lis, LV.tpl, Ty6.has, lenF, intF, listF, tupleF, anyF, sumF, eqF, sEq, isF, LV.isN, inF, ixF, ltI, leI, gtI, geI, ii0, iiF, subF, modF, mulF, mulF2, listF2, LV.dt, fdivF, addF, powF, slF, dsOf, D.sign, D.flat, List.map_cons, List.map_nil, List.length_cons, List.length_nil, List.cons_append, List.nil_append, List.append_nil, List.set_cons_zero, List.set_cons_succ, List.set_nil, Nat.sub_self, Nat.reduceSub, Nat.reduceAdd, List.replicate_succ, List.replicate_zero, Bool.false_eq_true, if_true, if_false, true_and, and_true, false_and, and_false, prD, hg]
    rw [ih, List.append_assoc]
    rfl
theorem goods_mem : ∀ {l : List D}, goods l = true → ∀ y ∈ l, good y = true
  | [], _, y, h => by cases h
  | x :: l, e, y, h => by
    obtain ⟨h1, h2⟩ := goods_cons e
    rcases List.mem_cons.mp h with z | z
    · rw [z]; exact h1
    · exact goods_mem h2 y z
theorem goods_of : ∀ {l : List D}, (∀ y ∈ l, good y = true) → goods l = true
  | [], _ => rfl
  | x :: l, h => by
    unfold goods
    rw [h x List.mem_cons_self, goods_of fun y hy => h y (List.mem_cons_of_mem _ hy)]
    rfl
theorem good_items {x : D} (h : good x = true) (hb : isBlk x = true) : ∃ xs, x = .tup xs ∧ goods xs = true := by
  cases x <;> first
    | exact ⟨_, rfl, h⟩
    | (simp [isBlk] at hb; done)
    | (exact absurd h (by simp [good]))
theorem rows_blk : ∀ {l ps : List D}, rowsOk l ps = true → ∀ r ∈ l, isBlk (third r) = true
  | [], _, _, r, h => by cases h
  | x :: l, ps, e, r, h => by
    unfold rowsOk at e
    split at e
    · rename_i p a b
      simp only [Bool.and_eq_true] at e
      rcases List.mem_cons.mp h with z | z
      · rw [z]; exact e.1.2
      · exact rows_blk e.2 r z
    · cases e
/-- the blocks of a statement are blocks -/
theorem blocks_good {x : D} (hx : good x = true) (hs : isStmt x = true) : ∀ b ∈ blocksOf x, good b = true ∧ isBlk b = true := by
  intro b hb
  unfold isStmt at hs
  split at hs
  · rename_i k rest
    have hg := (goods_cons (show goods (.str k :: rest) = true from hx)).2
    unfold blocksOf at hb
    simp only at hb
    by_cases k1 : k = "wait"
    · have n1 : ¬ (k = "set" ∨ k = "tell" ∨ k = "hear") := by rw [k1]; decide
      have n2 : ¬ (k = "leave" ∨ k = "home" ∨ k = "fail") := by rw [k1]; decide
      have n3 : ¬ k = "if" := by rw [k1]; decide
      simp only [n1, n2, n3, if_false] at hs
      rw [if_pos k1] at hb
      split at hs
      · rename_i v
        rw [if_pos k1] at hs
        have gv := (goods_cons hg).1
        cases v <;> try (simp [areRows] at hs; done)
        rename_i xs
        unfold areRows at hs
        simp only [Bool.and_eq_true, decide_eq_true_eq] at hs
        obtain ⟨r, hr, rfl⟩ := List.mem_map.mp hb
        obtain ⟨p, a, b', e⟩ := rows_three hs.2 r hr
        have gr := goods_mem (show goods xs = true from gv) r hr
        refine ⟨?_, rows_blk hs.2 r hr⟩
        subst e
        have g3 : goods [p, a, b'] = true := gr
        exact (goods_cons (goods_cons (goods_cons g3).2).2).1
      · cases hs
    · rw [if_neg k1] at hb
      by_cases k2 : k = "open"
      · have n1 : ¬ (k = "set" ∨ k = "tell" ∨ k = "hear") := by rw [k2]; decide
        have n2 : ¬ (k = "leave" ∨ k = "home" ∨ k = "fail") := by rw [k2]; decide
        have n3 : ¬ k = "if" := by rw [k2]; decide
        simp only [n1, n2, n3, if_false] at hs
        rw [if_pos k2] at hb
        split at hs
        · rename_i v
          rw [if_neg k1, if_pos k2] at hs
          have gv := (goods_cons hg).1
          cases v <;> try (simp [areBlocks] at hs; done)
          rename_i xs
          unfold areBlocks at hs
          simp only [Bool.and_eq_true, List.all_eq_true] at hs
          exact ⟨goods_mem (show goods xs = true from gv) b hb, hs.2 b hb⟩
        · cases hs
      · rw [if_neg k2] at hb
        by_cases k3 : k = "if"
        · have n1 : ¬ (k = "set" ∨ k = "tell" ∨ k = "hear") := by rw [k3]; decide
          have n2 : ¬ (k = "leave" ∨ k = "home" ∨ k = "fail") := by rw [k3]; decide
          simp only [n1, n2, if_false, if_pos k3] at hs
          rw [if_pos k3] at hb
          unfold isIf at hs
          split at hs
          · rename_i a b1 c1
            simp only [Bool.and_eq_true] at hs
            have g2 := goods_cons (goods_cons hg).2
            have g3 := goods_cons g2.2
            rcases List.mem_cons.mp hb with z | z
            · rw [z]; exact ⟨g2.1, hs.1.2⟩
            · rw [List.mem_singleton.mp z]; exact ⟨g3.1, hs.2⟩
          · cases hs
        · rw [if_neg k3] at hb
          by_cases k4 : k = "repeat"
          · have n1 : ¬ (k = "set" ∨ k = "tell" ∨ k = "hear") := by rw [k4]; decide
            have n2 : ¬ (k = "leave" ∨ k = "home" ∨ k = "fail") := by rw [k4]; decide
            simp only [n1, n2, k3, if_false] at hs
            rw [if_pos k4] at hb
            split at hs
            · rename_i v
              rw [if_neg k1, if_neg k2] at hs
              simp only [Bool.and_eq_true] at hs
              rw [List.mem_singleton.mp hb]
              exact ⟨(goods_cons hg).1, hs.2⟩
            · cases hs
          · rw [if_neg k4] at hb
            cases hb
  · cases hs
end LW
namespace LW
open PySem PySem.Spec PyProof.Rows L2 DL
theorem e_thr (n : Nat) (h : ∀ (x : D) (d : Int) (P : LV → Unit → Prop), good x = true → 12 ≤ d + n → m_ways_of (2 * n + 1) [.d x, .d (.int d)] () P noX = P (.d (prD (waysOf (n + 1) x d))) ())
    (xs : List D) (d : Int) (P : LV → Unit → Prop) (hg : goods xs = true) (hd : 12 ≤ d + n) : m_ways_through (2 * n + 2) [.d (.tup xs), .d (.int d)] () P noX = P (.d (prD (wThr (fun y => waysOf (n + 1) y d) xs false))) () := by
  show mk0 2 6 (u_ways_through (m_ways_of (2 * n + 1)) (m_ways_through (2 * n + 1))) _ _ P noX = _
  unfold mk0 u_ways_through
  simp only [wSeq, wSet, wOp, wUn, wVb, wV, wC, wRet, wRetV, wRetN, wIfS, wNx, wBrk, wCnt, wFor, wWalk, wEnum, wRng1, wRng2, wRev, walkD, gN, gT, gsC, gsN, wAnd, wOr, wNot, wCh, wTb, wTr, wtAnd, wtOr, wtNot, wClU, wCl, wClX, wClUX, wCons, wNil, wTup, wLst, wDk, wDt, wFld, wSl, woN, woS, wKw, wRaise, wNeg, wFrz, wApp, wExt, wDrop, wUnp, wIf, wYes, wDisp1, wSplit, wLvals, wOFld, wOGet, wMk, wMkX, wDSet, wDGet, wDIn, wScr, wMt, wMtX, startN, LEnv.at, tru, isT, isC, LV.dd, LV.fz, LV.seq, LV.lis, LV.tpl, Ty6.has, lenF, intF, listF, tupleF, anyF, sumF, eqF, sEq, isF, LV.isN, inF, ixF, ltI, leI, gtI, geI, ii0, iiF, subF, modF, mulF, mulF2, listF2, LV.dt, fdivF, addF, powF, slF, dsOf, D.sign, D.flat, List.map_cons, List.map_nil, List.length_cons, List.length_nil, List.cons_append, List.nil_append, List.append_nil, List.set_cons_zero, List.set_cons_succ, List.set_nil, Nat.sub_self, Nat.reduceSub, Nat.reduceAdd, List.replicate_succ, List.replicate_zero, Bool.false_eq_true, if_true, if_false, true_and, and_true, false_and, and_false]
  refine (thr_loop (m_ways_of (2 * n + 1)) (fun y => waysOf (n + 1) y d) d _ (some (.d (.tup xs))) (fun b => P (.d (prD (true, b))) ()) (fun b o3 o4 o5 => ?_) xs false none none none fun y hy P' => h y d P' (goods_mem hg y hy) hd).trans ?_
  · simp [wSeq, wSet, wOp, wUn, wVb, wV, wC, wRet, wRetV, wRetN, wIfS, wNx, wBrk, wCnt, wFor, wWalk, wEnum, wRng1, wRng2, wRev, walkD, gN, gT, gsC, gsN, wAnd, wOr, wNot, wCh, wTb, wTr, wtAnd, wtOr, wtNot, wClU, wCl, wClX, wClUX, wCons, wNil, wTup, wLst, wDk, wDt, wFld, wSl, woN, woS, wKw, wRaise, wNeg, wFrz, wApp, wExt, wDrop, wUnp, wIf, wYes, wDisp1, wSplit, wLvals, wOFld, wOGet, wMk, wMkX, wDSet, wDGet, wDIn, wScr, wMt, wMtX, startN, LEnv.at, tru, isT, isC, LV.dd, LV.fz, LV.seq, LV.lis, LV.tpl, Ty6.has, lenF, intF, listF, tupleF, anyF, sumF, eqF, sEq, isF, LV.isN, inF, ixF, ltI, leI, gtI, geI, ii0, iiF, subF, modF, mulF, mulF2, listF2, LV.dt, fdivF, addF, powF, slF, dsOf, D.sign, D.flat, List.map_cons, List.map_nil, List.length_cons, List.length_nil, List.cons_append, List.nil_append, List.append_nil, List.set_cons_zero, List.set_cons_succ, List.set_nil, Nat.sub_self, Nat.reduceSub, Nat.reduceAdd, List.replicate_succ, List.replicate_zero, Bool.false_eq_true, if_true, if_false, true_and, and_true, false_and, and_false, prD]
  · cases hh : wThr (fun y => waysOf (n + 1) y d) xs false with
    | mk a b => cases a <;> simp [prD]
theorem blocks_len {x : D} (hs : isStmt x = true) : (blocksOf x).length ≤ 4 := by
  unfold isStmt at hs
  split at hs
  · rename_i k rest
    unfold blocksOf
    simp only
    by_cases k1 : k = "wait"
    · have n1 : ¬ (k = "set" ∨ k = "tell" ∨ k = "hear") := by rw [k1]; decide
      have n2 : ¬ (k = "leave" ∨ k = "home" ∨ k = "fail") := by rw [k1]; decide
      have n3 : ¬ k = "if" := by rw [k1]; decide
      simp only [n1, n2, n3, if_false] at hs
      rw [if_pos k1]
      split at hs
      · rename_i v
        rw [if_pos k1] at hs
        cases v <;> try (simp [areRows] at hs; done)
        rename_i xs
        unfold areRows at hs
        simp only [Bool.and_eq_true, decide_eq_true_eq] at hs
        rw [List.length_map]
        show xs.length ≤ 4
        omega
      · cases hs
    · rw [if_neg k1]
      by_cases k2 : k = "open"
      · have n1 : ¬ (k = "set" ∨ k = "tell" ∨ k = "hear") := by rw [k2]; decide
        have n2 : ¬ (k = "leave" ∨ k = "home" ∨ k = "fail") := by rw [k2]; decide
        have n3 : ¬ k = "if" := by rw [k2]; decide
        simp only [n1, n2, n3, if_false] at hs
        rw [if_pos k2]
        split at hs
        · rename_i v
          rw [if_neg k1, if_pos k2] at hs
          cases v <;> try (simp [areBlocks] at hs; done)
          rename_i xs
          unfold areBlocks at hs
          simp only [Bool.and_eq_true, decide_eq_true_eq] at hs
          show xs.length ≤ 4
          omega
        · cases hs
      · rw [if_neg k2]
        by_cases k3 : k = "if"
        · rw [if_pos k3]
          split <;> simp
        · rw [if_neg k3]
          by_cases k4 : k = "repeat"
          · rw [if_pos k4]
            split <;> simp
          · rw [if_neg k4]; simp
  · cases hs
theorem e_ways0 (x : D) (d : Int) (P : LV → Unit → Prop) (m1 m2 : MF Unit) (n : Nat) (hx : good x = true) (hrec : d < 12 → ∀ b, good b = true → isBlk b = true → ∀ P, m2 [.d b, .d (.int (d + 1))] () P noX = P (.d (prD (wThr (fun y => waysOf n y (d + 1)) (itemsOf b) false))) ()) :
    mk0 2 7 (u_ways_of m1 m2) [.d x, .d (.int d)] () P noX = P (.d (prD (waysOf (n + 1) x d))) () := by
  unfold mk0 u_ways_of waysOf
  simp only [wSeq, wSet, wOp, wUn, wVb, wV, wC, wRet, wRetV, wRetN, wIfS, wNx, wBrk, wCnt, wFor, wWalk, wEnum, wRng1, wRng2, wRev, walkD, gN, gT, gsC, gsN, wAnd, wOr, wNot, wCh, wTb, wTr, wtAnd, wtOr, wtNot, wClU, wCl, wClX, wClUX, wCons, wNil, wTup, wLst, wDk, wDt, wFld, wSl, woN, woS, wKw, wRaise, wNeg, wFrz, wApp, wExt, wDrop, wUnp, wIf, wYes, wDisp1, wSplit, wLvals, wOFld, wOGet, wMk, wMkX, wDSet, wDGet, wDIn, wScr, wMt, wMtX, startN, LEnv.at, tru, isT, isC, LV.dd, LV.fz, LV.seq, LV.lis, LV.tpl, Ty6.has, lenF, intF, listF, tupleF, anyF, sumF, eqF, sEq, isF, LV.isN, inF, ixF, ltI, leI, gtI, geI, ii0, iiF, subF, modF, mulF, mulF2, listF2, LV.dt, fdivF, addF, powF, slF, dsOf, D.sign, D.flat, List.map_cons, List.map_nil, List.length_cons, List.length_nil, List.cons_append, List.nil_append, List.append_nil, List.set_cons_zero, List.set_cons_succ, List.set_nil, Nat.sub_self, Nat.reduceSub, Nat.reduceAdd, List.replicate_succ, List.replicate_zero, Bool.false_eq_true, if_true, if_false, true_and, and_true, false_and, and_false, e_stmt x hx]
  cases hs : isStmt x with
  | false => simp [wSeq, wSet, wOp, wUn, wVb, wV, wC, wRet, wRetV, wRetN, wIfS, wNx, wBrk, wCnt, wFor, wWalk, wEnum, wRng1, wRng2, wRev, walkD, gN, gT, gsC, gsN, wAnd, wOr, wNot, wCh, wTb, wTr, wtAnd, wtOr, wtNot, wClU, wCl, wClX, wClUX, wCons, wNil, wTup, wLst, wDk, wDt, wFld, wSl, woN, woS, wKw, wRaise, wNeg, wFrz, wApp, wExt, wDrop, wUnp, wIf, wYes, wDisp1, wSplit, wLvals, wOFld, wOGet, wMk, wMkX, wDSet, wDGet, wDIn, wScr, wMt, wMtX, startN, LEnv.at, tru, isT, isC, LV.dd, LV.fz, LV.seq, LV.lis, LV.tpl, Ty6.has, lenF, intF, listF, tupleF, anyF, sumF, eqF, sEq, isF, LV.isN, inF, ixF, ltI, leI, gtI, geI, ii0, iiF, subF, modF, mulF, mulF2, listF2, LV.dt, fdivF, addF, powF, slF, dsOf, D.sign, D.flat, List.map_cons, List.map_nil, List.length_cons, List.length_nil, List.cons_append, List.nil_append, List.append_nil, List.set_cons_zero, List.set_cons_succ, List.set_nil, Nat.sub_self, Nat.reduceSub, Nat.reduceAdd, List.replicate_succ, List.replicate_zero, Bool.false_eq_true, if_true, if_false, true_and, and_true, false_and, and_false, prD]
  | true =>
    obtain ⟨k, rest, rfl⟩ := stmt_head hs
    have hw : headW (.tup (.str k :: rest)) = k := rfl
    simp only [wSeq, wSet, wOp, wUn, wVb, wV, wC, wRet, wRetV, wRetN, wIfS, wNx, wBrk, wCnt, wFor, wWalk, wEnum, wRng1, wRng2, wRev, walkD, gN, gT, gsC, gsN, wAnd, wOr, wNot, wCh, wTb, wTr, wtAnd, wtOr, wtNot, wClU, wCl, wClX, wClUX, wCons, wNil, wTup, wLst, wDk, wDt, wFld, wSl, woN, woS, wKw, wRaise, wNeg, wFrz, wApp, wExt, wDrop, wUnp, wIf, wYes, wDisp1, wSplit, wLvals, wOFld, wOGet, wMk, wMkX, wDSet, wDGet, wDIn, wScr, wMt, wMtX, startN, LEnv.at, tru, isT, isC, LV.dd, LV.fz, LV.seq, LV.lis, LV.tpl, Ty6.has, lenF, intF, listF, tupleF, anyF, sumF, eqF, sEq, isF, LV.isN, inF, ixF, ltI, leI, gtI, geI, ii0, iiF, subF, modF, mulF, mulF2, listF2, LV.dt, fdivF, addF, powF, slF, dsOf, D.sign, D.flat, List.map_cons, List.map_nil, List.length_cons, List.length_nil, List.cons_append, List.nil_append, List.append_nil, List.set_cons_zero, List.set_cons_succ, List.set_nil, Nat.sub_self, Nat.reduceSub, Nat.reduceAdd, List.replicate_succ, List.replicate_zero, Bool.false_eq_true, if_true, if_false, true_and, and_true, false_and, and_false, at0, Bool.not_true, hw, decide_eq_true_eq, in3, and3]
    by_cases k1 : k = "set"
    · simp only [k1, if_true]
      simp [wSeq, wSet, wOp, wUn, wVb, wV, wC, wRet, wRetV, wRetN, wIfS, wNx, wBrk, wCnt, wFor, wWalk, wEnum, wRng1, wRng2, wRev, walkD, gN, gT, gsC, gsN, wAnd, wOr, wNot, wCh, wTb, wTr, wtAnd, wtOr, wtNot, wClU, wCl, wClX, wClUX, wCons, wNil, wTup, wLst, wDk, wDt, wFld, wSl, woN, woS, wKw, wRaise, wNeg, wFrz, wApp, wExt, wDrop, wUnp, wIf, wYes, wDisp1, wSplit, wLvals, wOFld, wOGet, wMk, wMkX, wDSet, wDGet, wDIn, wScr, wMt, wMtX, startN, LEnv.at, tru, isT, isC, LV.dd, LV.fz, LV.seq, LV.lis, LV.tpl, Ty6.has, lenF, intF, listF, tupleF, anyF, sumF, eqF, sEq, isF, LV.isN, inF, ixF, ltI, leI, gtI, geI, ii0, iiF, subF, modF, mulF, mulF2, listF2, LV.dt, fdivF, addF, powF, slF, dsOf, D.sign, D.flat, List.map_cons, List.map_nil, List.length_cons, List.length_nil, List.cons_append, List.nil_append, List.append_nil, List.set_cons_zero, List.set_cons_succ, List.set_nil, Nat.sub_self, Nat.reduceSub, Nat.reduceAdd, List.replicate_succ, List.replicate_zero, Bool.false_eq_true, if_true, if_false, true_and, and_true, false_and, and_false, prD]
    · simp only [k1, if_false]
      by_cases k2 : k = "leave"
      · simp only [k2, if_true]
        simp [wSeq, wSet, wOp, wUn, wVb, wV, wC, wRet, wRetV, wRetN, wIfS, wNx, wBrk, wCnt, wFor, wWalk, wEnum, wRng1, wRng2, wRev, walkD, gN, gT, gsC, gsN, wAnd, wOr, wNot, wCh, wTb, wTr, wtAnd, wtOr, wtNot, wClU, wCl, wClX, wClUX, wCons, wNil, wTup, wLst, wDk, wDt, wFld, wSl, woN, woS, wKw, wRaise, wNeg, wFrz, wApp, wExt, wDrop, wUnp, wIf, wYes, wDisp1, wSplit, wLvals, wOFld, wOGet, wMk, wMkX, wDSet, wDGet, wDIn, wScr, wMt, wMtX, startN, LEnv.at, tru, isT, isC, LV.dd, LV.fz, LV.seq, LV.lis, LV.tpl, Ty6.has, lenF, intF, listF, tupleF, anyF, sumF, eqF, sEq, isF, LV.isN, inF, ixF, ltI, leI, gtI, geI, ii0, iiF, subF, modF, mulF, mulF2, listF2, LV.dt, fdivF, addF, powF, slF, dsOf, D.sign, D.flat, List.map_cons, List.map_nil, List.length_cons, List.length_nil, List.cons_append, List.nil_append, List.append_nil, List.set_cons_zero, List.set_cons_succ, List.set_nil, Nat.sub_self, Nat.reduceSub, Nat.reduceAdd, List.replicate_succ, List.replicate_zero, Bool.false_eq_true, if_true, if_false, true_and, and_true, false_and, and_false, prD]
      · simp only [k2, if_false]
        by_cases k3 : k = "if" ∨ k = "open" ∨ k = "repeat"
        · by_cases k4 : 12 ≤ d
          · simp only [k3, k4]
            simp [wSeq, wSet, wOp, wUn, wVb, wV, wC, wRet, wRetV, wRetN, wIfS, wNx, wBrk, wCnt, wFor, wWalk, wEnum, wRng1, wRng2, wRev, walkD, gN, gT, gsC, gsN, wAnd, wOr, wNot, wCh, wTb, wTr, wtAnd, wtOr, wtNot, wClU, wCl, wClX, wClUX, wCons, wNil, wTup, wLst, wDk, wDt, wFld, wSl, woN, woS, wKw, wRaise, wNeg, wFrz, wApp, wExt, wDrop, wUnp, wIf, wYes, wDisp1, wSplit, wLvals, wOFld, wOGet, wMk, wMkX, wDSet, wDGet, wDIn, wScr, wMt, wMtX, startN, LEnv.at, tru, isT, isC, LV.dd, LV.fz, LV.seq, LV.lis, LV.tpl, Ty6.has, lenF, intF, listF, tupleF, anyF, sumF, eqF, sEq, isF, LV.isN, inF, ixF, ltI, leI, gtI, geI, ii0, iiF, subF, modF, mulF, mulF2, listF2, LV.dt, fdivF, addF, powF, slF, dsOf, D.sign, D.flat, List.map_cons, List.map_nil, List.length_cons, List.length_nil, List.cons_append, List.nil_append, List.append_nil, List.set_cons_zero, List.set_cons_succ, List.set_nil, Nat.sub_self, Nat.reduceSub, Nat.reduceAdd, List.replicate_succ, List.replicate_zero, Bool.false_eq_true, if_true, if_false, true_and, and_true, false_and, and_false, prD]
          · have hb := blocks_good hx hs
            simp only [k3, k4, decide_true, decide_false, Bool.not_true, not_true, or_self, if_false]
            have hlen : (blocksOf (.tup (.str k :: rest))).length ≤ sizeLine := small_line (Nat.le_trans (blocks_len hs) (by decide))
            simp only [Bool.false_eq_true, if_false, wLc, wSeq, wSet, wOp, wUn, wVb, wV, wC, wRet, wRetV, wRetN, wIfS, wNx, wBrk, wCnt, wFor, wWalk, wEnum, wRng1, wRng2, wRev, walkD, gN, gT, gsC, gsN, wAnd, wOr, wNot, wCh, wTb, wTr, wtAnd, wtOr, wtNot, wClU, wCl, wClX, wClUX, wCons, wNil, wTup, wLst, wDk, wDt, wFld, wSl, woN, woS, wKw, wRaise, wNeg, wFrz, wApp, wExt, wDrop, wUnp, wIf, wYes, wDisp1, wSplit, wLvals, wOFld, wOGet, wMk, wMkX, wDSet, wDGet, wDIn, wScr, wMt, wMtX, startN, LEnv.at, tru, isT, isC, LV.dd, LV.fz, LV.seq, LV.lis, LV.tpl, Ty6.has, lenF, intF, listF, tupleF, anyF, sumF, eqF, sEq, isF, LV.isN, inF, ixF, ltI, leI, gtI, geI, ii0, iiF, subF, modF, mulF, mulF2, listF2, LV.dt, fdivF, addF, powF, slF, dsOf, D.sign, D.flat, List.map_cons, List.map_nil, List.length_cons, List.length_nil, List.cons_append, List.nil_append, List.append_nil, List.set_cons_zero, List.set_cons_succ, List.set_nil, Nat.sub_self, Nat.reduceSub, Nat.reduceAdd, List.replicate_succ, List.replicate_zero, Bool.false_eq_true, if_true, if_false, true_and, and_true, false_and, and_false, e_blocksof _ hs, wipeE, hlen]
            rw [lc_thr m2 (fun b => wThr (fun y => waysOf n y (d + 1)) (itemsOf b) false) d _ _ _ _ _ _ _ _ [] fun b hb' P => hrec (by omega) b (hb b hb').1 (hb b hb').2 P]
            have ef : (blocksOf (.tup (.str k :: rest))).map (fun b => prD (wThr (fun y => waysOf n y (d + 1)) (itemsOf b) false)) = ((blocksOf (.tup (.str k :: rest))).map fun b => wThr (fun y => waysOf n y (d + 1)) (itemsOf b) false).map prD := by rw [List.map_map]; rfl
            have hl2 : ((blocksOf (.tup (.str k :: rest))).map fun b => wThr (fun y => waysOf n y (d + 1)) (itemsOf b) false).length ≤ sizeLine := by rw [List.length_map]; exact hlen
            rw [ef]
            generalize ((blocksOf (.tup (.str k :: rest))).map fun b => wThr (fun y => waysOf n y (d + 1)) (itemsOf b) false) = ps at hl2
            have hl3 : (ps.map prD).length ≤ sizeLine := by rw [List.length_map]; exact hl2
            simp only [wSeq, wSet, wOp, wUn, wVb, wV, wC, wRet, wRetV, wRetN, wIfS, wNx, wBrk, wCnt, wFor, wWalk, wEnum, wRng1, wRng2, wRev, walkD, gN, gT, gsC, gsN, wAnd, wOr, wNot, wCh, wTb, wTr, wtAnd, wtOr, wtNot, wClU, wCl, wClX, wClUX, wCons, wNil, wTup, wLst, wDk, wDt, wFld, wSl, woN, woS, wKw, wRaise, wNeg, wFrz, wApp, wExt, wDrop, wUnp, wIf, wYes, wDisp1, wSplit, wLvals, wOFld, wOGet, wMk, wMkX, wDSet, wDGet, wDIn, wScr, wMt, wMtX, startN, LEnv.at, tru, isT, isC, LV.dd, LV.fz, LV.seq, LV.lis, LV.tpl, Ty6.has, lenF, intF, listF, tupleF, anyF, sumF, eqF, sEq, isF, LV.isN, inF, ixF, ltI, leI, gtI, geI, ii0, iiF, subF, modF, mulF, mulF2, listF2, LV.dt, fdivF, addF, powF, slF, dsOf, D.sign, D.flat, List.map_cons, List.map_nil, List.length_cons, List.length_nil, List.cons_append, List.nil_append, List.append_nil, List.set_cons_zero, List.set_cons_succ, List.set_nil, Nat.sub_self, Nat.reduceSub, Nat.reduceAdd, List.replicate_succ, List.replicate_zero, Bool.false_eq_true, if_true, if_false, true_and, and_true, false_and, and_false, hl3]
            rw [lc_pick 0 (·.2) 1 (fun p => at1 _ _ _)]
            simp only [wSeq, wSet, wOp, wUn, wVb, wV, wC, wRet, wRetV, wRetN, wIfS, wNx, wBrk, wCnt, wFor, wWalk, wEnum, wRng1, wRng2, wRev, walkD, gN, gT, gsC, gsN, wAnd, wOr, wNot, wCh, wTb, wTr, wtAnd, wtOr, wtNot, wClU, wCl, wClX, wClUX, wCons, wNil, wTup, wLst, wDk, wDt, wFld, wSl, woN, woS, wKw, wRaise, wNeg, wFrz, wApp, wExt, wDrop, wUnp, wIf, wYes, wDisp1, wSplit, wLvals, wOFld, wOGet, wMk, wMkX, wDSet, wDGet, wDIn, wScr, wMt, wMtX, startN, LEnv.at, tru, isT, isC, LV.dd, LV.fz, LV.seq, LV.lis, LV.tpl, Ty6.has, lenF, intF, listF, tupleF, anyF, sumF, eqF, sEq, isF, LV.isN, inF, ixF, ltI, leI, gtI, geI, ii0, iiF, subF, modF, mulF, mulF2, listF2, LV.dt, fdivF, addF, powF, slF, dsOf, D.sign, D.flat, List.map_cons, List.map_nil, List.length_cons, List.length_nil, List.cons_append, List.nil_append, List.append_nil, List.set_cons_zero, List.set_cons_succ, List.set_nil, Nat.sub_self, Nat.reduceSub, Nat.reduceAdd, List.replicate_succ, List.replicate_zero, Bool.false_eq_true, if_true, if_false, true_and, and_true, false_and, and_false, blsOf_map]
            by_cases k5 : k = "repeat"
            · simp only [k5, if_true]
              simp [prD, List.any_map]
            · simp only [k5, if_false]
              rw [lc_pick 0 (·.1) 0 (fun p => at0 _ _)]
              simp only [wSeq, wSet, wOp, wUn, wVb, wV, wC, wRet, wRetV, wRetN, wIfS, wNx, wBrk, wCnt, wFor, wWalk, wEnum, wRng1, wRng2, wRev, walkD, gN, gT, gsC, gsN, wAnd, wOr, wNot, wCh, wTb, wTr, wtAnd, wtOr, wtNot, wClU, wCl, wClX, wClUX, wCons, wNil, wTup, wLst, wDk, wDt, wFld, wSl, woN, woS, wKw, wRaise, wNeg, wFrz, wApp, wExt, wDrop, wUnp, wIf, wYes, wDisp1, wSplit, wLvals, wOFld, wOGet, wMk, wMkX, wDSet, wDGet, wDIn, wScr, wMt, wMtX, startN, LEnv.at, tru, isT, isC, LV.dd, LV.fz, LV.seq, LV.lis, LV.tpl, Ty6.has, lenF, intF, listF, tupleF, anyF, sumF, eqF, sEq, isF, LV.isN, inF, ixF, ltI, leI, gtI, geI, ii0, iiF, subF, modF, mulF, mulF2, listF2, LV.dt, fdivF, addF, powF, slF, dsOf, D.sign, D.flat, List.map_cons, List.map_nil, List.length_cons, List.length_nil, List.cons_append, List.nil_append, List.append_nil, List.set_cons_zero, List.set_cons_succ, List.set_nil, Nat.sub_self, Nat.reduceSub, Nat.reduceAdd, List.replicate_succ, List.replicate_zero, Bool.false_eq_true, if_true, if_false, true_and, and_true, false_and, and_false, blsOf_map]
              simp [prD, List.any_map]
        · simp only [k3, decide_false, not_false_eq_true, true_or, Bool.not_false, if_true]
          simp [prD]
theorem e_ways : ∀ (n : Nat) (x : D) (d : Int) (P : LV → Unit → Prop), good x = true → 12 ≤ d + n → m_ways_of (2 * n + 1) [.d x, .d (.int d)] () P noX = P (.d (prD (waysOf (n + 1) x d))) ()
  | 0, x, d, P, hx, hd => by
    show mk0 2 7 (u_ways_of (m_ways_of 0) (m_ways_through 0)) _ _ P noX = _
    exact e_ways0 x d P _ _ 0 hx fun h => absurd h (by omega)
  | n + 1, x, d, P, hx, hd => by
    show mk0 2 7 (u_ways_of (m_ways_of (2 * n + 2)) (m_ways_through (2 * n + 2))) _ _ P noX = _
    refine e_ways0 x d P _ _ (n + 1) hx fun h b hb hb2 P' => ?_
    obtain ⟨xs, rfl, hg⟩ := good_items hb hb2
    exact e_thr n (fun x d P hx hd => e_ways n x d P hx hd) xs (d + 1) P' hg (by omega)
end LW
namespace LW
open PySem PySem.Spec PyProof.Rows L2 DL
/-! deals, what is wrong, the first wrong path -/
def dealsD (b : D) (d : Int) : Bool := !(wThr (fun y => waysOf 13 y d) (itemsOf b) false).1
theorem e_deals (b : D) (d : Int) (P : LV → Unit → Prop) (hb : good b = true) (hk : isBlk b = true) (hd : 0 ≤ d) : m_deals [.d b, .d (.int d)] () P noX = P (.d (.bl (dealsD b d))) () := by
  obtain ⟨xs, rfl, hg⟩ := good_items hb hk
  have e : ∀ P, m_ways_through 26 [.d (.tup xs), .d (.int d)] () P noX = P (.d (prD (wThr (fun y => waysOf 13 y d) xs false))) () := fun P => e_thr 12 (e_ways 12) xs d P hg (by omega)
  unfold m_deals mk0 u_deals
  simp only [wSeq, wSet, wOp, wUn, wVb, wV, wC, wRet, wRetV, wRetN, wIfS, wNx, wBrk, wCnt, wFor, wWalk, wEnum, wRng1, wRng2, wRev, walkD, gN, gT, gsC, gsN, wAnd, wOr, wNot, wCh, wTb, wTr, wtAnd, wtOr, wtNot, wClU, wCl, wClX, wClUX, wCons, wNil, wTup, wLst, wDk, wDt, wFld, wSl, woN, woS, wKw, wRaise, wNeg, wFrz, wApp, wExt, wDrop, wUnp, wIf, wYes, wDisp1, wSplit, wLvals, wOFld, wOGet, wMk, wMkX, wDSet, wDGet, wDIn, wScr, wMt, wMtX, startN, LEnv.at, tru, isT, isC, LV.dd, LV.fz, LV.seq, LV.lis, LV.tpl, Ty6.has, lenF, intF, listF, tupleF, anyF, sumF, eqF, sEq, isF, LV.isN, inF, ixF, ltI, leI, gtI, geI, ii0, iiF, subF, modF, mulF, mulF2, listF2, LV.dt, fdivF, addF, powF, slF, dsOf, D.sign, D.flat, List.map_cons, List.map_nil, List.length_cons, List.length_nil, List.cons_append, List.nil_append, List.append_nil, List.set_cons_zero, List.set_cons_succ, List.set_nil, Nat.sub_self, Nat.reduceSub, Nat.reduceAdd, List.replicate_succ, List.replicate_zero, Bool.false_eq_true, if_true, if_false, true_and, and_true, false_and, and_false, e, prD, at0]
  rfl
def secondW : D → D
  | .tup (_ :: y :: _) => y
  | x => x
def isWrong (x : D) (d : Int) (lp : Bool) : Bool := if isStmt x = false then true else if headW x = "leave" then !lp else if blocksOf x ≠ [] ∧ 12 ≤ d then true
  else decide (headW x = "repeat") && !dealsD (secondW x) (d + 1)
theorem repeat_second {x : D} (hs : isStmt x = true) (hk : headW x = "repeat") : ∃ v, x = .tup [.str "repeat", v] ∧ isBlk v = true := by
  obtain ⟨k, rest, rfl⟩ := stmt_head hs
  have hk' : k = "repeat" := hk
  subst hk'
  unfold isStmt at hs
  have n1 : ¬ (("repeat" : Str) = "set" ∨ ("repeat" : Str) = "tell" ∨ ("repeat" : Str) = "hear") := by decide
  have n2 : ¬ (("repeat" : Str) = "leave" ∨ ("repeat" : Str) = "home" ∨ ("repeat" : Str) = "fail") := by decide
  have n3 : ¬ ("repeat" : Str) = "if" := by decide
  have n4 : ¬ ("repeat" : Str) = "wait" := by decide
  have n5 : ¬ ("repeat" : Str) = "open" := by decide
  simp only [n1, n2, n3, if_false] at hs
  split at hs
  · rename_i v
    rw [if_neg n4, if_neg n5] at hs
    simp only [Bool.and_eq_true] at hs
    exact ⟨v, rfl, hs.2⟩
  · cases hs
theorem e_wrong (x : D) (d : Int) (lp : Bool) (P : LV → Unit → Prop) (hx : good x = true) (hd : 0 ≤ d) : m_is_wrong [.d x, .d (.int d), .d (.bl lp)] () P noX = P (.d (.bl (isWrong x d lp))) () := by
  unfold m_is_wrong mk0 u_is_wrong isWrong
  simp only [wSeq, wSet, wOp, wUn, wVb, wV, wC, wRet, wRetV, wRetN, wIfS, wNx, wBrk, wCnt, wFor, wWalk, wEnum, wRng1, wRng2, wRev, walkD, gN, gT, gsC, gsN, wAnd, wOr, wNot, wCh, wTb, wTr, wtAnd, wtOr, wtNot, wClU, wCl, wClX, wClUX, wCons, wNil, wTup, wLst, wDk, wDt, wFld, wSl, woN, woS, wKw, wRaise, wNeg, wFrz, wApp, wExt, wDrop, wUnp, wIf, wYes, wDisp1, wSplit, wLvals, wOFld, wOGet, wMk, wMkX, wDSet, wDGet, wDIn, wScr, wMt, wMtX, startN, LEnv.at, tru, isT, isC, LV.dd, LV.fz, LV.seq, LV.lis, LV.tpl, Ty6.has, lenF, intF, listF, tupleF, anyF, sumF, eqF, sEq, isF, LV.isN, inF, ixF, ltI, leI, gtI, geI, ii0, iiF, subF, modF, mulF, mulF2, listF2, LV.dt, fdivF, addF, powF, slF, dsOf, D.sign, D.flat, List.map_cons, List.map_nil, List.length_cons, List.length_nil, List.cons_append, List.nil_append, List.append_nil, List.set_cons_zero, List.set_cons_succ, List.set_nil, Nat.sub_self, Nat.reduceSub, Nat.reduceAdd, List.replicate_succ, List.replicate_zero, Bool.false_eq_true, if_true, if_false, true_and, and_true, false_and, and_false, e_stmt x hx]
  cases hs : isStmt x with
  | false => simp [wSeq, wSet, wOp, wUn, wVb, wV, wC, wRet, wRetV, wRetN, wIfS, wNx, wBrk, wCnt, wFor, wWalk, wEnum, wRng1, wRng2, wRev, walkD, gN, gT, gsC, gsN, wAnd, wOr, wNot, wCh, wTb, wTr, wtAnd, wtOr, wtNot, wClU, wCl, wClX, wClUX, wCons, wNil, wTup, wLst, wDk, wDt, wFld, wSl, woN, woS, wKw, wRaise, wNeg, wFrz, wApp, wExt, wDrop, wUnp, wIf, wYes, wDisp1, wSplit, wLvals, wOFld, wOGet, wMk, wMkX, wDSet, wDGet, wDIn, wScr, wMt, wMtX, startN, LEnv.at, tru, isT, isC, LV.dd, LV.fz, LV.seq, LV.lis, LV.tpl, Ty6.has, lenF, intF, listF, tupleF, anyF, sumF, eqF, sEq, isF, LV.isN, inF, ixF, ltI, leI, gtI, geI, ii0, iiF, subF, modF, mulF, mulF2, listF2, LV.dt, fdivF, addF, powF, slF, dsOf, D.sign, D.flat, List.map_cons, List.map_nil, List.length_cons, List.length_nil, List.cons_append, List.nil_append, List.append_nil, List.set_cons_zero, List.set_cons_succ, List.set_nil, Nat.sub_self, Nat.reduceSub, Nat.reduceAdd, List.replicate_succ, List.replicate_zero, Bool.false_eq_true, if_true, if_false, true_and, and_true, false_and, and_false]
  | true =>
    have hb := e_blocksof x hs
    have hsec : headW x = "repeat" → ∃ v, x = .tup [.str "repeat", v] ∧ isBlk v = true := repeat_second hs
    have hx' := hx
    obtain ⟨k, rest, rfl⟩ := stmt_head hs
    have hw : headW (.tup (.str k :: rest)) = k := rfl
    simp only [wSeq, wSet, wOp, wUn, wVb, wV, wC, wRet, wRetV, wRetN, wIfS, wNx, wBrk, wCnt, wFor, wWalk, wEnum, wRng1, wRng2, wRev, walkD, gN, gT, gsC, gsN, wAnd, wOr, wNot, wCh, wTb, wTr, wtAnd, wtOr, wtNot, wClU, wCl, wClX, wClUX, wCons, wNil, wTup, wLst, wDk, wDt, wFld, wSl, woN, woS, wKw, wRaise, wNeg, wFrz, wApp, wExt, wDrop, wUnp, wIf, wYes, wDisp1, wSplit, wLvals, wOFld, wOGet, wMk, wMkX, wDSet, wDGet, wDIn, wScr, wMt, wMtX, startN, LEnv.at, tru, isT, isC, LV.dd, LV.fz, LV.seq, LV.lis, LV.tpl, Ty6.has, lenF, intF, listF, tupleF, anyF, sumF, eqF, sEq, isF, LV.isN, inF, ixF, ltI, leI, gtI, geI, ii0, iiF, subF, modF, mulF, mulF2, listF2, LV.dt, fdivF, addF, powF, slF, dsOf, D.sign, D.flat, List.map_cons, List.map_nil, List.length_cons, List.length_nil, List.cons_append, List.nil_append, List.append_nil, List.set_cons_zero, List.set_cons_succ, List.set_nil, Nat.sub_self, Nat.reduceSub, Nat.reduceAdd, List.replicate_succ, List.replicate_zero, Bool.false_eq_true, if_true, if_false, true_and, and_true, false_and, and_false, at0, Bool.not_true, hw, decide_eq_true_eq, hb]
    by_cases k1 : k = "leave"
    · simp only [k1, if_true]
      simp
    · simp only [k1, if_false]
      have hl : (0 < ((blocksOf (.tup (.str k :: rest))).length : Int)) ↔ blocksOf (.tup (.str k :: rest)) ≠ [] := by
        cases blocksOf (.tup (.str k :: rest)) <;> simp
      by_cases k2 : k = "repeat"
      · obtain ⟨v, hv, hvb⟩ := hsec k2
        rw [hv] at hx'
        have gv : good v = true := (goods_cons (goods_cons (show goods [.str "repeat", v] = true from hx')).2).1
        simp only [D.tup.injEq, List.cons.injEq] at hv
        obtain ⟨_, rfl⟩ := hv
        by_cases k3 : blocksOf (.tup [.str k, v]) ≠ []
        · by_cases k4 : 12 ≤ d
          · simp [hl, k3, k4]
          · simp [hl, k3, k4, k2, wSeq, wSet, wOp, wUn, wVb, wV, wC, wRet, wRetV, wRetN, wIfS, wNx, wBrk, wCnt, wFor, wWalk, wEnum, wRng1, wRng2, wRev, walkD, gN, gT, gsC, gsN, wAnd, wOr, wNot, wCh, wTb, wTr, wtAnd, wtOr, wtNot, wClU, wCl, wClX, wClUX, wCons, wNil, wTup, wLst, wDk, wDt, wFld, wSl, woN, woS, wKw, wRaise, wNeg, wFrz, wApp, wExt, wDrop, wUnp, wIf, wYes, wDisp1, wSplit, wLvals, wOFld, wOGet, wMk, wMkX, wDSet, wDGet, wDIn, wScr, wMt, wMtX, startN, LEnv.at, tru, isT, isC, LV.dd, LV.fz, LV.seq, LV.lis, LV.tpl, Ty6.has, lenF, intF, listF, tupleF, anyF, sumF, eqF, sEq, isF, LV.isN, inF, ixF, ltI, leI, gtI, geI, ii0, iiF, subF, modF, mulF, mulF2, listF2, LV.dt, fdivF, addF, powF, slF, dsOf, D.sign, D.flat, List.map_cons, List.map_nil, List.length_cons, List.length_nil, List.cons_append, List.nil_append, List.append_nil, List.set_cons_zero, List.set_cons_succ, List.set_nil, Nat.sub_self, Nat.reduceSub, Nat.reduceAdd, List.replicate_succ, List.replicate_zero, Bool.false_eq_true, if_true, if_false, true_and, and_true, false_and, and_false, at1, e_deals v (d + 1) _ gv hvb (by omega), secondW]
        · have k3' : blocksOf (.tup [.str k, v]) = [] := Classical.not_not.mp k3
          subst k2
          simp [k3', wSeq, wSet, wOp, wUn, wVb, wV, wC, wRet, wRetV, wRetN, wIfS, wNx, wBrk, wCnt, wFor, wWalk, wEnum, wRng1, wRng2, wRev, walkD, gN, gT, gsC, gsN, wAnd, wOr, wNot, wCh, wTb, wTr, wtAnd, wtOr, wtNot, wClU, wCl, wClX, wClUX, wCons, wNil, wTup, wLst, wDk, wDt, wFld, wSl, woN, woS, wKw, wRaise, wNeg, wFrz, wApp, wExt, wDrop, wUnp, wIf, wYes, wDisp1, wSplit, wLvals, wOFld, wOGet, wMk, wMkX, wDSet, wDGet, wDIn, wScr, wMt, wMtX, startN, LEnv.at, tru, isT, isC, LV.dd, LV.fz, LV.seq, LV.lis, LV.tpl, Ty6.has, lenF, intF, listF, tupleF, anyF, sumF, eqF, sEq, isF, LV.isN, inF, ixF, ltI, leI, gtI, geI, ii0, iiF, subF, modF, mulF, mulF2, listF2, LV.dt, fdivF, addF, powF, slF, dsOf, D.sign, D.flat, List.map_cons, List.map_nil, List.length_cons, List.length_nil, List.cons_append, List.nil_append, List.append_nil, List.set_cons_zero, List.set_cons_succ, List.set_nil, Nat.sub_self, Nat.reduceSub, Nat.reduceAdd, List.replicate_succ, List.replicate_zero, Bool.false_eq_true, if_true, if_false, true_and, and_true, false_and, and_false, at1, e_deals v (d + 1) _ gv hvb (by omega), secondW]
      · by_cases k3 : blocksOf (.tup (.str k :: rest)) ≠ []
        · by_cases k4 : 12 ≤ d
          · simp [hl, k3, k4]
          · simp [hl, k3, k4, k2]
        · have k3' : blocksOf (.tup (.str k :: rest)) = [] := Classical.not_not.mp k3
          simp [k3', k2]
end LW
namespace LW
open PySem PySem.Spec PyProof.Rows L2 DL
/-! the first wrong path -/
def pathD (p : List Int) : D := .tup (p.map D.int)
def pathO : Option (List Int) → D
  | none => .non
  | some p => pathD p
/-- the first that is found, the places are told to f -/
def scan (f : D → List Int → Option (List Int)) (p : List Int) : Int → List D → Option (List Int)
  | _, [] => none
  | i, x :: r => match f x (p ++ [i]) with
    | some q => some q
    | none => scan f p (i + 1) r
def firstW : Nat → List D → List Int → Int → Bool → Option (List Int)
  | 0, _, _, _, _ => none
  | n + 1, xs, p, d, lp => scan (fun x q => if isWrong x d lp = true then some q else scan (fun b q' => firstW n (itemsOf b) q' (d + 1) (lp || decide (headW x = "repeat"))) q 0 (blocksOf x)) p 0 xs
def inBody (mf : MF Unit) : WS Unit := wSeq (wSet 10 (wClU mf [] (wCons (wV 9) (wCons (wOp addF (wVb 6) (wTup (wCons (wV 8) wNil))) (wCons (wOp addF (wVb 2) (wC (.int 1))) (wCons (wV 7) wNil))))))
    (wIfS (wTb (wOp (isF true) (wVb 10) (wC .non))) (wRetV 10) wNx)
theorem path_snoc (p : List Int) (j : Int) : p.map D.int ++ [D.int j] = (p ++ [j]).map D.int := by simp
theorem in_loop (mf : MF Unit) (F : D → List Int → Option (List Int)) (p : List Int) (hp : p.length ≤ 100) (d : Int) (w : Bool) (M : ED Unit) (e0 e1 e3 e4 e5 : Option LV) (R : Prop)
    (hR : ∀ o8 o9 o10, M.nx [e0, e1, some (.d (.int d)), e3, e4, e5, some (.d (pathD p)), some (.d (.bl w)), o8, o9, o10] () = R) :
    ∀ (bs : List D) (j : Nat) (o8 o9 o10 : Option LV), (∀ b ∈ bs, ∀ q P, q.length ≤ p.length + 1 → mf [.d b, .d (pathD q), .d (.int (d + 1)), .d (.bl w)] () P noX = P (.d (pathO (F b q))) ()) →
      wGo (gT 2 (gsC (gN 8) (gsC (gN 9) gsN))) (inBody mf) M (enumD j bs) [e0, e1, some (.d (.int d)), e3, e4, e5, some (.d (pathD p)), some (.d (.bl w)), o8, o9, o10] () = (match scan F p j bs with | some q => M.rt (.d (pathD q)) () | none => R)
  | [], j, o8, o9, o10, _ => by show M.nx _ () = _; rw [hR]; rfl
  | b :: bs, j, o8, o9, o10, hm => by
    have ih := in_loop mf F p hp d w M e0 e1 e3 e4 e5 R hR bs (j + 1)
    have hb := hm b List.mem_cons_self (p ++ [(j : Int)])
    have hz : p.length + 1 ≤ sizeLine := small_line (by omega)
    unfold enumD wGo scan
    rw [gT2]
    unfold inBody at *
    simp only [wSeq, wSet, wOp, wUn, wVb, wV, wC, wRet, wRetV, wRetN, wIfS, wNx, wBrk, wCnt, wFor, wWalk, wEnum, wRng1, wRng2, wRev, walkD, gN, gT, gsC, gsN, wAnd, wOr, wNot, wCh, wTb, wTr, wtAnd, wtOr, wtNot, wClU, wCl, wClX, wClUX, wCons, wNil, wTup, wLst, wDk, wDt, wFld, wSl, woN, woS, wKw, wRaise, wNeg, wFrz, wApp, wExt, wDrop, wUnp, wIf, wYes, wDisp1, wSplit, wLvals, wOFld, wOGet, wMk, wMkX, wDSet, wDGet, wDIn, wScr, wMt, wMtX, startN, LEnv.at, tru, isT, isC, LV.dd, LV.fz, LV.seq, LV.lis, LV.tpl, Ty6.has, lenF, intF, listF, tupleF, anyF, sumF, eqF, sEq, isF, LV.isN, inF, ixF, ltI, leI, gtI, geI, ii0, iiF, subF, modF, mulF, mulF2, listF2, LV.dt, fdivF, addF, powF, slF, dsOf, D.sign, D.flat, List.map_cons, List.map_nil, List.length_cons, List.length_nil, List.cons_append, List.nil_append, List.append_nil, List.set_cons_zero, List.set_cons_succ, List.set_nil, Nat.sub_self, Nat.reduceSub, Nat.reduceAdd, List.replicate_succ, List.replicate_zero, Bool.false_eq_true, if_true, if_false, true_and, and_true, false_and, and_false, pathD, List.length_map, hz, path_snoc]
    refine (propext (and_iff_right (by decide))).trans ?_
    simp only [pathD] at hb ih
    rw [hb _ (by simp)]
    cases hF : F b (p ++ [(j : Int)]) with
    | some q => simp [pathO, pathD]
    | none =>
      simp only [pathO, Bool.not_true, Bool.false_eq_true, if_false]
      have hj : ((j + 1 : Nat) : Int) = (j : Int) + 1 := by omega
      rw [← hj]
      exact ih _ _ _ fun b' hb' => hm b' (List.mem_cons_of_mem _ hb')
def outBody (mf : MF Unit) : WS Unit := (wSeq (wSet 6 (wOp addF (wVb 1) (wTup (wCons (wV 4) wNil))))
    (wSeq (wIfS (wTr (wClU m_is_wrong [] (wCons (wV 5) (wCons (wV 2) (wCons (wV 3) wNil))))) (wRetV 6) wNx)
    (wSeq (wSet 7 (wOr (wV 3) (wOp (eqF false) (wOp ixF (wVb 5) (wC (.int 0))) (wC (.str "repeat")))))
    (wFor (wEnum (wClU m_blocks_of [] (wCons (wV 5) wNil))) (gT 2 (gsC (gN 8) (gsC (gN 9) gsN))) (inBody mf)))))
/-- the path ahead: the default, or a path -/
def aheadOk (a : D) (p : List Int) : Prop := a = pathD p ∨ (a = .tupK [] ∧ p = [])
theorem wrong_stmt {x : D} {d : Int} {lp : Bool} (h : isWrong x d lp = false) : isStmt x = true := by
  unfold isWrong at h
  cases hs : isStmt x with
  | true => rfl
  | false => rw [if_pos hs] at h; cases h
theorem out_loop (mf : MF Unit) (F : D → List Int → Int → Bool → Option (List Int)) (a : D) (p : List Int) (ha : aheadOk a p) (hp : p.length ≤ 99) (d : Int) (hd : 0 ≤ d) (lp : Bool) (M : ED Unit) (e0 : Option LV) (R : Prop)
    (hR : ∀ o4 o5 o6 o7 o8 o9 o10, M.nx [e0, some (.d a), some (.d (.int d)), some (.d (.bl lp)), o4, o5, o6, o7, o8, o9, o10] () = R) :
    ∀ (xs : List D) (j : Nat) (o4 o5 o6 o7 o8 o9 o10 : Option LV), goods xs = true → (d < 12 → ∀ b, good b = true → isBlk b = true → ∀ q w P, q.length ≤ p.length + 2 → mf [.d b, .d (pathD q), .d (.int (d + 1)), .d (.bl w)] () P noX = P (.d (pathO (F b q (d + 1) w))) ()) →
      wGo (gT 2 (gsC (gN 4) (gsC (gN 5) gsN))) (outBody mf) M (enumD j xs) [e0, some (.d a), some (.d (.int d)), some (.d (.bl lp)), o4, o5, o6, o7, o8, o9, o10] () =
        (match scan (fun x q => if isWrong x d lp = true then some q else scan (fun b q' => F b q' (d + 1) (lp || decide (headW x = "repeat"))) q 0 (blocksOf x)) p j xs with | some q => M.rt (.d (pathD q)) () | none => R)
  | [], j, o4, o5, o6, o7, o8, o9, o10, _, _ => by show M.nx _ () = _; rw [hR]; rfl
  | x :: xs, j, o4, o5, o6, o7, o8, o9, o10, hg, hm => by
    obtain ⟨hx, hg'⟩ := goods_cons hg
    have ih := out_loop mf F a p ha hp d hd lp M e0 R hR xs (j + 1)
    have hz : p.length + 1 ≤ sizeLine := small_line (by omega)
    unfold enumD wGo scan
    rw [gT2]
    have hadd : ∀ P : LV → Unit → Prop, addF (.d a) (.d (.tup [.int (j : Nat)])) (fun z => P z ()) = P (.d (pathD (p ++ [(j : Int)]))) () := fun P => by
      rcases ha with e | ⟨e, e2⟩
      · rw [e]
        simp [addF, pathD, hz]
      · rw [e, e2]
        simp [addF, pathD]
        exact fun _ => small_line (n := 1) (by decide)
    have hw := e_wrong x d lp
    unfold outBody
    simp only [wSeq, wSet, wOp, wVb, wV, wTup, wCons, wNil, LEnv.at, dsOf, LV.fz, List.set_cons_succ, List.set_cons_zero, List.length_cons, List.length_nil, hadd]
    refine (propext (and_iff_right (by decide))).trans ?_
    simp only [wSeq, wSet, wOp, wUn, wVb, wV, wC, wRet, wRetV, wRetN, wIfS, wNx, wBrk, wCnt, wFor, wWalk, wEnum, wRng1, wRng2, wRev, walkD, gN, gT, gsC, gsN, wAnd, wOr, wNot, wCh, wTb, wTr, wtAnd, wtOr, wtNot, wClU, wCl, wClX, wClUX, wCons, wNil, wTup, wLst, wDk, wDt, wFld, wSl, woN, woS, wKw, wRaise, wNeg, wFrz, wApp, wExt, wDrop, wUnp, wIf, wYes, wDisp1, wSplit, wLvals, wOFld, wOGet, wMk, wMkX, wDSet, wDGet, wDIn, wScr, wMt, wMtX, startN, LEnv.at, tru, isT, isC, LV.dd, LV.fz, LV.seq, LV.lis, LV.tpl, Ty6.has, lenF, intF, listF, tupleF, anyF, sumF, eqF, sEq, isF, LV.isN, inF, ixF, ltI, leI, gtI, geI, ii0, iiF, subF, modF, mulF, mulF2, listF2, LV.dt, fdivF, addF, powF, slF, dsOf, D.sign, D.flat, List.map_cons, List.map_nil, List.length_cons, List.length_nil, List.cons_append, List.nil_append, List.append_nil, List.set_cons_zero, List.set_cons_succ, List.set_nil, Nat.sub_self, Nat.reduceSub, Nat.reduceAdd, List.replicate_succ, List.replicate_zero, Bool.false_eq_true, if_true, if_false, true_and, and_true, false_and, and_false, hw _ hx hd]
    cases hW : isWrong x d lp with
    | true => simp [pathD]
    | false =>
      simp only [Bool.false_eq_true, if_false]
      have hs := wrong_stmt hW
      have hbl := blocks_good hx hs
      have hbo := e_blocksof x hs
      have hd12 : ∀ b ∈ blocksOf x, d < 12 := fun b hb => by
        refine Classical.byContradiction fun hn => ?_
        have hne : blocksOf x ≠ [] := fun z => by rw [z] at hb; cases hb
        have h12 : 12 ≤ d := by omega
        unfold isWrong at hW
        rw [if_neg (by rw [hs]; exact Bool.noConfusion)] at hW
        by_cases hl : headW x = "leave"
        · obtain ⟨k, rest, rfl⟩ := stmt_head hs
          have hk : k = "leave" := hl
          subst hk
          exact hne (by unfold blocksOf; simp only; rw [if_neg (by decide), if_neg (by decide), if_neg (by decide), if_neg (by decide)])
        · rw [if_neg hl, if_pos ⟨hne, h12⟩] at hW
          cases hW
      obtain ⟨k, rest, rfl⟩ := stmt_head hs
      have hh : headW (.tup (.str k :: rest)) = k := rfl
      have go : ∀ (w : Bool) (o8 o9 o10 : Option LV) (nx1 : LEnv → Unit → Prop), (∀ o8 o9 o10, nx1 [e0, some (.d a), some (.d (.int d)), some (.d (.bl lp)), some (.d (.int (j : Nat))), some (.d (.tup (.str k :: rest))), some (.d (pathD (p ++ [(j : Int)]))), some (.d (.bl w)), o8, o9, o10] () = (match scan (fun x q => if isWrong x d lp = true then some q else scan (fun b q' => F b q' (d + 1) (lp || decide (headW x = "repeat"))) q 0 (blocksOf x)) p ((j : Int) + 1) xs with | some q => M.rt (.d (pathD q)) () | none => R)) →
          wGo (gT 2 (gsC (gN 8) (gsC (gN 9) gsN))) (inBody mf) { M with nx := nx1, ct := nx1, bk := M.nx } (enumD 0 (blocksOf (.tup (.str k :: rest)))) [e0, some (.d a), some (.d (.int d)), some (.d (.bl lp)), some (.d (.int (j : Nat))), some (.d (.tup (.str k :: rest))), some (.d (pathD (p ++ [(j : Int)]))), some (.d (.bl w)), o8, o9, o10] () =
            (match scan (fun b q' => F b q' (d + 1) w) (p ++ [(j : Int)]) 0 (blocksOf (.tup (.str k :: rest))) with | some q => M.rt (.d (pathD q)) () | none => (match scan (fun x q => if isWrong x d lp = true then some q else scan (fun b q' => F b q' (d + 1) (lp || decide (headW x = "repeat"))) q 0 (blocksOf x)) p ((j : Int) + 1) xs with | some q => M.rt (.d (pathD q)) () | none => R)) := fun w o8 o9 o10 nx1 h1 =>
        in_loop mf (fun b q' => F b q' (d + 1) w) (p ++ [(j : Int)]) (by simp; omega) d w _ e0 (some (.d a)) (some (.d (.bl lp))) (some (.d (.int (j : Nat)))) (some (.d (.tup (.str k :: rest)))) _ h1 (blocksOf (.tup (.str k :: rest))) 0 o8 o9 o10 fun b hb q P hq => hm (hd12 b hb) b (hbl b hb).1 (hbl b hb).2 q w P (by simp at hq; omega)
      have hj : ((j + 1 : Nat) : Int) = (j : Int) + 1 := by omega
      cases lp with
      | true =>
        simp only [wSeq, wSet, wOp, wUn, wVb, wV, wC, wRet, wRetV, wRetN, wIfS, wNx, wBrk, wCnt, wFor, wWalk, wEnum, wRng1, wRng2, wRev, walkD, gN, gT, gsC, gsN, wAnd, wOr, wNot, wCh, wTb, wTr, wtAnd, wtOr, wtNot, wClU, wCl, wClX, wClUX, wCons, wNil, wTup, wLst, wDk, wDt, wFld, wSl, woN, woS, wKw, wRaise, wNeg, wFrz, wApp, wExt, wDrop, wUnp, wIf, wYes, wDisp1, wSplit, wLvals, wOFld, wOGet, wMk, wMkX, wDSet, wDGet, wDIn, wScr, wMt, wMtX, startN, LEnv.at, tru, isT, isC, LV.dd, LV.fz, LV.seq, LV.lis, LV.tpl, Ty6.has, lenF, intF, listF, tupleF, anyF, sumF, eqF, sEq, isF, LV.isN, inF, ixF, ltI, leI, gtI, geI, ii0, iiF, subF, modF, mulF, mulF2, listF2, LV.dt, fdivF, addF, powF, slF, dsOf, D.sign, D.flat, List.map_cons, List.map_nil, List.length_cons, List.length_nil, List.cons_append, List.nil_append, List.append_nil, List.set_cons_zero, List.set_cons_succ, List.set_nil, Nat.sub_self, Nat.reduceSub, Nat.reduceAdd, List.replicate_succ, List.replicate_zero, Bool.false_eq_true, if_true, if_false, true_and, and_true, false_and, and_false, hbo]
        refine (go true _ _ _ _ fun o8 o9 o10 => ?_).trans ?_
        · rw [← hj]
          exact ih _ _ _ _ _ _ _ hg' hm
        · simp only [hh, Bool.true_or]
          cases scan (fun b q' => F b q' (d + 1) true) (p ++ [(j : Int)]) 0 (blocksOf (.tup (.str k :: rest))) <;> rfl
      | false =>
        simp only [wSeq, wSet, wOp, wUn, wVb, wV, wC, wRet, wRetV, wRetN, wIfS, wNx, wBrk, wCnt, wFor, wWalk, wEnum, wRng1, wRng2, wRev, walkD, gN, gT, gsC, gsN, wAnd, wOr, wNot, wCh, wTb, wTr, wtAnd, wtOr, wtNot, wClU, wCl, wClX, wClUX, wCons, wNil, wTup, wLst, wDk, wDt, wFld, wSl, woN, woS, wKw, wRaise, wNeg, wFrz, wApp, wExt, wDrop, wUnp, wIf, wYes, wDisp1, wSplit, wLvals, wOFld, wOGet, wMk, wMkX, wDSet, wDGet, wDIn, wScr, wMt, wMtX, startN, LEnv.at, tru, isT, isC, LV.dd, LV.fz, LV.seq, LV.lis, LV.tpl, Ty6.has, lenF, intF, listF, tupleF, anyF, sumF, eqF, sEq, isF, LV.isN, inF, ixF, ltI, leI, gtI, geI, ii0, iiF, subF, modF, mulF, mulF2, listF2, LV.dt, fdivF, addF, powF, slF, dsOf, D.sign, D.flat, List.map_cons, List.map_nil, List.length_cons, List.length_nil, List.cons_append, List.nil_append, List.append_nil, List.set_cons_zero, List.set_cons_succ, List.set_nil, Nat.sub_self, Nat.reduceSub, Nat.reduceAdd, List.replicate_succ, List.replicate_zero, Bool.false_eq_true, if_true, if_false, true_and, and_true, false_and, and_false, hbo, at0]
        refine (go (decide (k = "repeat")) _ _ _ _ fun o8 o9 o10 => ?_).trans ?_
        · rw [← hj]
          exact ih _ _ _ _ _ _ _ hg' hm
        · simp only [hh, Bool.false_or]
          cases scan (fun b q' => F b q' (d + 1) (decide (k = "repeat"))) (p ++ [(j : Int)]) 0 (blocksOf (.tup (.str k :: rest))) <;> rfl
theorem first_step (mf : MF Unit) (F : D → List Int → Int → Bool → Option (List Int)) (xs : List D) (a : D) (p : List Int) (d : Int) (lp : Bool) (P : LV → Unit → Prop) (hg : goods xs = true) (ha : aheadOk a p) (hp : p.length ≤ 99) (hd : 0 ≤ d)
    (hm : d < 12 → ∀ b, good b = true → isBlk b = true → ∀ q w P, q.length ≤ p.length + 2 → mf [.d b, .d (pathD q), .d (.int (d + 1)), .d (.bl w)] () P noX = P (.d (pathO (F b q (d + 1) w))) ()) :
    mk0 4 11 (u_first_wrong mf) [.d (.tup xs), .d a, .d (.int d), .d (.bl lp)] () P noX = P (.d (pathO (scan (fun x q => if isWrong x d lp = true then some q else scan (fun b q' => F b q' (d + 1) (lp || decide (headW x = "repeat"))) q 0 (blocksOf x)) p 0 xs))) () := by
  refine (propext (and_iff_right rfl)).trans ?_
  refine (out_loop mf F a p ha hp d hd lp _ (some (.d (.tup xs))) (P (.d .non) ()) (fun _ _ _ _ _ _ _ => rfl) xs 0 none none none none none none none hg hm).trans ?_
  show (match scan (fun x q => if isWrong x d lp = true then some q else scan (fun b q' => F b q' (d + 1) (lp || decide (headW x = "repeat"))) q 0 (blocksOf x)) p 0 xs with | some q => P (.d (pathD q)) () | none => P (.d .non) ()) = _
  cases scan (fun x q => if isWrong x d lp = true then some q else scan (fun b q' => F b q' (d + 1) (lp || decide (headW x = "repeat"))) q 0 (blocksOf x)) p 0 xs <;> rfl
theorem e_first : ∀ (n : Nat) (xs : List D) (a : D) (p : List Int) (d : Int) (lp : Bool) (P : LV → Unit → Prop), goods xs = true → aheadOk a p → p.length + 2 * n ≤ 90 → 0 ≤ d → 12 ≤ d + n →
    m_first_wrong (n + 1) [.d (.tup xs), .d a, .d (.int d), .d (.bl lp)] () P noX = P (.d (pathO (firstW (n + 1) xs p d lp))) () := by
  intro n
  induction n with
  | zero =>
    intro xs a p d lp P hg ha hp hd hn
    exact first_step (m_first_wrong 0) (fun b q d' w => firstW 0 (itemsOf b) q d' w) xs a p d lp P hg ha (by omega) hd fun h => absurd h (by omega)
  | succ n ih =>
    intro xs a p d lp P hg ha hp hd hn
    refine first_step (m_first_wrong (n + 1)) (fun b q d' w => firstW (n + 1) (itemsOf b) q d' w) xs a p d lp P hg ha (by omega) hd fun h b hb hb2 q w P' hq => ?_
    obtain ⟨ys, rfl, hg'⟩ := good_items hb hb2
    exact ih ys (pathD q) q (d + 1) w P' hg' (.inl rfl) (by omega) (by omega) (by omega)
end LW
namespace LW
open PySem PySem.Spec PyProof.Rows L2 DL
/-! whether a block is right -/
def okW : Nat → List D → Int → Bool → Bool
  | 0, _, _, _ => true
  | n + 1, xs, d, lp => xs.all fun x => !isWrong x d lp && (blocksOf x).all fun b => okW n (itemsOf b) (d + 1) (lp || decide (headW x = "repeat"))
theorem scan_all {f : D → List Int → Option (List Int)} {g : D → Bool} : ∀ {xs : List D} {i : Int} {p : List Int}, (∀ x ∈ xs, ∀ q, f x q = none ↔ g x = true) → (scan f p i xs = none ↔ xs.all g = true)
  | [], i, p, _ => by simp [scan]
  | x :: r, i, p, h => by
    have ih := scan_all (f := f) (g := g) (xs := r) (i := i + 1) (p := p) fun y hy => h y (List.mem_cons_of_mem _ hy)
    have hx := h x List.mem_cons_self (p ++ [i])
    unfold scan
    rw [List.all_cons, Bool.and_eq_true, ← hx, ← ih]
    cases e : f x (p ++ [i]) <;> simp
theorem firstW_ok : ∀ (n : Nat) (xs : List D) (p : List Int) (d : Int) (lp : Bool), firstW n xs p d lp = none ↔ okW n xs d lp = true
  | 0, _, _, _, _ => by simp [firstW, okW]
  | n + 1, xs, p, d, lp => by
    unfold firstW okW
    refine scan_all fun x _ q => ?_
    cases hW : isWrong x d lp with
    | true => simp
    | false =>
      simp only [Bool.false_eq_true, if_false, Bool.not_false, Bool.true_and]
      exact scan_all fun b _ q' => firstW_ok n (itemsOf b) q' (d + 1) _
theorem deep_lt {x : D} {d : Int} {lp : Bool} (hW : isWrong x d lp = false) : ∀ b ∈ blocksOf x, d < 12 := fun b hb => by
  have hs := wrong_stmt hW
  refine Classical.byContradiction fun hn => ?_
  have hne : blocksOf x ≠ [] := fun z => by rw [z] at hb; cases hb
  have h12 : 12 ≤ d := by omega
  unfold isWrong at hW
  rw [if_neg (by rw [hs]; exact Bool.noConfusion)] at hW
  by_cases hl : headW x = "leave"
  · obtain ⟨k, rest, rfl⟩ := stmt_head hs
    have hk : k = "leave" := hl
    subst hk
    exact hne (by unfold blocksOf; simp only; rw [if_neg (by decide), if_neg (by decide), if_neg (by decide), if_neg (by decide)])
  · rw [if_neg hl, if_pos ⟨hne, h12⟩] at hW
    cases hW
/-- what an item of a right block is -/
theorem ok_item {n : Nat} {xs : List D} {d : Int} {lp : Bool} (h : okW (n + 1) xs d lp = true) : ∀ x ∈ xs, isWrong x d lp = false ∧ ∀ b ∈ blocksOf x, okW n (itemsOf b) (d + 1) (lp || decide (headW x = "repeat")) = true := by
  intro x hx
  unfold okW at h
  have := List.all_eq_true.mp h x hx
  rw [Bool.and_eq_true, List.all_eq_true] at this
  exact ⟨by simpa using this.1, this.2⟩
/-- the inner blocks of a right block are lists of items -/
theorem ok_block {x : D} {d : Int} {lp : Bool} (hx : good x = true) (hW : isWrong x d lp = false) : ∀ b ∈ blocksOf x, ∃ ys, b = .tup ys ∧ goods ys = true ∧ d < 12 := fun b hb => by
  obtain ⟨g, k⟩ := blocks_good hx (wrong_stmt hW) b hb
  obtain ⟨ys, e, hg⟩ := good_items g k
  exact ⟨ys, e, hg, deep_lt hW b hb⟩
/-! the number of statements -/
def cntW : Nat → List D → Int
  | 0, _ => 0
  | n + 1, xs => xs.length + (xs.map fun x => ((blocksOf x).map fun b => cntW n (itemsOf b)).sum).sum
theorem foldGo_sum (f : D → Int) : ∀ (xs : List D) (a : Int), foldGo (fun x a => .go (a + f x)) xs a = .go (a + (xs.map f).sum)
  | [], a => by simp [foldGo]
  | x :: r, a => by
    unfold foldGo
    simp only [foldGo_sum f r]
    rw [List.map_cons, List.sum_cons, Int.add_assoc]
theorem cnt_step (m : MF Unit) (c : List D → Int) (xs : List D) (P : LV → Unit → Prop) (hs : ∀ x ∈ xs, isStmt x = true ∧ ∀ b ∈ blocksOf x, ∀ P, m [.d b] () P noX = P (.d (.int (c (itemsOf b)))) ()) :
    mk0 1 4 (u_statement_count m) [.d (.tup xs)] () P noX = P (.d (.int (xs.length + (xs.map fun x => ((blocksOf x).map fun b => c (itemsOf b)).sum).sum))) () := by
  unfold mk0 u_statement_count
  simp only [wSeq, wSet, wOp, wUn, wVb, wV, wC, wRet, wRetV, wRetN, wIfS, wNx, wBrk, wCnt, wFor, wWalk, wEnum, wRng1, wRng2, wRev, walkD, gN, gT, gsC, gsN, wAnd, wOr, wNot, wCh, wTb, wTr, wtAnd, wtOr, wtNot, wClU, wCl, wClX, wClUX, wCons, wNil, wTup, wLst, wDk, wDt, wFld, wSl, woN, woS, wKw, wRaise, wNeg, wFrz, wApp, wExt, wDrop, wUnp, wIf, wYes, wDisp1, wSplit, wLvals, wOFld, wOGet, wMk, wMkX, wDSet, wDGet, wDIn, wScr, wMt, wMtX, startN, LEnv.at, tru, isT, isC, LV.dd, LV.fz, LV.seq, LV.lis, LV.tpl, Ty6.has, lenF, intF, listF, tupleF, anyF, sumF, eqF, sEq, isF, LV.isN, inF, ixF, ltI, leI, gtI, geI, ii0, iiF, subF, modF, mulF, mulF2, listF2, LV.dt, fdivF, addF, powF, slF, dsOf, D.sign, D.flat, List.map_cons, List.map_nil, List.length_cons, List.length_nil, List.cons_append, List.nil_append, List.append_nil, List.set_cons_zero, List.set_cons_succ, List.set_nil, Nat.sub_self, Nat.reduceSub, Nat.reduceAdd, List.replicate_succ, List.replicate_zero, Bool.false_eq_true, if_true, if_false, true_and, and_true, false_and, and_false]
  refine (wGo_go (fun x (a : Int) => .go (a + ((blocksOf x).map fun b => c (itemsOf b)).sum)) (fun r a env => (∀ x ∈ r, x ∈ xs) ∧ ∃ o2 o3, env = [some (.d (.tup xs)), some (.d (.int a)), o2, o3]) (fun a => P (.d (.int a)) ()) ?_ ?_ xs xs.length _ ⟨fun _ h => h, none, none, rfl⟩).trans ?_
  · rintro a env ⟨_, o2, o3, rfl⟩
    rfl
  · rintro x r a env ⟨hr, o2, o3, rfl⟩ k W hk
    obtain ⟨hs1, hb⟩ := hs x (hr x List.mem_cons_self)
    simp only [wSeq, wSet, wOp, wUn, wVb, wV, wC, wRet, wRetV, wRetN, wIfS, wNx, wBrk, wCnt, wFor, wWalk, wEnum, wRng1, wRng2, wRev, walkD, gN, gT, gsC, gsN, wAnd, wOr, wNot, wCh, wTb, wTr, wtAnd, wtOr, wtNot, wClU, wCl, wClX, wClUX, wCons, wNil, wTup, wLst, wDk, wDt, wFld, wSl, woN, woS, wKw, wRaise, wNeg, wFrz, wApp, wExt, wDrop, wUnp, wIf, wYes, wDisp1, wSplit, wLvals, wOFld, wOGet, wMk, wMkX, wDSet, wDGet, wDIn, wScr, wMt, wMtX, startN, LEnv.at, tru, isT, isC, LV.dd, LV.fz, LV.seq, LV.lis, LV.tpl, Ty6.has, lenF, intF, listF, tupleF, anyF, sumF, eqF, sEq, isF, LV.isN, inF, ixF, ltI, leI, gtI, geI, ii0, iiF, subF, modF, mulF, mulF2, listF2, LV.dt, fdivF, addF, powF, slF, dsOf, D.sign, D.flat, List.map_cons, List.map_nil, List.length_cons, List.length_nil, List.cons_append, List.nil_append, List.append_nil, List.set_cons_zero, List.set_cons_succ, List.set_nil, Nat.sub_self, Nat.reduceSub, Nat.reduceAdd, List.replicate_succ, List.replicate_zero, Bool.false_eq_true, if_true, if_false, true_and, and_true, false_and, and_false, e_blocksof x hs1]
    refine (wGo_go (fun b (a : Int) => .go (a + c (itemsOf b))) (fun r a env => (∀ b ∈ r, b ∈ blocksOf x) ∧ ∃ o3, env = [some (.d (.tup xs)), some (.d (.int a)), some (.d x), o3]) W ?_ ?_ (blocksOf x) a _ ⟨fun _ h => h, _, rfl⟩).trans ?_
    · rintro a env ⟨_, o3, rfl⟩
      exact hk _ _ ⟨fun y hy => hr y (List.mem_cons_of_mem _ hy), _, _, rfl⟩
    · rintro b r' a env ⟨hr', o3, rfl⟩ k W hk
      simp only [wSeq, wSet, wOp, wUn, wVb, wV, wC, wRet, wRetV, wRetN, wIfS, wNx, wBrk, wCnt, wFor, wWalk, wEnum, wRng1, wRng2, wRev, walkD, gN, gT, gsC, gsN, wAnd, wOr, wNot, wCh, wTb, wTr, wtAnd, wtOr, wtNot, wClU, wCl, wClX, wClUX, wCons, wNil, wTup, wLst, wDk, wDt, wFld, wSl, woN, woS, wKw, wRaise, wNeg, wFrz, wApp, wExt, wDrop, wUnp, wIf, wYes, wDisp1, wSplit, wLvals, wOFld, wOGet, wMk, wMkX, wDSet, wDGet, wDIn, wScr, wMt, wMtX, startN, LEnv.at, tru, isT, isC, LV.dd, LV.fz, LV.seq, LV.lis, LV.tpl, Ty6.has, lenF, intF, listF, tupleF, anyF, sumF, eqF, sEq, isF, LV.isN, inF, ixF, ltI, leI, gtI, geI, ii0, iiF, subF, modF, mulF, mulF2, listF2, LV.dt, fdivF, addF, powF, slF, dsOf, D.sign, D.flat, List.map_cons, List.map_nil, List.length_cons, List.length_nil, List.cons_append, List.nil_append, List.append_nil, List.set_cons_zero, List.set_cons_succ, List.set_nil, Nat.sub_self, Nat.reduceSub, Nat.reduceAdd, List.replicate_succ, List.replicate_zero, Bool.false_eq_true, if_true, if_false, true_and, and_true, false_and, and_false, hb b (hr' b List.mem_cons_self)]
      exact hk _ _ ⟨fun y hy => hr' y (List.mem_cons_of_mem _ hy), _, rfl⟩
    · rw [foldGo_sum]
      rfl
  · rw [foldGo_sum]
    rfl
theorem e_count : ∀ (n : Nat) (xs : List D) (d : Int) (lp : Bool) (P : LV → Unit → Prop), goods xs = true → okW (n + 1) xs d lp = true → 12 ≤ d + n → m_statement_count (n + 1) [.d (.tup xs)] () P noX = P (.d (.int (cntW (n + 1) xs))) () := by
  intro n
  induction n with
  | zero =>
    intro xs d lp P hg hok hn
    refine cnt_step (m_statement_count 0) (cntW 0) xs P fun x hx => ?_
    obtain ⟨hW, _⟩ := ok_item hok x hx
    exact ⟨wrong_stmt hW, fun b hb => absurd (deep_lt hW b hb) (by omega)⟩
  | succ n ih =>
    intro xs d lp P hg hok hn
    refine cnt_step (m_statement_count (n + 1)) (cntW (n + 1)) xs P fun x hx => ?_
    obtain ⟨hW, ho⟩ := ok_item hok x hx
    refine ⟨wrong_stmt hW, fun b hb P => ?_⟩
    obtain ⟨ys, rfl, hg', hd⟩ := ok_block (goods_mem hg x hx) hW b hb
    exact ih ys (d + 1) _ P hg' (ho _ hb) (by omega)
end LW
namespace LW
open PySem PySem.Spec PyProof.Rows L2 DL
/-! the statements with their paths -/
def walkW {α : Type} (f : D → List Int → List α) (p : List Int) : Int → List D → List α
  | _, [] => []
  | i, x :: r => f x (p ++ [i]) ++ walkW f p (i + 1) r
def lstW : Nat → List D → List Int → List (List Int × D)
  | 0, _, _ => []
  | n + 1, xs, p => walkW (fun x q => (q, x) :: walkW (fun b q' => lstW n (itemsOf b) q') q 0 (blocksOf x)) p 0 xs
def pairD (z : List Int × D) : D := .tup [pathD z.1, z.2]
theorem walk_len {α : Type} {f : D → List Int → List α} {g : D → Int} {p : List Int} : ∀ {xs : List D} {i : Int}, (∀ x ∈ xs, ∀ q, ((f x q).length : Int) = g x) → ((walkW f p i xs).length : Int) = (xs.map g).sum
  | [], i, _ => rfl
  | x :: r, i, h => by
    unfold walkW
    rw [List.length_append, List.map_cons, List.sum_cons, Int.natCast_add, h x List.mem_cons_self, walk_len fun y hy => h y (List.mem_cons_of_mem _ hy)]
theorem sum_add_one {α : Type} (g : α → Int) : ∀ xs : List α, (xs.map fun x => 1 + g x).sum = xs.length + (xs.map g).sum
  | [] => rfl
  | x :: r => by
    rw [List.map_cons, List.sum_cons, sum_add_one g r, List.map_cons, List.sum_cons, List.length_cons]
    omega
theorem lst_len : ∀ (n : Nat) (xs : List D) (p : List Int), ((lstW n xs p).length : Int) = cntW n xs
  | 0, _, _ => rfl
  | n + 1, xs, p => by
    unfold lstW cntW
    rw [walk_len (g := fun x => 1 + ((blocksOf x).map fun b => cntW n (itemsOf b)).sum) fun x _ q => ?_, sum_add_one]
    rw [List.length_cons, Int.natCast_add, walk_len (g := fun b => cntW n (itemsOf b)) fun b _ q' => lst_len n (itemsOf b) q']
    omega
theorem foldE_walk {α : Type} (f : D → List Int → List α) (p : List Int) : ∀ (xs : List D) (j : Nat) (acc : List α), foldE (fun j x acc => .go (acc ++ f x (p ++ [(j : Int)]))) j xs acc = .go (acc ++ walkW f p j xs)
  | [], j, acc => by simp [foldE, walkW]
  | x :: r, j, acc => by
    unfold foldE walkW
    simp only [foldE_walk f p r (j + 1)]
    rw [List.append_assoc]
    rfl
theorem add_path {a : D} {p : List Int} (ha : aheadOk a p) (hp : p.length ≤ 99) (j : Nat) (P : LV → Prop) : addF (.d a) (.d (.tup [.int (j : Nat)])) P = P (.d (pathD (p ++ [(j : Int)]))) := by
  have hz : p.length + 1 ≤ sizeLine := small_line (by omega)
  rcases ha with e | ⟨e, e2⟩
  · rw [e]
    simp [addF, pathD, hz]
  · rw [e, e2]
    simp [addF, pathD]
    exact fun _ => small_line (n := 1) (by decide)
def lstX (L : List D → List Int → List (List Int × D)) (x : D) (q : List Int) : List (List Int × D) := (q, x) :: walkW (fun b q' => L (itemsOf b) q') q 0 (blocksOf x)
theorem lst_in (m : MF Unit) (L : List D → List Int → List (List Int × D)) (q : List Int) (hq : q.length ≤ 95) (M : ED Unit) (e0 e1 e3 e4 : Option LV) (F : List (List Int × D)) (hF : F.length ≤ 100000) (W : Prop)
    (hk : ∀ o6 o7, M.nx [e0, e1, some (.l (F.map pairD)), e3, e4, some (.d (pathD q)), o6, o7] () = W) :
    ∀ (bs : List D) (i : Nat) (acc : List (List Int × D)) (o6 o7 : Option LV), (∀ b ∈ bs, ∀ q' P, q'.length ≤ q.length + 1 → m [.d b, .d (pathD q')] () P noX = P (.l ((L (itemsOf b) q').map pairD)) ()) → acc ++ walkW (fun b q' => L (itemsOf b) q') q i bs = F →
      wGo (gT 2 (gsC (gN 6) (gsC (gN 7) gsN))) (wExt 2 (wClU m [] (wCons (wV 7) (wCons (wOp addF (wVb 5) (wTup (wCons (wV 6) wNil))) wNil)))) M (enumD i bs) [e0, e1, some (.l (acc.map pairD)), e3, e4, some (.d (pathD q)), o6, o7] () = W
  | [], i, acc, o6, o7, _, hf => by
    have hf' : acc = F := by simpa [walkW] using hf
    rw [hf']
    exact hk o6 o7
  | b :: bs, i, acc, o6, o7, hm, hf => by
    have hbig : 100000 < sizeLine := by decide
    have hb := hm b List.mem_cons_self (q ++ [(i : Int)])
    have hf' : (acc ++ L (itemsOf b) (q ++ [(i : Int)])) ++ walkW (fun b q' => L (itemsOf b) q') q ((i + 1 : Nat) : Int) bs = F := by
      rw [List.append_assoc]
      exact hf
    have hlen : acc.length + (L (itemsOf b) (q ++ [(i : Int)])).length ≤ 100000 := by
      have := congrArg List.length hf'
      simp only [List.length_append] at this
      omega
    have ih := lst_in m L q hq M e0 e1 e3 e4 F hF W hk bs (i + 1) (acc ++ L (itemsOf b) (q ++ [(i : Int)]))
    unfold enumD wGo
    rw [gT2]
    simp only [wExt, LEnv.at, wClU, wCons, wV, wNil, wOp, wVb, wTup, dsOf, LV.fz, List.set_cons_succ, List.set_cons_zero, add_path (.inl rfl) (Nat.le_trans hq (by decide) : q.length ≤ 99), List.length_cons, List.length_nil, List.append_nil, List.cons_append, List.nil_append]
    refine (propext (and_iff_right (by decide))).trans ?_
    rw [hb _ (by simp)]
    simp only [LV.lis]
    refine (propext (and_iff_right (by simp only [List.length_map]; omega))).trans ?_
    rw [← List.map_append]
    exact ih _ _ (fun b' hb' => hm b' (List.mem_cons_of_mem _ hb')) hf'
theorem lst_out (m : MF Unit) (L : List D → List Int → List (List Int × D)) (a : D) (p : List Int) (ha : aheadOk a p) (hp : p.length ≤ 90) (M : ED Unit) (e0 : Option LV) (F : List (List Int × D)) (hF : F.length ≤ 100000) (W : Prop)
    (hk : ∀ o3 o4 o5 o6 o7, M.nx [e0, some (.d a), some (.l (F.map pairD)), o3, o4, o5, o6, o7] () = W) :
    ∀ (xs : List D) (j : Nat) (acc : List (List Int × D)) (o3 o4 o5 o6 o7 : Option LV), (∀ x ∈ xs, isStmt x = true ∧ ∀ b ∈ blocksOf x, ∀ q P, q.length ≤ p.length + 2 → m [.d b, .d (pathD q)] () P noX = P (.l ((L (itemsOf b) q).map pairD)) ()) → acc ++ walkW (lstX L) p j xs = F →
      wGo (gT 2 (gsC (gN 3) (gsC (gN 4) gsN))) (wSeq (wSet 5 (wOp addF (wVb 1) (wTup (wCons (wV 3) wNil))))
    (wSeq (wFrz 5 (wApp 2 (wTup (wCons (wV 5) (wCons (wV 4) wNil)))))
    (wFor (wEnum (wClU m_blocks_of [] (wCons (wV 4) wNil))) (gT 2 (gsC (gN 6) (gsC (gN 7) gsN))) (wExt 2 (wClU m [] (wCons (wV 7) (wCons (wOp addF (wVb 5) (wTup (wCons (wV 6) wNil))) wNil))))))) M (enumD j xs) [e0, some (.d a), some (.l (acc.map pairD)), o3, o4, o5, o6, o7] () = W
  | [], j, acc, o3, o4, o5, o6, o7, _, hf => by
    have hf' : acc = F := by simpa [walkW] using hf
    rw [hf']
    exact hk o3 o4 o5 o6 o7
  | x :: xs, j, acc, o3, o4, o5, o6, o7, hm, hf => by
    have hbig : 100000 < sizeLine := by decide
    obtain ⟨hs1, hb⟩ := hm x List.mem_cons_self
    have hf' : (acc ++ lstX L x (p ++ [(j : Int)])) ++ walkW (lstX L) p ((j + 1 : Nat) : Int) xs = F := by
      rw [List.append_assoc]
      exact hf
    have hlen : acc.length + (lstX L x (p ++ [(j : Int)])).length ≤ 100000 := by
      have := congrArg List.length hf'
      simp only [List.length_append] at this
      omega
    have ih := lst_out m L a p ha hp M e0 F hF W hk xs (j + 1) (acc ++ lstX L x (p ++ [(j : Int)]))
    unfold enumD wGo
    rw [gT2]
    simp only [wSeq, wSet, wOp, wVb, wV, wTup, wCons, wNil, LEnv.at, dsOf, LV.fz, List.set_cons_succ, List.set_cons_zero, List.length_cons, List.length_nil, add_path ha (Nat.le_trans hp (by decide) : p.length ≤ 99)]
    refine (propext (and_iff_right (by decide))).trans ?_
    simp only [wFrz, wApp, LEnv.at, LV.fz, List.set_cons_succ, List.set_cons_zero, dsOf]
    refine (propext (and_iff_right (by simp))).trans ?_
    refine (propext (and_iff_right (by unfold lstX at hlen; simp only [List.length_cons, List.length_map] at hlen ⊢; omega))).trans ?_
    simp only [wFor, wEnum, wClU, wCons, wNil, wV, LEnv.at, LV.fz, List.append_nil, e_blocksof x hs1, LV.seq, List.set_cons_succ, List.set_cons_zero]
    have e1 : acc.map pairD ++ [D.tup [pathD (p ++ [(j : Int)]), x]] = (acc ++ [(p ++ [(j : Int)], x)]).map pairD := by rw [List.map_append]; rfl
    rw [e1]
    refine lst_in m L (p ++ [(j : Int)]) (by simp; omega) _ e0 (some (.d a)) (some (.d (.int (j : Nat)))) (some (.d x)) (acc ++ lstX L x (p ++ [(j : Int)])) (by rw [List.length_append]; exact hlen) W (fun o6 o7 => ?_) (blocksOf x) 0 (acc ++ [(p ++ [(j : Int)], x)]) _ _ (fun b hb' q' P hq => hb b hb' q' P (by simp at hq; omega)) (by rw [List.append_assoc]; rfl)
    exact ih _ _ _ _ _ (fun y hy => hm y (List.mem_cons_of_mem _ hy)) hf'
theorem lst_step (m : MF Unit) (L : List D → List Int → List (List Int × D)) (xs : List D) (a : D) (p : List Int) (P : LV → Unit → Prop) (ha : aheadOk a p) (hp : p.length ≤ 90)
    (hs : ∀ x ∈ xs, isStmt x = true ∧ ∀ b ∈ blocksOf x, ∀ q P, q.length ≤ p.length + 2 → m [.d b, .d (pathD q)] () P noX = P (.l ((L (itemsOf b) q).map pairD)) ())
    (hl : (walkW (lstX L) p 0 xs).length ≤ 100000) :
    mk0 2 8 (u_listed m) [.d (.tup xs), .d a] () P noX = P (.l ((walkW (lstX L) p 0 xs).map pairD)) () := by
  refine (propext (and_iff_right rfl)).trans ?_
  refine (propext (and_iff_right (Nat.zero_le _))).trans ?_
  exact lst_out m L a p ha hp _ (some (.d (.tup xs))) (walkW (lstX L) p 0 xs) hl _ (fun _ _ _ _ _ => rfl) xs 0 [] none none none none none hs rfl
theorem lstW_succ (n : Nat) (xs : List D) (p : List Int) : lstW (n + 1) xs p = walkW (lstX (lstW n)) p 0 xs := rfl
theorem sum_nonneg {α : Type} (g : α → Int) : ∀ {xs : List α}, (∀ x ∈ xs, 0 ≤ g x) → 0 ≤ (xs.map g).sum
  | [], _ => by simp
  | x :: r, h => by
    have h1 := h x List.mem_cons_self
    have h2 := sum_nonneg g (xs := r) fun y hy => h y (List.mem_cons_of_mem _ hy)
    rw [List.map_cons, List.sum_cons]
    omega
theorem sum_mem {α : Type} (g : α → Int) : ∀ {xs : List α}, (∀ x ∈ xs, 0 ≤ g x) → ∀ x ∈ xs, g x ≤ (xs.map g).sum
  | [], _, x, h => by cases h
  | y :: r, h, x, hx => by
    have h1 := h y List.mem_cons_self
    have h2 := sum_nonneg g (xs := r) fun y hy => h y (List.mem_cons_of_mem _ hy)
    rw [List.map_cons, List.sum_cons]
    rcases List.mem_cons.mp hx with e | e
    · rw [e]; omega
    · have := sum_mem g (xs := r) (fun y hy => h y (List.mem_cons_of_mem _ hy)) x e
      omega
theorem cnt_nonneg : ∀ (n : Nat) (xs : List D), 0 ≤ cntW n xs
  | 0, _ => by simp [cntW]
  | n + 1, xs => by
    unfold cntW
    have := sum_nonneg (fun x => ((blocksOf x).map fun b => cntW n (itemsOf b)).sum) (xs := xs) fun x _ => sum_nonneg _ fun b _ => cnt_nonneg n (itemsOf b)
    omega
/-- the blocks within count no more than the whole -/
theorem cnt_in_le (n : Nat) (xs : List D) : ∀ x ∈ xs, ∀ b ∈ blocksOf x, cntW n (itemsOf b) ≤ cntW (n + 1) xs := fun x hx b hb => by
  have h1 := sum_mem (fun b => cntW n (itemsOf b)) (xs := blocksOf x) (fun b _ => cnt_nonneg n (itemsOf b)) b hb
  have h2 := sum_mem (fun x => ((blocksOf x).map fun b => cntW n (itemsOf b)).sum) (xs := xs) (fun x _ => sum_nonneg _ fun b _ => cnt_nonneg n (itemsOf b)) x hx
  have h3 : cntW (n + 1) xs = xs.length + (xs.map fun x => ((blocksOf x).map fun b => cntW n (itemsOf b)).sum).sum := rfl
  omega
theorem e_listed : ∀ (n : Nat) (xs : List D) (a : D) (p : List Int) (d : Int) (lp : Bool) (P : LV → Unit → Prop), goods xs = true → okW (n + 1) xs d lp = true → 12 ≤ d + n → aheadOk a p → p.length + 2 * n ≤ 90 → cntW (n + 1) xs ≤ 100000 →
    m_listed (n + 1) [.d (.tup xs), .d a] () P noX = P (.l ((lstW (n + 1) xs p).map pairD)) () := by
  intro n
  induction n with
  | zero =>
    intro xs a p d lp P hg hok hn ha hp hc
    refine lst_step (m_listed 0) (lstW 0) xs a p P ha (by omega) (fun x hx => ?_) ?_
    · obtain ⟨hW, _⟩ := ok_item hok x hx
      exact ⟨wrong_stmt hW, fun b hb => absurd (deep_lt hW b hb) (by omega)⟩
    · have := lst_len (0 + 1) xs p
      rw [lstW_succ] at this
      omega
  | succ n ih =>
    intro xs a p d lp P hg hok hn ha hp hc
    refine lst_step (m_listed (n + 1)) (lstW (n + 1)) xs a p P ha (by omega) (fun x hx => ?_) ?_
    · obtain ⟨hW, ho⟩ := ok_item hok x hx
      refine ⟨wrong_stmt hW, fun b hb q P hq => ?_⟩
      have hcb := cnt_in_le (n + 1) xs x hx b hb
      obtain ⟨ys, rfl, hg', hd⟩ := ok_block (goods_mem hg x hx) hW b hb
      exact ih ys (pathD q) q (d + 1) _ P hg' (ho _ hb) (by omega) (.inl rfl) (by omega) (Int.le_trans hcb hc)
    · have := lst_len (n + 1 + 1) xs p
      rw [lstW_succ] at this
      omega
/-! the paths ascend -/
def pLt : List Int → List Int → Prop
  | [], _ :: _ => True
  | a :: l, b :: r => a < b ∨ (a = b ∧ pLt l r)
  | _, [] => False
theorem pLt_irrefl : ∀ p : List Int, ¬ pLt p p
  | [], h => h
  | a :: l, h => by
    rcases h with h | h
    · omega
    · exact pLt_irrefl l h.2
theorem pLt_pre : ∀ (p a b : List Int), pLt a b → pLt (p ++ a) (p ++ b)
  | [], _, _, h => h
  | x :: p, a, b, h => .inr ⟨rfl, pLt_pre p a b h⟩
theorem walk_from {α : Type} {g : α → List Int} {f : D → List Int → List α} {p : List Int} : ∀ {xs : List D} {i : Int}, (∀ x ∈ xs, ∀ q, ∀ z ∈ f x q, ∃ r, g z = q ++ r) → ∀ z ∈ walkW f p i xs, ∃ k r, i ≤ k ∧ g z = p ++ k :: r
  | [], i, _, z, hz => by cases hz
  | x :: xs, i, h, z, hz => by
    unfold walkW at hz
    rcases List.mem_append.mp hz with e | e
    · obtain ⟨r, er⟩ := h x List.mem_cons_self _ z e
      exact ⟨i, r, Int.le_refl _, by rw [er, List.append_assoc]; rfl⟩
    · obtain ⟨k, r, h1, h2⟩ := walk_from (fun y hy => h y (List.mem_cons_of_mem _ hy)) z e
      exact ⟨k, r, by omega, h2⟩
theorem walk_asc {α : Type} {g : α → List Int} {f : D → List Int → List α} {p : List Int} : ∀ {xs : List D} {i : Int}, (∀ x ∈ xs, ∀ q, ∀ z ∈ f x q, ∃ r, g z = q ++ r) → (∀ x ∈ xs, ∀ q, (f x q).Pairwise fun a b => pLt (g a) (g b)) → (walkW f p i xs).Pairwise fun a b => pLt (g a) (g b)
  | [], i, _, _ => List.Pairwise.nil
  | x :: xs, i, h, hp => by
    unfold walkW
    refine List.pairwise_append.mpr ⟨hp x List.mem_cons_self _, walk_asc (fun y hy => h y (List.mem_cons_of_mem _ hy)) (fun y hy => hp y (List.mem_cons_of_mem _ hy)), fun a ha b hb => ?_⟩
    obtain ⟨r, er⟩ := h x List.mem_cons_self _ a ha
    obtain ⟨k, r', h1, h2⟩ := walk_from (fun y hy => h y (List.mem_cons_of_mem _ hy)) b hb
    rw [er, h2, List.append_assoc]
    exact pLt_pre p _ _ (.inl (by omega))
theorem lst_from : ∀ (n : Nat) (xs : List D) (p : List Int), ∀ z ∈ lstW n xs p, ∃ k r, 0 ≤ k ∧ z.1 = p ++ k :: r
  | 0, _, _, z, hz => by cases hz
  | n + 1, xs, p, z, hz => by
    rw [lstW_succ] at hz
    refine walk_from (g := fun z : List Int × D => z.1) (fun x _ q z hz => ?_) z hz
    rcases List.mem_cons.mp hz with e | e
    · exact ⟨[], by rw [e]; simp⟩
    · obtain ⟨k, r, _, h2⟩ := walk_from (g := fun z : List Int × D => z.1) (fun b _ q' z hz => by
        obtain ⟨k, r, _, h2⟩ := lst_from n (itemsOf b) q' z hz
        exact ⟨_, h2⟩) z e
      exact ⟨_, h2⟩
theorem lst_asc : ∀ (n : Nat) (xs : List D) (p : List Int), (lstW n xs p).Pairwise fun a b => pLt a.1 b.1
  | 0, _, _ => List.Pairwise.nil
  | n + 1, xs, p => by
    have hfb : ∀ (b : D) (q' : List Int), ∀ z ∈ lstW n (itemsOf b) q', ∃ r, z.1 = q' ++ r := fun b q' z hz => by
      obtain ⟨k, r, _, h2⟩ := lst_from n (itemsOf b) q' z hz
      exact ⟨_, h2⟩
    rw [lstW_succ]
    refine walk_asc (g := fun z : List Int × D => z.1) (fun x _ q z hz => ?_) fun x _ q => ?_
    · rcases List.mem_cons.mp hz with e | e
      · exact ⟨[], by rw [e]; simp⟩
      · obtain ⟨k, r, _, h2⟩ := walk_from (g := fun z : List Int × D => z.1) (fun b _ q' z hz => hfb b q' z hz) z e
        exact ⟨_, h2⟩
    · refine List.pairwise_cons.mpr ⟨fun z hz => ?_, walk_asc (g := fun z : List Int × D => z.1) (fun b _ q' z hz => hfb b q' z hz) fun b _ q' => lst_asc n (itemsOf b) q'⟩
      obtain ⟨k, r, _, h2⟩ := walk_from (g := fun z : List Int × D => z.1) (fun b _ q' z hz => hfb b q' z hz) z hz
      have : pLt (q ++ []) (q ++ k :: r) := pLt_pre q [] (k :: r) True.intro
      rw [List.append_nil] at this
      show pLt q z.1
      rw [h2]
      exact this
theorem lst_nodup (n : Nat) (xs : List D) (p : List Int) : ((lstW n xs p).map (·.1)).Nodup := by
  refine List.pairwise_map.mpr ((lst_asc n xs p).imp fun h e => ?_)
  rw [e] at h
  exact pLt_irrefl _ h
/-! the table -/
def kI (p : List Int) : List Key := p.map Sum.inl
theorem keysOf_ints : ∀ p : List Int, keysOf (p.map D.int) = some (kI p)
  | [] => rfl
  | i :: p => by
    show (match (D.int i).key, keysOf (p.map D.int) with | some k, some r => some (k :: r) | _, _ => none) = _
    rw [keysOf_ints p]
    rfl
theorem kI_inj : ∀ {p q : List Int}, kI p = kI q → p = q
  | [], [], _ => rfl
  | [], _ :: _, h => by cases h
  | _ :: _, [], h => by cases h
  | a :: p, b :: q, h => by
    unfold kI at h
    simp only [List.map_cons, List.cons.injEq, Sum.inl.injEq] at h
    rw [h.1, kI_inj h.2]
theorem tbl_loop (M : ED Unit) (x0 : Option LV) (W : Prop) (F : List (List Int × D)) (hF : F.length ≤ 100000) (hn : (F.map (·.1)).Nodup) (hR : ∀ o2 o3, M.nx [x0, some (.t (F.map fun z => kI z.1) (F.map (·.2))), o2, o3] () = W) :
    ∀ (L A : List (List Int × D)) (o2 o3 : Option LV), A ++ L = F → wGo (gT 2 (gsC (gN 2) (gsC (gN 3) gsN))) (wDSet 1 (wV 2) (wV 3)) M (L.map pairD) [x0, some (.t (A.map fun z => kI z.1) (A.map (·.2))), o2, o3] () = W
  | [], A, o2, o3, e => by
    rw [List.append_nil] at e
    rw [e]
    exact hR o2 o3
  | z :: L, A, o2, o3, e => by
    have hbig : 100000 < sizeLine := by decide
    have hlen : A.length < 100000 := by
      have := congrArg List.length e
      simp only [List.length_append, List.length_cons] at this
      omega
    have hnot : kI z.1 ∉ A.map fun z => kI z.1 := fun h => by
      obtain ⟨y, hy, ey⟩ := List.mem_map.mp h
      have := kI_inj ey
      rw [← e, List.map_append, List.map_cons] at hn
      have h3 := (List.nodup_append.mp hn).2.2 y.1 (List.mem_map.mpr ⟨y, hy, rfl⟩) z.1 List.mem_cons_self
      exact h3 this
    rw [List.map_cons]
    unfold wGo pairD
    rw [gT2]
    simp only [wDSet, LEnv.at, wV, LV.fz, List.set_cons_succ, List.set_cons_zero, dputF, pathD, D.keys, keysOf_ints]
    refine (propext (and_iff_right (by rw [List.length_map]; omega))).trans ?_
    have e1 : putKs (A.map fun z => kI z.1) (kI z.1) = (A ++ [z]).map fun z => kI z.1 := by
      unfold putKs
      rw [if_neg hnot, List.map_append]
      rfl
    have e2 : putXs (A.map fun z => kI z.1) (A.map (·.2)) (kI z.1) z.2 = (A ++ [z]).map (·.2) := by
      unfold putXs
      rw [if_neg hnot, List.map_append]
      rfl
    rw [e1, e2]
    exact tbl_loop M x0 W F hF hn hR L (A ++ [z]) _ _ (by rw [List.append_assoc]; exact e)
theorem e_table (xs : List D) (P : LV → Unit → Prop) (hg : goods xs = true) (hok : okW 14 xs 1 false = true) (hc : cntW 14 xs ≤ 6000) :
    m_statement_table [.d (.tup xs)] () P noX = P (.t ((lstW 14 xs []).map fun z => kI z.1) ((lstW 14 xs []).map (·.2))) () := by
  have hl := lst_len 14 xs []
  refine (propext (and_iff_right rfl)).trans ?_
  show m_listed 14 [.d (.tup xs), .d (.tupK [])] () _ noX = _
  rw [e_listed 13 xs (.tupK []) [] 1 false _ hg hok (by omega) (.inr ⟨rfl, rfl⟩) (by simp) (Int.le_trans hc (by decide))]
  exact tbl_loop _ (some (.d (.tup xs))) _ (lstW 14 xs []) (by omega) (lst_nodup 14 xs []) (fun _ _ => rfl) (lstW 14 xs []) [] none none rfl
end LW
namespace LW
open PySem PySem.Spec PyProof.Rows L2 DL
/-! what statements and expressions are -/
theorem wne_set : (("set" : Str) = "tell" ↔ False) ∧ (("set" : Str) = "hear" ↔ False) ∧ (("set" : Str) = "leave" ↔ False) ∧ (("set" : Str) = "home" ↔ False) ∧ (("set" : Str) = "fail" ↔ False) ∧ (("set" : Str) = "if" ↔ False) ∧ (("set" : Str) = "wait" ↔ False) ∧ (("set" : Str) = "open" ↔ False) ∧ (("set" : Str) = "repeat" ↔ False) ∧ (("set" : Str) = "name" ↔ False) ∧ (("set" : Str) = "plus" ↔ False) ∧ (("set" : Str) = "minus" ↔ False) ∧ (("set" : Str) = "same" ↔ False) ∧ (("set" : Str) = "less" ↔ False) ∧ (("set" : Str) = "not" ↔ False) := by decide +kernel
theorem wne_tell : (("tell" : Str) = "set" ↔ False) ∧ (("tell" : Str) = "hear" ↔ False) ∧ (("tell" : Str) = "leave" ↔ False) ∧ (("tell" : Str) = "home" ↔ False) ∧ (("tell" : Str) = "fail" ↔ False) ∧ (("tell" : Str) = "if" ↔ False) ∧ (("tell" : Str) = "wait" ↔ False) ∧ (("tell" : Str) = "open" ↔ False) ∧ (("tell" : Str) = "repeat" ↔ False) ∧ (("tell" : Str) = "name" ↔ False) ∧ (("tell" : Str) = "plus" ↔ False) ∧ (("tell" : Str) = "minus" ↔ False) ∧ (("tell" : Str) = "same" ↔ False) ∧ (("tell" : Str) = "less" ↔ False) ∧ (("tell" : Str) = "not" ↔ False) := by decide +kernel
theorem wne_hear : (("hear" : Str) = "set" ↔ False) ∧ (("hear" : Str) = "tell" ↔ False) ∧ (("hear" : Str) = "leave" ↔ False) ∧ (("hear" : Str) = "home" ↔ False) ∧ (("hear" : Str) = "fail" ↔ False) ∧ (("hear" : Str) = "if" ↔ False) ∧ (("hear" : Str) = "wait" ↔ False) ∧ (("hear" : Str) = "open" ↔ False) ∧ (("hear" : Str) = "repeat" ↔ False) ∧ (("hear" : Str) = "name" ↔ False) ∧ (("hear" : Str) = "plus" ↔ False) ∧ (("hear" : Str) = "minus" ↔ False) ∧ (("hear" : Str) = "same" ↔ False) ∧ (("hear" : Str) = "less" ↔ False) ∧ (("hear" : Str) = "not" ↔ False) := by decide +kernel
theorem wne_leave : (("leave" : Str) = "set" ↔ False) ∧ (("leave" : Str) = "tell" ↔ False) ∧ (("leave" : Str) = "hear" ↔ False) ∧ (("leave" : Str) = "home" ↔ False) ∧ (("leave" : Str) = "fail" ↔ False) ∧ (("leave" : Str) = "if" ↔ False) ∧ (("leave" : Str) = "wait" ↔ False) ∧ (("leave" : Str) = "open" ↔ False) ∧ (("leave" : Str) = "repeat" ↔ False) ∧ (("leave" : Str) = "name" ↔ False) ∧ (("leave" : Str) = "plus" ↔ False) ∧ (("leave" : Str) = "minus" ↔ False) ∧ (("leave" : Str) = "same" ↔ False) ∧ (("leave" : Str) = "less" ↔ False) ∧ (("leave" : Str) = "not" ↔ False) := by decide +kernel
theorem wne_home : (("home" : Str) = "set" ↔ False) ∧ (("home" : Str) = "tell" ↔ False) ∧ (("home" : Str) = "hear" ↔ False) ∧ (("home" : Str) = "leave" ↔ False) ∧ (("home" : Str) = "fail" ↔ False) ∧ (("home" : Str) = "if" ↔ False) ∧ (("home" : Str) = "wait" ↔ False) ∧ (("home" : Str) = "open" ↔ False) ∧ (("home" : Str) = "repeat" ↔ False) ∧ (("home" : Str) = "name" ↔ False) ∧ (("home" : Str) = "plus" ↔ False) ∧ (("home" : Str) = "minus" ↔ False) ∧ (("home" : Str) = "same" ↔ False) ∧ (("home" : Str) = "less" ↔ False) ∧ (("home" : Str) = "not" ↔ False) := by decide +kernel
theorem wne_fail : (("fail" : Str) = "set" ↔ False) ∧ (("fail" : Str) = "tell" ↔ False) ∧ (("fail" : Str) = "hear" ↔ False) ∧ (("fail" : Str) = "leave" ↔ False) ∧ (("fail" : Str) = "home" ↔ False) ∧ (("fail" : Str) = "if" ↔ False) ∧ (("fail" : Str) = "wait" ↔ False) ∧ (("fail" : Str) = "open" ↔ False) ∧ (("fail" : Str) = "repeat" ↔ False) ∧ (("fail" : Str) = "name" ↔ False) ∧ (("fail" : Str) = "plus" ↔ False) ∧ (("fail" : Str) = "minus" ↔ False) ∧ (("fail" : Str) = "same" ↔ False) ∧ (("fail" : Str) = "less" ↔ False) ∧ (("fail" : Str) = "not" ↔ False) := by decide +kernel
theorem wne_if : (("if" : Str) = "set" ↔ False) ∧ (("if" : Str) = "tell" ↔ False) ∧ (("if" : Str) = "hear" ↔ False) ∧ (("if" : Str) = "leave" ↔ False) ∧ (("if" : Str) = "home" ↔ False) ∧ (("if" : Str) = "fail" ↔ False) ∧ (("if" : Str) = "wait" ↔ False) ∧ (("if" : Str) = "open" ↔ False) ∧ (("if" : Str) = "repeat" ↔ False) ∧ (("if" : Str) = "name" ↔ False) ∧ (("if" : Str) = "plus" ↔ False) ∧ (("if" : Str) = "minus" ↔ False) ∧ (("if" : Str) = "same" ↔ False) ∧ (("if" : Str) = "less" ↔ False) ∧ (("if" : Str) = "not" ↔ False) := by decide +kernel
theorem wne_wait : (("wait" : Str) = "set" ↔ False) ∧ (("wait" : Str) = "tell" ↔ False) ∧ (("wait" : Str) = "hear" ↔ False) ∧ (("wait" : Str) = "leave" ↔ False) ∧ (("wait" : Str) = "home" ↔ False) ∧ (("wait" : Str) = "fail" ↔ False) ∧ (("wait" : Str) = "if" ↔ False) ∧ (("wait" : Str) = "open" ↔ False) ∧ (("wait" : Str) = "repeat" ↔ False) ∧ (("wait" : Str) = "name" ↔ False) ∧ (("wait" : Str) = "plus" ↔ False) ∧ (("wait" : Str) = "minus" ↔ False) ∧ (("wait" : Str) = "same" ↔ False) ∧ (("wait" : Str) = "less" ↔ False) ∧ (("wait" : Str) = "not" ↔ False) := by decide +kernel
theorem wne_open : (("open" : Str) = "set" ↔ False) ∧ (("open" : Str) = "tell" ↔ False) ∧ (("open" : Str) = "hear" ↔ False) ∧ (("open" : Str) = "leave" ↔ False) ∧ (("open" : Str) = "home" ↔ False) ∧ (("open" : Str) = "fail" ↔ False) ∧ (("open" : Str) = "if" ↔ False) ∧ (("open" : Str) = "wait" ↔ False) ∧ (("open" : Str) = "repeat" ↔ False) ∧ (("open" : Str) = "name" ↔ False) ∧ (("open" : Str) = "plus" ↔ False) ∧ (("open" : Str) = "minus" ↔ False) ∧ (("open" : Str) = "same" ↔ False) ∧ (("open" : Str) = "less" ↔ False) ∧ (("open" : Str) = "not" ↔ False) := by decide +kernel
theorem wne_repeat : (("repeat" : Str) = "set" ↔ False) ∧ (("repeat" : Str) = "tell" ↔ False) ∧ (("repeat" : Str) = "hear" ↔ False) ∧ (("repeat" : Str) = "leave" ↔ False) ∧ (("repeat" : Str) = "home" ↔ False) ∧ (("repeat" : Str) = "fail" ↔ False) ∧ (("repeat" : Str) = "if" ↔ False) ∧ (("repeat" : Str) = "wait" ↔ False) ∧ (("repeat" : Str) = "open" ↔ False) ∧ (("repeat" : Str) = "name" ↔ False) ∧ (("repeat" : Str) = "plus" ↔ False) ∧ (("repeat" : Str) = "minus" ↔ False) ∧ (("repeat" : Str) = "same" ↔ False) ∧ (("repeat" : Str) = "less" ↔ False) ∧ (("repeat" : Str) = "not" ↔ False) := by decide +kernel
theorem wne_name : (("name" : Str) = "set" ↔ False) ∧ (("name" : Str) = "tell" ↔ False) ∧ (("name" : Str) = "hear" ↔ False) ∧ (("name" : Str) = "leave" ↔ False) ∧ (("name" : Str) = "home" ↔ False) ∧ (("name" : Str) = "fail" ↔ False) ∧ (("name" : Str) = "if" ↔ False) ∧ (("name" : Str) = "wait" ↔ False) ∧ (("name" : Str) = "open" ↔ False) ∧ (("name" : Str) = "repeat" ↔ False) ∧ (("name" : Str) = "plus" ↔ False) ∧ (("name" : Str) = "minus" ↔ False) ∧ (("name" : Str) = "same" ↔ False) ∧ (("name" : Str) = "less" ↔ False) ∧ (("name" : Str) = "not" ↔ False) := by decide +kernel
theorem wne_plus : (("plus" : Str) = "set" ↔ False) ∧ (("plus" : Str) = "tell" ↔ False) ∧ (("plus" : Str) = "hear" ↔ False) ∧ (("plus" : Str) = "leave" ↔ False) ∧ (("plus" : Str) = "home" ↔ False) ∧ (("plus" : Str) = "fail" ↔ False) ∧ (("plus" : Str) = "if" ↔ False) ∧ (("plus" : Str) = "wait" ↔ False) ∧ (("plus" : Str) = "open" ↔ False) ∧ (("plus" : Str) = "repeat" ↔ False) ∧ (("plus" : Str) = "name" ↔ False) ∧ (("plus" : Str) = "minus" ↔ False) ∧ (("plus" : Str) = "same" ↔ False) ∧ (("plus" : Str) = "less" ↔ False) ∧ (("plus" : Str) = "not" ↔ False) := by decide +kernel
theorem wne_minus : (("minus" : Str) = "set" ↔ False) ∧ (("minus" : Str) = "tell" ↔ False) ∧ (("minus" : Str) = "hear" ↔ False) ∧ (("minus" : Str) = "leave" ↔ False) ∧ (("minus" : Str) = "home" ↔ False) ∧ (("minus" : Str) = "fail" ↔ False) ∧ (("minus" : Str) = "if" ↔ False) ∧ (("minus" : Str) = "wait" ↔ False) ∧ (("minus" : Str) = "open" ↔ False) ∧ (("minus" : Str) = "repeat" ↔ False) ∧ (("minus" : Str) = "name" ↔ False) ∧ (("minus" : Str) = "plus" ↔ False) ∧ (("minus" : Str) = "same" ↔ False) ∧ (("minus" : Str) = "less" ↔ False) ∧ (("minus" : Str) = "not" ↔ False) := by decide +kernel
theorem wne_same : (("same" : Str) = "set" ↔ False) ∧ (("same" : Str) = "tell" ↔ False) ∧ (("same" : Str) = "hear" ↔ False) ∧ (("same" : Str) = "leave" ↔ False) ∧ (("same" : Str) = "home" ↔ False) ∧ (("same" : Str) = "fail" ↔ False) ∧ (("same" : Str) = "if" ↔ False) ∧ (("same" : Str) = "wait" ↔ False) ∧ (("same" : Str) = "open" ↔ False) ∧ (("same" : Str) = "repeat" ↔ False) ∧ (("same" : Str) = "name" ↔ False) ∧ (("same" : Str) = "plus" ↔ False) ∧ (("same" : Str) = "minus" ↔ False) ∧ (("same" : Str) = "less" ↔ False) ∧ (("same" : Str) = "not" ↔ False) := by decide +kernel
theorem wne_less : (("less" : Str) = "set" ↔ False) ∧ (("less" : Str) = "tell" ↔ False) ∧ (("less" : Str) = "hear" ↔ False) ∧ (("less" : Str) = "leave" ↔ False) ∧ (("less" : Str) = "home" ↔ False) ∧ (("less" : Str) = "fail" ↔ False) ∧ (("less" : Str) = "if" ↔ False) ∧ (("less" : Str) = "wait" ↔ False) ∧ (("less" : Str) = "open" ↔ False) ∧ (("less" : Str) = "repeat" ↔ False) ∧ (("less" : Str) = "name" ↔ False) ∧ (("less" : Str) = "plus" ↔ False) ∧ (("less" : Str) = "minus" ↔ False) ∧ (("less" : Str) = "same" ↔ False) ∧ (("less" : Str) = "not" ↔ False) := by decide +kernel
theorem wne_not : (("not" : Str) = "set" ↔ False) ∧ (("not" : Str) = "tell" ↔ False) ∧ (("not" : Str) = "hear" ↔ False) ∧ (("not" : Str) = "leave" ↔ False) ∧ (("not" : Str) = "home" ↔ False) ∧ (("not" : Str) = "fail" ↔ False) ∧ (("not" : Str) = "if" ↔ False) ∧ (("not" : Str) = "wait" ↔ False) ∧ (("not" : Str) = "open" ↔ False) ∧ (("not" : Str) = "repeat" ↔ False) ∧ (("not" : Str) = "name" ↔ False) ∧ (("not" : Str) = "plus" ↔ False) ∧ (("not" : Str) = "minus" ↔ False) ∧ (("not" : Str) = "same" ↔ False) ∧ (("not" : Str) = "less" ↔ False) := by decide +kernel
/-- the words are unlike -/
theorem wne : ((("set" : Str) = "tell" ↔ False) ∧ (("set" : Str) = "hear" ↔ False) ∧ (("set" : Str) = "leave" ↔ False) ∧ (("set" : Str) = "home" ↔ False) ∧ (("set" : Str) = "fail" ↔ False) ∧ (("set" : Str) = "if" ↔ False) ∧ (("set" : Str) = "wait" ↔ False) ∧ (("set" : Str) = "open" ↔ False) ∧ (("set" : Str) = "repeat" ↔ False) ∧ (("set" : Str) = "name" ↔ False) ∧ (("set" : Str) = "plus" ↔ False) ∧ (("set" : Str) = "minus" ↔ False) ∧ (("set" : Str) = "same" ↔ False) ∧ (("set" : Str) = "less" ↔ False) ∧ (("set" : Str) = "not" ↔ False)) ∧ ((("tell" : Str) = "set" ↔ False) ∧ (("tell" : Str) = "hear" ↔ False) ∧ (("tell" : Str) = "leave" ↔ False) ∧ (("tell" : Str) = "home" ↔ False) ∧ (("tell" : Str) = "fail" ↔ False) ∧ (("tell" : Str) = "if" ↔ False) ∧ (("tell" : Str) = "wait" ↔ False) ∧ (("tell" : Str) = "open" ↔ False) ∧ (("tell" : Str) = "repeat" ↔ False) ∧ (("tell" : Str) = "name" ↔ False) ∧ (("tell" : Str) = "plus" ↔ False) ∧ (("tell" : Str) = "minus" ↔ False) ∧ (("tell" : Str) = "same" ↔ False) ∧ (("tell" : Str) = "less" ↔ False) ∧ (("tell" : Str) = "not" ↔ False)) ∧ ((("hear" : Str) = "set" ↔ False) ∧ (("hear" : Str) = "tell" ↔ False) ∧ (("hear" : Str) = "leave" ↔ False) ∧ (("hear" : Str) = "home" ↔ False) ∧ (("hear" : Str) = "fail" ↔ False) ∧ (("hear" : Str) = "if" ↔ False) ∧ (("hear" : Str) = "wait" ↔ False) ∧ (("hear" : Str) = "open" ↔ False) ∧ (("hear" : Str) = "repeat" ↔ False) ∧ (("hear" : Str) = "name" ↔ False) ∧ (("hear" : Str) = "plus" ↔ False) ∧ (("hear" : Str) = "minus" ↔ False) ∧ (("hear" : Str) = "same" ↔ False) ∧ (("hear" : Str) = "less" ↔ False) ∧ (("hear" : Str) = "not" ↔ False)) ∧ ((("leave" : Str) = "set" ↔ False) ∧ (("leave" : Str) = "tell" ↔ False) ∧ (("leave" : Str) = "hear" ↔ False) ∧ (("leave" : Str) = "home" ↔ False) ∧ (("leave" : Str) = "fail" ↔ False) ∧ (("leave" : Str) = "if" ↔ False) ∧ (("leave" : Str) = "wait" ↔ False) ∧ (("leave" : Str) = "open" ↔ False) ∧ (("leave" : Str) = "repeat" ↔ False) ∧ (("leave" : Str) = "name" ↔ False) ∧ (("leave" : Str) = "plus" ↔ False) ∧ (("leave" : Str) = "minus" ↔ False) ∧ (("leave" : Str) = "same" ↔ False) ∧ (("leave" : Str) = "less" ↔ False) ∧ (("leave" : Str) = "not" ↔ False)) ∧ ((("home" : Str) = "set" ↔ False) ∧ (("home" : Str) = "tell" ↔ False) ∧ (("home" : Str) = "hear" ↔ False) ∧ (("home" : Str) = "leave" ↔ False) ∧ (("home" : Str) = "fail" ↔ False) ∧ (("home" : Str) = "if" ↔ False) ∧ (("home" : Str) = "wait" ↔ False) ∧ (("home" : Str) = "open" ↔ False) ∧ (("home" : Str) = "repeat" ↔ False) ∧ (("home" : Str) = "name" ↔ False) ∧ (("home" : Str) = "plus" ↔ False) ∧ (("home" : Str) = "minus" ↔ False) ∧ (("home" : Str) = "same" ↔ False) ∧ (("home" : Str) = "less" ↔ False) ∧ (("home" : Str) = "not" ↔ False)) ∧ ((("fail" : Str) = "set" ↔ False) ∧ (("fail" : Str) = "tell" ↔ False) ∧ (("fail" : Str) = "hear" ↔ False) ∧ (("fail" : Str) = "leave" ↔ False) ∧ (("fail" : Str) = "home" ↔ False) ∧ (("fail" : Str) = "if" ↔ False) ∧ (("fail" : Str) = "wait" ↔ False) ∧ (("fail" : Str) = "open" ↔ False) ∧ (("fail" : Str) = "repeat" ↔ False) ∧ (("fail" : Str) = "name" ↔ False) ∧ (("fail" : Str) = "plus" ↔ False) ∧ (("fail" : Str) = "minus" ↔ False) ∧ (("fail" : Str) = "same" ↔ False) ∧ (("fail" : Str) = "less" ↔ False) ∧ (("fail" : Str) = "not" ↔ False)) ∧ ((("if" : Str) = "set" ↔ False) ∧ (("if" : Str) = "tell" ↔ False) ∧ (("if" : Str) = "hear" ↔ False) ∧ (("if" : Str) = "leave" ↔ False) ∧ (("if" : Str) = "home" ↔ False) ∧ (("if" : Str) = "fail" ↔ False) ∧ (("if" : Str) = "wait" ↔ False) ∧ (("if" : Str) = "open" ↔ False) ∧ (("if" : Str) = "repeat" ↔ False) ∧ (("if" : Str) = "name" ↔ False) ∧ (("if" : Str) = "plus" ↔ False) ∧ (("if" : Str) = "minus" ↔ False) ∧ (("if" : Str) = "same" ↔ False) ∧ (("if" : Str) = "less" ↔ False) ∧ (("if" : Str) = "not" ↔ False)) ∧ ((("wait" : Str) = "set" ↔ False) ∧ (("wait" : Str) = "tell" ↔ False) ∧ (("wait" : Str) = "hear" ↔ False) ∧ (("wait" : Str) = "leave" ↔ False) ∧ (("wait" : Str) = "home" ↔ False) ∧ (("wait" : Str) = "fail" ↔ False) ∧ (("wait" : Str) = "if" ↔ False) ∧ (("wait" : Str) = "open" ↔ False) ∧ (("wait" : Str) = "repeat" ↔ False) ∧ (("wait" : Str) = "name" ↔ False) ∧ (("wait" : Str) = "plus" ↔ False) ∧ (("wait" : Str) = "minus" ↔ False) ∧ (("wait" : Str) = "same" ↔ False) ∧ (("wait" : Str) = "less" ↔ False) ∧ (("wait" : Str) = "not" ↔ False)) ∧ ((("open" : Str) = "set" ↔ False) ∧ (("open" : Str) = "tell" ↔ False) ∧ (("open" : Str) = "hear" ↔ False) ∧ (("open" : Str) = "leave" ↔ False) ∧ (("open" : Str) = "home" ↔ False) ∧ (("open" : Str) = "fail" ↔ False) ∧ (("open" : Str) = "if" ↔ False) ∧ (("open" : Str) = "wait" ↔ False) ∧ (("open" : Str) = "repeat" ↔ False) ∧ (("open" : Str) = "name" ↔ False) ∧ (("open" : Str) = "plus" ↔ False) ∧ (("open" : Str) = "minus" ↔ False) ∧ (("open" : Str) = "same" ↔ False) ∧ (("open" : Str) = "less" ↔ False) ∧ (("open" : Str) = "not" ↔ False)) ∧ ((("repeat" : Str) = "set" ↔ False) ∧ (("repeat" : Str) = "tell" ↔ False) ∧ (("repeat" : Str) = "hear" ↔ False) ∧ (("repeat" : Str) = "leave" ↔ False) ∧ (("repeat" : Str) = "home" ↔ False) ∧ (("repeat" : Str) = "fail" ↔ False) ∧ (("repeat" : Str) = "if" ↔ False) ∧ (("repeat" : Str) = "wait" ↔ False) ∧ (("repeat" : Str) = "open" ↔ False) ∧ (("repeat" : Str) = "name" ↔ False) ∧ (("repeat" : Str) = "plus" ↔ False) ∧ (("repeat" : Str) = "minus" ↔ False) ∧ (("repeat" : Str) = "same" ↔ False) ∧ (("repeat" : Str) = "less" ↔ False) ∧ (("repeat" : Str) = "not" ↔ False)) ∧ ((("name" : Str) = "set" ↔ False) ∧ (("name" : Str) = "tell" ↔ False) ∧ (("name" : Str) = "hear" ↔ False) ∧ (("name" : Str) = "leave" ↔ False) ∧ (("name" : Str) = "home" ↔ False) ∧ (("name" : Str) = "fail" ↔ False) ∧ (("name" : Str) = "if" ↔ False) ∧ (("name" : Str) = "wait" ↔ False) ∧ (("name" : Str) = "open" ↔ False) ∧ (("name" : Str) = "repeat" ↔ False) ∧ (("name" : Str) = "plus" ↔ False) ∧ (("name" : Str) = "minus" ↔ False) ∧ (("name" : Str) = "same" ↔ False) ∧ (("name" : Str) = "less" ↔ False) ∧ (("name" : Str) = "not" ↔ False)) ∧ ((("plus" : Str) = "set" ↔ False) ∧ (("plus" : Str) = "tell" ↔ False) ∧ (("plus" : Str) = "hear" ↔ False) ∧ (("plus" : Str) = "leave" ↔ False) ∧ (("plus" : Str) = "home" ↔ False) ∧ (("plus" : Str) = "fail" ↔ False) ∧ (("plus" : Str) = "if" ↔ False) ∧ (("plus" : Str) = "wait" ↔ False) ∧ (("plus" : Str) = "open" ↔ False) ∧ (("plus" : Str) = "repeat" ↔ False) ∧ (("plus" : Str) = "name" ↔ False) ∧ (("plus" : Str) = "minus" ↔ False) ∧ (("plus" : Str) = "same" ↔ False) ∧ (("plus" : Str) = "less" ↔ False) ∧ (("plus" : Str) = "not" ↔ False)) ∧ ((("minus" : Str) = "set" ↔ False) ∧ (("minus" : Str) = "tell" ↔ False) ∧ (("minus" : Str) = "hear" ↔ False) ∧ (("minus" : Str) = "leave" ↔ False) ∧ (("minus" : Str) = "home" ↔ False) ∧ (("minus" : Str) = "fail" ↔ False) ∧ (("minus" : Str) = "if" ↔ False) ∧ (("minus" : Str) = "wait" ↔ False) ∧ (("minus" : Str) = "open" ↔ False) ∧ (("minus" : Str) = "repeat" ↔ False) ∧ (("minus" : Str) = "name" ↔ False) ∧ (("minus" : Str) = "plus" ↔ False) ∧ (("minus" : Str) = "same" ↔ False) ∧ (("minus" : Str) = "less" ↔ False) ∧ (("minus" : Str) = "not" ↔ False)) ∧ ((("same" : Str) = "set" ↔ False) ∧ (("same" : Str) = "tell" ↔ False) ∧ (("same" : Str) = "hear" ↔ False) ∧ (("same" : Str) = "leave" ↔ False) ∧ (("same" : Str) = "home" ↔ False) ∧ (("same" : Str) = "fail" ↔ False) ∧ (("same" : Str) = "if" ↔ False) ∧ (("same" : Str) = "wait" ↔ False) ∧ (("same" : Str) = "open" ↔ False) ∧ (("same" : Str) = "repeat" ↔ False) ∧ (("same" : Str) = "name" ↔ False) ∧ (("same" : Str) = "plus" ↔ False) ∧ (("same" : Str) = "minus" ↔ False) ∧ (("same" : Str) = "less" ↔ False) ∧ (("same" : Str) = "not" ↔ False)) ∧ ((("less" : Str) = "set" ↔ False) ∧ (("less" : Str) = "tell" ↔ False) ∧ (("less" : Str) = "hear" ↔ False) ∧ (("less" : Str) = "leave" ↔ False) ∧ (("less" : Str) = "home" ↔ False) ∧ (("less" : Str) = "fail" ↔ False) ∧ (("less" : Str) = "if" ↔ False) ∧ (("less" : Str) = "wait" ↔ False) ∧ (("less" : Str) = "open" ↔ False) ∧ (("less" : Str) = "repeat" ↔ False) ∧ (("less" : Str) = "name" ↔ False) ∧ (("less" : Str) = "plus" ↔ False) ∧ (("less" : Str) = "minus" ↔ False) ∧ (("less" : Str) = "same" ↔ False) ∧ (("less" : Str) = "not" ↔ False)) ∧ ((("not" : Str) = "set" ↔ False) ∧ (("not" : Str) = "tell" ↔ False) ∧ (("not" : Str) = "hear" ↔ False) ∧ (("not" : Str) = "leave" ↔ False) ∧ (("not" : Str) = "home" ↔ False) ∧ (("not" : Str) = "fail" ↔ False) ∧ (("not" : Str) = "if" ↔ False) ∧ (("not" : Str) = "wait" ↔ False) ∧ (("not" : Str) = "open" ↔ False) ∧ (("not" : Str) = "repeat" ↔ False) ∧ (("not" : Str) = "name" ↔ False) ∧ (("not" : Str) = "plus" ↔ False) ∧ (("not" : Str) = "minus" ↔ False) ∧ (("not" : Str) = "same" ↔ False) ∧ (("not" : Str) = "less" ↔ False)) := ⟨wne_set, wne_tell, wne_hear, wne_leave, wne_home, wne_fail, wne_if, wne_wait, wne_open, wne_repeat, wne_name, wne_plus, wne_minus, wne_same, wne_less, wne_not⟩
inductive Stm : D → Prop
  | set {a b : D} : isName a = true → isExpr 8 b 5 = true → Stm (.tup [.str "set", a, b])
  | tell {a b : D} : isName a = true → isExpr 8 b 5 = true → Stm (.tup [.str "tell", a, b])
  | hear {a b : D} : isName a = true → isName b = true → Stm (.tup [.str "hear", a, b])
  | leave : Stm (.tup [.str "leave"])
  | home : Stm (.tup [.str "home"])
  | fail : Stm (.tup [.str "fail"])
  | cond {e b c : D} : isExpr 8 e 5 = true → isBlk b = true → isBlk c = true → Stm (.tup [.str "if", e, b, c])
  | wait {rs : List D} : 1 ≤ rs.length → rs.length ≤ 4 → rowsOk rs [] = true → Stm (.tup [.str "wait", .tup rs])
  | opn {bs : List D} : 1 ≤ bs.length → bs.length ≤ 4 → bs.all isBlk = true → Stm (.tup [.str "open", .tup bs])
  | rep {b : D} : isBlk b = true → Stm (.tup [.str "repeat", b])
theorem stm_of {x : D} (h : isStmt x = true) : Stm x := by
  unfold isStmt at h
  split at h
  · rename_i k rest
    split at h
    · rename_i hk
      unfold isDeal at h
      split at h
      · rename_i a b
        rw [Bool.and_eq_true] at h
        rcases hk with rfl | rfl | rfl
        · rw [if_neg (by decide)] at h; exact .set h.1 h.2
        · rw [if_neg (by decide)] at h; exact .tell h.1 h.2
        · rw [if_pos rfl] at h; exact .hear h.1 h.2
      · cases h
    · split at h
      · rename_i hk
        cases rest with
        | nil =>
          rcases hk with rfl | rfl | rfl
          · exact .leave
          · exact .home
          · exact .fail
        | cons y r => cases h
      · split at h
        · rename_i hk
          subst hk
          unfold isIf at h
          split at h
          · rename_i a b c
            simp only [Bool.and_eq_true] at h
            exact .cond h.1.1 h.1.2 h.2
          · cases h
        · split at h
          · rename_i v
            split at h
            · rename_i hk
              subst hk
              unfold areRows at h
              split at h
              · simp only [Bool.and_eq_true, decide_eq_true_eq] at h
                exact .wait (by omega) (by omega) h.2
              · cases h
            · split at h
              · rename_i hk
                subst hk
                unfold areBlocks at h
                split at h
                · simp only [Bool.and_eq_true, decide_eq_true_eq] at h
                  exact .opn (by omega) (by omega) h.2
                · cases h
              · simp only [Bool.and_eq_true, decide_eq_true_eq] at h
                obtain ⟨rfl, h⟩ := h
                exact .rep h
          · cases h
  · cases h
theorem expr_inv {n : Nat} {x : D} {r : Int} (h : isExpr (n + 1) x r = true) : isDig x = true ∨ ∃ k rest, x = .tup (.str k :: rest) ∧ ((k = "name" ∧ ∃ y, rest = [y] ∧ isName y = true) ∨ (k ≠ "name" ∧ 1 ≤ rest.length ∧ rest.length ≤ 2 ∧ ∀ y ∈ rest, isExpr n y (r - 1) = true)) := by
  unfold isExpr at h
  split at h
  · cases h
  · split at h
    · rename_i hd; exact .inl hd
    · right
      split at h
      · rename_i k rest _
        refine ⟨k, rest, rfl, ?_⟩
        split at h
        · rename_i hk
          split at h
          · rename_i y _; exact .inl ⟨hk, y, rfl, h⟩
          · cases h
        · rename_i hk
          refine .inr ⟨hk, ?_⟩
          split at h
          · split at h
            · rename_i y _; exact ⟨by simp, by simp, fun z hz => by rw [List.mem_singleton.mp hz]; exact h⟩
            · cases h
          · split at h
            · split at h
              · rename_i y z _
                rw [Bool.and_eq_true] at h
                refine ⟨by simp, by simp, fun u hu => ?_⟩
                rcases List.mem_cons.mp hu with e | e
                · rw [e]; exact h.1
                · rw [List.mem_singleton.mp e]; exact h.2
              · cases h
            · cases h
      · cases h
/-! the names in an expression -/
def exprNames : Nat → D → List D
  | 0, _ => []
  | n + 1, x => match x with
    | .tup (.str k :: rest) => if k = "name" then rest else (rest.map (exprNames n)).flatten
    | _ => []
theorem dig_int {x : D} (h : isDig x = true) : ∃ i, x = .int i ∧ 0 ≤ i ∧ i ≤ 9 := by
  unfold isDig at h
  split at h
  · simp only [Bool.and_eq_true, decide_eq_true_eq] at h
    exact ⟨_, rfl, h.1, h.2⟩
  · cases h
theorem exprNames_len : ∀ (n : Nat) (x : D) (r : Int), isExpr n x r = true → (exprNames n x).length ≤ 2 ^ n
  | 0, x, r, h => by cases h
  | n + 1, x, r, h => by
    rcases expr_inv h with hd | ⟨k, rest, rfl, ⟨rfl, y, rfl, hy⟩ | ⟨hk, h1, h2, hr⟩⟩
    · obtain ⟨i, rfl, _⟩ := dig_int hd
      simp [exprNames]
    · show ([y] : List D).length ≤ _
      exact Nat.one_le_two_pow
    · have e : exprNames (n + 1) (.tup (.str k :: rest)) = (rest.map (exprNames n)).flatten := if_neg hk
      rw [e]
      match rest, h1, h2, hr with
      | [a], _, _, hr =>
        have := exprNames_len n a _ (hr a List.mem_cons_self)
        simp only [List.map_cons, List.map_nil, List.flatten_cons, List.flatten_nil, List.length_append, List.length_nil]
        have : 2 ^ (n + 1) = 2 * 2 ^ n := by omega
        omega
      | [a, b], _, _, hr =>
        have h3 := exprNames_len n a _ (hr a List.mem_cons_self)
        have h4 := exprNames_len n b _ (hr b (List.mem_cons_of_mem _ List.mem_cons_self))
        simp only [List.map_cons, List.map_nil, List.flatten_cons, List.flatten_nil, List.length_append, List.length_nil]
        have : 2 ^ (n + 1) = 2 * 2 ^ n := by omega
        omega
      | _ :: _ :: _ :: _, _, h2, _ => simp at h2
theorem exprNames_name : ∀ (n : Nat) (x : D) (r : Int), isExpr n x r = true → ∀ y ∈ exprNames n x, isName y = true
  | 0, x, r, h, y, hy => by cases hy
  | n + 1, x, r, h, y, hy => by
    rcases expr_inv h with hd | ⟨k, rest, rfl, ⟨rfl, z, rfl, hz⟩ | ⟨hk, h1, h2, hr⟩⟩
    · obtain ⟨i, rfl, _⟩ := dig_int hd
      cases hy
    · have hy' : y ∈ [z] := hy
      rw [List.mem_singleton.mp hy']
      exact hz
    · have e : exprNames (n + 1) (.tup (.str k :: rest)) = (rest.map (exprNames n)).flatten := if_neg hk
      rw [e] at hy
      obtain ⟨l, hl, hyl⟩ := List.mem_flatten.mp hy
      obtain ⟨u, hu, rfl⟩ := List.mem_map.mp hl
      exact exprNames_name n u _ (hr u hu) y hyl
theorem cut1 (x : D) (r : List D) : cutL (x :: r) (some 1) none = r := by
  have e : HT.sIx (x :: r).length 0 (some 1) = 1 := by
    rw [show (1 : Int) = ((1 : Nat) : Int) from rfl, HT.sIx_nat]
    simp
  unfold cutL
  rw [e, HT.sIx_none]
  simp
theorem foldGo_flat {α : Type} (f : D → List α) : ∀ (xs : List D) (a : List α), foldGo (fun x a => .go (a ++ f x)) xs a = .go (a ++ (xs.map f).flatten)
  | [], a => by simp [foldGo]
  | x :: r, a => by
    unfold foldGo
    simp only [foldGo_flat f r]
    rw [List.map_cons, List.flatten_cons, List.append_assoc]
theorem e_exprNames : ∀ (n : Nat) (x : D) (r : Int) (P : LV → Unit → Prop), n ≤ 10 → isExpr n x r = true → m_expression_names n [.d x] () P noX = P (.l (exprNames n x)) ()
  | 0, x, r, P, _, h => by cases h
  | n + 1, x, r, P, hn, h => by
    have hbig : 100000 < sizeLine := by decide
    have hp : 2 ^ n ≤ 2 ^ 10 := Nat.pow_le_pow_right (by decide) (by omega)
    refine (propext (and_iff_right rfl)).trans ?_
    unfold u_expression_names
    simp only [startN, List.length_cons, List.length_nil, List.map_cons, List.map_nil]
    rcases expr_inv h with hd | ⟨k, rest, rfl, ⟨rfl, y, rfl, hy⟩ | ⟨hk, h1, h2, hr⟩⟩
    · obtain ⟨i, rfl, _⟩ := dig_int hd
      simp only [wSeq, wSet, wOp, wUn, wVb, wV, wC, wRet, wRetV, wRetN, wIfS, wNx, wBrk, wCnt, wFor, wWalk, wEnum, wRng1, wRng2, wRev, walkD, gN, gT, gsC, gsN, wAnd, wOr, wNot, wCh, wTb, wTr, wtAnd, wtOr, wtNot, wClU, wCl, wClX, wClUX, wCons, wNil, wTup, wLst, wDk, wDt, wFld, wSl, woN, woS, wKw, wRaise, wNeg, wFrz, wApp, wExt, wDrop, wUnp, wIf, wYes, wDisp1, wSplit, wLvals, wOFld, wOGet, wMk, wMkX, wDSet, wDGet, wDIn, wScr, wMt, wMtX, startN, LEnv.at, tru, isT, isC, LV.dd, LV.fz, LV.seq, LV.lis, LV.tpl, Ty6.has, lenF, intF, listF, tupleF, anyF, sumF, eqF, sEq, isF, LV.isN, inF, ixF, ltI, leI, gtI, geI, ii0, iiF, subF, modF, mulF, mulF2, listF2, LV.dt, fdivF, addF, powF, slF, dsOf, D.sign, D.flat, List.map_cons, List.map_nil, List.length_cons, List.length_nil, List.cons_append, List.nil_append, List.append_nil, List.set_cons_zero, List.set_cons_succ, List.set_nil, Nat.sub_self, Nat.reduceSub, Nat.reduceAdd, List.replicate_succ, List.replicate_zero, Bool.false_eq_true, if_true, if_false, true_and, and_true, false_and, and_false, e_digit, hd]
      simp [exprNames]
    · simp only [wSeq, wSet, wOp, wUn, wVb, wV, wC, wRet, wRetV, wRetN, wIfS, wNx, wBrk, wCnt, wFor, wWalk, wEnum, wRng1, wRng2, wRev, walkD, gN, gT, gsC, gsN, wAnd, wOr, wNot, wCh, wTb, wTr, wtAnd, wtOr, wtNot, wClU, wCl, wClX, wClUX, wCons, wNil, wTup, wLst, wDk, wDt, wFld, wSl, woN, woS, wKw, wRaise, wNeg, wFrz, wApp, wExt, wDrop, wUnp, wIf, wYes, wDisp1, wSplit, wLvals, wOFld, wOGet, wMk, wMkX, wDSet, wDGet, wDIn, wScr, wMt, wMtX, startN, LEnv.at, tru, isT, isC, LV.dd, LV.fz, LV.seq, LV.lis, LV.tpl, Ty6.has, lenF, intF, listF, tupleF, anyF, sumF, eqF, sEq, isF, LV.isN, inF, ixF, ltI, leI, gtI, geI, ii0, iiF, subF, modF, mulF, mulF2, listF2, LV.dt, fdivF, addF, powF, slF, dsOf, D.sign, D.flat, List.map_cons, List.map_nil, List.length_cons, List.length_nil, List.cons_append, List.nil_append, List.append_nil, List.set_cons_zero, List.set_cons_succ, List.set_nil, Nat.sub_self, Nat.reduceSub, Nat.reduceAdd, List.replicate_succ, List.replicate_zero, Bool.false_eq_true, if_true, if_false, true_and, and_true, false_and, and_false, e_digit, isDig, at0, at1]
      simp [exprNames]
    · have e : exprNames (n + 1) (.tup (.str k :: rest)) = (rest.map (exprNames n)).flatten := if_neg hk
      simp only [wSeq, wSet, wOp, wUn, wVb, wV, wC, wRet, wRetV, wRetN, wIfS, wNx, wBrk, wCnt, wFor, wWalk, wEnum, wRng1, wRng2, wRev, walkD, gN, gT, gsC, gsN, wAnd, wOr, wNot, wCh, wTb, wTr, wtAnd, wtOr, wtNot, wClU, wCl, wClX, wClUX, wCons, wNil, wTup, wLst, wDk, wDt, wFld, wSl, woN, woS, wKw, wRaise, wNeg, wFrz, wApp, wExt, wDrop, wUnp, wIf, wYes, wDisp1, wSplit, wLvals, wOFld, wOGet, wMk, wMkX, wDSet, wDGet, wDIn, wScr, wMt, wMtX, startN, LEnv.at, tru, isT, isC, LV.dd, LV.fz, LV.seq, LV.lis, LV.tpl, Ty6.has, lenF, intF, listF, tupleF, anyF, sumF, eqF, sEq, isF, LV.isN, inF, ixF, ltI, leI, gtI, geI, ii0, iiF, subF, modF, mulF, mulF2, listF2, LV.dt, fdivF, addF, powF, slF, dsOf, D.sign, D.flat, List.map_cons, List.map_nil, List.length_cons, List.length_nil, List.cons_append, List.nil_append, List.append_nil, List.set_cons_zero, List.set_cons_succ, List.set_nil, Nat.sub_self, Nat.reduceSub, Nat.reduceAdd, List.replicate_succ, List.replicate_zero, Bool.false_eq_true, if_true, if_false, true_and, and_true, false_and, and_false, e_digit, isDig, at0, hk, decide_false, cut1, Nat.zero_le]
      rw [e]
      refine (wGo_go (fun y (acc : List D) => .go (acc ++ exprNames n y)) (fun q acc env => (∀ y ∈ q, y ∈ rest) ∧ acc.length + 2 ^ n * q.length ≤ 2 ^ n * 2 ∧ ∃ o2, env = [some (.d (.tup (.str k :: rest))), some (.l acc), o2]) (fun acc => P (.l acc) ()) ?_ ?_ rest [] _ ⟨fun _ h => h, ?_, _, rfl⟩).trans ?_
      · rintro a env ⟨_, _, o2, rfl⟩
        rfl
      · rintro y q acc env ⟨hq, hl, o2, rfl⟩ k' W hk'
        have hy := hr y (hq y List.mem_cons_self)
        have hl2 := exprNames_len n y _ hy
        simp only [List.length_cons] at hl
        have hl3 : 2 ^ n * (q.length + 1) = 2 ^ n * q.length + 2 ^ n := by rw [Nat.mul_add, Nat.mul_one]
        have hl4 : acc.length + (exprNames n y).length ≤ sizeLine := by omega
        simp only [wSeq, wSet, wOp, wUn, wVb, wV, wC, wRet, wRetV, wRetN, wIfS, wNx, wBrk, wCnt, wFor, wWalk, wEnum, wRng1, wRng2, wRev, walkD, gN, gT, gsC, gsN, wAnd, wOr, wNot, wCh, wTb, wTr, wtAnd, wtOr, wtNot, wClU, wCl, wClX, wClUX, wCons, wNil, wTup, wLst, wDk, wDt, wFld, wSl, woN, woS, wKw, wRaise, wNeg, wFrz, wApp, wExt, wDrop, wUnp, wIf, wYes, wDisp1, wSplit, wLvals, wOFld, wOGet, wMk, wMkX, wDSet, wDGet, wDIn, wScr, wMt, wMtX, startN, LEnv.at, tru, isT, isC, LV.dd, LV.fz, LV.seq, LV.lis, LV.tpl, Ty6.has, lenF, intF, listF, tupleF, anyF, sumF, eqF, sEq, isF, LV.isN, inF, ixF, ltI, leI, gtI, geI, ii0, iiF, subF, modF, mulF, mulF2, listF2, LV.dt, fdivF, addF, powF, slF, dsOf, D.sign, D.flat, List.map_cons, List.map_nil, List.length_cons, List.length_nil, List.cons_append, List.nil_append, List.append_nil, List.set_cons_zero, List.set_cons_succ, List.set_nil, Nat.sub_self, Nat.reduceSub, Nat.reduceAdd, List.replicate_succ, List.replicate_zero, Bool.false_eq_true, if_true, if_false, true_and, and_true, false_and, and_false, e_exprNames n y _ _ (by omega) hy, hl4]
        exact hk' _ _ ⟨fun z hz => hq z (List.mem_cons_of_mem _ hz), by rw [List.length_append]; omega, _, rfl⟩
      · simp only [List.length_nil, Nat.zero_add]
        exact Nat.mul_le_mul_left _ h2
      · rw [foldGo_flat]
        rfl
/-! the names and ports of a statement -/
def fstD : D → D
  | .tup [x, _, _] => x
  | x => x
def sndD : D → D
  | .tup [_, y, _] => y
  | x => x
def namesOf : D → List D
  | .tup [.str k, a, b] => if k = "set" then a :: exprNames 8 b else if k = "tell" then exprNames 8 b else if k = "hear" then [b] else []
  | .tup [.str k, v] => if k = "wait" then (itemsOf v).map sndD else []
  | .tup [.str k, a, _, _] => if k = "if" then exprNames 8 a else []
  | _ => []
def portsOf : D → List D
  | .tup [.str k, a, _] => if k = "tell" ∨ k = "hear" then [a] else []
  | .tup [.str k, v] => if k = "wait" then (itemsOf v).map fstD else []
  | _ => []
theorem rows_names : ∀ {l ps : List D}, rowsOk l ps = true → ∀ r ∈ l, ∃ p a b, r = .tup [p, a, b] ∧ isName p = true ∧ isName a = true ∧ isBlk b = true
  | [], _, _, r, h => by cases h
  | x :: l, ps, e, r, h => by
    unfold rowsOk at e
    split at e
    · rename_i p a b
      simp only [Bool.and_eq_true] at e
      rcases List.mem_cons.mp h with z | z
      · exact ⟨p, a, b, z, e.1.1.1.1, e.1.1.1.2, e.1.2⟩
      · exact rows_names e.2 r z
    · cases e
theorem e_namesof (x : D) (hs : isStmt x = true) (P : LV → Unit → Prop) : m_names_of [.d x] () P noX = P (.l (namesOf x)) () := by
  have hbig : 100000 < sizeLine := by decide
  unfold m_names_of mk0 u_names_of
  cases stm_of hs with
  | set h1 h2 =>
    have hl := exprNames_len 8 _ _ h2
    simp only [wSeq, wSet, wOp, wUn, wVb, wV, wC, wRet, wRetV, wRetN, wIfS, wNx, wBrk, wCnt, wFor, wWalk, wEnum, wRng1, wRng2, wRev, walkD, gN, gT, gsC, gsN, wAnd, wOr, wNot, wCh, wTb, wTr, wtAnd, wtOr, wtNot, wClU, wCl, wClX, wClUX, wCons, wNil, wTup, wLst, wDk, wDt, wFld, wSl, woN, woS, wKw, wRaise, wNeg, wFrz, wApp, wExt, wDrop, wUnp, wIf, wYes, wDisp1, wSplit, wLvals, wOFld, wOGet, wMk, wMkX, wDSet, wDGet, wDIn, wScr, wMt, wMtX, startN, LEnv.at, tru, isT, isC, LV.dd, LV.fz, LV.seq, LV.lis, LV.tpl, Ty6.has, lenF, intF, listF, tupleF, anyF, sumF, eqF, sEq, isF, LV.isN, inF, ixF, ltI, leI, gtI, geI, ii0, iiF, subF, modF, mulF, mulF2, listF2, LV.dt, fdivF, addF, powF, slF, dsOf, D.sign, D.flat, List.map_cons, List.map_nil, List.length_cons, List.length_nil, List.cons_append, List.nil_append, List.append_nil, List.set_cons_zero, List.set_cons_succ, List.set_nil, Nat.sub_self, Nat.reduceSub, Nat.reduceAdd, List.replicate_succ, List.replicate_zero, Bool.false_eq_true, if_true, if_false, true_and, and_true, false_and, and_false, at0, at1, at2, e_exprNames 8 _ _ _ (by decide) h2]
    simp [wne, namesOf]
    intro _
    omega
  | tell h1 h2 =>
    simp [wne, namesOf, wSeq, wSet, wOp, wUn, wVb, wV, wC, wRet, wRetV, wRetN, wIfS, wNx, wBrk, wCnt, wFor, wWalk, wEnum, wRng1, wRng2, wRev, walkD, gN, gT, gsC, gsN, wAnd, wOr, wNot, wCh, wTb, wTr, wtAnd, wtOr, wtNot, wClU, wCl, wClX, wClUX, wCons, wNil, wTup, wLst, wDk, wDt, wFld, wSl, woN, woS, wKw, wRaise, wNeg, wFrz, wApp, wExt, wDrop, wUnp, wIf, wYes, wDisp1, wSplit, wLvals, wOFld, wOGet, wMk, wMkX, wDSet, wDGet, wDIn, wScr, wMt, wMtX, startN, LEnv.at, tru, isT, isC, LV.dd, LV.fz, LV.seq, LV.lis, LV.tpl, Ty6.has, lenF, intF, listF, tupleF, anyF, sumF, eqF, sEq, isF, LV.isN, inF, ixF, ltI, leI, gtI, geI, ii0, iiF, subF, modF, mulF, mulF2, listF2, LV.dt, fdivF, addF, powF, slF, dsOf, D.sign, D.flat, List.map_cons, List.map_nil, List.length_cons, List.length_nil, List.cons_append, List.nil_append, List.append_nil, List.set_cons_zero, List.set_cons_succ, List.set_nil, Nat.sub_self, Nat.reduceSub, Nat.reduceAdd, List.replicate_succ, List.replicate_zero, Bool.false_eq_true, if_true, if_false, true_and, and_true, false_and, and_false, at0, at1, at2, e_exprNames 8 _ _ _ (by decide) h2]
  | hear h1 h2 => simp [wne, namesOf, wSeq, wSet, wOp, wUn, wVb, wV, wC, wRet, wRetV, wRetN, wIfS, wNx, wBrk, wCnt, wFor, wWalk, wEnum, wRng1, wRng2, wRev, walkD, gN, gT, gsC, gsN, wAnd, wOr, wNot, wCh, wTb, wTr, wtAnd, wtOr, wtNot, wClU, wCl, wClX, wClUX, wCons, wNil, wTup, wLst, wDk, wDt, wFld, wSl, woN, woS, wKw, wRaise, wNeg, wFrz, wApp, wExt, wDrop, wUnp, wIf, wYes, wDisp1, wSplit, wLvals, wOFld, wOGet, wMk, wMkX, wDSet, wDGet, wDIn, wScr, wMt, wMtX, startN, LEnv.at, tru, isT, isC, LV.dd, LV.fz, LV.seq, LV.lis, LV.tpl, Ty6.has, lenF, intF, listF, tupleF, anyF, sumF, eqF, sEq, isF, LV.isN, inF, ixF, ltI, leI, gtI, geI, ii0, iiF, subF, modF, mulF, mulF2, listF2, LV.dt, fdivF, addF, powF, slF, dsOf, D.sign, D.flat, List.map_cons, List.map_nil, List.length_cons, List.length_nil, List.cons_append, List.nil_append, List.append_nil, List.set_cons_zero, List.set_cons_succ, List.set_nil, Nat.sub_self, Nat.reduceSub, Nat.reduceAdd, List.replicate_succ, List.replicate_zero, Bool.false_eq_true, if_true, if_false, true_and, and_true, false_and, and_false, at0, at1, at2]
  | leave => simp [wne, namesOf, wSeq, wSet, wOp, wUn, wVb, wV, wC, wRet, wRetV, wRetN, wIfS, wNx, wBrk, wCnt, wFor, wWalk, wEnum, wRng1, wRng2, wRev, walkD, gN, gT, gsC, gsN, wAnd, wOr, wNot, wCh, wTb, wTr, wtAnd, wtOr, wtNot, wClU, wCl, wClX, wClUX, wCons, wNil, wTup, wLst, wDk, wDt, wFld, wSl, woN, woS, wKw, wRaise, wNeg, wFrz, wApp, wExt, wDrop, wUnp, wIf, wYes, wDisp1, wSplit, wLvals, wOFld, wOGet, wMk, wMkX, wDSet, wDGet, wDIn, wScr, wMt, wMtX, startN, LEnv.at, tru, isT, isC, LV.dd, LV.fz, LV.seq, LV.lis, LV.tpl, Ty6.has, lenF, intF, listF, tupleF, anyF, sumF, eqF, sEq, isF, LV.isN, inF, ixF, ltI, leI, gtI, geI, ii0, iiF, subF, modF, mulF, mulF2, listF2, LV.dt, fdivF, addF, powF, slF, dsOf, D.sign, D.flat, List.map_cons, List.map_nil, List.length_cons, List.length_nil, List.cons_append, List.nil_append, List.append_nil, List.set_cons_zero, List.set_cons_succ, List.set_nil, Nat.sub_self, Nat.reduceSub, Nat.reduceAdd, List.replicate_succ, List.replicate_zero, Bool.false_eq_true, if_true, if_false, true_and, and_true, false_and, and_false, at0]
  | home => simp [wne, namesOf, wSeq, wSet, wOp, wUn, wVb, wV, wC, wRet, wRetV, wRetN, wIfS, wNx, wBrk, wCnt, wFor, wWalk, wEnum, wRng1, wRng2, wRev, walkD, gN, gT, gsC, gsN, wAnd, wOr, wNot, wCh, wTb, wTr, wtAnd, wtOr, wtNot, wClU, wCl, wClX, wClUX, wCons, wNil, wTup, wLst, wDk, wDt, wFld, wSl, woN, woS, wKw, wRaise, wNeg, wFrz, wApp, wExt, wDrop, wUnp, wIf, wYes, wDisp1, wSplit, wLvals, wOFld, wOGet, wMk, wMkX, wDSet, wDGet, wDIn, wScr, wMt, wMtX, startN, LEnv.at, tru, isT, isC, LV.dd, LV.fz, LV.seq, LV.lis, LV.tpl, Ty6.has, lenF, intF, listF, tupleF, anyF, sumF, eqF, sEq, isF, LV.isN, inF, ixF, ltI, leI, gtI, geI, ii0, iiF, subF, modF, mulF, mulF2, listF2, LV.dt, fdivF, addF, powF, slF, dsOf, D.sign, D.flat, List.map_cons, List.map_nil, List.length_cons, List.length_nil, List.cons_append, List.nil_append, List.append_nil, List.set_cons_zero, List.set_cons_succ, List.set_nil, Nat.sub_self, Nat.reduceSub, Nat.reduceAdd, List.replicate_succ, List.replicate_zero, Bool.false_eq_true, if_true, if_false, true_and, and_true, false_and, and_false, at0]
  | fail => simp [wne, namesOf, wSeq, wSet, wOp, wUn, wVb, wV, wC, wRet, wRetV, wRetN, wIfS, wNx, wBrk, wCnt, wFor, wWalk, wEnum, wRng1, wRng2, wRev, walkD, gN, gT, gsC, gsN, wAnd, wOr, wNot, wCh, wTb, wTr, wtAnd, wtOr, wtNot, wClU, wCl, wClX, wClUX, wCons, wNil, wTup, wLst, wDk, wDt, wFld, wSl, woN, woS, wKw, wRaise, wNeg, wFrz, wApp, wExt, wDrop, wUnp, wIf, wYes, wDisp1, wSplit, wLvals, wOFld, wOGet, wMk, wMkX, wDSet, wDGet, wDIn, wScr, wMt, wMtX, startN, LEnv.at, tru, isT, isC, LV.dd, LV.fz, LV.seq, LV.lis, LV.tpl, Ty6.has, lenF, intF, listF, tupleF, anyF, sumF, eqF, sEq, isF, LV.isN, inF, ixF, ltI, leI, gtI, geI, ii0, iiF, subF, modF, mulF, mulF2, listF2, LV.dt, fdivF, addF, powF, slF, dsOf, D.sign, D.flat, List.map_cons, List.map_nil, List.length_cons, List.length_nil, List.cons_append, List.nil_append, List.append_nil, List.set_cons_zero, List.set_cons_succ, List.set_nil, Nat.sub_self, Nat.reduceSub, Nat.reduceAdd, List.replicate_succ, List.replicate_zero, Bool.false_eq_true, if_true, if_false, true_and, and_true, false_and, and_false, at0]
  | cond h1 h2 h3 => simp [wne, namesOf, wSeq, wSet, wOp, wUn, wVb, wV, wC, wRet, wRetV, wRetN, wIfS, wNx, wBrk, wCnt, wFor, wWalk, wEnum, wRng1, wRng2, wRev, walkD, gN, gT, gsC, gsN, wAnd, wOr, wNot, wCh, wTb, wTr, wtAnd, wtOr, wtNot, wClU, wCl, wClX, wClUX, wCons, wNil, wTup, wLst, wDk, wDt, wFld, wSl, woN, woS, wKw, wRaise, wNeg, wFrz, wApp, wExt, wDrop, wUnp, wIf, wYes, wDisp1, wSplit, wLvals, wOFld, wOGet, wMk, wMkX, wDSet, wDGet, wDIn, wScr, wMt, wMtX, startN, LEnv.at, tru, isT, isC, LV.dd, LV.fz, LV.seq, LV.lis, LV.tpl, Ty6.has, lenF, intF, listF, tupleF, anyF, sumF, eqF, sEq, isF, LV.isN, inF, ixF, ltI, leI, gtI, geI, ii0, iiF, subF, modF, mulF, mulF2, listF2, LV.dt, fdivF, addF, powF, slF, dsOf, D.sign, D.flat, List.map_cons, List.map_nil, List.length_cons, List.length_nil, List.cons_append, List.nil_append, List.append_nil, List.set_cons_zero, List.set_cons_succ, List.set_nil, Nat.sub_self, Nat.reduceSub, Nat.reduceAdd, List.replicate_succ, List.replicate_zero, Bool.false_eq_true, if_true, if_false, true_and, and_true, false_and, and_false, at0, at1, e_exprNames 8 _ _ _ (by decide) h1]
  | @wait rs h1 h2 h3 =>
    have hl : rs.length ≤ sizeLine := by omega
    simp [wne, namesOf, wSeq, wSet, wOp, wUn, wVb, wV, wC, wRet, wRetV, wRetN, wIfS, wNx, wBrk, wCnt, wFor, wWalk, wEnum, wRng1, wRng2, wRev, walkD, gN, gT, gsC, gsN, wAnd, wOr, wNot, wCh, wTb, wTr, wtAnd, wtOr, wtNot, wClU, wCl, wClX, wClUX, wCons, wNil, wTup, wLst, wDk, wDt, wFld, wSl, woN, woS, wKw, wRaise, wNeg, wFrz, wApp, wExt, wDrop, wUnp, wIf, wYes, wDisp1, wSplit, wLvals, wOFld, wOGet, wMk, wMkX, wDSet, wDGet, wDIn, wScr, wMt, wMtX, startN, LEnv.at, tru, isT, isC, LV.dd, LV.fz, LV.seq, LV.lis, LV.tpl, Ty6.has, lenF, intF, listF, tupleF, anyF, sumF, eqF, sEq, isF, LV.isN, inF, ixF, ltI, leI, gtI, geI, ii0, iiF, subF, modF, mulF, mulF2, listF2, LV.dt, fdivF, addF, powF, slF, dsOf, D.sign, D.flat, List.map_cons, List.map_nil, List.length_cons, List.length_nil, List.cons_append, List.nil_append, List.append_nil, List.set_cons_zero, List.set_cons_succ, List.set_nil, Nat.sub_self, Nat.reduceSub, Nat.reduceAdd, List.replicate_succ, List.replicate_zero, Bool.false_eq_true, if_true, if_false, true_and, and_true, false_and, and_false, at0, at1, wLc, wipeE, hl, itemsOf]
    refine iff_of_eq ((wLc_map sndD rs [] fun r hr => ?_).trans rfl)
    obtain ⟨p, a, b, rfl, _⟩ := rows_names h3 r hr
    exact ⟨_, fun K => rfl, fun P N => rfl, fun P N => by simp [wSeq, wSet, wOp, wUn, wVb, wV, wC, wRet, wRetV, wRetN, wIfS, wNx, wBrk, wCnt, wFor, wWalk, wEnum, wRng1, wRng2, wRev, walkD, gN, gT, gsC, gsN, wAnd, wOr, wNot, wCh, wTb, wTr, wtAnd, wtOr, wtNot, wClU, wCl, wClX, wClUX, wCons, wNil, wTup, wLst, wDk, wDt, wFld, wSl, woN, woS, wKw, wRaise, wNeg, wFrz, wApp, wExt, wDrop, wUnp, wIf, wYes, wDisp1, wSplit, wLvals, wOFld, wOGet, wMk, wMkX, wDSet, wDGet, wDIn, wScr, wMt, wMtX, startN, LEnv.at, tru, isT, isC, LV.dd, LV.fz, LV.seq, LV.lis, LV.tpl, Ty6.has, lenF, intF, listF, tupleF, anyF, sumF, eqF, sEq, isF, LV.isN, inF, ixF, ltI, leI, gtI, geI, ii0, iiF, subF, modF, mulF, mulF2, listF2, LV.dt, fdivF, addF, powF, slF, dsOf, D.sign, D.flat, List.map_cons, List.map_nil, List.length_cons, List.length_nil, List.cons_append, List.nil_append, List.append_nil, List.set_cons_zero, List.set_cons_succ, List.set_nil, Nat.sub_self, Nat.reduceSub, Nat.reduceAdd, List.replicate_succ, List.replicate_zero, Bool.false_eq_true, if_true, if_false, true_and, and_true, false_and, and_false, at1, sndD]⟩
  | opn h1 h2 h3 => simp [wne, namesOf, wSeq, wSet, wOp, wUn, wVb, wV, wC, wRet, wRetV, wRetN, wIfS, wNx, wBrk, wCnt, wFor, wWalk, wEnum, wRng1, wRng2, wRev, walkD, gN, gT, gsC, gsN, wAnd, wOr, wNot, wCh, wTb, wTr, wtAnd, wtOr, wtNot, wClU, wCl, wClX, wClUX, wCons, wNil, wTup, wLst, wDk, wDt, wFld, wSl, woN, woS, wKw, wRaise, wNeg, wFrz, wApp, wExt, wDrop, wUnp, wIf, wYes, wDisp1, wSplit, wLvals, wOFld, wOGet, wMk, wMkX, wDSet, wDGet, wDIn, wScr, wMt, wMtX, startN, LEnv.at, tru, isT, isC, LV.dd, LV.fz, LV.seq, LV.lis, LV.tpl, Ty6.has, lenF, intF, listF, tupleF, anyF, sumF, eqF, sEq, isF, LV.isN, inF, ixF, ltI, leI, gtI, geI, ii0, iiF, subF, modF, mulF, mulF2, listF2, LV.dt, fdivF, addF, powF, slF, dsOf, D.sign, D.flat, List.map_cons, List.map_nil, List.length_cons, List.length_nil, List.cons_append, List.nil_append, List.append_nil, List.set_cons_zero, List.set_cons_succ, List.set_nil, Nat.sub_self, Nat.reduceSub, Nat.reduceAdd, List.replicate_succ, List.replicate_zero, Bool.false_eq_true, if_true, if_false, true_and, and_true, false_and, and_false, at0]
  | rep h1 => simp [wne, namesOf, wSeq, wSet, wOp, wUn, wVb, wV, wC, wRet, wRetV, wRetN, wIfS, wNx, wBrk, wCnt, wFor, wWalk, wEnum, wRng1, wRng2, wRev, walkD, gN, gT, gsC, gsN, wAnd, wOr, wNot, wCh, wTb, wTr, wtAnd, wtOr, wtNot, wClU, wCl, wClX, wClUX, wCons, wNil, wTup, wLst, wDk, wDt, wFld, wSl, woN, woS, wKw, wRaise, wNeg, wFrz, wApp, wExt, wDrop, wUnp, wIf, wYes, wDisp1, wSplit, wLvals, wOFld, wOGet, wMk, wMkX, wDSet, wDGet, wDIn, wScr, wMt, wMtX, startN, LEnv.at, tru, isT, isC, LV.dd, LV.fz, LV.seq, LV.lis, LV.tpl, Ty6.has, lenF, intF, listF, tupleF, anyF, sumF, eqF, sEq, isF, LV.isN, inF, ixF, ltI, leI, gtI, geI, ii0, iiF, subF, modF, mulF, mulF2, listF2, LV.dt, fdivF, addF, powF, slF, dsOf, D.sign, D.flat, List.map_cons, List.map_nil, List.length_cons, List.length_nil, List.cons_append, List.nil_append, List.append_nil, List.set_cons_zero, List.set_cons_succ, List.set_nil, Nat.sub_self, Nat.reduceSub, Nat.reduceAdd, List.replicate_succ, List.replicate_zero, Bool.false_eq_true, if_true, if_false, true_and, and_true, false_and, and_false, at0]
theorem e_portsof (x : D) (hs : isStmt x = true) (P : LV → Unit → Prop) : m_ports_of [.d x] () P noX = P (.l (portsOf x)) () := by
  have hbig : 100000 < sizeLine := by decide
  unfold m_ports_of mk0 u_ports_of
  cases stm_of hs with
  | set h1 h2 => simp [wne, portsOf, wSeq, wSet, wOp, wUn, wVb, wV, wC, wRet, wRetV, wRetN, wIfS, wNx, wBrk, wCnt, wFor, wWalk, wEnum, wRng1, wRng2, wRev, walkD, gN, gT, gsC, gsN, wAnd, wOr, wNot, wCh, wTb, wTr, wtAnd, wtOr, wtNot, wClU, wCl, wClX, wClUX, wCons, wNil, wTup, wLst, wDk, wDt, wFld, wSl, woN, woS, wKw, wRaise, wNeg, wFrz, wApp, wExt, wDrop, wUnp, wIf, wYes, wDisp1, wSplit, wLvals, wOFld, wOGet, wMk, wMkX, wDSet, wDGet, wDIn, wScr, wMt, wMtX, startN, LEnv.at, tru, isT, isC, LV.dd, LV.fz, LV.seq, LV.lis, LV.tpl, Ty6.has, lenF, intF, listF, tupleF, anyF, sumF, eqF, sEq, isF, LV.isN, inF, ixF, ltI, leI, gtI, geI, ii0, iiF, subF, modF, mulF, mulF2, listF2, LV.dt, fdivF, addF, powF, slF, dsOf, D.sign, D.flat, List.map_cons, List.map_nil, List.length_cons, List.length_nil, List.cons_append, List.nil_append, List.append_nil, List.set_cons_zero, List.set_cons_succ, List.set_nil, Nat.sub_self, Nat.reduceSub, Nat.reduceAdd, List.replicate_succ, List.replicate_zero, Bool.false_eq_true, if_true, if_false, true_and, and_true, false_and, and_false, at0, at1, D.eqf]
  | tell h1 h2 => simp [wne, portsOf, wSeq, wSet, wOp, wUn, wVb, wV, wC, wRet, wRetV, wRetN, wIfS, wNx, wBrk, wCnt, wFor, wWalk, wEnum, wRng1, wRng2, wRev, walkD, gN, gT, gsC, gsN, wAnd, wOr, wNot, wCh, wTb, wTr, wtAnd, wtOr, wtNot, wClU, wCl, wClX, wClUX, wCons, wNil, wTup, wLst, wDk, wDt, wFld, wSl, woN, woS, wKw, wRaise, wNeg, wFrz, wApp, wExt, wDrop, wUnp, wIf, wYes, wDisp1, wSplit, wLvals, wOFld, wOGet, wMk, wMkX, wDSet, wDGet, wDIn, wScr, wMt, wMtX, startN, LEnv.at, tru, isT, isC, LV.dd, LV.fz, LV.seq, LV.lis, LV.tpl, Ty6.has, lenF, intF, listF, tupleF, anyF, sumF, eqF, sEq, isF, LV.isN, inF, ixF, ltI, leI, gtI, geI, ii0, iiF, subF, modF, mulF, mulF2, listF2, LV.dt, fdivF, addF, powF, slF, dsOf, D.sign, D.flat, List.map_cons, List.map_nil, List.length_cons, List.length_nil, List.cons_append, List.nil_append, List.append_nil, List.set_cons_zero, List.set_cons_succ, List.set_nil, Nat.sub_self, Nat.reduceSub, Nat.reduceAdd, List.replicate_succ, List.replicate_zero, Bool.false_eq_true, if_true, if_false, true_and, and_true, false_and, and_false, at0, at1, D.eqf]
  | hear h1 h2 => simp [wne, portsOf, wSeq, wSet, wOp, wUn, wVb, wV, wC, wRet, wRetV, wRetN, wIfS, wNx, wBrk, wCnt, wFor, wWalk, wEnum, wRng1, wRng2, wRev, walkD, gN, gT, gsC, gsN, wAnd, wOr, wNot, wCh, wTb, wTr, wtAnd, wtOr, wtNot, wClU, wCl, wClX, wClUX, wCons, wNil, wTup, wLst, wDk, wDt, wFld, wSl, woN, woS, wKw, wRaise, wNeg, wFrz, wApp, wExt, wDrop, wUnp, wIf, wYes, wDisp1, wSplit, wLvals, wOFld, wOGet, wMk, wMkX, wDSet, wDGet, wDIn, wScr, wMt, wMtX, startN, LEnv.at, tru, isT, isC, LV.dd, LV.fz, LV.seq, LV.lis, LV.tpl, Ty6.has, lenF, intF, listF, tupleF, anyF, sumF, eqF, sEq, isF, LV.isN, inF, ixF, ltI, leI, gtI, geI, ii0, iiF, subF, modF, mulF, mulF2, listF2, LV.dt, fdivF, addF, powF, slF, dsOf, D.sign, D.flat, List.map_cons, List.map_nil, List.length_cons, List.length_nil, List.cons_append, List.nil_append, List.append_nil, List.set_cons_zero, List.set_cons_succ, List.set_nil, Nat.sub_self, Nat.reduceSub, Nat.reduceAdd, List.replicate_succ, List.replicate_zero, Bool.false_eq_true, if_true, if_false, true_and, and_true, false_and, and_false, at0, at1, D.eqf]
  | leave => simp [wne, portsOf, wSeq, wSet, wOp, wUn, wVb, wV, wC, wRet, wRetV, wRetN, wIfS, wNx, wBrk, wCnt, wFor, wWalk, wEnum, wRng1, wRng2, wRev, walkD, gN, gT, gsC, gsN, wAnd, wOr, wNot, wCh, wTb, wTr, wtAnd, wtOr, wtNot, wClU, wCl, wClX, wClUX, wCons, wNil, wTup, wLst, wDk, wDt, wFld, wSl, woN, woS, wKw, wRaise, wNeg, wFrz, wApp, wExt, wDrop, wUnp, wIf, wYes, wDisp1, wSplit, wLvals, wOFld, wOGet, wMk, wMkX, wDSet, wDGet, wDIn, wScr, wMt, wMtX, startN, LEnv.at, tru, isT, isC, LV.dd, LV.fz, LV.seq, LV.lis, LV.tpl, Ty6.has, lenF, intF, listF, tupleF, anyF, sumF, eqF, sEq, isF, LV.isN, inF, ixF, ltI, leI, gtI, geI, ii0, iiF, subF, modF, mulF, mulF2, listF2, LV.dt, fdivF, addF, powF, slF, dsOf, D.sign, D.flat, List.map_cons, List.map_nil, List.length_cons, List.length_nil, List.cons_append, List.nil_append, List.append_nil, List.set_cons_zero, List.set_cons_succ, List.set_nil, Nat.sub_self, Nat.reduceSub, Nat.reduceAdd, List.replicate_succ, List.replicate_zero, Bool.false_eq_true, if_true, if_false, true_and, and_true, false_and, and_false, at0, D.eqf]
  | home => simp [wne, portsOf, wSeq, wSet, wOp, wUn, wVb, wV, wC, wRet, wRetV, wRetN, wIfS, wNx, wBrk, wCnt, wFor, wWalk, wEnum, wRng1, wRng2, wRev, walkD, gN, gT, gsC, gsN, wAnd, wOr, wNot, wCh, wTb, wTr, wtAnd, wtOr, wtNot, wClU, wCl, wClX, wClUX, wCons, wNil, wTup, wLst, wDk, wDt, wFld, wSl, woN, woS, wKw, wRaise, wNeg, wFrz, wApp, wExt, wDrop, wUnp, wIf, wYes, wDisp1, wSplit, wLvals, wOFld, wOGet, wMk, wMkX, wDSet, wDGet, wDIn, wScr, wMt, wMtX, startN, LEnv.at, tru, isT, isC, LV.dd, LV.fz, LV.seq, LV.lis, LV.tpl, Ty6.has, lenF, intF, listF, tupleF, anyF, sumF, eqF, sEq, isF, LV.isN, inF, ixF, ltI, leI, gtI, geI, ii0, iiF, subF, modF, mulF, mulF2, listF2, LV.dt, fdivF, addF, powF, slF, dsOf, D.sign, D.flat, List.map_cons, List.map_nil, List.length_cons, List.length_nil, List.cons_append, List.nil_append, List.append_nil, List.set_cons_zero, List.set_cons_succ, List.set_nil, Nat.sub_self, Nat.reduceSub, Nat.reduceAdd, List.replicate_succ, List.replicate_zero, Bool.false_eq_true, if_true, if_false, true_and, and_true, false_and, and_false, at0, D.eqf]
  | fail => simp [wne, portsOf, wSeq, wSet, wOp, wUn, wVb, wV, wC, wRet, wRetV, wRetN, wIfS, wNx, wBrk, wCnt, wFor, wWalk, wEnum, wRng1, wRng2, wRev, walkD, gN, gT, gsC, gsN, wAnd, wOr, wNot, wCh, wTb, wTr, wtAnd, wtOr, wtNot, wClU, wCl, wClX, wClUX, wCons, wNil, wTup, wLst, wDk, wDt, wFld, wSl, woN, woS, wKw, wRaise, wNeg, wFrz, wApp, wExt, wDrop, wUnp, wIf, wYes, wDisp1, wSplit, wLvals, wOFld, wOGet, wMk, wMkX, wDSet, wDGet, wDIn, wScr, wMt, wMtX, startN, LEnv.at, tru, isT, isC, LV.dd, LV.fz, LV.seq, LV.lis, LV.tpl, Ty6.has, lenF, intF, listF, tupleF, anyF, sumF, eqF, sEq, isF, LV.isN, inF, ixF, ltI, leI, gtI, geI, ii0, iiF, subF, modF, mulF, mulF2, listF2, LV.dt, fdivF, addF, powF, slF, dsOf, D.sign, D.flat, List.map_cons, List.map_nil, List.length_cons, List.length_nil, List.cons_append, List.nil_append, List.append_nil, List.set_cons_zero, List.set_cons_succ, List.set_nil, Nat.sub_self, Nat.reduceSub, Nat.reduceAdd, List.replicate_succ, List.replicate_zero, Bool.false_eq_true, if_true, if_false, true_and, and_true, false_and, and_false, at0, D.eqf]
  | cond h1 h2 h3 => simp [wne, portsOf, wSeq, wSet, wOp, wUn, wVb, wV, wC, wRet, wRetV, wRetN, wIfS, wNx, wBrk, wCnt, wFor, wWalk, wEnum, wRng1, wRng2, wRev, walkD, gN, gT, gsC, gsN, wAnd, wOr, wNot, wCh, wTb, wTr, wtAnd, wtOr, wtNot, wClU, wCl, wClX, wClUX, wCons, wNil, wTup, wLst, wDk, wDt, wFld, wSl, woN, woS, wKw, wRaise, wNeg, wFrz, wApp, wExt, wDrop, wUnp, wIf, wYes, wDisp1, wSplit, wLvals, wOFld, wOGet, wMk, wMkX, wDSet, wDGet, wDIn, wScr, wMt, wMtX, startN, LEnv.at, tru, isT, isC, LV.dd, LV.fz, LV.seq, LV.lis, LV.tpl, Ty6.has, lenF, intF, listF, tupleF, anyF, sumF, eqF, sEq, isF, LV.isN, inF, ixF, ltI, leI, gtI, geI, ii0, iiF, subF, modF, mulF, mulF2, listF2, LV.dt, fdivF, addF, powF, slF, dsOf, D.sign, D.flat, List.map_cons, List.map_nil, List.length_cons, List.length_nil, List.cons_append, List.nil_append, List.append_nil, List.set_cons_zero, List.set_cons_succ, List.set_nil, Nat.sub_self, Nat.reduceSub, Nat.reduceAdd, List.replicate_succ, List.replicate_zero, Bool.false_eq_true, if_true, if_false, true_and, and_true, false_and, and_false, at0, at1, D.eqf]
  | @wait rs h1 h2 h3 =>
    have hl : rs.length ≤ sizeLine := by omega
    simp [wne, portsOf, wSeq, wSet, wOp, wUn, wVb, wV, wC, wRet, wRetV, wRetN, wIfS, wNx, wBrk, wCnt, wFor, wWalk, wEnum, wRng1, wRng2, wRev, walkD, gN, gT, gsC, gsN, wAnd, wOr, wNot, wCh, wTb, wTr, wtAnd, wtOr, wtNot, wClU, wCl, wClX, wClUX, wCons, wNil, wTup, wLst, wDk, wDt, wFld, wSl, woN, woS, wKw, wRaise, wNeg, wFrz, wApp, wExt, wDrop, wUnp, wIf, wYes, wDisp1, wSplit, wLvals, wOFld, wOGet, wMk, wMkX, wDSet, wDGet, wDIn, wScr, wMt, wMtX, startN, LEnv.at, tru, isT, isC, LV.dd, LV.fz, LV.seq, LV.lis, LV.tpl, Ty6.has, lenF, intF, listF, tupleF, anyF, sumF, eqF, sEq, isF, LV.isN, inF, ixF, ltI, leI, gtI, geI, ii0, iiF, subF, modF, mulF, mulF2, listF2, LV.dt, fdivF, addF, powF, slF, dsOf, D.sign, D.flat, List.map_cons, List.map_nil, List.length_cons, List.length_nil, List.cons_append, List.nil_append, List.append_nil, List.set_cons_zero, List.set_cons_succ, List.set_nil, Nat.sub_self, Nat.reduceSub, Nat.reduceAdd, List.replicate_succ, List.replicate_zero, Bool.false_eq_true, if_true, if_false, true_and, and_true, false_and, and_false, at0, at1, wLc, wipeE, hl, itemsOf, D.eqf]
    refine iff_of_eq ((wLc_map fstD rs [] fun r hr => ?_).trans rfl)
    obtain ⟨p, a, b, rfl, _⟩ := rows_names h3 r hr
    exact ⟨_, fun K => rfl, fun P N => rfl, fun P N => by simp [wSeq, wSet, wOp, wUn, wVb, wV, wC, wRet, wRetV, wRetN, wIfS, wNx, wBrk, wCnt, wFor, wWalk, wEnum, wRng1, wRng2, wRev, walkD, gN, gT, gsC, gsN, wAnd, wOr, wNot, wCh, wTb, wTr, wtAnd, wtOr, wtNot, wClU, wCl, wClX, wClUX, wCons, wNil, wTup, wLst, wDk, wDt, wFld, wSl, woN, woS, wKw, wRaise, wNeg, wFrz, wApp, wExt, wDrop, wUnp, wIf, wYes, wDisp1, wSplit, wLvals, wOFld, wOGet, wMk, wMkX, wDSet, wDGet, wDIn, wScr, wMt, wMtX, startN, LEnv.at, tru, isT, isC, LV.dd, LV.fz, LV.seq, LV.lis, LV.tpl, Ty6.has, lenF, intF, listF, tupleF, anyF, sumF, eqF, sEq, isF, LV.isN, inF, ixF, ltI, leI, gtI, geI, ii0, iiF, subF, modF, mulF, mulF2, listF2, LV.dt, fdivF, addF, powF, slF, dsOf, D.sign, D.flat, List.map_cons, List.map_nil, List.length_cons, List.length_nil, List.cons_append, List.nil_append, List.append_nil, List.set_cons_zero, List.set_cons_succ, List.set_nil, Nat.sub_self, Nat.reduceSub, Nat.reduceAdd, List.replicate_succ, List.replicate_zero, Bool.false_eq_true, if_true, if_false, true_and, and_true, false_and, and_false, at0, fstD]⟩
  | opn h1 h2 h3 => simp [wne, portsOf, wSeq, wSet, wOp, wUn, wVb, wV, wC, wRet, wRetV, wRetN, wIfS, wNx, wBrk, wCnt, wFor, wWalk, wEnum, wRng1, wRng2, wRev, walkD, gN, gT, gsC, gsN, wAnd, wOr, wNot, wCh, wTb, wTr, wtAnd, wtOr, wtNot, wClU, wCl, wClX, wClUX, wCons, wNil, wTup, wLst, wDk, wDt, wFld, wSl, woN, woS, wKw, wRaise, wNeg, wFrz, wApp, wExt, wDrop, wUnp, wIf, wYes, wDisp1, wSplit, wLvals, wOFld, wOGet, wMk, wMkX, wDSet, wDGet, wDIn, wScr, wMt, wMtX, startN, LEnv.at, tru, isT, isC, LV.dd, LV.fz, LV.seq, LV.lis, LV.tpl, Ty6.has, lenF, intF, listF, tupleF, anyF, sumF, eqF, sEq, isF, LV.isN, inF, ixF, ltI, leI, gtI, geI, ii0, iiF, subF, modF, mulF, mulF2, listF2, LV.dt, fdivF, addF, powF, slF, dsOf, D.sign, D.flat, List.map_cons, List.map_nil, List.length_cons, List.length_nil, List.cons_append, List.nil_append, List.append_nil, List.set_cons_zero, List.set_cons_succ, List.set_nil, Nat.sub_self, Nat.reduceSub, Nat.reduceAdd, List.replicate_succ, List.replicate_zero, Bool.false_eq_true, if_true, if_false, true_and, and_true, false_and, and_false, at0, D.eqf]
  | rep h1 => simp [wne, portsOf, wSeq, wSet, wOp, wUn, wVb, wV, wC, wRet, wRetV, wRetN, wIfS, wNx, wBrk, wCnt, wFor, wWalk, wEnum, wRng1, wRng2, wRev, walkD, gN, gT, gsC, gsN, wAnd, wOr, wNot, wCh, wTb, wTr, wtAnd, wtOr, wtNot, wClU, wCl, wClX, wClUX, wCons, wNil, wTup, wLst, wDk, wDt, wFld, wSl, woN, woS, wKw, wRaise, wNeg, wFrz, wApp, wExt, wDrop, wUnp, wIf, wYes, wDisp1, wSplit, wLvals, wOFld, wOGet, wMk, wMkX, wDSet, wDGet, wDIn, wScr, wMt, wMtX, startN, LEnv.at, tru, isT, isC, LV.dd, LV.fz, LV.seq, LV.lis, LV.tpl, Ty6.has, lenF, intF, listF, tupleF, anyF, sumF, eqF, sEq, isF, LV.isN, inF, ixF, ltI, leI, gtI, geI, ii0, iiF, subF, modF, mulF, mulF2, listF2, LV.dt, fdivF, addF, powF, slF, dsOf, D.sign, D.flat, List.map_cons, List.map_nil, List.length_cons, List.length_nil, List.cons_append, List.nil_append, List.append_nil, List.set_cons_zero, List.set_cons_succ, List.set_nil, Nat.sub_self, Nat.reduceSub, Nat.reduceAdd, List.replicate_succ, List.replicate_zero, Bool.false_eq_true, if_true, if_false, true_and, and_true, false_and, and_false, at0, D.eqf]
end LW
namespace LW
open PySem PySem.Spec PyProof.Rows L2 DL
/-! ascending lists without duplicates -/
def ddS : List Str → List Str → List Str
  | acc, [] => acc
  | acc, z :: r => ddS (if z ∈ acc then acc else acc ++ [z]) r
def strOf : D → Str
  | .str z => z
  | _ => ""
theorem strs_of {l : List D} (h : ∀ y ∈ l, isName y = true) : l = (l.map strOf).map D.str := by
  rw [List.map_map]
  refine (List.map_id l).symm.trans (List.map_congr_left fun y hy => ?_)
  obtain ⟨z, rfl⟩ := name_str (h y hy)
  rfl
theorem inr_mem {z : Str} {acc : List Str} : (Sum.inr z : Key) ∈ acc.map (Sum.inr : Str → Key) ↔ z ∈ acc := by
  rw [List.mem_map]
  exact ⟨fun ⟨y, hy, e⟩ => by cases e; exact hy, fun h => ⟨z, h, rfl⟩⟩
theorem asc_loop (M : ED Unit) (x0 : Option LV) (n : Nat) (hn : n ≤ 4000000) (R : List Str → Prop) (hR : ∀ acc xs o2, acc.length ≤ n → M.nx [x0, some (.k (acc.map Sum.inr) xs), o2] () = R acc) :
    ∀ (zs acc : List Str) (xs : List D) (o2 : Option LV), acc.length + zs.length ≤ n → wGo (gN 2) (wDSet 1 (wV 2) (wC (.bl true))) M (zs.map D.str) [x0, some (.k (acc.map Sum.inr) xs), o2] () = R (ddS acc zs)
  | [], acc, xs, o2, h => hR acc xs o2 h
  | z :: zs, acc, xs, o2, hl => by
    have hbig : 4000000 < sizeLine := by decide
    simp only [List.length_cons] at hl
    rw [List.map_cons]
    unfold wGo
    show (match (D.str z).key with | some k => (acc.map (Sum.inr : Str → Key)).length < sizeLine ∧ wGo (gN 2) (wDSet 1 (wV 2) (wC (.bl true))) M (zs.map D.str) [x0, some (.k (putKs (acc.map (Sum.inr : Str → Key)) k) (putXs (acc.map (Sum.inr : Str → Key)) xs k (.bl true))), some (.d (.str z))] () | none => False) = _
    simp only [D.key]
    refine (propext (and_iff_right (by rw [List.length_map]; omega))).trans ?_
    unfold ddS putKs
    by_cases h : z ∈ acc
    · rw [if_pos (inr_mem.mpr h), if_pos h]
      exact asc_loop M x0 n hn R hR zs acc _ _ (by omega)
    · rw [if_neg (fun q => h (inr_mem.mp q)), if_neg h]
      have e : acc.map (Sum.inr : Str → Key) ++ [Sum.inr z] = (acc ++ [z]).map Sum.inr := by simp
      rw [e]
      exact asc_loop M x0 n hn R hR zs (acc ++ [z]) _ _ (by simp; omega)
/-- texts in order -/
def sortL (zs : List Str) : List D := (zs.map D.str).mergeSort leD
theorem pys_strs : ∀ zs : List Str, D.pys (zs.map D.str) = some (zs.map PyData.str)
  | [] => rfl
  | z :: zs => by
    rw [List.map_cons]
    unfold D.pys
    rw [pys_strs zs]
    rfl
theorem strs_sortable (zs : List Str) : PySem.W.AllAlike (zs.map PyData.str) ∧ PySem.W.Sortable (zs.map PyData.str) ∧ ∀ p ∈ zs.map PyData.str, p.depth ≤ 60 := by
  refine ⟨PySem.W.AllAlike.of fun b b' => by simp [PySem.W.alike], PySem.W.Sortable.others fun b => ⟨by simp, by simp⟩, fun p hp => ?_⟩
  obtain ⟨z, _, rfl⟩ := List.mem_map.mp hp
  simp [PyData.depth]
theorem dd_len : ∀ (zs acc : List Str), (ddS acc zs).length ≤ acc.length + zs.length
  | [], acc => by simp [ddS]
  | z :: zs, acc => by
    unfold ddS
    have h := dd_len zs (if z ∈ acc then acc else acc ++ [z])
    split at h
    · simp only [List.length_cons]; rename_i h'; rw [if_pos h']; omega
    · simp only [List.length_append, List.length_cons, List.length_nil] at h ⊢; rename_i h'; rw [if_neg h']; omega
theorem e_asc (zs : List Str) (hl : zs.length ≤ 4000000) (P : LV → Unit → Prop) : m_ascending [.d (.lst (zs.map D.str))] () P noX = P (.l (sortL (ddS [] zs))) () := by
  have hbig : 4000000 < sizeLine := by decide
  refine (propext (and_iff_right rfl)).trans ?_
  refine asc_loop _ (some (.d (.lst (zs.map D.str)))) 4000000 (Nat.le_refl _) (fun acc => P (.l (sortL acc)) ()) (fun acc xs o2 hacc => ?_) zs [] [] none (by simpa using hl)
  have e : (acc.map (Sum.inr : Str → Key)).map Key.d = acc.map D.str := by rw [List.map_map]; rfl
  show (match D.pys ((acc.map (Sum.inr : Str → Key)).map Key.d) with | some ps => (PySem.W.AllAlike ps ∧ PySem.W.Sortable ps ∧ ((acc.map (Sum.inr : Str → Key)).map Key.d).length ≤ sizeLine ∧ ∀ p ∈ ps, p.depth ≤ 60) ∧ P (.l (((acc.map (Sum.inr : Str → Key)).map Key.d).mergeSort leD)) () | none => False) = _
  rw [e, pys_strs]
  obtain ⟨h1, h2, h3⟩ := strs_sortable acc
  exact propext (and_iff_right ⟨h1, h2, by rw [List.length_map]; omega, h3⟩)
/-! the names and ports of a list of statements -/
theorem namesOf_len {x : D} (hs : isStmt x = true) : (namesOf x).length ≤ 257 := by
  cases stm_of hs with
  | set h1 h2 => have := exprNames_len 8 _ _ h2; simp [wne, namesOf]; omega
  | tell h1 h2 => have := exprNames_len 8 _ _ h2; simp [wne, namesOf]; omega
  | hear h1 h2 => simp [wne, namesOf]
  | leave => simp [wne, namesOf]
  | home => simp [wne, namesOf]
  | fail => simp [wne, namesOf]
  | cond h1 h2 h3 => have := exprNames_len 8 _ _ h1; simp [wne, namesOf]; omega
  | wait h1 h2 h3 => simp [wne, namesOf, itemsOf]; omega
  | opn h1 h2 h3 => simp [wne, namesOf]
  | rep h1 => simp [wne, namesOf]
theorem portsOf_len {x : D} (hs : isStmt x = true) : (portsOf x).length ≤ 257 := by
  cases stm_of hs with
  | set h1 h2 => simp [wne, portsOf]
  | tell h1 h2 => simp [wne, portsOf]
  | hear h1 h2 => simp [wne, portsOf]
  | leave => simp [wne, portsOf]
  | home => simp [wne, portsOf]
  | fail => simp [wne, portsOf]
  | cond h1 h2 h3 => simp [wne, portsOf]
  | wait h1 h2 h3 => simp [wne, portsOf, itemsOf]; omega
  | opn h1 h2 h3 => simp [wne, portsOf]
  | rep h1 => simp [wne, portsOf]
theorem namesOf_name {x : D} (hs : isStmt x = true) : ∀ y ∈ namesOf x, isName y = true := by
  intro y hy
  cases stm_of hs with
  | set h1 h2 =>
    have hy' : y ∈ _ :: exprNames 8 _ := hy
    rcases List.mem_cons.mp hy' with e | e
    · rw [e]; exact h1
    · exact exprNames_name 8 _ _ h2 y e
  | tell h1 h2 => exact exprNames_name 8 _ _ h2 y hy
  | hear h1 h2 =>
    have hy' : y ∈ [_] := hy
    rw [List.mem_singleton.mp hy']; exact h2
  | leave => cases hy
  | home => cases hy
  | fail => cases hy
  | cond h1 h2 h3 => exact exprNames_name 8 _ _ h1 y hy
  | @wait rs h1 h2 h3 =>
    have hy' : y ∈ rs.map sndD := hy
    obtain ⟨r, hr, rfl⟩ := List.mem_map.mp hy'
    obtain ⟨p, a, b, rfl, _, h, _⟩ := rows_names h3 r hr
    exact h
  | opn h1 h2 h3 => cases hy
  | rep h1 => cases hy
theorem portsOf_name {x : D} (hs : isStmt x = true) : ∀ y ∈ portsOf x, isName y = true := by
  intro y hy
  cases stm_of hs with
  | set h1 h2 => cases hy
  | tell h1 h2 =>
    have hy' : y ∈ [_] := hy
    rw [List.mem_singleton.mp hy']; exact h1
  | hear h1 h2 =>
    have hy' : y ∈ [_] := hy
    rw [List.mem_singleton.mp hy']; exact h1
  | leave => cases hy
  | home => cases hy
  | fail => cases hy
  | cond h1 h2 h3 => cases hy
  | @wait rs h1 h2 h3 =>
    have hy' : y ∈ rs.map fstD := hy
    obtain ⟨r, hr, rfl⟩ := List.mem_map.mp hy'
    obtain ⟨p, a, b, rfl, h, _, _⟩ := rows_names h3 r hr
    exact h
  | opn h1 h2 h3 => cases hy
  | rep h1 => cases hy
def allNames (xs : List D) : List Str := ((xs.map namesOf).flatten).map strOf
def allPorts (xs : List D) : List Str := ((xs.map portsOf).flatten).map strOf
theorem flat_names {f : D → List D} {xs : List D} (h : ∀ x ∈ xs, ∀ y ∈ f x, isName y = true) : (xs.map f).flatten = (((xs.map f).flatten).map strOf).map D.str := strs_of fun y hy => by
  obtain ⟨l, hl, hyl⟩ := List.mem_flatten.mp hy
  obtain ⟨u, hu, rfl⟩ := List.mem_map.mp hl
  exact h u hu y hyl
theorem flat_len {f : D → List D} {n : Nat} : ∀ {xs : List D}, (∀ x ∈ xs, (f x).length ≤ n) → ((xs.map f).flatten).length ≤ n * xs.length
  | [], _ => by simp
  | x :: r, h => by
    have h1 := h x List.mem_cons_self
    have h2 := flat_len (xs := r) fun y hy => h y (List.mem_cons_of_mem _ hy)
    rw [List.map_cons, List.flatten_cons, List.length_append, List.length_cons, Nat.mul_add, Nat.mul_one]
    omega
theorem flat_loop (m : MF Unit) (f : D → List D) (hm : ∀ x P, isStmt x = true → m [.d x] () P noX = P (.l (f x)) ()) (hl : ∀ x, isStmt x = true → (f x).length ≤ 257) (M : ED Unit) (x0 : Option LV) (R : List D → Prop) (hR : ∀ acc o2, M.nx [x0, some (.l acc), o2] () = R acc) :
    ∀ (xs acc : List D) (o2 : Option LV), (∀ x ∈ xs, isStmt x = true) → acc.length + 257 * xs.length ≤ 2000000 → wGo (gN 2) (wExt 1 (wClU m [] (wCons (wV 2) wNil))) M xs [x0, some (.l acc), o2] () = R (acc ++ (xs.map f).flatten)
  | [], acc, o2, _, _ => by
    rw [List.map_nil, List.flatten_nil, List.append_nil]
    exact hR acc o2
  | x :: xs, acc, o2, hs, hb => by
    have hbig : 4000000 < sizeLine := by decide
    have hx := hs x List.mem_cons_self
    have hx2 := hl x hx
    simp only [List.length_cons] at hb
    show m [.d x] () (fun lv _ => match lv.lis with
      | some ys => acc.length + ys.length ≤ sizeLine ∧ wGo (gN 2) (wExt 1 (wClU m [] (wCons (wV 2) wNil))) M xs [x0, some (.l (acc ++ ys)), some (.d x)] ()
      | none => False) noX = _
    rw [hm x _ hx]
    refine (propext (and_iff_right (by omega))).trans ?_
    rw [flat_loop m f hm hl M x0 R hR xs (acc ++ f x) _ (fun y hy => hs y (List.mem_cons_of_mem _ hy)) (by rw [List.length_append]; omega), List.map_cons, List.flatten_cons, List.append_assoc]
theorem e_blocknames (xs : List D) (hs : ∀ x ∈ xs, isStmt x = true) (hl : xs.length ≤ 6000) (P : LV → Unit → Prop) : m_block_names [.d (.lst xs)] () P noX = P (.l (sortL (ddS [] (allNames xs)))) () := by
  refine (propext (and_iff_right rfl)).trans ?_
  refine (propext (and_iff_right (Nat.zero_le _))).trans ?_
  have hb := flat_len (f := namesOf) (n := 257) (xs := xs) fun x hx => namesOf_len (hs x hx)
  refine (flat_loop m_names_of namesOf (fun x P h => e_namesof x h P) (fun x h => namesOf_len h) _ (some (.d (.lst xs))) (fun acc => m_ascending [.d (.lst acc)] () P noX) (fun acc o2 => rfl) xs [] none hs (by simp; omega)).trans ?_
  rw [List.nil_append, flat_names fun x hx => namesOf_name (hs x hx)]
  exact e_asc _ (by rw [List.length_map]; exact Nat.le_trans hb (by omega)) P
theorem e_blockports (xs : List D) (hs : ∀ x ∈ xs, isStmt x = true) (hl : xs.length ≤ 6000) (P : LV → Unit → Prop) : m_block_ports [.d (.lst xs)] () P noX = P (.l (sortL (ddS [] (allPorts xs)))) () := by
  refine (propext (and_iff_right rfl)).trans ?_
  refine (propext (and_iff_right (Nat.zero_le _))).trans ?_
  have hb := flat_len (f := portsOf) (n := 257) (xs := xs) fun x hx => portsOf_len (hs x hx)
  refine (flat_loop m_ports_of portsOf (fun x P h => e_portsof x h P) (fun x h => portsOf_len h) _ (some (.d (.lst xs))) (fun acc => m_ascending [.d (.lst acc)] () P noX) (fun acc o2 => rfl) xs [] none hs (by simp; omega)).trans ?_
  rw [List.nil_append, flat_names fun x hx => portsOf_name (hs x hx)]
  exact e_asc _ (by rw [List.length_map]; exact Nat.le_trans hb (by omega)) P
/-! Routine -/
theorem okW_mono : ∀ (n : Nat) (xs : List D) (d : Int) (lp : Bool), okW (n + 1) xs d lp = true → okW n xs d lp = true
  | 0, _, _, _, _ => rfl
  | n + 1, xs, d, lp, h => by
    have h' : (xs.all fun x => !isWrong x d lp && (blocksOf x).all fun b => okW (n + 1) (itemsOf b) (d + 1) (lp || decide (headW x = "repeat"))) = true := h
    show (xs.all fun x => !isWrong x d lp && (blocksOf x).all fun b => okW n (itemsOf b) (d + 1) (lp || decide (headW x = "repeat"))) = true
    rw [List.all_eq_true] at h' ⊢
    intro x hx
    have := h' x hx
    rw [Bool.and_eq_true, List.all_eq_true] at this ⊢
    exact ⟨this.1, fun b hb => okW_mono n _ _ _ (this.2 b hb)⟩
theorem sum_le {α : Type} {g h : α → Int} : ∀ {xs : List α}, (∀ x ∈ xs, g x ≤ h x) → (xs.map g).sum ≤ (xs.map h).sum
  | [], _ => by simp
  | x :: r, q => by
    have h1 := q x List.mem_cons_self
    have h2 := sum_le (xs := r) fun y hy => q y (List.mem_cons_of_mem _ hy)
    rw [List.map_cons, List.sum_cons, List.map_cons, List.sum_cons]
    omega
theorem cnt_mono : ∀ (n : Nat) (xs : List D), cntW n xs ≤ cntW (n + 1) xs
  | 0, xs => cnt_nonneg 1 xs
  | n + 1, xs => by
    show (xs.length : Int) + (xs.map fun x => ((blocksOf x).map fun b => cntW n (itemsOf b)).sum).sum ≤ xs.length + (xs.map fun x => ((blocksOf x).map fun b => cntW (n + 1) (itemsOf b)).sum).sum
    have := sum_le (g := fun x => ((blocksOf x).map fun b => cntW n (itemsOf b)).sum) (h := fun x => ((blocksOf x).map fun b => cntW (n + 1) (itemsOf b)).sum) (xs := xs) fun x _ => sum_le fun b _ => cnt_mono n (itemsOf b)
    omega
theorem lst_stmt : ∀ (n : Nat) (xs : List D) (p : List Int) (d : Int) (lp : Bool), okW n xs d lp = true → ∀ z ∈ lstW n xs p, isStmt z.2 = true
  | 0, _, _, _, _, _, z, hz => by cases hz
  | n + 1, xs, p, d, lp, hok, z, hz => by
    have go : ∀ (bs : List D) (q : List Int) (i : Int), (∀ b ∈ bs, ∃ d lp, okW n (itemsOf b) d lp = true) → ∀ z ∈ walkW (fun b q' => lstW n (itemsOf b) q') q i bs, isStmt z.2 = true := by
      intro bs q
      induction bs with
      | nil => intro i _ z hz; cases hz
      | cons b bs ih =>
        intro i h z hz
        unfold walkW at hz
        rcases List.mem_append.mp hz with e | e
        · obtain ⟨d', lp', h'⟩ := h b List.mem_cons_self
          exact lst_stmt n _ _ d' lp' h' z e
        · exact ih (i + 1) (fun b hb => h b (List.mem_cons_of_mem _ hb)) z e
    have go2 : ∀ (ys : List D) (i : Int), (∀ x ∈ ys, x ∈ xs) → ∀ z ∈ walkW (lstX (lstW n)) p i ys, isStmt z.2 = true := by
      intro ys
      induction ys with
      | nil => intro i _ z hz; cases hz
      | cons x ys ih =>
        intro i h z hz
        unfold walkW at hz
        rcases List.mem_append.mp hz with e | e
        · obtain ⟨hW, ho⟩ := ok_item hok x (h x List.mem_cons_self)
          rcases List.mem_cons.mp e with e | e
          · rw [e]; exact wrong_stmt hW
          · exact go (blocksOf x) _ 0 (fun b hb => ⟨_, _, ho b hb⟩) z e
        · exact ih (i + 1) (fun b hb => h b (List.mem_cons_of_mem _ hb)) z e
    rw [lstW_succ] at hz
    exact go2 xs 0 (fun _ h => h) z hz
/-- the statements of a top block, ascending by their paths -/
def stmtsOf (b : D) : List D := (lstW 14 (itemsOf b) []).map (·.2)
/-- the attributes of a Routine -/
def rtnN : List Str := ["block", "table", "name_list", "port_list"]
def rtnV (b : D) : List D := [b, .dT ((lstW 14 (itemsOf b) []).map fun z => kI z.1) (stmtsOf b), .lst (sortL (ddS [] (allNames (stmtsOf b)))), .lst (sortL (ddS [] (allPorts (stmtsOf b))))]
def rightB (b : D) : Prop := isBlk b = true ∧ okW 16 (itemsOf b) 1 false = true ∧ cntW 16 (itemsOf b) ≤ 6000
/-- what is raised: none, or what -/
def badR (b : D) : Option D := if isBlk b = false then some (.tup []) else match firstW 16 (itemsOf b) [] 1 false with
  | some p => some (pathD p)
  | none => if cntW 16 (itemsOf b) ≤ 6000 then none else some .non
theorem e_top (b : D) (hg : good b = true) (P : LV → Unit → Prop) (N : Nat → D → Unit → Prop) : m_check_top_block [.d b] () P N = (match badR b with | some y => N 1 y () | none => P (.d .non) ()) := by
  unfold m_check_top_block mkX u_check_top_block badR
  cases hk : isBlk b with
  | false =>
    simp only [wSeq, wSet, wOp, wUn, wVb, wV, wC, wRet, wRetV, wRetN, wIfS, wNx, wBrk, wCnt, wFor, wWalk, wEnum, wRng1, wRng2, wRev, walkD, gN, gT, gsC, gsN, wAnd, wOr, wNot, wCh, wTb, wTr, wtAnd, wtOr, wtNot, wClU, wCl, wClX, wClUX, wCons, wNil, wTup, wLst, wDk, wDt, wFld, wSl, woN, woS, wKw, wRaise, wNeg, wFrz, wApp, wExt, wDrop, wUnp, wIf, wYes, wDisp1, wSplit, wLvals, wOFld, wOGet, wMk, wMkX, wDSet, wDGet, wDIn, wScr, wMt, wMtX, startN, LEnv.at, tru, isT, isC, LV.dd, LV.fz, LV.seq, LV.lis, LV.tpl, Ty6.has, lenF, intF, listF, tupleF, anyF, sumF, eqF, sEq, isF, LV.isN, inF, ixF, ltI, leI, gtI, geI, ii0, iiF, subF, modF, mulF, mulF2, listF2, LV.dt, fdivF, addF, powF, slF, dsOf, D.sign, D.flat, List.map_cons, List.map_nil, List.length_cons, List.length_nil, List.cons_append, List.nil_append, List.append_nil, List.set_cons_zero, List.set_cons_succ, List.set_nil, Nat.sub_self, Nat.reduceSub, Nat.reduceAdd, List.replicate_succ, List.replicate_zero, Bool.false_eq_true, if_true, if_false, true_and, and_true, false_and, and_false, e_blk, hk]
    simp
  | true =>
    obtain ⟨xs, rfl, hgs⟩ := good_items hg hk
    have hf := firstW_ok 16 xs [] 1 false
    simp only [wSeq, wSet, wOp, wUn, wVb, wV, wC, wRet, wRetV, wRetN, wIfS, wNx, wBrk, wCnt, wFor, wWalk, wEnum, wRng1, wRng2, wRev, walkD, gN, gT, gsC, gsN, wAnd, wOr, wNot, wCh, wTb, wTr, wtAnd, wtOr, wtNot, wClU, wCl, wClX, wClUX, wCons, wNil, wTup, wLst, wDk, wDt, wFld, wSl, woN, woS, wKw, wRaise, wNeg, wFrz, wApp, wExt, wDrop, wUnp, wIf, wYes, wDisp1, wSplit, wLvals, wOFld, wOGet, wMk, wMkX, wDSet, wDGet, wDIn, wScr, wMt, wMtX, startN, LEnv.at, tru, isT, isC, LV.dd, LV.fz, LV.seq, LV.lis, LV.tpl, Ty6.has, lenF, intF, listF, tupleF, anyF, sumF, eqF, sEq, isF, LV.isN, inF, ixF, ltI, leI, gtI, geI, ii0, iiF, subF, modF, mulF, mulF2, listF2, LV.dt, fdivF, addF, powF, slF, dsOf, D.sign, D.flat, List.map_cons, List.map_nil, List.length_cons, List.length_nil, List.cons_append, List.nil_append, List.append_nil, List.set_cons_zero, List.set_cons_succ, List.set_nil, Nat.sub_self, Nat.reduceSub, Nat.reduceAdd, List.replicate_succ, List.replicate_zero, Bool.false_eq_true, if_true, if_false, true_and, and_true, false_and, and_false, e_blk, hk, e_first 15 xs (.tupK []) [] 1 false _ hgs (.inr ⟨rfl, rfl⟩) (by decide) (by decide) (by decide), itemsOf]
    cases hfw : firstW 16 xs [] 1 false with
    | some p => simp [pathO, pathD, wSeq, wSet, wOp, wUn, wVb, wV, wC, wRet, wRetV, wRetN, wIfS, wNx, wBrk, wCnt, wFor, wWalk, wEnum, wRng1, wRng2, wRev, walkD, gN, gT, gsC, gsN, wAnd, wOr, wNot, wCh, wTb, wTr, wtAnd, wtOr, wtNot, wClU, wCl, wClX, wClUX, wCons, wNil, wTup, wLst, wDk, wDt, wFld, wSl, woN, woS, wKw, wRaise, wNeg, wFrz, wApp, wExt, wDrop, wUnp, wIf, wYes, wDisp1, wSplit, wLvals, wOFld, wOGet, wMk, wMkX, wDSet, wDGet, wDIn, wScr, wMt, wMtX, startN, LEnv.at, tru, isT, isC, LV.dd, LV.fz, LV.seq, LV.lis, LV.tpl, Ty6.has, lenF, intF, listF, tupleF, anyF, sumF, eqF, sEq, isF, LV.isN, inF, ixF, ltI, leI, gtI, geI, ii0, iiF, subF, modF, mulF, mulF2, listF2, LV.dt, fdivF, addF, powF, slF, dsOf, D.sign, D.flat, List.map_cons, List.map_nil, List.length_cons, List.length_nil, List.cons_append, List.nil_append, List.append_nil, List.set_cons_zero, List.set_cons_succ, List.set_nil, Nat.sub_self, Nat.reduceSub, Nat.reduceAdd, List.replicate_succ, List.replicate_zero, Bool.false_eq_true, if_true, if_false, true_and, and_true, false_and, and_false]
    | none =>
      have hok := hf.mp hfw
      simp only [pathO, wSeq, wSet, wOp, wUn, wVb, wV, wC, wRet, wRetV, wRetN, wIfS, wNx, wBrk, wCnt, wFor, wWalk, wEnum, wRng1, wRng2, wRev, walkD, gN, gT, gsC, gsN, wAnd, wOr, wNot, wCh, wTb, wTr, wtAnd, wtOr, wtNot, wClU, wCl, wClX, wClUX, wCons, wNil, wTup, wLst, wDk, wDt, wFld, wSl, woN, woS, wKw, wRaise, wNeg, wFrz, wApp, wExt, wDrop, wUnp, wIf, wYes, wDisp1, wSplit, wLvals, wOFld, wOGet, wMk, wMkX, wDSet, wDGet, wDIn, wScr, wMt, wMtX, startN, LEnv.at, tru, isT, isC, LV.dd, LV.fz, LV.seq, LV.lis, LV.tpl, Ty6.has, lenF, intF, listF, tupleF, anyF, sumF, eqF, sEq, isF, LV.isN, inF, ixF, ltI, leI, gtI, geI, ii0, iiF, subF, modF, mulF, mulF2, listF2, LV.dt, fdivF, addF, powF, slF, dsOf, D.sign, D.flat, List.map_cons, List.map_nil, List.length_cons, List.length_nil, List.cons_append, List.nil_append, List.append_nil, List.set_cons_zero, List.set_cons_succ, List.set_nil, Nat.sub_self, Nat.reduceSub, Nat.reduceAdd, List.replicate_succ, List.replicate_zero, Bool.false_eq_true, if_true, if_false, true_and, and_true, false_and, and_false, e_count 15 xs 1 false _ hgs hok (by decide)]
      by_cases hc : cntW 16 xs ≤ 6000
      · have : ¬ (6000 < cntW 16 xs) := by omega
        simp [hc, this]
      · have : 6000 < cntW 16 xs := by omega
        simp [hc, this]
theorem putN1 : putN ("block" : Str) [] = [("block" : Str)] := rfl
theorem putN2 : putN ("table" : Str) [("block" : Str)] = [("block" : Str), ("table" : Str)] := by decide +kernel
theorem putN3 : putN ("name_list" : Str) [("block" : Str), ("table" : Str)] = [("block" : Str), ("table" : Str), ("name_list" : Str)] := by decide +kernel
theorem putN4 : putN ("port_list" : Str) [("block" : Str), ("table" : Str), ("name_list" : Str)] = [("block" : Str), ("table" : Str), ("name_list" : Str), ("port_list" : Str)] := by decide +kernel
theorem putV1 (z : D) : putV ("block" : Str) z [] [] = [z] := rfl
theorem putV_ne {f g : Str} {r : List Str} {x y : D} {xs : List D} (h : g ≠ f) : putV f y (g :: r) (x :: xs) = x :: putV f y r xs := if_neg h
theorem putV2 (a z : D) : putV ("table" : Str) z [("block" : Str)] [a] = [a, z] := by rw [putV_ne (by decide +kernel)]; rfl
theorem putV3 (a b z : D) : putV ("name_list" : Str) z [("block" : Str), ("table" : Str)] [a, b] = [a, b, z] := by rw [putV_ne (by decide +kernel), putV_ne (by decide +kernel)]; rfl
theorem putV4 (a b c z : D) : putV ("port_list" : Str) z [("block" : Str), ("table" : Str), ("name_list" : Str)] [a, b, c] = [a, b, c, z] := by rw [putV_ne (by decide +kernel), putV_ne (by decide +kernel), putV_ne (by decide +kernel)]; rfl
theorem lkp_ne {f g : Str} {r : List Str} {x : D} {xs : List D} (h : g ≠ f) : lkp (g :: r) (x :: xs) f = lkp r xs f := if_neg h
theorem lkp_eq {f : Str} {r : List Str} {x : D} {xs : List D} : lkp (f :: r) (x :: xs) f = some x := if_pos rfl
theorem lkpT2 (a b : D) : lkp [("block" : Str), ("table" : Str)] [a, b] ("table" : Str) = some b := by rw [lkp_ne (by decide +kernel), lkp_eq]
theorem lkpT3 (a b c : D) : lkp [("block" : Str), ("table" : Str), ("name_list" : Str)] [a, b, c] ("table" : Str) = some b := by rw [lkp_ne (by decide +kernel), lkp_eq]
theorem rtn_ok (b : D) (hg : good b = true) (hr : rightB b) (P : List Str → List D → Prop) (N : Nat → D → Prop) (h : P rtnN (rtnV b)) : m_init_Routine [.d b] P N := by
  obtain ⟨hk, hok, hc⟩ := hr
  have hgb := hg
  obtain ⟨xs, rfl, hgs⟩ := good_items hg hk
  have hc' : cntW 16 xs ≤ 6000 := hc
  have hbad : badR (.tup xs) = none := by
    unfold badR
    rw [if_neg (by rw [hk]; decide)]
    show (match firstW 16 xs [] 1 false with | some p => some (pathD p) | none => if cntW 16 xs ≤ 6000 then none else some .non) = none
    rw [(firstW_ok 16 xs [] 1 false).mpr hok]
    exact if_pos hc'
  have hok14 : okW 14 xs 1 false = true := okW_mono 14 _ _ _ (okW_mono 15 _ _ _ hok)
  have hc14 : cntW 14 xs ≤ 6000 := Int.le_trans (cnt_mono 14 xs) (Int.le_trans (cnt_mono 15 xs) hc')
  have hst : ∀ x ∈ stmtsOf (.tup xs), isStmt x = true := fun x hx => by
    obtain ⟨z, hz, rfl⟩ := List.mem_map.mp hx
    exact lst_stmt 14 xs [] 1 false hok14 z hz
  have hlen : (stmtsOf (.tup xs)).length ≤ 6000 := by
    show ((lstW 14 xs []).map (·.2)).length ≤ 6000
    rw [List.length_map]
    exact Int.ofNat_le.mp (by rw [lst_len]; exact hc14)
  refine ⟨rfl, fun x => ?_⟩
  unfold u_init_Routine
  simp only [wSeq, wDrop, wClUX, wClU, wCons, wNil, wV, LEnv.at, startN, LV.fz, List.append_nil, List.map_cons, List.map_nil, List.length_cons, List.length_nil, Nat.reduceAdd, Nat.reduceSub, List.replicate_zero, List.cons_append, List.nil_append]
  rw [e_top _ hgb, hbad]
  simp only [wSeq, wDrop, wClUX, wClU, wCons, wNil, wV, LEnv.at, startN, LV.fz, List.append_nil, List.map_cons, List.map_nil, List.length_cons, List.length_nil, Nat.reduceAdd, Nat.reduceSub, List.replicate_zero, List.cons_append, List.nil_append, wOFld, wLvals, wOGet, List.set_cons_zero, List.set_cons_succ, putN1, putN2, putN3, putN4, putV1, putV2, putV3, putV4, lkpT2, lkpT3, LV.dt, LEnv.at, LV.fz]
  refine ⟨by decide, ?_⟩
  rw [e_table xs _ hgs hok14 hc14]
  simp only [wOFld, wLvals, wOGet, List.set_cons_zero, List.set_cons_succ, putN1, putN2, putN3, putN4, putV1, putV2, putV3, putV4, lkpT2, lkpT3, LV.dt, LEnv.at, LV.fz]
  refine ⟨by decide, ?_⟩
  refine cast (e_blocknames (stmtsOf (.tup xs)) hst hlen _).symm ?_
  simp only [wOFld, wLvals, wOGet, List.set_cons_zero, List.set_cons_succ, putN1, putN2, putN3, putN4, putV1, putV2, putV3, putV4, lkpT2, lkpT3, LV.dt, LEnv.at, LV.fz]
  refine ⟨by decide, ?_⟩
  refine cast (e_blockports (stmtsOf (.tup xs)) hst hlen _).symm ?_
  simp only [wOFld, wLvals, wOGet, List.set_cons_zero, List.set_cons_succ, putN1, putN2, putN3, putN4, putV1, putV2, putV3, putV4, lkpT2, lkpT3, LV.dt, LEnv.at, LV.fz]
  refine ⟨by decide, ?_⟩
  exact ⟨_, _, rfl, h⟩
theorem rtn_bad (b : D) (hg : good b = true) (y : D) (hb : badR b = some y) (P : List Str → List D → Prop) (N : Nat → D → Prop) (h : N 1 y) : m_init_Routine [.d b] P N := by
  refine ⟨rfl, fun x => ?_⟩
  unfold u_init_Routine
  simp only [wSeq, wDrop, wClUX, wClU, wCons, wNil, wV, LEnv.at, startN, LV.fz, List.append_nil, List.map_cons, List.map_nil, List.length_cons, List.length_nil, Nat.reduceAdd, Nat.reduceSub, List.replicate_zero, List.cons_append, List.nil_append]
  rw [e_top _ hg, hb]
  exact h
end LW
namespace LW
open PySem PySem.Spec PyProof.Rows L2 DL
/-! what is alike, and what is asked of a block -/
def pureN : Nat → D → Bool
  | 0, _ => false
  | n + 1, x => match x with
    | .int _ => true
    | .str _ => true
    | .non => true
    | .tup xs => decide (xs.length ≤ 1000) && xs.all (pureN n)
    | _ => false
theorem pure_tup {n : Nat} {xs : List D} (hl : xs.length ≤ 1000) (h : ∀ y ∈ xs, pureN n y = true) : pureN (n + 1) (.tup xs) = true := by
  show (decide (xs.length ≤ 1000) && xs.all (pureN n)) = true
  rw [Bool.and_eq_true, List.all_eq_true]
  exact ⟨decide_eq_true hl, h⟩
theorem pure_inv {n : Nat} {xs : List D} (h : pureN (n + 1) (.tup xs) = true) : xs.length ≤ 1000 ∧ ∀ y ∈ xs, pureN n y = true := by
  have h' : (decide (xs.length ≤ 1000) && xs.all (pureN n)) = true := h
  rw [Bool.and_eq_true, List.all_eq_true] at h'
  exact ⟨of_decide_eq_true h'.1, h'.2⟩
theorem pure_succ : ∀ (n : Nat) (x : D), pureN n x = true → pureN (n + 1) x = true
  | 0, x, h => by cases h
  | n + 1, x, h => by
    cases x with
    | tup xs =>
      obtain ⟨h1, h2⟩ := pure_inv h
      exact pure_tup h1 fun y hy => pure_succ n y (h2 y hy)
    | int i => rfl
    | str z => rfl
    | non => rfl
    | _ => cases h
theorem pure_le {n m : Nat} {x : D} (h : n ≤ m) (hp : pureN n x = true) : pureN m x = true := by
  induction h with
  | refl => exact hp
  | step _ ih => exact pure_succ _ _ ih
theorem pure_name {x : D} (n : Nat) (h : isName x = true) : pureN (n + 1) x = true := by
  obtain ⟨z, rfl⟩ := name_str h
  rfl
theorem pure_expr : ∀ (n : Nat) (x : D) (r : Int), isExpr n x r = true → pureN (n + 1) x = true
  | 0, x, r, h => by cases h
  | n + 1, x, r, h => by
    rcases expr_inv h with hd | ⟨k, rest, rfl, ⟨rfl, y, rfl, hy⟩ | ⟨hk, h1, h2, hr⟩⟩
    · obtain ⟨i, rfl, _⟩ := dig_int hd
      rfl
    · refine pure_tup (by simp) fun z hz => ?_
      rcases List.mem_cons.mp hz with e | e
      · rw [e]; rfl
      · rw [List.mem_singleton.mp e]; exact pure_name n hy
    · refine pure_tup (by simp; omega) fun z hz => ?_
      rcases List.mem_cons.mp hz with e | e
      · rw [e]; rfl
      · exact pure_expr n z _ (hr z e)
theorem pure_stmt {m : Nat} (hm : 9 ≤ m) {x : D} (hs : isStmt x = true) (hb : ∀ b ∈ blocksOf x, pureN m b = true) : pureN (m + 3) x = true := by
  have S : ∀ z, pureN (m + 2) (.str z) = true := fun z => rfl
  have N : ∀ {y}, isName y = true → pureN (m + 2) y = true := fun h => pure_name (m + 1) h
  have E : ∀ {y}, isExpr 8 y 5 = true → pureN (m + 2) y = true := fun h => pure_le (by omega) (pure_expr 8 _ _ h)
  have B : ∀ {b}, b ∈ blocksOf x → pureN (m + 2) b = true := fun h => pure_le (by omega) (hb _ h)
  have P2 : ∀ {a b : D}, pureN (m + 2) a = true → pureN (m + 2) b = true → pureN (m + 3) (.tup [a, b]) = true := fun h1 h2 => pure_tup (by simp) fun y hy => by
    rcases List.mem_cons.mp hy with e | e
    · rw [e]; exact h1
    · rw [List.mem_singleton.mp e]; exact h2
  have P3 : ∀ {a b c : D}, pureN (m + 2) a = true → pureN (m + 2) b = true → pureN (m + 2) c = true → pureN (m + 3) (.tup [a, b, c]) = true := fun h1 h2 h3 => pure_tup (by simp) fun y hy => by
    rcases List.mem_cons.mp hy with e | e
    · rw [e]; exact h1
    · rcases List.mem_cons.mp e with e | e
      · rw [e]; exact h2
      · rw [List.mem_singleton.mp e]; exact h3
  cases stm_of hs with
  | set h1 h2 => exact P3 (S _) (N h1) (E h2)
  | tell h1 h2 => exact P3 (S _) (N h1) (E h2)
  | hear h1 h2 => exact P3 (S _) (N h1) (N h2)
  | leave => exact pure_tup (by simp) fun y hy => by rw [List.mem_singleton.mp hy]; rfl
  | home => exact pure_tup (by simp) fun y hy => by rw [List.mem_singleton.mp hy]; rfl
  | fail => exact pure_tup (by simp) fun y hy => by rw [List.mem_singleton.mp hy]; rfl
  | @cond e b c h1 h2 h3 =>
    have hbo : blocksOf (.tup [.str "if", e, b, c]) = [b, c] := by simp [blocksOf, wne]
    refine pure_tup (by simp) fun y hy => ?_
    rcases List.mem_cons.mp hy with q | q
    · rw [q]; rfl
    · rcases List.mem_cons.mp q with q | q
      · rw [q]; exact E h1
      · exact B (by rw [hbo]; exact q)
  | @wait rs h1 h2 h3 =>
    have hbo : blocksOf (.tup [.str "wait", .tup rs]) = rs.map third := by simp [blocksOf, itemsOf]
    refine P2 (S _) (pure_tup (by omega) fun r hr => ?_)
    obtain ⟨p, a, b, rfl, hp, ha, _⟩ := rows_names h3 r hr
    refine pure_tup (by simp) fun y hy => ?_
    obtain ⟨m', rfl⟩ : ∃ m', m = m' + 1 := ⟨m - 1, by omega⟩
    rcases List.mem_cons.mp hy with q | q
    · rw [q]; exact pure_name m' hp
    · rcases List.mem_cons.mp q with q | q
      · rw [q]; exact pure_name m' ha
      · rw [List.mem_singleton.mp q]
        exact hb b (by rw [hbo]; exact List.mem_map.mpr ⟨_, hr, rfl⟩)
  | @opn bs h1 h2 h3 =>
    have hbo : blocksOf (.tup [.str "open", .tup bs]) = bs := by simp [blocksOf, itemsOf, wne]
    exact P2 (S _) (pure_tup (by omega) fun b hbm => pure_succ _ _ (hb b (by rw [hbo]; exact hbm)))
  | @rep b h1 =>
    have hbo : blocksOf (.tup [.str "repeat", b]) = [b] := by simp [blocksOf, wne]
    exact P2 (S _) (B (by rw [hbo]; exact List.mem_singleton.mpr rfl))
theorem blk_len {ys : List D} (h : isBlk (.tup ys) = true) : ys.length ≤ 12 := by
  have h' : decide ((ys.length : Int) ≤ 12) = true := h
  have := of_decide_eq_true h'
  omega
theorem ok_pure : ∀ (n : Nat) (xs : List D) (d : Int) (lp : Bool), goods xs = true → okW (n + 1) xs d lp = true → 12 ≤ d + n → ∀ x ∈ xs, pureN (4 * n + 13) x = true := by
  intro n
  induction n with
  | zero =>
    intro xs d lp hg hok hn x hx
    obtain ⟨hW, _⟩ := ok_item hok x hx
    exact pure_stmt (m := 10) (by decide) (wrong_stmt hW) fun b hb => absurd (deep_lt hW b hb) (by omega)
  | succ n ih =>
    intro xs d lp hg hok hn x hx
    obtain ⟨hW, ho⟩ := ok_item hok x hx
    refine pure_stmt (m := 4 * n + 14) (by omega) (wrong_stmt hW) fun b hb => ?_
    have hbk := (blocks_good (goods_mem hg x hx) (wrong_stmt hW) b hb).2
    obtain ⟨ys, rfl, hg', hd⟩ := ok_block (goods_mem hg x hx) hW b hb
    exact pure_tup (Nat.le_trans (blk_len hbk) (by decide)) (ih ys (d + 1) _ hg' (ho _ hb) (by omega))
theorem foldE_go {σ : Type} : ∀ (xs : List D) (j : Nat) (a : σ), foldE (fun _ _ a => Go.go a) j xs a = .go a
  | [], _, _ => rfl
  | x :: r, j, a => by rw [foldE_cons]; exact foldE_go r (j + 1) a
theorem e_alike : ∀ (n : Nat) (x : D) (P : LV → Unit → Prop), pureN n x = true → m__law_alike n [.d x, .d x] () P noX = P (.d (.bl true)) ()
  | 0, x, P, h => by cases h
  | n + 1, x, P, h => by
    refine (propext (and_iff_right rfl)).trans ?_
    unfold u__law_alike
    cases x with
    | non =>
      rw [seq_yes fun P N => by simp [wSeq, wSet, wOp, wUn, wVb, wV, wC, wRet, wRetV, wRetN, wIfS, wNx, wBrk, wCnt, wFor, wWalk, wEnum, wRng1, wRng2, wRev, walkD, gN, gT, gsC, gsN, wAnd, wOr, wNot, wCh, wTb, wTr, wtAnd, wtOr, wtNot, wClU, wCl, wClX, wClUX, wCons, wNil, wTup, wLst, wDk, wDt, wFld, wSl, woN, woS, wKw, wRaise, wNeg, wFrz, wApp, wExt, wDrop, wUnp, wIf, wYes, wDisp1, wSplit, wLvals, wOFld, wOGet, wMk, wMkX, wDSet, wDGet, wDIn, wScr, wMt, wMtX, startN, LEnv.at, tru, isT, isC, LV.dd, LV.fz, LV.seq, LV.lis, LV.tpl, Ty6.has, lenF, intF, listF, tupleF, anyF, sumF, eqF, sEq, isF, LV.isN, inF, ixF, ltI, leI, gtI, geI, ii0, iiF, subF, modF, mulF, mulF2, listF2, LV.dt, fdivF, addF, powF, slF, dsOf, D.sign, D.flat, List.map_cons, List.map_nil, List.length_cons, List.length_nil, List.cons_append, List.nil_append, List.append_nil, List.set_cons_zero, List.set_cons_succ, List.set_nil, Nat.sub_self, Nat.reduceSub, Nat.reduceAdd, List.replicate_succ, List.replicate_zero, Bool.false_eq_true, if_true, if_false, true_and, and_true, false_and, and_false]]
      simp [wSeq, wSet, wOp, wUn, wVb, wV, wC, wRet, wRetV, wRetN, wIfS, wNx, wBrk, wCnt, wFor, wWalk, wEnum, wRng1, wRng2, wRev, walkD, gN, gT, gsC, gsN, wAnd, wOr, wNot, wCh, wTb, wTr, wtAnd, wtOr, wtNot, wClU, wCl, wClX, wClUX, wCons, wNil, wTup, wLst, wDk, wDt, wFld, wSl, woN, woS, wKw, wRaise, wNeg, wFrz, wApp, wExt, wDrop, wUnp, wIf, wYes, wDisp1, wSplit, wLvals, wOFld, wOGet, wMk, wMkX, wDSet, wDGet, wDIn, wScr, wMt, wMtX, startN, LEnv.at, tru, isT, isC, LV.dd, LV.fz, LV.seq, LV.lis, LV.tpl, Ty6.has, lenF, intF, listF, tupleF, anyF, sumF, eqF, sEq, isF, LV.isN, inF, ixF, ltI, leI, gtI, geI, ii0, iiF, subF, modF, mulF, mulF2, listF2, LV.dt, fdivF, addF, powF, slF, dsOf, D.sign, D.flat, List.map_cons, List.map_nil, List.length_cons, List.length_nil, List.cons_append, List.nil_append, List.append_nil, List.set_cons_zero, List.set_cons_succ, List.set_nil, Nat.sub_self, Nat.reduceSub, Nat.reduceAdd, List.replicate_succ, List.replicate_zero, Bool.false_eq_true, if_true, if_false, true_and, and_true, false_and, and_false]
    | int i =>
      rw [seq_no fun P N => by simp [wSeq, wSet, wOp, wUn, wVb, wV, wC, wRet, wRetV, wRetN, wIfS, wNx, wBrk, wCnt, wFor, wWalk, wEnum, wRng1, wRng2, wRev, walkD, gN, gT, gsC, gsN, wAnd, wOr, wNot, wCh, wTb, wTr, wtAnd, wtOr, wtNot, wClU, wCl, wClX, wClUX, wCons, wNil, wTup, wLst, wDk, wDt, wFld, wSl, woN, woS, wKw, wRaise, wNeg, wFrz, wApp, wExt, wDrop, wUnp, wIf, wYes, wDisp1, wSplit, wLvals, wOFld, wOGet, wMk, wMkX, wDSet, wDGet, wDIn, wScr, wMt, wMtX, startN, LEnv.at, tru, isT, isC, LV.dd, LV.fz, LV.seq, LV.lis, LV.tpl, Ty6.has, lenF, intF, listF, tupleF, anyF, sumF, eqF, sEq, isF, LV.isN, inF, ixF, ltI, leI, gtI, geI, ii0, iiF, subF, modF, mulF, mulF2, listF2, LV.dt, fdivF, addF, powF, slF, dsOf, D.sign, D.flat, List.map_cons, List.map_nil, List.length_cons, List.length_nil, List.cons_append, List.nil_append, List.append_nil, List.set_cons_zero, List.set_cons_succ, List.set_nil, Nat.sub_self, Nat.reduceSub, Nat.reduceAdd, List.replicate_succ, List.replicate_zero, Bool.false_eq_true, if_true, if_false, true_and, and_true, false_and, and_false], seq_no fun P N => by simp [wSeq, wSet, wOp, wUn, wVb, wV, wC, wRet, wRetV, wRetN, wIfS, wNx, wBrk, wCnt, wFor, wWalk, wEnum, wRng1, wRng2, wRev, walkD, gN, gT, gsC, gsN, wAnd, wOr, wNot, wCh, wTb, wTr, wtAnd, wtOr, wtNot, wClU, wCl, wClX, wClUX, wCons, wNil, wTup, wLst, wDk, wDt, wFld, wSl, woN, woS, wKw, wRaise, wNeg, wFrz, wApp, wExt, wDrop, wUnp, wIf, wYes, wDisp1, wSplit, wLvals, wOFld, wOGet, wMk, wMkX, wDSet, wDGet, wDIn, wScr, wMt, wMtX, startN, LEnv.at, tru, isT, isC, LV.dd, LV.fz, LV.seq, LV.lis, LV.tpl, Ty6.has, lenF, intF, listF, tupleF, anyF, sumF, eqF, sEq, isF, LV.isN, inF, ixF, ltI, leI, gtI, geI, ii0, iiF, subF, modF, mulF, mulF2, listF2, LV.dt, fdivF, addF, powF, slF, dsOf, D.sign, D.flat, List.map_cons, List.map_nil, List.length_cons, List.length_nil, List.cons_append, List.nil_append, List.append_nil, List.set_cons_zero, List.set_cons_succ, List.set_nil, Nat.sub_self, Nat.reduceSub, Nat.reduceAdd, List.replicate_succ, List.replicate_zero, Bool.false_eq_true, if_true, if_false, true_and, and_true, false_and, and_false], seq_yes fun P N => by simp [wSeq, wSet, wOp, wUn, wVb, wV, wC, wRet, wRetV, wRetN, wIfS, wNx, wBrk, wCnt, wFor, wWalk, wEnum, wRng1, wRng2, wRev, walkD, gN, gT, gsC, gsN, wAnd, wOr, wNot, wCh, wTb, wTr, wtAnd, wtOr, wtNot, wClU, wCl, wClX, wClUX, wCons, wNil, wTup, wLst, wDk, wDt, wFld, wSl, woN, woS, wKw, wRaise, wNeg, wFrz, wApp, wExt, wDrop, wUnp, wIf, wYes, wDisp1, wSplit, wLvals, wOFld, wOGet, wMk, wMkX, wDSet, wDGet, wDIn, wScr, wMt, wMtX, startN, LEnv.at, tru, isT, isC, LV.dd, LV.fz, LV.seq, LV.lis, LV.tpl, Ty6.has, lenF, intF, listF, tupleF, anyF, sumF, eqF, sEq, isF, LV.isN, inF, ixF, ltI, leI, gtI, geI, ii0, iiF, subF, modF, mulF, mulF2, listF2, LV.dt, fdivF, addF, powF, slF, dsOf, D.sign, D.flat, List.map_cons, List.map_nil, List.length_cons, List.length_nil, List.cons_append, List.nil_append, List.append_nil, List.set_cons_zero, List.set_cons_succ, List.set_nil, Nat.sub_self, Nat.reduceSub, Nat.reduceAdd, List.replicate_succ, List.replicate_zero, Bool.false_eq_true, if_true, if_false, true_and, and_true, false_and, and_false]]
      simp [wSeq, wSet, wOp, wUn, wVb, wV, wC, wRet, wRetV, wRetN, wIfS, wNx, wBrk, wCnt, wFor, wWalk, wEnum, wRng1, wRng2, wRev, walkD, gN, gT, gsC, gsN, wAnd, wOr, wNot, wCh, wTb, wTr, wtAnd, wtOr, wtNot, wClU, wCl, wClX, wClUX, wCons, wNil, wTup, wLst, wDk, wDt, wFld, wSl, woN, woS, wKw, wRaise, wNeg, wFrz, wApp, wExt, wDrop, wUnp, wIf, wYes, wDisp1, wSplit, wLvals, wOFld, wOGet, wMk, wMkX, wDSet, wDGet, wDIn, wScr, wMt, wMtX, startN, LEnv.at, tru, isT, isC, LV.dd, LV.fz, LV.seq, LV.lis, LV.tpl, Ty6.has, lenF, intF, listF, tupleF, anyF, sumF, eqF, sEq, isF, LV.isN, inF, ixF, ltI, leI, gtI, geI, ii0, iiF, subF, modF, mulF, mulF2, listF2, LV.dt, fdivF, addF, powF, slF, dsOf, D.sign, D.flat, List.map_cons, List.map_nil, List.length_cons, List.length_nil, List.cons_append, List.nil_append, List.append_nil, List.set_cons_zero, List.set_cons_succ, List.set_nil, Nat.sub_self, Nat.reduceSub, Nat.reduceAdd, List.replicate_succ, List.replicate_zero, Bool.false_eq_true, if_true, if_false, true_and, and_true, false_and, and_false]
    | str z =>
      rw [seq_no fun P N => by simp [wSeq, wSet, wOp, wUn, wVb, wV, wC, wRet, wRetV, wRetN, wIfS, wNx, wBrk, wCnt, wFor, wWalk, wEnum, wRng1, wRng2, wRev, walkD, gN, gT, gsC, gsN, wAnd, wOr, wNot, wCh, wTb, wTr, wtAnd, wtOr, wtNot, wClU, wCl, wClX, wClUX, wCons, wNil, wTup, wLst, wDk, wDt, wFld, wSl, woN, woS, wKw, wRaise, wNeg, wFrz, wApp, wExt, wDrop, wUnp, wIf, wYes, wDisp1, wSplit, wLvals, wOFld, wOGet, wMk, wMkX, wDSet, wDGet, wDIn, wScr, wMt, wMtX, startN, LEnv.at, tru, isT, isC, LV.dd, LV.fz, LV.seq, LV.lis, LV.tpl, Ty6.has, lenF, intF, listF, tupleF, anyF, sumF, eqF, sEq, isF, LV.isN, inF, ixF, ltI, leI, gtI, geI, ii0, iiF, subF, modF, mulF, mulF2, listF2, LV.dt, fdivF, addF, powF, slF, dsOf, D.sign, D.flat, List.map_cons, List.map_nil, List.length_cons, List.length_nil, List.cons_append, List.nil_append, List.append_nil, List.set_cons_zero, List.set_cons_succ, List.set_nil, Nat.sub_self, Nat.reduceSub, Nat.reduceAdd, List.replicate_succ, List.replicate_zero, Bool.false_eq_true, if_true, if_false, true_and, and_true, false_and, and_false], seq_no fun P N => by simp [wSeq, wSet, wOp, wUn, wVb, wV, wC, wRet, wRetV, wRetN, wIfS, wNx, wBrk, wCnt, wFor, wWalk, wEnum, wRng1, wRng2, wRev, walkD, gN, gT, gsC, gsN, wAnd, wOr, wNot, wCh, wTb, wTr, wtAnd, wtOr, wtNot, wClU, wCl, wClX, wClUX, wCons, wNil, wTup, wLst, wDk, wDt, wFld, wSl, woN, woS, wKw, wRaise, wNeg, wFrz, wApp, wExt, wDrop, wUnp, wIf, wYes, wDisp1, wSplit, wLvals, wOFld, wOGet, wMk, wMkX, wDSet, wDGet, wDIn, wScr, wMt, wMtX, startN, LEnv.at, tru, isT, isC, LV.dd, LV.fz, LV.seq, LV.lis, LV.tpl, Ty6.has, lenF, intF, listF, tupleF, anyF, sumF, eqF, sEq, isF, LV.isN, inF, ixF, ltI, leI, gtI, geI, ii0, iiF, subF, modF, mulF, mulF2, listF2, LV.dt, fdivF, addF, powF, slF, dsOf, D.sign, D.flat, List.map_cons, List.map_nil, List.length_cons, List.length_nil, List.cons_append, List.nil_append, List.append_nil, List.set_cons_zero, List.set_cons_succ, List.set_nil, Nat.sub_self, Nat.reduceSub, Nat.reduceAdd, List.replicate_succ, List.replicate_zero, Bool.false_eq_true, if_true, if_false, true_and, and_true, false_and, and_false], seq_no fun P N => by simp [wSeq, wSet, wOp, wUn, wVb, wV, wC, wRet, wRetV, wRetN, wIfS, wNx, wBrk, wCnt, wFor, wWalk, wEnum, wRng1, wRng2, wRev, walkD, gN, gT, gsC, gsN, wAnd, wOr, wNot, wCh, wTb, wTr, wtAnd, wtOr, wtNot, wClU, wCl, wClX, wClUX, wCons, wNil, wTup, wLst, wDk, wDt, wFld, wSl, woN, woS, wKw, wRaise, wNeg, wFrz, wApp, wExt, wDrop, wUnp, wIf, wYes, wDisp1, wSplit, wLvals, wOFld, wOGet, wMk, wMkX, wDSet, wDGet, wDIn, wScr, wMt, wMtX, startN, LEnv.at, tru, isT, isC, LV.dd, LV.fz, LV.seq, LV.lis, LV.tpl, Ty6.has, lenF, intF, listF, tupleF, anyF, sumF, eqF, sEq, isF, LV.isN, inF, ixF, ltI, leI, gtI, geI, ii0, iiF, subF, modF, mulF, mulF2, listF2, LV.dt, fdivF, addF, powF, slF, dsOf, D.sign, D.flat, List.map_cons, List.map_nil, List.length_cons, List.length_nil, List.cons_append, List.nil_append, List.append_nil, List.set_cons_zero, List.set_cons_succ, List.set_nil, Nat.sub_self, Nat.reduceSub, Nat.reduceAdd, List.replicate_succ, List.replicate_zero, Bool.false_eq_true, if_true, if_false, true_and, and_true, false_and, and_false], seq_yes fun P N => by simp [wSeq, wSet, wOp, wUn, wVb, wV, wC, wRet, wRetV, wRetN, wIfS, wNx, wBrk, wCnt, wFor, wWalk, wEnum, wRng1, wRng2, wRev, walkD, gN, gT, gsC, gsN, wAnd, wOr, wNot, wCh, wTb, wTr, wtAnd, wtOr, wtNot, wClU, wCl, wClX, wClUX, wCons, wNil, wTup, wLst, wDk, wDt, wFld, wSl, woN, woS, wKw, wRaise, wNeg, wFrz, wApp, wExt, wDrop, wUnp, wIf, wYes, wDisp1, wSplit, wLvals, wOFld, wOGet, wMk, wMkX, wDSet, wDGet, wDIn, wScr, wMt, wMtX, startN, LEnv.at, tru, isT, isC, LV.dd, LV.fz, LV.seq, LV.lis, LV.tpl, Ty6.has, lenF, intF, listF, tupleF, anyF, sumF, eqF, sEq, isF, LV.isN, inF, ixF, ltI, leI, gtI, geI, ii0, iiF, subF, modF, mulF, mulF2, listF2, LV.dt, fdivF, addF, powF, slF, dsOf, D.sign, D.flat, List.map_cons, List.map_nil, List.length_cons, List.length_nil, List.cons_append, List.nil_append, List.append_nil, List.set_cons_zero, List.set_cons_succ, List.set_nil, Nat.sub_self, Nat.reduceSub, Nat.reduceAdd, List.replicate_succ, List.replicate_zero, Bool.false_eq_true, if_true, if_false, true_and, and_true, false_and, and_false]]
      simp [wSeq, wSet, wOp, wUn, wVb, wV, wC, wRet, wRetV, wRetN, wIfS, wNx, wBrk, wCnt, wFor, wWalk, wEnum, wRng1, wRng2, wRev, walkD, gN, gT, gsC, gsN, wAnd, wOr, wNot, wCh, wTb, wTr, wtAnd, wtOr, wtNot, wClU, wCl, wClX, wClUX, wCons, wNil, wTup, wLst, wDk, wDt, wFld, wSl, woN, woS, wKw, wRaise, wNeg, wFrz, wApp, wExt, wDrop, wUnp, wIf, wYes, wDisp1, wSplit, wLvals, wOFld, wOGet, wMk, wMkX, wDSet, wDGet, wDIn, wScr, wMt, wMtX, startN, LEnv.at, tru, isT, isC, LV.dd, LV.fz, LV.seq, LV.lis, LV.tpl, Ty6.has, lenF, intF, listF, tupleF, anyF, sumF, eqF, sEq, isF, LV.isN, inF, ixF, ltI, leI, gtI, geI, ii0, iiF, subF, modF, mulF, mulF2, listF2, LV.dt, fdivF, addF, powF, slF, dsOf, D.sign, D.flat, List.map_cons, List.map_nil, List.length_cons, List.length_nil, List.cons_append, List.nil_append, List.append_nil, List.set_cons_zero, List.set_cons_succ, List.set_nil, Nat.sub_self, Nat.reduceSub, Nat.reduceAdd, List.replicate_succ, List.replicate_zero, Bool.false_eq_true, if_true, if_false, true_and, and_true, false_and, and_false]
    | tup xs =>
      obtain ⟨h1, h2⟩ := pure_inv h
      have hl2 : -(2 ^ 62) ≤ (xs.length : Int) ∧ (xs.length : Int) < 2 ^ 62 := by omega
      rw [seq_no fun P N => by simp [wSeq, wSet, wOp, wUn, wVb, wV, wC, wRet, wRetV, wRetN, wIfS, wNx, wBrk, wCnt, wFor, wWalk, wEnum, wRng1, wRng2, wRev, walkD, gN, gT, gsC, gsN, wAnd, wOr, wNot, wCh, wTb, wTr, wtAnd, wtOr, wtNot, wClU, wCl, wClX, wClUX, wCons, wNil, wTup, wLst, wDk, wDt, wFld, wSl, woN, woS, wKw, wRaise, wNeg, wFrz, wApp, wExt, wDrop, wUnp, wIf, wYes, wDisp1, wSplit, wLvals, wOFld, wOGet, wMk, wMkX, wDSet, wDGet, wDIn, wScr, wMt, wMtX, startN, LEnv.at, tru, isT, isC, LV.dd, LV.fz, LV.seq, LV.lis, LV.tpl, Ty6.has, lenF, intF, listF, tupleF, anyF, sumF, eqF, sEq, isF, LV.isN, inF, ixF, ltI, leI, gtI, geI, ii0, iiF, subF, modF, mulF, mulF2, listF2, LV.dt, fdivF, addF, powF, slF, dsOf, D.sign, D.flat, List.map_cons, List.map_nil, List.length_cons, List.length_nil, List.cons_append, List.nil_append, List.append_nil, List.set_cons_zero, List.set_cons_succ, List.set_nil, Nat.sub_self, Nat.reduceSub, Nat.reduceAdd, List.replicate_succ, List.replicate_zero, Bool.false_eq_true, if_true, if_false, true_and, and_true, false_and, and_false], seq_no fun P N => by simp [wSeq, wSet, wOp, wUn, wVb, wV, wC, wRet, wRetV, wRetN, wIfS, wNx, wBrk, wCnt, wFor, wWalk, wEnum, wRng1, wRng2, wRev, walkD, gN, gT, gsC, gsN, wAnd, wOr, wNot, wCh, wTb, wTr, wtAnd, wtOr, wtNot, wClU, wCl, wClX, wClUX, wCons, wNil, wTup, wLst, wDk, wDt, wFld, wSl, woN, woS, wKw, wRaise, wNeg, wFrz, wApp, wExt, wDrop, wUnp, wIf, wYes, wDisp1, wSplit, wLvals, wOFld, wOGet, wMk, wMkX, wDSet, wDGet, wDIn, wScr, wMt, wMtX, startN, LEnv.at, tru, isT, isC, LV.dd, LV.fz, LV.seq, LV.lis, LV.tpl, Ty6.has, lenF, intF, listF, tupleF, anyF, sumF, eqF, sEq, isF, LV.isN, inF, ixF, ltI, leI, gtI, geI, ii0, iiF, subF, modF, mulF, mulF2, listF2, LV.dt, fdivF, addF, powF, slF, dsOf, D.sign, D.flat, List.map_cons, List.map_nil, List.length_cons, List.length_nil, List.cons_append, List.nil_append, List.append_nil, List.set_cons_zero, List.set_cons_succ, List.set_nil, Nat.sub_self, Nat.reduceSub, Nat.reduceAdd, List.replicate_succ, List.replicate_zero, Bool.false_eq_true, if_true, if_false, true_and, and_true, false_and, and_false], seq_no fun P N => by simp [wSeq, wSet, wOp, wUn, wVb, wV, wC, wRet, wRetV, wRetN, wIfS, wNx, wBrk, wCnt, wFor, wWalk, wEnum, wRng1, wRng2, wRev, walkD, gN, gT, gsC, gsN, wAnd, wOr, wNot, wCh, wTb, wTr, wtAnd, wtOr, wtNot, wClU, wCl, wClX, wClUX, wCons, wNil, wTup, wLst, wDk, wDt, wFld, wSl, woN, woS, wKw, wRaise, wNeg, wFrz, wApp, wExt, wDrop, wUnp, wIf, wYes, wDisp1, wSplit, wLvals, wOFld, wOGet, wMk, wMkX, wDSet, wDGet, wDIn, wScr, wMt, wMtX, startN, LEnv.at, tru, isT, isC, LV.dd, LV.fz, LV.seq, LV.lis, LV.tpl, Ty6.has, lenF, intF, listF, tupleF, anyF, sumF, eqF, sEq, isF, LV.isN, inF, ixF, ltI, leI, gtI, geI, ii0, iiF, subF, modF, mulF, mulF2, listF2, LV.dt, fdivF, addF, powF, slF, dsOf, D.sign, D.flat, List.map_cons, List.map_nil, List.length_cons, List.length_nil, List.cons_append, List.nil_append, List.append_nil, List.set_cons_zero, List.set_cons_succ, List.set_nil, Nat.sub_self, Nat.reduceSub, Nat.reduceAdd, List.replicate_succ, List.replicate_zero, Bool.false_eq_true, if_true, if_false, true_and, and_true, false_and, and_false], seq_no fun P N => by simp [wSeq, wSet, wOp, wUn, wVb, wV, wC, wRet, wRetV, wRetN, wIfS, wNx, wBrk, wCnt, wFor, wWalk, wEnum, wRng1, wRng2, wRev, walkD, gN, gT, gsC, gsN, wAnd, wOr, wNot, wCh, wTb, wTr, wtAnd, wtOr, wtNot, wClU, wCl, wClX, wClUX, wCons, wNil, wTup, wLst, wDk, wDt, wFld, wSl, woN, woS, wKw, wRaise, wNeg, wFrz, wApp, wExt, wDrop, wUnp, wIf, wYes, wDisp1, wSplit, wLvals, wOFld, wOGet, wMk, wMkX, wDSet, wDGet, wDIn, wScr, wMt, wMtX, startN, LEnv.at, tru, isT, isC, LV.dd, LV.fz, LV.seq, LV.lis, LV.tpl, Ty6.has, lenF, intF, listF, tupleF, anyF, sumF, eqF, sEq, isF, LV.isN, inF, ixF, ltI, leI, gtI, geI, ii0, iiF, subF, modF, mulF, mulF2, listF2, LV.dt, fdivF, addF, powF, slF, dsOf, D.sign, D.flat, List.map_cons, List.map_nil, List.length_cons, List.length_nil, List.cons_append, List.nil_append, List.append_nil, List.set_cons_zero, List.set_cons_succ, List.set_nil, Nat.sub_self, Nat.reduceSub, Nat.reduceAdd, List.replicate_succ, List.replicate_zero, Bool.false_eq_true, if_true, if_false, true_and, and_true, false_and, and_false], seq_no fun P N => by simp [wSeq, wSet, wOp, wUn, wVb, wV, wC, wRet, wRetV, wRetN, wIfS, wNx, wBrk, wCnt, wFor, wWalk, wEnum, wRng1, wRng2, wRev, walkD, gN, gT, gsC, gsN, wAnd, wOr, wNot, wCh, wTb, wTr, wtAnd, wtOr, wtNot, wClU, wCl, wClX, wClUX, wCons, wNil, wTup, wLst, wDk, wDt, wFld, wSl, woN, woS, wKw, wRaise, wNeg, wFrz, wApp, wExt, wDrop, wUnp, wIf, wYes, wDisp1, wSplit, wLvals, wOFld, wOGet, wMk, wMkX, wDSet, wDGet, wDIn, wScr, wMt, wMtX, startN, LEnv.at, tru, isT, isC, LV.dd, LV.fz, LV.seq, LV.lis, LV.tpl, Ty6.has, lenF, intF, listF, tupleF, anyF, sumF, eqF, sEq, isF, LV.isN, inF, ixF, ltI, leI, gtI, geI, ii0, iiF, subF, modF, mulF, mulF2, listF2, LV.dt, fdivF, addF, powF, slF, dsOf, D.sign, D.flat, List.map_cons, List.map_nil, List.length_cons, List.length_nil, List.cons_append, List.nil_append, List.append_nil, List.set_cons_zero, List.set_cons_succ, List.set_nil, Nat.sub_self, Nat.reduceSub, Nat.reduceAdd, List.replicate_succ, List.replicate_zero, Bool.false_eq_true, if_true, if_false, true_and, and_true, false_and, and_false], seq_no fun P N => by simp [wSeq, wSet, wOp, wUn, wVb, wV, wC, wRet, wRetV, wRetN, wIfS, wNx, wBrk, wCnt, wFor, wWalk, wEnum, wRng1, wRng2, wRev, walkD, gN, gT, gsC, gsN, wAnd, wOr, wNot, wCh, wTb, wTr, wtAnd, wtOr, wtNot, wClU, wCl, wClX, wClUX, wCons, wNil, wTup, wLst, wDk, wDt, wFld, wSl, woN, woS, wKw, wRaise, wNeg, wFrz, wApp, wExt, wDrop, wUnp, wIf, wYes, wDisp1, wSplit, wLvals, wOFld, wOGet, wMk, wMkX, wDSet, wDGet, wDIn, wScr, wMt, wMtX, startN, LEnv.at, tru, isT, isC, LV.dd, LV.fz, LV.seq, LV.lis, LV.tpl, Ty6.has, lenF, intF, listF, tupleF, anyF, sumF, eqF, sEq, isF, LV.isN, inF, ixF, ltI, leI, gtI, geI, ii0, iiF, subF, modF, mulF, mulF2, listF2, LV.dt, fdivF, addF, powF, slF, dsOf, D.sign, D.flat, List.map_cons, List.map_nil, List.length_cons, List.length_nil, List.cons_append, List.nil_append, List.append_nil, List.set_cons_zero, List.set_cons_succ, List.set_nil, Nat.sub_self, Nat.reduceSub, Nat.reduceAdd, List.replicate_succ, List.replicate_zero, Bool.false_eq_true, if_true, if_false, true_and, and_true, false_and, and_false], seq_no fun P N => by simp [wSeq, wSet, wOp, wUn, wVb, wV, wC, wRet, wRetV, wRetN, wIfS, wNx, wBrk, wCnt, wFor, wWalk, wEnum, wRng1, wRng2, wRev, walkD, gN, gT, gsC, gsN, wAnd, wOr, wNot, wCh, wTb, wTr, wtAnd, wtOr, wtNot, wClU, wCl, wClX, wClUX, wCons, wNil, wTup, wLst, wDk, wDt, wFld, wSl, woN, woS, wKw, wRaise, wNeg, wFrz, wApp, wExt, wDrop, wUnp, wIf, wYes, wDisp1, wSplit, wLvals, wOFld, wOGet, wMk, wMkX, wDSet, wDGet, wDIn, wScr, wMt, wMtX, startN, LEnv.at, tru, isT, isC, LV.dd, LV.fz, LV.seq, LV.lis, LV.tpl, Ty6.has, lenF, intF, listF, tupleF, anyF, sumF, eqF, sEq, isF, LV.isN, inF, ixF, ltI, leI, gtI, geI, ii0, iiF, subF, modF, mulF, mulF2, listF2, LV.dt, fdivF, addF, powF, slF, dsOf, D.sign, D.flat, List.map_cons, List.map_nil, List.length_cons, List.length_nil, List.cons_append, List.nil_append, List.append_nil, List.set_cons_zero, List.set_cons_succ, List.set_nil, Nat.sub_self, Nat.reduceSub, Nat.reduceAdd, List.replicate_succ, List.replicate_zero, Bool.false_eq_true, if_true, if_false, true_and, and_true, false_and, and_false]]
      simp only [wSeq, wFor, wRng1, wUn, wVb, LEnv.at, lenF, LV.seq, startN, List.map_cons, List.map_nil, List.cons_append, List.nil_append, hl2, and_self, true_and, rngD_eq, Int.toNat_natCast]
      refine (wGo_along (fun j x (a : Unit) => Go.go a) xs (fun j r a env => (∀ b ∈ r, b ∈ xs) ∧ ∃ o2, env = [some (.d (.tup xs)), some (.d (.tup xs)), o2]) (fun _ => P (.d (.bl true)) ()) ?_ ?_ xs [] () _ rfl ⟨fun _ h => h, _, rfl⟩).trans ?_
      · rintro j a env ⟨_, o2, rfl⟩
        rfl
      · rintro j b r a env hat ⟨hr, o2, rfl⟩ k W hk
        simp only [wSeq, wSet, wOp, wUn, wVb, wV, wC, wRet, wRetV, wRetN, wIfS, wNx, wBrk, wCnt, wFor, wWalk, wEnum, wRng1, wRng2, wRev, walkD, gN, gT, gsC, gsN, wAnd, wOr, wNot, wCh, wTb, wTr, wtAnd, wtOr, wtNot, wClU, wCl, wClX, wClUX, wCons, wNil, wTup, wLst, wDk, wDt, wFld, wSl, woN, woS, wKw, wRaise, wNeg, wFrz, wApp, wExt, wDrop, wUnp, wIf, wYes, wDisp1, wSplit, wLvals, wOFld, wOGet, wMk, wMkX, wDSet, wDGet, wDIn, wScr, wMt, wMtX, startN, LEnv.at, tru, isT, isC, LV.dd, LV.fz, LV.seq, LV.lis, LV.tpl, Ty6.has, lenF, intF, listF, tupleF, anyF, sumF, eqF, sEq, isF, LV.isN, inF, ixF, ltI, leI, gtI, geI, ii0, iiF, subF, modF, mulF, mulF2, listF2, LV.dt, fdivF, addF, powF, slF, dsOf, D.sign, D.flat, List.map_cons, List.map_nil, List.length_cons, List.length_nil, List.cons_append, List.nil_append, List.append_nil, List.set_cons_zero, List.set_cons_succ, List.set_nil, Nat.sub_self, Nat.reduceSub, Nat.reduceAdd, List.replicate_succ, List.replicate_zero, Bool.false_eq_true, if_true, if_false, true_and, and_true, false_and, and_false, hat, e_alike n b _ (h2 b (hr b List.mem_cons_self)), Bool.not_true]
        exact hk () _ ⟨fun y hy => hr y (List.mem_cons_of_mem _ hy), _, rfl⟩
      · rw [foldE_go]
        rfl
    | _ => cases h
theorem pure_path (n : Nat) (q : List Int) (h : q.length ≤ 1000) : pureN (n + 2) (pathD q) = true := pure_tup (by rw [List.length_map]; exact h) fun y hy => by
  obtain ⟨i, _, rfl⟩ := List.mem_map.mp hy
  rfl
theorem right_of {b : D} (h : badR b = none) : rightB b := by
  unfold badR at h
  split at h
  · cases h
  · rename_i hk
    have hk' : isBlk b = true := by simpa using hk
    split at h
    · cases h
    · rename_i hf
      split at h
      · rename_i hc
        exact ⟨hk', (firstW_ok 16 _ [] 1 false).mp hf, hc⟩
      · cases h
theorem pure_block {b : D} (hg : good b = true) (h : rightB b) : pureN 60 b = true := by
  obtain ⟨hk, hok, _⟩ := h
  have hk2 := hk
  obtain ⟨xs, rfl, hgs⟩ := good_items hg hk
  have h12 : okW (11 + 1) xs 1 false = true := okW_mono 12 _ _ _ (okW_mono 13 _ _ _ (okW_mono 14 _ _ _ (okW_mono 15 _ _ _ hok)))
  exact pure_le (by decide) (pure_tup (Nat.le_trans (blk_len hk2) (by decide)) (ok_pure 11 xs 1 false hgs h12 (by decide)))
/-! the paths of a routine -/
theorem pys_ints : ∀ q : List Int, D.pys (q.map D.int) = some (q.map PyData.int)
  | [] => rfl
  | i :: q => by
    rw [List.map_cons]
    unfold D.pys
    rw [pys_ints q]
    rfl
theorem key_path (q : List Int) : keyD (kI q) = pathD q := by
  unfold keyD kI pathD
  rw [List.map_map]
  rfl
theorem pys_paths : ∀ ps : List (List Int), D.pys (ps.map pathD) = some (ps.map fun q => .tuple (q.map PyData.int))
  | [] => rfl
  | q :: ps => by
    rw [List.map_cons]
    unfold D.pys
    rw [pys_paths ps]
    unfold pathD D.py
    rw [pys_ints q]
    rfl
theorem alike_ints : ∀ p q : List Int, PySem.W.alikeAll (p.map PyData.int) (q.map PyData.int) = true
  | [], q => by simp [PySem.W.alikeAll]
  | x :: p, [] => by simp [PySem.W.alikeAll]
  | x :: p, y :: q => by simp [PySem.W.alikeAll, PySem.W.alike, alike_ints p q]
theorem depth_ints : ∀ p : List Int, PyData.depthAll (p.map PyData.int) = 0
  | [] => by simp [PyData.depthAll]
  | x :: p => by simp [PyData.depthAll, PyData.depth, depth_ints p]
theorem lay_ints : ∀ p : List Int, PyData.canLayAll0 (p.map PyData.int) = true
  | [] => by simp [PyData.canLayAll0]
  | x :: p => by simp [PyData.canLayAll0, PyData.canLay0, lay_ints p]
theorem paths_sortable (ps : List (List Int)) (h : ∀ q ∈ ps, q ≠ []) : PySem.W.AllAlike (ps.map fun q => PyData.tuple (q.map PyData.int)) ∧ PySem.W.Sortable (ps.map fun q => PyData.tuple (q.map PyData.int)) ∧ ∀ p ∈ ps.map fun q => PyData.tuple (q.map PyData.int), p.depth ≤ 60 := by
  refine ⟨PySem.W.AllAlike.of fun p q => by simp [PySem.W.alike, alike_ints], .inl fun d hd => ?_, fun d hd => ?_⟩
  · obtain ⟨q, hq, rfl⟩ := List.mem_map.mp hd
    cases q with
    | nil => exact absurd rfl (h _ hq)
    | cons i q => exact ⟨_, _, rfl⟩
  · obtain ⟨q, _, rfl⟩ := List.mem_map.mp hd
    simp [PyData.depth, depth_ints]
theorem lkpT4 (a b c e : D) : lkp [("block" : Str), ("table" : Str), ("name_list" : Str), ("port_list" : Str)] [a, b, c, e] ("table" : Str) = some b := by rw [lkp_ne (by decide +kernel), lkp_eq]
theorem e_paths (b : D) (h : cntW 14 (itemsOf b) ≤ 6000) (P : LV → Unit → Prop) : ∃ ys : List D, (ys.length : Int) = cntW 14 (itemsOf b) ∧ m_Routine_paths [.d (.ins 0 rtnN (rtnV b))] () P noX = P (.l ys) () := by
  have hbig : 4000000 < sizeLine := by decide
  have hlen := lst_len 14 (itemsOf b) []
  refine ⟨(((lstW 14 (itemsOf b) []).map (·.1)).map pathD).mergeSort leD, by rw [List.length_mergeSort, List.length_map, List.length_map]; exact hlen, ?_⟩
  have e1 : lkp rtnN (rtnV b) "table" = some (.dT ((lstW 14 (itemsOf b) []).map fun z => kI z.1) (stmtsOf b)) := lkpT4 _ _ _ _
  have e2 : ((lstW 14 (itemsOf b) []).map fun z => kI z.1).map keyD = ((lstW 14 (itemsOf b) []).map (·.1)).map pathD := by
    rw [List.map_map, List.map_map]
    exact List.map_congr_left fun z _ => key_path z.1
  obtain ⟨s1, s2, s3⟩ := paths_sortable ((lstW 14 (itemsOf b) []).map (·.1)) fun q hq => by
    obtain ⟨z, hz, rfl⟩ := List.mem_map.mp hq
    obtain ⟨k, r, _, e⟩ := lst_from 14 (itemsOf b) [] z hz
    rw [e]
    simp
  refine (propext (and_iff_right rfl)).trans ?_
  unfold u_Routine_paths
  simp only [wRet, wUn, wFld, wV, LEnv.at, startN, LV.fz, List.map_cons, List.map_nil, List.cons_append, List.nil_append, List.length_cons, List.length_nil, Nat.reduceAdd, Nat.reduceSub, List.replicate_zero, true_and, e1, listF2, LV.dt, e2, sortDF, LV.lis, pys_paths]
  exact propext (and_iff_right ⟨s1, s2, by rw [List.length_map, List.length_map]; omega, s3⟩)
theorem cnt_deep : ∀ (n : Nat) (xs : List D) (d : Int) (lp : Bool), okW (n + 1) xs d lp = true → 12 ≤ d + n → cntW (n + 1) xs = cntW (n + 2) xs := by
  intro n
  induction n with
  | zero =>
    intro xs d lp hok hn
    have e : (xs.map fun x => ((blocksOf x).map fun b => cntW 0 (itemsOf b)).sum) = xs.map fun x => ((blocksOf x).map fun b => cntW 1 (itemsOf b)).sum := List.map_congr_left fun x hx => by
      obtain ⟨hW, _⟩ := ok_item hok x hx
      congr 1
      exact List.map_congr_left fun b hb => absurd (deep_lt hW b hb) (by omega)
    unfold cntW
    rw [e]
  | succ n ih =>
    intro xs d lp hok hn
    have e : (xs.map fun x => ((blocksOf x).map fun b => cntW (n + 1) (itemsOf b)).sum) = xs.map fun x => ((blocksOf x).map fun b => cntW (n + 2) (itemsOf b)).sum := List.map_congr_left fun x hx => by
      obtain ⟨hW, ho⟩ := ok_item hok x hx
      congr 1
      exact List.map_congr_left fun b hb => ih _ (d + 1) _ (ho b hb) (by omega)
    rw [cntW, e]
    rfl
theorem cnt_right {b : D} (h : rightB b) : cntW 14 (itemsOf b) = cntW 16 (itemsOf b) := by
  obtain ⟨_, hok, _⟩ := h
  have h15 := okW_mono 15 _ _ _ hok
  exact (cnt_deep 13 _ 1 false (okW_mono 14 _ _ _ h15) (by decide)).trans (cnt_deep 14 _ 1 false h15 (by decide))
theorem bad_form {b y : D} (h : badR b = some y) : y = .non ∨ ∃ q, y = pathD q := by
  unfold badR at h
  split at h
  · cases h; exact .inr ⟨[], rfl⟩
  · split at h
    · cases h; exact .inr ⟨_, rfl⟩
    · split at h
      · cases h
      · cases h; exact .inl rfl
theorem eq_let_path (q : List Int) (z : Str) (hz : PyData.strOk z = true) (P : LV → Prop) : eqF false (.d (pathD q)) (.d (.str z)) P = P (.d (.bl false)) := by
  have e : D.py (pathD q) = some (.tuple (q.map PyData.int)) := by
    unfold pathD D.py
    rw [pys_ints]
    rfl
  have s1 : SeqAt.shaped (.tuple (q.map PyData.int)) = true := by simp [SeqAt.shaped, PyData.canLay0, lay_ints, PyData.depth, depth_ints]
  have s2 : SeqAt.shaped (.str z) = true := by simp [SeqAt.shaped, PyData.canLay0, hz, PyData.depth]
  have e2 : D.py (.str z) = some (.str z) := rfl
  have e0 : sEq (pathD q) (.str z) = none := rfl
  simp only [eqF, e0, e, e2, s1, s2, true_and]
  rw [PyData.eqv]
  rfl
def dueD : Option D → D
  | none => .str "let"
  | some y => y
theorem agrees_ok (b : D) (due : Option D) (many : Int) (P : LV → Unit → Prop) (hg : good b = true) (hb : badR b = due) (hl : ∀ y, due = some y → pureN 60 y = true)
    (hm : due = none → many < 0 ∨ cntW 16 (itemsOf b) = many) (h : P (.d (.bl true)) ()) : m__law_agrees [.d b, .d (dueD due), .d (.int many)] () P noX := by
  refine ⟨rfl, ?_⟩
  unfold u__law_agrees
  simp only [wSeq, wSet, wC, wTryAs, wMkX, wCons, wNil, wV, LEnv.at, LV.fz, startN, List.map_cons, List.map_nil, List.length_cons, List.length_nil, Nat.reduceAdd, Nat.reduceSub, List.replicate_succ, List.replicate_zero, List.cons_append, List.nil_append, List.append_nil, List.set_cons_succ, List.set_cons_zero]
  cases due with
  | none =>
    have hr := right_of hb
    have hcnt := cnt_right hr
    obtain ⟨ys, hy1, hy2⟩ := e_paths b (by rw [hcnt]; exact hr.2.2) (fun lv _ => lenF lv fun l => eqF false l (.d (.int many)) fun l => P l ())
    refine rtn_ok b hg hr _ _ ?_
    have e1 : lkp rtnN (rtnV b) "block" = some b := lkp_eq
    have e2 : lkp rtnN (rtnV b) "paths" = none := by
      unfold rtnN rtnV
      rw [lkp_ne (by decide +kernel), lkp_ne (by decide +kernel), lkp_ne (by decide +kernel), lkp_ne (by decide +kernel)]
      rfl
    simp only [wSeq, wIfS, wTb, wOp, wVb, wC, LEnv.at, isF, dueD, eqF, sEq, LV.isN, if_true, wFrz, wtOr, wtNot, wTr, wFld, wClU, wCons, wNil, wV, LV.fz, List.set_cons_succ, List.set_cons_zero, e1, List.append_nil, List.cons_append, List.nil_append, Bool.false_eq_true, if_false, true_and, decide_true, Bool.not_true]
    rw [e_alike 60 b _ (pure_block hg hr)]
    simp only [tru, Bool.not_true, Bool.false_eq_true, if_false, wNx, wSeq, wFrz, wRet, wOr, wOp, wVb, wV, wC, wMt, wUn, wNil, LEnv.at, LV.fz, List.set_cons_succ, List.set_cons_zero, ltI, ii0, e2, true_and, List.append_nil, List.cons_append, List.nil_append]
    by_cases hneg : many < 0
    · simp only [hneg, decide_true]
      exact h
    · have hc : cntW 16 (itemsOf b) = many := by
        rcases hm rfl with e | e
        · exact absurd e hneg
        · exact e
      have hd : (ys.length : Int) = many := hy1.trans (hcnt.trans hc)
      simp only [hneg, decide_false]
      rw [hy2]
      simp only [lenF, LV.seq, eqF, sEq, hd, decide_true, Bool.false_eq_true, if_false]
      exact h
  | some y =>
    refine rtn_bad b hg y hb _ _ ?_
    refine ⟨by decide, ?_⟩
    rw [if_pos (by decide)]
    intro a
    simp only [wipeO, LV.own, List.map_cons, List.map_nil, List.set_cons_succ, List.set_cons_zero, wSet, wTup, wCons, wNil, wC, wWhat, wLst, LEnv.at, LV.fz, dsOf, List.length_cons, List.length_nil, Bool.false_eq_true, if_false, true_and]
    refine ⟨by decide, ?_⟩
    have key := e_alike 60 y P (hl y rfl)
    have fst : ∀ Q : LV → Prop, eqF false (.d y) (.d (.str "let")) Q = Q (.d (.bl false)) := fun Q => by
      rcases bad_form hb with rfl | ⟨q, rfl⟩
      · rfl
      · exact eq_let_path q "let" (by decide +kernel) Q
    simp only [wNx, wIfS, wTb, wOp, wVb, wC, LEnv.at, dueD, fst, isF, LV.isN, if_true, wRet, wAnd, wClU, wCons, wNil, wV, LV.fz, List.set_cons_succ, List.set_cons_zero, List.append_nil, List.cons_append, List.nil_append, Bool.false_eq_true, if_false, true_and, ixF, LV.seq, at1, Bool.not_false]
    rw [show atI [y] 0 = some y from rfl]
    exact cast key.symm h
end LW
namespace LW
open PySem PySem.Spec PyProof.Rows L2 DL
/-! blocks that are built -/
def itemOk (n : Nat) (d : Int) (lp : Bool) (x : D) : Bool := !isWrong x d lp && (blocksOf x).all fun b => okW n (itemsOf b) (d + 1) (lp || decide (headW x = "repeat"))
def itemC (n : Nat) (x : D) : Int := ((blocksOf x).map fun b => cntW n (itemsOf b)).sum
def itemF (n : Nat) (d : Int) (lp : Bool) (x : D) (q : List Int) : Option (List Int) := if isWrong x d lp = true then some q else scan (fun b q' => firstW n (itemsOf b) q' (d + 1) (lp || decide (headW x = "repeat"))) q 0 (blocksOf x)
theorem okW_succ (n : Nat) (xs : List D) (d : Int) (lp : Bool) : okW (n + 1) xs d lp = xs.all (itemOk n d lp) := rfl
theorem cntW_succ (n : Nat) (xs : List D) : cntW (n + 1) xs = xs.length + (xs.map (itemC n)).sum := rfl
theorem firstW_succ (n : Nat) (xs : List D) (p : List Int) (d : Int) (lp : Bool) : firstW (n + 1) xs p d lp = scan (itemF n d lp) p 0 xs := rfl
theorem bad_none {b : D} (h1 : isBlk b = true) (h2 : okW 16 (itemsOf b) 1 false = true) (h3 : cntW 16 (itemsOf b) ≤ 6000) : badR b = none := by
  unfold badR
  rw [if_neg (by rw [h1]; decide), (firstW_ok 16 _ [] 1 false).mpr h2]
  exact if_pos h3
theorem bad_path {b : D} {p : List Int} (h1 : isBlk b = true) (h2 : firstW 16 (itemsOf b) [] 1 false = some p) : badR b = some (pathD p) := by
  unfold badR
  rw [if_neg (by rw [h1]; decide), h2]
theorem bad_blk {b : D} (h1 : isBlk b = false) : badR b = some (.tup []) := by
  unfold badR
  rw [if_pos h1]
theorem bad_many {b : D} (h1 : isBlk b = true) (h2 : okW 16 (itemsOf b) 1 false = true) (h3 : 6000 < cntW 16 (itemsOf b)) : badR b = some .non := by
  unfold badR
  rw [if_neg (by rw [h1]; decide), (firstW_ok 16 _ [] 1 false).mpr h2]
  exact if_neg (by generalize cntW 16 (itemsOf b) = c at h3; omega)
theorem blk_of {xs : List D} (h : xs.length ≤ 12) : isBlk (.tup xs) = true := decide_eq_true (by omega)
theorem blk_not {xs : List D} (h : 12 < xs.length) : isBlk (.tup xs) = false := decide_eq_false (by omega)
/-! plain statements -/
structure Sim (x : D) : Prop where
  good : good x = true
  stmt : isStmt x = true
  none : blocksOf x = []
  stay : headW x ≠ "leave"
  once : headW x ≠ "repeat"
theorem sim_wrong {x : D} (h : Sim x) (d : Int) (lp : Bool) : isWrong x d lp = false := by
  unfold isWrong
  rw [if_neg (by rw [h.stmt]; decide), if_neg h.stay, if_neg (fun q => q.1 h.none), decide_eq_false h.once]
  rfl
theorem sim_ok {x : D} (h : Sim x) (n : Nat) (d : Int) (lp : Bool) : itemOk n d lp x = true := by
  unfold itemOk
  rw [sim_wrong h, h.none]
  rfl
theorem sim_c {x : D} (h : Sim x) (n : Nat) : itemC n x = 0 := by
  unfold itemC
  rw [h.none]
  rfl
theorem sim_f {x : D} (h : Sim x) (n : Nat) (d : Int) (lp : Bool) (q : List Int) : itemF n d lp x q = none := by
  unfold itemF
  rw [sim_wrong h, h.none]
  rfl
theorem sims_ok {xs : List D} (h : ∀ x ∈ xs, Sim x) : ∀ (n : Nat) (d : Int) (lp : Bool), okW n xs d lp = true
  | 0, _, _ => rfl
  | n + 1, d, lp => by rw [okW_succ]; exact List.all_eq_true.mpr fun x hx => sim_ok (h x hx) n d lp
theorem sums_c (n : Nat) : ∀ {xs : List D}, (∀ x ∈ xs, Sim x) → (xs.map (itemC n)).sum = 0
  | [], _ => rfl
  | x :: r, h => by rw [List.map_cons, List.sum_cons, sim_c (h x List.mem_cons_self), sums_c n fun y hy => h y (List.mem_cons_of_mem _ hy)]; rfl
theorem sims_c {xs : List D} (h : ∀ x ∈ xs, Sim x) (n : Nat) : cntW (n + 1) xs = xs.length := by rw [cntW_succ, sums_c n h, Int.add_zero]
theorem sims_good {xs : List D} (h : ∀ x ∈ xs, Sim x) : goods xs = true := goods_of fun x hx => (h x hx).good
theorem scan_go {f : D → List Int → Option (List Int)} {p : List Int} {i : Int} {x : D} {r : List D} (h : f x (p ++ [i]) = none) : scan f p i (x :: r) = scan f p (i + 1) r := by
  rw [scan, h]
theorem scan_hit {f : D → List Int → Option (List Int)} {p q : List Int} {i : Int} {x : D} {r : List D} (h : f x (p ++ [i]) = some q) : scan f p i (x :: r) = some q := by
  rw [scan, h]
theorem scan_none {f : D → List Int → Option (List Int)} {p : List Int} : ∀ {A R : List D} {i : Int}, (∀ x ∈ A, ∀ q, f x q = none) → scan f p i (A ++ R) = scan f p (i + A.length) R
  | [], R, i, _ => by simp
  | x :: A, R, i, h => by
    rw [List.cons_append]
    rw [scan_go (h x List.mem_cons_self _), scan_none fun y hy => h y (List.mem_cons_of_mem _ hy), List.length_cons, show i + 1 + (A.length : Int) = i + ((A.length + 1 : Nat) : Int) by omega]
theorem scan_sims {n : Nat} {d : Int} {lp : Bool} {p : List Int} {A R : List D} {i : Int} (h : ∀ x ∈ A, Sim x) : scan (itemF n d lp) p i (A ++ R) = scan (itemF n d lp) p (i + A.length) R := scan_none fun x hx q => sim_f (h x hx) n d lp q
def isSim (x : D) : Bool := good x && isStmt x && (blocksOf x).isEmpty && !decide (headW x = "leave") && !decide (headW x = "repeat")
theorem sim_of {x : D} (h : isSim x = true) : Sim x := by
  unfold isSim at h
  rw [Bool.and_eq_true, Bool.and_eq_true, Bool.and_eq_true, Bool.and_eq_true] at h
  obtain ⟨⟨⟨⟨h1, h2⟩, h3⟩, h4⟩, h5⟩ := h
  exact ⟨h1, h2, List.isEmpty_iff.mp h3, by simpa using h4, by simpa using h5⟩
theorem sim_name {k a b : D} (hk : k = .str "set" ∨ k = .str "tell") (ha : isName a = true) (hg : good a = true) (hb : isExpr 8 b 5 = true) (hgb : good b = true) : Sim (.tup [k, a, b]) := by
  have g : ∀ z : Str, good (.str z) = true → good (.tup [.str z, a, b]) = true := fun z hz => by simp only [good, goods] at hz ⊢; rw [hz, hg, hgb]; rfl
  rcases hk with rfl | rfl
  · exact ⟨g _ (by decide +kernel), by simp [isStmt, isDeal, ha, hb, wne], by simp [blocksOf, wne], by simp [headW, wne], by simp [headW, wne]⟩
  · exact ⟨g _ (by decide +kernel), by simp [isStmt, isDeal, ha, hb, wne], by simp [blocksOf, wne], by simp [headW, wne], by simp [headW, wne]⟩
theorem set_sim {k : Int} (h0 : 0 ≤ k) (h9 : k ≤ 9) : Sim (.tup [.str "set", .str "a", .int k]) := sim_name (.inl rfl) (by decide +kernel) (by decide +kernel) (by simp [isExpr, isDig, h0, h9]) rfl
theorem tell_sim {z : Str} (hz : isName (.str z) = true) (hg : good (.str z) = true) {k : Int} (h0 : 0 ≤ k) (h9 : k ≤ 9) : Sim (.tup [.str "tell", .str z, .int k]) := sim_name (.inr rfl) hz hg (by simp [isExpr, isDig, h0, h9]) rfl
theorem hear_sim : Sim (.tup [.str "hear", .str "p", .str "a"]) := sim_of (by decide +kernel)
theorem tellb_sim : Sim (.tup [.str "tell", .str "q", .tup [.str "name", .str "b"]]) := sim_of (by decide +kernel)
theorem home_sim : Sim (.tup [.str "home"]) := sim_of (by decide +kernel)
theorem simple_ok (ga : Addr) (P : LV → Unit → Prop) (h : ∀ x, Sim x → P (.d x) ()) : m__law_simple ga [.raw (.ref ga)] () P noX := by
  refine ⟨rfl, ?_⟩
  unfold u__law_simple
  refine set_draw rfl (by decide) (by decide +kernel) fun r h0 h1 => ?_
  have hr : r = 0 ∨ r = 1 ∨ r = 2 ∨ r = 3 := by omega
  rcases hr with rfl | rfl | rfl | rfl
  · rw [seq_yes fun P N => by simp [wSeq, wSet, wOp, wUn, wVb, wV, wC, wRet, wRetV, wRetN, wIfS, wNx, wBrk, wCnt, wFor, wWalk, wEnum, wRng1, wRng2, wRev, walkD, gN, gT, gsC, gsN, wAnd, wOr, wNot, wCh, wTb, wTr, wtAnd, wtOr, wtNot, wClU, wCl, wClX, wClUX, wCons, wNil, wTup, wLst, wDk, wDt, wFld, wSl, woN, woS, wKw, wRaise, wNeg, wFrz, wApp, wExt, wDrop, wUnp, wIf, wYes, wDisp1, wSplit, wLvals, wOFld, wOGet, wMk, wMkX, wDSet, wDGet, wDIn, wScr, wMt, wMtX, startN, LEnv.at, tru, isT, isC, LV.dd, LV.fz, LV.seq, LV.lis, LV.tpl, Ty6.has, lenF, intF, listF, tupleF, anyF, sumF, eqF, sEq, isF, LV.isN, inF, ixF, ltI, leI, gtI, geI, ii0, iiF, subF, modF, mulF, mulF2, listF2, LV.dt, fdivF, addF, powF, slF, dsOf, D.sign, D.flat, List.map_cons, List.map_nil, List.length_cons, List.length_nil, List.cons_append, List.nil_append, List.append_nil, List.set_cons_zero, List.set_cons_succ, List.set_nil, Nat.sub_self, Nat.reduceSub, Nat.reduceAdd, List.replicate_succ, List.replicate_zero, Bool.false_eq_true, if_true, if_false, true_and, and_true, false_and, and_false]]
    simp only [wRet, wTup, wCons, wC, wCl, wV, wNil, LEnv.at, startN, List.map_cons, List.map_nil, List.cons_append, List.nil_append, List.set_cons_succ, List.set_cons_zero, List.length_cons, List.length_nil, Nat.reduceAdd, Nat.reduceSub, List.replicate_succ, List.replicate_zero, LV.fz, List.append_nil]
    refine draw_ok (by decide) (by decide +kernel) fun k h0 h1 => ?_
    exact ⟨by simp, h _ (set_sim h0 (by omega))⟩
  · rw [seq_no fun P N => by simp [wSeq, wSet, wOp, wUn, wVb, wV, wC, wRet, wRetV, wRetN, wIfS, wNx, wBrk, wCnt, wFor, wWalk, wEnum, wRng1, wRng2, wRev, walkD, gN, gT, gsC, gsN, wAnd, wOr, wNot, wCh, wTb, wTr, wtAnd, wtOr, wtNot, wClU, wCl, wClX, wClUX, wCons, wNil, wTup, wLst, wDk, wDt, wFld, wSl, woN, woS, wKw, wRaise, wNeg, wFrz, wApp, wExt, wDrop, wUnp, wIf, wYes, wDisp1, wSplit, wLvals, wOFld, wOGet, wMk, wMkX, wDSet, wDGet, wDIn, wScr, wMt, wMtX, startN, LEnv.at, tru, isT, isC, LV.dd, LV.fz, LV.seq, LV.lis, LV.tpl, Ty6.has, lenF, intF, listF, tupleF, anyF, sumF, eqF, sEq, isF, LV.isN, inF, ixF, ltI, leI, gtI, geI, ii0, iiF, subF, modF, mulF, mulF2, listF2, LV.dt, fdivF, addF, powF, slF, dsOf, D.sign, D.flat, List.map_cons, List.map_nil, List.length_cons, List.length_nil, List.cons_append, List.nil_append, List.append_nil, List.set_cons_zero, List.set_cons_succ, List.set_nil, Nat.sub_self, Nat.reduceSub, Nat.reduceAdd, List.replicate_succ, List.replicate_zero, Bool.false_eq_true, if_true, if_false, true_and, and_true, false_and, and_false], seq_yes fun P N => by simp [wSeq, wSet, wOp, wUn, wVb, wV, wC, wRet, wRetV, wRetN, wIfS, wNx, wBrk, wCnt, wFor, wWalk, wEnum, wRng1, wRng2, wRev, walkD, gN, gT, gsC, gsN, wAnd, wOr, wNot, wCh, wTb, wTr, wtAnd, wtOr, wtNot, wClU, wCl, wClX, wClUX, wCons, wNil, wTup, wLst, wDk, wDt, wFld, wSl, woN, woS, wKw, wRaise, wNeg, wFrz, wApp, wExt, wDrop, wUnp, wIf, wYes, wDisp1, wSplit, wLvals, wOFld, wOGet, wMk, wMkX, wDSet, wDGet, wDIn, wScr, wMt, wMtX, startN, LEnv.at, tru, isT, isC, LV.dd, LV.fz, LV.seq, LV.lis, LV.tpl, Ty6.has, lenF, intF, listF, tupleF, anyF, sumF, eqF, sEq, isF, LV.isN, inF, ixF, ltI, leI, gtI, geI, ii0, iiF, subF, modF, mulF, mulF2, listF2, LV.dt, fdivF, addF, powF, slF, dsOf, D.sign, D.flat, List.map_cons, List.map_nil, List.length_cons, List.length_nil, List.cons_append, List.nil_append, List.append_nil, List.set_cons_zero, List.set_cons_succ, List.set_nil, Nat.sub_self, Nat.reduceSub, Nat.reduceAdd, List.replicate_succ, List.replicate_zero, Bool.false_eq_true, if_true, if_false, true_and, and_true, false_and, and_false]]
    exact ⟨by decide, h _ hear_sim⟩
  · rw [seq_no fun P N => by simp [wSeq, wSet, wOp, wUn, wVb, wV, wC, wRet, wRetV, wRetN, wIfS, wNx, wBrk, wCnt, wFor, wWalk, wEnum, wRng1, wRng2, wRev, walkD, gN, gT, gsC, gsN, wAnd, wOr, wNot, wCh, wTb, wTr, wtAnd, wtOr, wtNot, wClU, wCl, wClX, wClUX, wCons, wNil, wTup, wLst, wDk, wDt, wFld, wSl, woN, woS, wKw, wRaise, wNeg, wFrz, wApp, wExt, wDrop, wUnp, wIf, wYes, wDisp1, wSplit, wLvals, wOFld, wOGet, wMk, wMkX, wDSet, wDGet, wDIn, wScr, wMt, wMtX, startN, LEnv.at, tru, isT, isC, LV.dd, LV.fz, LV.seq, LV.lis, LV.tpl, Ty6.has, lenF, intF, listF, tupleF, anyF, sumF, eqF, sEq, isF, LV.isN, inF, ixF, ltI, leI, gtI, geI, ii0, iiF, subF, modF, mulF, mulF2, listF2, LV.dt, fdivF, addF, powF, slF, dsOf, D.sign, D.flat, List.map_cons, List.map_nil, List.length_cons, List.length_nil, List.cons_append, List.nil_append, List.append_nil, List.set_cons_zero, List.set_cons_succ, List.set_nil, Nat.sub_self, Nat.reduceSub, Nat.reduceAdd, List.replicate_succ, List.replicate_zero, Bool.false_eq_true, if_true, if_false, true_and, and_true, false_and, and_false], seq_no fun P N => by simp [wSeq, wSet, wOp, wUn, wVb, wV, wC, wRet, wRetV, wRetN, wIfS, wNx, wBrk, wCnt, wFor, wWalk, wEnum, wRng1, wRng2, wRev, walkD, gN, gT, gsC, gsN, wAnd, wOr, wNot, wCh, wTb, wTr, wtAnd, wtOr, wtNot, wClU, wCl, wClX, wClUX, wCons, wNil, wTup, wLst, wDk, wDt, wFld, wSl, woN, woS, wKw, wRaise, wNeg, wFrz, wApp, wExt, wDrop, wUnp, wIf, wYes, wDisp1, wSplit, wLvals, wOFld, wOGet, wMk, wMkX, wDSet, wDGet, wDIn, wScr, wMt, wMtX, startN, LEnv.at, tru, isT, isC, LV.dd, LV.fz, LV.seq, LV.lis, LV.tpl, Ty6.has, lenF, intF, listF, tupleF, anyF, sumF, eqF, sEq, isF, LV.isN, inF, ixF, ltI, leI, gtI, geI, ii0, iiF, subF, modF, mulF, mulF2, listF2, LV.dt, fdivF, addF, powF, slF, dsOf, D.sign, D.flat, List.map_cons, List.map_nil, List.length_cons, List.length_nil, List.cons_append, List.nil_append, List.append_nil, List.set_cons_zero, List.set_cons_succ, List.set_nil, Nat.sub_self, Nat.reduceSub, Nat.reduceAdd, List.replicate_succ, List.replicate_zero, Bool.false_eq_true, if_true, if_false, true_and, and_true, false_and, and_false]]
    exact ⟨by decide, by decide, h _ tellb_sim⟩
  · rw [seq_no fun P N => by simp [wSeq, wSet, wOp, wUn, wVb, wV, wC, wRet, wRetV, wRetN, wIfS, wNx, wBrk, wCnt, wFor, wWalk, wEnum, wRng1, wRng2, wRev, walkD, gN, gT, gsC, gsN, wAnd, wOr, wNot, wCh, wTb, wTr, wtAnd, wtOr, wtNot, wClU, wCl, wClX, wClUX, wCons, wNil, wTup, wLst, wDk, wDt, wFld, wSl, woN, woS, wKw, wRaise, wNeg, wFrz, wApp, wExt, wDrop, wUnp, wIf, wYes, wDisp1, wSplit, wLvals, wOFld, wOGet, wMk, wMkX, wDSet, wDGet, wDIn, wScr, wMt, wMtX, startN, LEnv.at, tru, isT, isC, LV.dd, LV.fz, LV.seq, LV.lis, LV.tpl, Ty6.has, lenF, intF, listF, tupleF, anyF, sumF, eqF, sEq, isF, LV.isN, inF, ixF, ltI, leI, gtI, geI, ii0, iiF, subF, modF, mulF, mulF2, listF2, LV.dt, fdivF, addF, powF, slF, dsOf, D.sign, D.flat, List.map_cons, List.map_nil, List.length_cons, List.length_nil, List.cons_append, List.nil_append, List.append_nil, List.set_cons_zero, List.set_cons_succ, List.set_nil, Nat.sub_self, Nat.reduceSub, Nat.reduceAdd, List.replicate_succ, List.replicate_zero, Bool.false_eq_true, if_true, if_false, true_and, and_true, false_and, and_false], seq_no fun P N => by simp [wSeq, wSet, wOp, wUn, wVb, wV, wC, wRet, wRetV, wRetN, wIfS, wNx, wBrk, wCnt, wFor, wWalk, wEnum, wRng1, wRng2, wRev, walkD, gN, gT, gsC, gsN, wAnd, wOr, wNot, wCh, wTb, wTr, wtAnd, wtOr, wtNot, wClU, wCl, wClX, wClUX, wCons, wNil, wTup, wLst, wDk, wDt, wFld, wSl, woN, woS, wKw, wRaise, wNeg, wFrz, wApp, wExt, wDrop, wUnp, wIf, wYes, wDisp1, wSplit, wLvals, wOFld, wOGet, wMk, wMkX, wDSet, wDGet, wDIn, wScr, wMt, wMtX, startN, LEnv.at, tru, isT, isC, LV.dd, LV.fz, LV.seq, LV.lis, LV.tpl, Ty6.has, lenF, intF, listF, tupleF, anyF, sumF, eqF, sEq, isF, LV.isN, inF, ixF, ltI, leI, gtI, geI, ii0, iiF, subF, modF, mulF, mulF2, listF2, LV.dt, fdivF, addF, powF, slF, dsOf, D.sign, D.flat, List.map_cons, List.map_nil, List.length_cons, List.length_nil, List.cons_append, List.nil_append, List.append_nil, List.set_cons_zero, List.set_cons_succ, List.set_nil, Nat.sub_self, Nat.reduceSub, Nat.reduceAdd, List.replicate_succ, List.replicate_zero, Bool.false_eq_true, if_true, if_false, true_and, and_true, false_and, and_false]]
    exact ⟨by decide, by decide, h _ tellb_sim⟩
end LW
namespace LW
open PySem PySem.Spec PyProof.Rows L2 DL
/-! sizes -/
theorem tells_deals {z : Str} {k : Int} {r : List D} {d : Int} (h : isStmt (.tup [.str "tell", .str z, .int k]) = true) : dealsD (.tup (.tup [.str "tell", .str z, .int k] :: r)) d = true := by
  have e : waysOf 13 (.tup [.str "tell", .str z, .int k]) d = (false, false) := by
    unfold waysOf
    rw [if_neg (by rw [h]; decide)]
    simp [headW, wne]
  unfold dealsD
  simp only [itemsOf, wThr, e]
  rfl
theorem tell_name : isName (.str "q") = true := by decide +kernel
theorem sizes_in (ys : List D) (hs : ∀ x ∈ ys, Sim x) : ∃ due : Option D, badR (.tup ys) = due ∧ (12 < ys.length → due = some (.tup [])) ∧ (ys.length ≤ 12 → due = none) ∧ cntW 16 ys = ys.length := by
  have hc := sims_c hs 15
  by_cases h : ys.length ≤ 12
  · exact ⟨none, bad_none (blk_of h) (sims_ok hs 16 1 false) (by rw [show itemsOf (.tup ys) = ys from rfl, hc]; omega), fun q => absurd h (by omega), fun _ => rfl, hc⟩
  · exact ⟨some (.tup []), bad_blk (blk_not (by omega)), fun _ => rfl, fun q => absurd q h, hc⟩
theorem deep_ok {x : D} {d : Int} {lp : Bool} (hs : isStmt x = true) (hl : headW x ≠ "leave") (hd : d < 12) (hr : headW x = "repeat" → dealsD (secondW x) (d + 1) = true) : isWrong x d lp = false := by
  unfold isWrong
  rw [if_neg (by rw [hs]; decide), if_neg hl, if_neg (fun q => absurd q.2 (by omega))]
  by_cases h : headW x = "repeat"
  · rw [hr h]; simp
  · simp [h]
theorem stmt_wrong {x : D} (h : isStmt x = false) (d : Int) (lp : Bool) : isWrong x d lp = true := by
  unfold isWrong
  rw [if_pos h]
theorem wrong_f {n : Nat} {d : Int} {lp : Bool} {x : D} {q : List Int} (h : isWrong x d lp = true) : itemF n d lp x q = some q := if_pos h
theorem outer_bad {A : List D} {x : D} {R : List D} (h0 : ∀ y ∈ A, Sim y) (hx : isWrong x 1 false = true) (hl : (A ++ x :: R).length ≤ 12) : badR (.tup (A ++ x :: R)) = some (pathD [(A.length : Int)]) := by
  refine bad_path (blk_of hl) ?_
  show scan (itemF 15 1 false) [] 0 (A ++ x :: R) = _
  rw [scan_sims h0, Int.zero_add]
  exact scan_hit (wrong_f hx)
def openD (bs : List D) : D := .tup [.str "open", .tup bs]
def repD (b : D) : D := .tup [.str "repeat", b]
theorem open_blocks (bs : List D) : blocksOf (openD bs) = bs := by simp [openD, blocksOf, itemsOf, wne]
theorem rep_blocks (b : D) : blocksOf (repD b) = [b] := by simp [repD, blocksOf, wne]
theorem open_head (bs : List D) : headW (openD bs) = "open" := rfl
theorem rep_head (b : D) : headW (repD b) = "repeat" := rfl
theorem open_stmt (bs : List D) : isStmt (openD bs) = areBlocks (.tup bs) := by simp [openD, isStmt, wne]
theorem rep_stmt (b : D) : isStmt (repD b) = isBlk b := by simp [repD, isStmt, wne]
theorem open_good {bs : List D} (h : goods bs = true) : good (openD bs) = true := by
  have : good (.str "open") = true := by decide +kernel
  simp only [openD, good, goods] at this ⊢
  rw [this, h]
  rfl
theorem rep_good {b : D} (h : good b = true) : good (repD b) = true := by
  have : good (.str "repeat") = true := by decide +kernel
  simp only [repD, good, goods] at this ⊢
  rw [this, h]
  rfl
theorem item_ok {n : Nat} {d : Int} {lp : Bool} {x : D} (h : isWrong x d lp = false) (hb : ∀ b ∈ blocksOf x, okW n (itemsOf b) (d + 1) (lp || decide (headW x = "repeat")) = true) : itemOk n d lp x = true := by
  unfold itemOk
  rw [h]
  exact List.all_eq_true.mpr hb
theorem ok_app (n : Nat) (xs ys : List D) (d : Int) (lp : Bool) : okW (n + 1) (xs ++ ys) d lp = (okW (n + 1) xs d lp && okW (n + 1) ys d lp) := by simp only [okW_succ, List.all_append]
theorem cnt_app (n : Nat) (xs ys : List D) : cntW (n + 1) (xs ++ ys) = cntW (n + 1) xs + cntW (n + 1) ys := by
  simp only [cntW_succ, List.map_append, List.sum_append, List.length_append]
  omega
theorem cnt_one (n : Nat) (x : D) : cntW (n + 1) [x] = 1 + ((blocksOf x).map fun b => cntW n (itemsOf b)).sum := by
  rw [cntW_succ, List.map_singleton, List.sum_singleton]
  rfl
def tellD (z : Str) (k : Int) : D := .tup [.str "tell", .str z, .int k]
theorem tellp1 : Sim (tellD "p" 1) := sim_of (by decide +kernel)
theorem tellq1 : Sim (tellD "q" 1) := sim_of (by decide +kernel)
theorem outer1 (ys : List D) (hs : ∀ x ∈ ys, Sim x) : ∃ due, badR (.tup [tellD "p" 1, openD [.tup [], .tup ys]]) = due ∧ (12 < ys.length → due = some (.tup [.int 1])) ∧ (ys.length ≤ 12 → due = none) ∧ cntW 16 [tellD "p" 1, openD [.tup [], .tup ys]] = ys.length + 2 := by
  have hc : cntW 16 [tellD "p" 1, openD [.tup [], .tup ys]] = ys.length + 2 := by
    rw [show [tellD "p" 1, openD [.tup [], .tup ys]] = [tellD "p" 1] ++ [openD [.tup [], .tup ys]] from rfl, cnt_app 15, cnt_one 15 (openD _), open_blocks, sims_c (n := 15) fun x hx => by rw [List.mem_singleton.mp hx]; exact tellp1]
    have h1 := sims_c hs 14
    have h2 : cntW 15 [] = 0 := rfl
    simp only [List.map_cons, List.map_nil, List.sum_cons, List.sum_nil, itemsOf, h1, h2, List.length_singleton]
    omega
  by_cases h : ys.length ≤ 12
  · refine ⟨none, bad_none rfl ?_ (by rw [show itemsOf (.tup [tellD "p" 1, openD [.tup [], .tup ys]]) = [tellD "p" 1, openD [.tup [], .tup ys]] from rfl, hc]; omega), fun q => absurd h (by omega), fun _ => rfl, hc⟩
    show okW (15 + 1) ([tellD "p" 1] ++ [openD [.tup [], .tup ys]]) 1 false = true
    rw [ok_app, sims_ok (fun x hx => by rw [List.mem_singleton.mp hx]; exact tellp1), okW_succ]
    simp only [List.all_cons, List.all_nil, Bool.and_true, Bool.true_and]
    refine item_ok (deep_ok ?_ ?_ (by decide) ?_) ?_
    · rw [open_stmt]
      simp [areBlocks, isBlk, h]
      omega
    · rw [open_head]; decide +kernel
    · rw [open_head]; intro q; exact absurd q (by decide +kernel)
    · intro b hb
      rw [open_blocks] at hb
      rcases List.mem_cons.mp hb with e | e
      · rw [e]; rfl
      · rw [List.mem_singleton.mp e]; exact sims_ok hs _ _ _
  · refine ⟨some (.tup [.int 1]), outer_bad (A := [tellD "p" 1]) (R := []) (fun x hx => by rw [List.mem_singleton.mp hx]; exact tellp1) (stmt_wrong ?_ _ _) (by simp), fun _ => rfl, fun q => absurd q h, hc⟩
    rw [open_stmt]
    have : isBlk (.tup ys) = false := blk_not (by omega)
    simp [areBlocks, this]
theorem outer2 (ys : List D) (hs : ∀ x ∈ ys, Sim x) : ∃ due, badR (.tup [.tup [.str "hear", .str "p", .str "a"], repD (.tup (tellD "q" 1 :: ys)), .tup [.str "home"]]) = due ∧ (11 < ys.length → due = some (.tup [.int 1])) ∧ (ys.length ≤ 11 → due = none) ∧ cntW 16 [.tup [.str "hear", .str "p", .str "a"], repD (.tup (tellD "q" 1 :: ys)), .tup [.str "home"]] = ys.length + 4 := by
  have hs' : ∀ x ∈ tellD "q" 1 :: ys, Sim x := fun x hx => by
    rcases List.mem_cons.mp hx with e | e
    · rw [e]; exact tellq1
    · exact hs x e
  have s1 : ∀ x ∈ [D.tup [.str "hear", .str "p", .str "a"]], Sim x := fun x hx => by rw [List.mem_singleton.mp hx]; exact hear_sim
  have s2 : ∀ x ∈ [D.tup [.str "home"]], Sim x := fun x hx => by rw [List.mem_singleton.mp hx]; exact home_sim
  have hc : cntW 16 [.tup [.str "hear", .str "p", .str "a"], repD (.tup (tellD "q" 1 :: ys)), .tup [.str "home"]] = ys.length + 4 := by
    rw [show [D.tup [.str "hear", .str "p", .str "a"], repD (.tup (tellD "q" 1 :: ys)), .tup [.str "home"]] = [.tup [.str "hear", .str "p", .str "a"]] ++ ([repD (.tup (tellD "q" 1 :: ys))] ++ [.tup [.str "home"]]) from rfl, cnt_app 15, cnt_app 15, cnt_one 15 (repD _), rep_blocks, sims_c s1 15, sims_c s2 15]
    have h1 := sims_c hs' 14
    simp only [List.map_cons, List.map_nil, List.sum_cons, List.sum_nil, itemsOf, h1]
    simp
    omega
  by_cases h : ys.length ≤ 11
  · refine ⟨none, bad_none rfl ?_ (by rw [show itemsOf (.tup [.tup [.str "hear", .str "p", .str "a"], repD (.tup (tellD "q" 1 :: ys)), .tup [.str "home"]]) = [.tup [.str "hear", .str "p", .str "a"], repD (.tup (tellD "q" 1 :: ys)), .tup [.str "home"]] from rfl, hc]; omega), fun q => absurd h (by omega), fun _ => rfl, hc⟩
    show okW (15 + 1) ([.tup [.str "hear", .str "p", .str "a"]] ++ ([repD (.tup (tellD "q" 1 :: ys))] ++ [.tup [.str "home"]])) 1 false = true
    rw [ok_app, ok_app, sims_ok s1, sims_ok s2, okW_succ]
    simp only [List.all_cons, List.all_nil, Bool.and_true, Bool.true_and]
    refine item_ok (deep_ok ?_ ?_ (by decide) ?_) ?_
    · rw [rep_stmt]
      exact blk_of (by rw [List.length_cons]; omega)
    · rw [rep_head]; decide +kernel
    · exact fun _ => tells_deals tellq1.stmt
    · intro b hb
      rw [rep_blocks] at hb
      rw [List.mem_singleton.mp hb]; exact sims_ok hs' _ _ _
  · refine ⟨some (.tup [.int 1]), outer_bad (A := [.tup [.str "hear", .str "p", .str "a"]]) (R := [.tup [.str "home"]]) s1 (stmt_wrong ?_ _ _) (by simp), fun _ => rfl, fun q => absurd q h, hc⟩
    rw [rep_stmt]
    exact blk_not (by rw [List.length_cons]; omega)
end LW
namespace LW
open PySem PySem.Spec PyProof.Rows L2 DL
/-! the drawn sizes -/
theorem pure_t0 : pureN 60 (.tup []) = true := by decide +kernel
theorem pure_t1 : pureN 60 (.tup [.int 1]) = true := by decide +kernel
/-! steps that are met again and again -/
theorem if_set {t : WT Unit} {i : Nat} {w : W Unit} {v : WS Unit} {M : ED Unit} {env : LEnv} {s : Unit} (b : Bool) (lv : LV) (env' : LEnv) (h1 : ∀ P N, t env s P N = P b s) (h2 : b = true → ∀ P N, w env s P N = P lv s) (h3 : env' = if b = true then env.set i (some lv) else env) :
    wSeq (wIfS t (wSet i w) wNx) v M env s = v M env' s := by
  subst h3
  rw [seq_if b h1]
  cases b with
  | true =>
    show w env s (fun lv s1 => v M (env.set i (some lv)) s1) _ = _
    rw [h2 rfl]
    rfl
  | false => rfl
theorem frz {i : Nat} {u : WS Unit} {M : ED Unit} {env : LEnv} {s : Unit} (x : D) (h : env.at i = some (.d x)) (e : env.set i (some (.d x)) = env) : wFrz i u M env s = u M env s := by
  unfold wFrz
  rw [h]
  show u M (env.set i (some (.d x))) s = _
  rw [e]
theorem seq_frz {i : Nat} {u v : WS Unit} {M : ED Unit} {env : LEnv} {s : Unit} (x : D) (h : env.at i = some (.d x)) (e : env.set i (some (.d x)) = env) : wSeq (wFrz i u) v M env s = wSeq u v M env s := frz x h e
theorem draw_if {ga : Addr} {j : Nat} {many c : Int} {u v : WS Unit} {M : ED Unit} {env : LEnv} (he : env.at j = some (.raw (.ref ga))) (hm : 0 < many) (hl : many.natAbs.log2 < 9000) (h1 : u { M with nx := v M } env ()) (h2 : v M env ()) :
    wSeq (wIfS (wTb (wOp (eqF false) (wCl (m__law_draw ga) [] (wCons (wV j) (wCons (wC (.int many)) wNil))) (wC (.int c)))) u wNx) v M env () := by
  unfold wSeq wIfS wTb wOp
  refine w_draw he hm hl fun r h0 h1' => ?_
  simp only [wC, eqF, sEq]
  by_cases h : r = c
  · rw [decide_eq_true h]; exact h1
  · rw [decide_eq_false h]; exact h2
structure Fits (b : D) (due : Option D) (many : Int) : Prop where
  good : good b = true
  bad : badR b = due
  pure : ∀ y, due = some y → pureN 60 y = true
  many : due = none → many < 0 ∨ cntW 16 (itemsOf b) = many
theorem agrees_if {wa : WA Unit} {M : ED Unit} {env : LEnv} (b : D) (due : Option D) (many : Int) (hwa : ∀ P N, wa env () P N = P [.d b, .d (dueD due), .d (.int many)] ()) (f : Fits b due many) (h : M.nx env ()) :
    wIfS (wtNot (wTr (wClU m__law_agrees [] wa))) (wRet (wC (.bl false))) wNx M env () := by
  unfold wIfS wtNot wTr wClU
  rw [hwa]
  exact agrees_ok b due many _ f.good f.bad f.pure f.many h
theorem agrees_seq {wa : WA Unit} {v : WS Unit} {M : ED Unit} {env : LEnv} (b : D) (due : Option D) (many : Int) (hwa : ∀ P N, wa env () P N = P [.d b, .d (dueD due), .d (.int many)] ()) (f : Fits b due many) (h : v M env ()) :
    wSeq (wIfS (wtNot (wTr (wClU m__law_agrees [] wa))) (wRet (wC (.bl false))) wNx) v M env () := agrees_if b due many hwa f h
theorem agrees_ret {wa : WA Unit} {M : ED Unit} {env : LEnv} (b : D) (due : Option D) (many : Int) (hwa : ∀ P N, wa env () P N = P [.d b, .d (dueD due), .d (.int many)] ()) (f : Fits b due many) (h : M.rt (.d (.bl true)) ()) :
    wRet (wClU m__law_agrees [] wa) M env () := by
  unfold wRet wClU
  rw [hwa]
  exact agrees_ok b due many _ f.good f.bad f.pure f.many h
theorem sizes_tail (ga : Addr) (ys : List D) (r : Int) (h0 : 0 ≤ r) (h1 : r < 6) (hl : (ys.length : Int) = 9 + r) (hs : ∀ x ∈ ys, Sim x) (P : LV → Unit → Prop) (h : P (.d (.bl true)) ())
    (M : ED Unit) (hM : M.rt = P) :
    wSeq (wSet 3 (wC (.str "let"))) (wSeq (wIfS (wTb (wOp gtI (wVb 1) (wC (.int 12)))) (wSet 3 (wTup wNil)) wNx)
    (wSeq (wFrz 2 (wFrz 1 (wIfS (wtNot (wTr (wClU m__law_agrees [] (wCons (wV 2) (wCons (wV 3) (wCons (wV 1) wNil)))))) (wRet (wC (.bl false))) wNx)))
    (wSeq (wIfS (wTb (wOp gtI (wVb 1) (wC (.int 12)))) (wSet 3 (wTup (wCons (wC (.int 1)) wNil))) wNx)
    (wSeq (wFrz 2 (wSet 4 (wTup (wCons (wTup (wCons (wC (.str "tell")) (wCons (wC (.str "p")) (wCons (wC (.int 1)) wNil)))) (wCons (wTup (wCons (wC (.str "open")) (wCons (wTup (wCons (wTup wNil) (wCons (wV 2) wNil))) wNil))) wNil)))))
    (wSeq (wIfS (wTb (wOp (eqF false) (wCl (m__law_draw ga) [] (wCons (wV 0) (wCons (wC (.int 2)) wNil))) (wC (.int 0)))) (wSeq (wSet 4 (wTup (wCons (wTup (wCons (wC (.str "hear")) (wCons (wC (.str "p")) (wCons (wC (.str "a")) wNil)))) (wCons (wTup (wCons (wC (.str "repeat")) (wCons (wOp addF (wTup (wCons (wTup (wCons (wC (.str "tell")) (wCons (wC (.str "q")) (wCons (wC (.int 1)) wNil)))) wNil)) (wSl (wVb 2) (woS (wC (.int 1))) woN)) wNil))) (wCons (wTup (wCons (wC (.str "home")) wNil)) wNil)))))
    (wRet (wClU m__law_agrees [] (wCons (wV 4) (wCons (wV 3) (wCons (wOp addF (wVb 1) (wC (.int 3))) wNil)))))) wNx)
    (wRet (wClU m__law_agrees [] (wCons (wV 4) (wCons (wV 3) (wCons (wOp addF (wVb 1) (wC (.int 2))) wNil)))))))))) M
    [some (.raw (.ref ga)), some (.d (.int (9 + r))), some (.d (.tup ys)), none, none, none] () := by
  have hbig : 100000 < sizeLine := by decide
  obtain ⟨z, zs, rfl⟩ : ∃ z zs, ys = z :: zs := by
    cases ys with
    | nil => exact absurd hl (by simp; omega)
    | cons z zs => exact ⟨z, zs, rfl⟩
  have hzs : ∀ x ∈ zs, Sim x := fun x hx => hs x (List.mem_cons_of_mem _ hx)
  obtain ⟨d1, b1, b2, b3, b4⟩ := sizes_in (z :: zs) hs
  obtain ⟨d2, c1, c2, c3, c4⟩ := outer1 (z :: zs) hs
  obtain ⟨d3, e1, e2, e3, e4⟩ := outer2 zs hzs
  have hlz : ((z :: zs).length : Int) = zs.length + 1 := by simp
  have g1 : good (.tup (z :: zs)) = true := sims_good hs
  have g2 : good (.tup [tellD "p" 1, openD [.tup [], .tup (z :: zs)]]) = true := by
    refine goods_of fun x hx => ?_
    rcases List.mem_cons.mp hx with e | e
    · rw [e]; exact tellp1.good
    · rw [List.mem_singleton.mp e]
      exact open_good (goods_of fun x hx => by
        rcases List.mem_cons.mp hx with e | e
        · rw [e]; rfl
        · rw [List.mem_singleton.mp e]; exact g1)
  have g3 : good (.tup [.tup [.str "hear", .str "p", .str "a"], repD (.tup (tellD "q" 1 :: zs)), .tup [.str "home"]]) = true := by
    refine goods_of fun x hx => ?_
    rcases List.mem_cons.mp hx with e | e
    · rw [e]; exact hear_sim.good
    · rcases List.mem_cons.mp e with e | e
      · rw [e]
        exact rep_good (goods_of fun x hx => by
          rcases List.mem_cons.mp hx with e | e
          · rw [e]; exact tellq1.good
          · exact (hzs x e).good)
      · rw [List.mem_singleton.mp e]; exact home_sim.good
  have f1 : Fits (.tup (z :: zs)) d1 (9 + r) := ⟨g1, b1, fun y e => (by
    by_cases hb : 12 < (z :: zs).length
    · rw [b2 hb] at e; cases e; exact pure_t0
    · rw [b3 (by omega)] at e; cases e), fun _ => .inr (b4.trans hl)⟩
  have f2 : Fits (.tup [tellD "p" 1, openD [.tup [], .tup (z :: zs)]]) d2 (9 + r + 2) := ⟨g2, c1, fun y e => (by
    by_cases hb : 12 < (z :: zs).length
    · rw [c2 hb] at e; cases e; exact pure_t1
    · rw [c3 (by omega)] at e; cases e), fun _ => .inr (c4.trans (by rw [hl]))⟩
  have f3 : Fits (.tup [.tup [.str "hear", .str "p", .str "a"], repD (.tup (tellD "q" 1 :: zs)), .tup [.str "home"]]) d3 (9 + r + 3) := ⟨g3, e1, fun y e => (by
    by_cases hb : 11 < zs.length
    · rw [e2 hb] at e; cases e; exact pure_t1
    · rw [e3 (by omega)] at e; cases e), fun _ => .inr (e4.trans (by omega))⟩
  have k1 : dueD d1 = if decide ((12 : Int) < 9 + r) = true then .tup [] else .str "let" := by
    by_cases hb : (12 : Int) < 9 + r
    · rw [b2 (by omega), decide_eq_true hb]; rfl
    · rw [b3 (by omega), decide_eq_false hb]; rfl
  have k2 : dueD d2 = if decide ((12 : Int) < 9 + r) = true then .tup [.int 1] else .str "let" := by
    by_cases hb : (12 : Int) < 9 + r
    · rw [c2 (by omega), decide_eq_true hb]; rfl
    · rw [c3 (by omega), decide_eq_false hb]; rfl
  have k3 : dueD d3 = dueD d2 := by
    by_cases hb : (12 : Int) < 9 + r
    · rw [c2 (by omega), e2 (by omega)]
    · rw [c3 (by omega), e3 (by omega)]
  rw [seq_set (.d (.str "let")) fun P N => rfl]
  simp only [List.set_cons_succ, List.set_cons_zero]
  rw [if_set (decide ((12 : Int) < 9 + r)) (.d (.tup [])) [some (.raw (.ref ga)), some (.d (.int (9 + r))), some (.d (.tup (z :: zs))), some (.d (dueD d1)), none, none] (fun P N => rfl) (fun _ P N => by simp only [wTup, wNil, dsOf]; exact propext (and_iff_right (Nat.zero_le _)))
    (by rw [k1]; by_cases hb : (12 : Int) < 9 + r <;> simp [hb])]
  rw [seq_frz (.tup (z :: zs)) rfl rfl, seq_frz (.int (9 + r)) rfl rfl]
  refine agrees_seq (.tup (z :: zs)) d1 (9 + r) (fun P N => rfl) f1 ?_
  rw [if_set (decide ((12 : Int) < 9 + r)) (.d (.tup [.int 1])) [some (.raw (.ref ga)), some (.d (.int (9 + r))), some (.d (.tup (z :: zs))), some (.d (dueD d2)), none, none] (fun P N => rfl) (fun _ P N => by simp only [wTup, wCons, wC, wNil, dsOf]; exact propext (and_iff_right (by decide)))
    (by rw [k2, k1]; by_cases hb : (12 : Int) < 9 + r <;> simp [hb])]
  rw [seq_frz (.tup (z :: zs)) rfl rfl, seq_set (.d (.tup [tellD "p" 1, openD [.tup [], .tup (z :: zs)]])) fun P N => by
    simp only [wTup, wCons, wC, wV, wNil, dsOf, LEnv.at, LV.fz, List.length_cons, List.length_nil, List.cons_append, List.nil_append]
    simp [tellD, openD]]
  simp only [List.set_cons_succ, List.set_cons_zero]
  refine draw_if rfl (by decide) (by decide +kernel) ?_ ?_
  · have hz2 : 1 + zs.length ≤ sizeLine := by omega
    rw [seq_set (.d (.tup [.tup [.str "hear", .str "p", .str "a"], repD (.tup (tellD "q" 1 :: zs)), .tup [.str "home"]])) fun P N => by
      simp only [wTup, wCons, wC, wV, wNil, dsOf, LEnv.at, LV.fz, List.length_cons, List.length_nil, List.cons_append, List.nil_append, wOp, wSl, wVb, woS, woN, slF, LV.lis, cut1, addF]
      simp [tellD, repD, hz2]]
    simp only [List.set_cons_succ, List.set_cons_zero]
    refine agrees_ret (.tup [.tup [.str "hear", .str "p", .str "a"], repD (.tup (tellD "q" 1 :: zs)), .tup [.str "home"]]) d3 (9 + r + 3) (fun P N => ?_) f3 (by rw [hM]; exact h)
    rw [k3]
    simp only [wCons, wV, wNil, wOp, wVb, wC, LEnv.at, LV.fz, addF]
  · refine agrees_ret (.tup [tellD "p" 1, openD [.tup [], .tup (z :: zs)]]) d2 (9 + r + 2) (fun P N => ?_) f2 (by rw [hM]; exact h)
    simp only [wCons, wV, wNil, wOp, wVb, wC, LEnv.at, LV.fz, addF]
theorem sizes_ok (ga : Addr) (P : LV → Unit → Prop) (h : P (.d (.bl true)) ()) : m__law_sizes_agree ga [.raw (.ref ga)] () P noX := by
  have hbig : 100000 < sizeLine := by decide
  refine ⟨rfl, ?_⟩
  unfold u__law_sizes_agree
  simp only [wSeq, wSet, wOp, wC, wCl, wCons, wV, wNil, LEnv.at, startN, List.map_cons, List.map_nil, List.cons_append, List.nil_append, List.set_cons_succ, List.set_cons_zero, List.length_cons, List.length_nil, Nat.reduceAdd, Nat.reduceSub, List.replicate_succ, List.replicate_zero, LV.fz, List.append_nil]
  refine draw_ok (by decide) (by decide +kernel) fun r h0 h1 => ?_
  simp only [addF]
  simp only [wFrz, wSet, wUn, wLc, wRng1, wV, LEnv.at, LV.fz, List.set_cons_succ, List.set_cons_zero]
  refine ⟨by omega, ?_⟩
  refine ⟨by rw [rngD_eq, rngL_len]; omega, ?_⟩
  refine wLc_any Sim _ [] (fun y hy => ⟨_, fun K => rfl, fun P N => rfl, fun P N hP => ?_⟩) fun ys hl hs => ?_
  · simp only [wCl, wCons, wV, wNil, wipeE, LV.fz, LEnv.at, List.set_cons_succ, List.set_cons_zero, List.append_nil]
    exact simple_ok ga _ fun x hx => hP x _ rfl hx
  · rw [rngD_eq, rngL_len] at hl
    rw [List.nil_append]
    simp only [tupleF, LV.seq, LV.lis]
    exact sizes_tail ga ys r h0 h1 (by omega) hs P h _ rfl
end LW
namespace LW
open PySem PySem.Spec PyProof.Rows L2 DL
/-! rows and blocks of an open line -/
def lettersL : List Nat := lettersS.cps.toList
theorem letters_len : lettersL.length = 26 := by decide +kernel
def repL (k : Int) (xs : List D) : List D := if xs = [] ∨ k = 1 then xs else if k ≤ 0 then [] else (List.replicate k.toNat xs).flatten
theorem mul_rep {xs : List D} {k : Int} (h0 : 0 ≤ k) (h1 : k ≤ 1000) (hl : xs.length ≤ 1000) (P : LV → Prop) : mulF2 (.d (.tup xs)) (.d (.int k)) P = P (.d (.tup (repL k xs))) := by
  unfold mulF2 repL
  by_cases h : xs = [] ∨ k = 1
  · simp only [if_pos h]
    exact propext (and_iff_right (by omega))
  · by_cases h2 : k ≤ 0
    · simp only [if_neg h, if_pos h2]
      exact propext (and_iff_right (by omega))
    · simp only [if_neg h, if_neg h2]
      exact propext ⟨fun q => q.2.2, fun q => ⟨by omega, ⟨h1, hl⟩, q⟩⟩
def letK (i : Int) : D := match atI lettersL i with
  | some c => .str ⟨#[c]⟩
  | none => .non
theorem let_at {i : Int} (h0 : 0 ≤ i) (h1 : i < 26) (P : LV → Prop) : ixF (.d (.str "abcdefghijklmnopqrstuvwxyz")) (.d (.int i)) P = P (.d (letK i)) := by
  obtain ⟨c, _, e⟩ := atI_mem (xs := lettersL) h0 (by rw [letters_len]; omega)
  have e' : atI (Str.ofString "abcdefghijklmnopqrstuvwxyz").cps.toList i = some c := e
  have hl : (Str.ofString "abcdefghijklmnopqrstuvwxyz").length ≤ sizeLine := by decide +kernel
  simp only [ixF, LV.seq, e', letK, e]
  exact propext (and_iff_right hl)
def rowK (s : Int) (x : D) : D := match x with
  | .int k => .tup [letK (s + k), .str "a", .tup (repL (k % 2) [.tup [.str "home"]])]
  | x => x
def setK (x : D) : D := match x with
  | .int k => .tup (repL (k % 3) [.tup [.str "set", .str "a", .int k]])
  | x => x
def setb1 : D := .tup [.str "set", .str "b", .int 1]
def waitK (s : Int) (n : Nat) : D := .tup [.str "wait", .tup ((rngL 0 (n + 1)).map (rowK s))]
def openK (n : Nat) : D := .tup [.str "open", .tup ((rngL 0 (n + 1)).map setK)]
theorem setb1_sim : Sim setb1 := sim_of (by decide +kernel)
theorem wait_good : ∀ s < 20, ∀ n < 6, good (.tup [setb1, waitK (s : Nat) n]) = true := by decide +kernel
theorem wait_let : ∀ s < 20, ∀ n < 4, okW 16 [setb1, waitK (s : Nat) n] 1 false = true ∧ cntW 16 [setb1, waitK (s : Nat) n] ≤ 6000 := by decide +kernel
theorem wait_bad : ∀ s < 20, ∀ n < 6, 4 ≤ n → isStmt (waitK (s : Nat) n) = false := by decide +kernel
theorem open_goodK : ∀ n < 6, good (.tup [setb1, openK n, .tup [.str "home"]]) = true := by decide +kernel
theorem open_let : ∀ n < 4, okW 16 [setb1, openK n, .tup [.str "home"]] 1 false = true ∧ cntW 16 [setb1, openK n, .tup [.str "home"]] ≤ 6000 := by decide +kernel
theorem open_bad : ∀ n < 6, 4 ≤ n → isStmt (openK n) = false := by decide +kernel
def dueK (n : Nat) : Option D := if n < 4 then none else some (.tup [.int 1])
theorem wait_fits {s n : Nat} (hs : s < 20) (hn : n < 6) : Fits (.tup [setb1, waitK s n]) (dueK n) (-1) := by
  refine ⟨wait_good s hs n hn, ?_, fun y e => ?_, fun _ => .inl (by decide)⟩
  · unfold dueK
    by_cases h : n < 4
    · rw [if_pos h]
      exact bad_none rfl (wait_let s hs n h).1 (wait_let s hs n h).2
    · rw [if_neg h]
      exact outer_bad (A := [setb1]) (R := []) (fun x hx => by rw [List.mem_singleton.mp hx]; exact setb1_sim) (stmt_wrong (wait_bad s hs n hn (by omega)) _ _) (by simp)
  · unfold dueK at e
    split at e
    · cases e
    · cases e; exact pure_t1
theorem open_fits {n : Nat} (hn : n < 6) : Fits (.tup [setb1, openK n, .tup [.str "home"]]) (dueK n) (-1) := by
  refine ⟨open_goodK n hn, ?_, fun y e => ?_, fun _ => .inl (by decide)⟩
  · unfold dueK
    by_cases h : n < 4
    · rw [if_pos h]
      exact bad_none rfl (open_let n h).1 (open_let n h).2
    · rw [if_neg h]
      exact outer_bad (A := [setb1]) (R := [.tup [.str "home"]]) (fun x hx => by rw [List.mem_singleton.mp hx]; exact setb1_sim) (stmt_wrong (open_bad n hn (by omega)) _ _) (by simp)
  · unfold dueK at e
    split at e
    · cases e
    · cases e; exact pure_t1
theorem rng_mem {n : Nat} {lo : Int} {x : D} (h : x ∈ rngL lo n) : ∃ k : Int, x = .int k ∧ lo ≤ k ∧ k < lo + n := by
  induction n generalizing lo with
  | zero => cases h
  | succ n ih =>
    rcases List.mem_cons.mp h with e | e
    · exact ⟨lo, e, by omega, by omega⟩
    · obtain ⟨k, e, h1, h2⟩ := ih e
      exact ⟨k, e, by omega, by omega⟩
theorem rows_ok (ga : Addr) (P : LV → Unit → Prop) (h : P (.d (.bl true)) ()) : m__law_rows_agree ga [.raw (.ref ga)] () P noX := by
  have hbig : 100000 < sizeLine := by decide
  refine ⟨rfl, ?_⟩
  unfold u__law_rows_agree
  simp only [wSeq, wSet, wOp, wC, wCl, wCons, wV, wNil, LEnv.at, startN, List.map_cons, List.map_nil, List.cons_append, List.nil_append, List.set_cons_succ, List.set_cons_zero, List.length_cons, List.length_nil, Nat.reduceAdd, Nat.reduceSub, List.replicate_succ, List.replicate_zero, LV.fz, List.append_nil]
  refine draw_ok (by decide) (by decide +kernel) fun r h0 h1 => ?_
  simp only [addF]
  refine draw_ok (by decide) (by decide +kernel) fun s s0 s1 => ?_
  obtain ⟨n, rfl⟩ := Int.eq_ofNat_of_zero_le h0
  obtain ⟨s, rfl⟩ := Int.eq_ofNat_of_zero_le s0
  have hn : n < 6 := by omega
  have hs : s < 20 := by omega
  have e1 : ((1 : Int) + (n : Int)).toNat = n + 1 := by omega
  simp only [wFrz, wSet, wUn, wLc, wRng1, wV, LEnv.at, LV.fz, List.set_cons_succ, List.set_cons_zero, rngD_eq, e1]
  refine ⟨by omega, ?_⟩
  refine ⟨by rw [rngL_len]; omega, ?_⟩
  rw [wLc_map (rowK s) _ [] fun x hx => ⟨_, fun K => rfl, fun P N => rfl, fun P N => by
    obtain ⟨k, rfl, k0, k1⟩ := rng_mem hx
    simp only [gN, wTup, wCons, wC, wNil, wOp, wVb, wipeE, LEnv.at, List.set_cons_succ, List.set_cons_zero]
    have mr := fun P => mul_rep (k := k % 2) (xs := [.tup [.str "home"]]) (by omega) (by omega) (by simp) P
    have la := fun P => let_at (i := (s : Int) + k) (by omega) (by omega) P
    simp only [addF, la, LV.fz, dsOf, modF, iiF, mr, List.length_cons, List.length_nil]
    simp [rowK, mr]⟩]
  rw [List.nil_append]
  simp only [tupleF, LV.seq, LV.lis]
  rw [seq_frz (.int (1 + n)) rfl rfl]
  rw [seq_set (.d (.tup ((rngL 0 (n + 1)).map setK))) fun P N => by
    simp only [wUn, wLc, wRng1, wV, LEnv.at, LV.fz, rngD_eq, e1]
    refine (propext (and_iff_right (by omega))).trans ?_
    refine (propext (and_iff_right (by rw [rngL_len]; omega))).trans ?_
    rw [wLc_map setK _ [] fun x hx => ⟨_, fun K => rfl, fun P N => rfl, fun P N => by
      obtain ⟨k, rfl, k0, k1⟩ := rng_mem hx
      simp only [gN, wTup, wCons, wC, wV, wNil, wOp, wVb, wipeE, LEnv.at, List.set_cons_succ, List.set_cons_zero]
      have mr := fun P => mul_rep (k := k % 3) (xs := [.tup [.str "set", .str "a", .int k]]) (by omega) (by omega) (by simp) P
      simp only [LV.fz, dsOf, modF, iiF, mr, List.length_cons, List.length_nil]
      simp [setK, mr]⟩]
    rw [List.nil_append]
    rfl]
  simp only [List.set_cons_succ, List.set_cons_zero]
  rw [seq_set (.d (.str "let")) fun P N => rfl]
  simp only [List.set_cons_succ, List.set_cons_zero]
  have k1 : dueD (dueK n) = if decide ((4 : Int) < 1 + n) = true then .tup [.int 1] else .str "let" := by
    unfold dueK
    by_cases hb : n < 4
    · rw [if_pos hb, decide_eq_false (by omega)]; rfl
    · rw [if_neg hb, decide_eq_true (by omega)]; rfl
  rw [if_set (decide ((4 : Int) < 1 + n)) (.d (.tup [.int 1])) [some (.raw (.ref ga)), some (.d (.int (1 + n))), some (.d (.int s)), some (.d (.tup ((rngL 0 (n + 1)).map (rowK s)))), some (.d (.tup ((rngL 0 (n + 1)).map setK))), some (.d (dueD (dueK n))), none] (fun P N => rfl) (fun _ P N => by simp only [wTup, wCons, wC, wNil, dsOf]; exact propext (and_iff_right (by decide)))
    (by rw [k1]; by_cases hb : (4 : Int) < 1 + n <;> simp [hb])]
  rw [seq_frz (.tup ((rngL 0 (n + 1)).map (rowK s))) rfl rfl]
  refine agrees_seq (.tup [setb1, waitK s n]) (dueK n) (-1) (fun P N => ?_) (wait_fits hs hn) ?_
  · simp only [wCons, wTup, wV, wC, wNil, wNeg, LEnv.at, LV.fz, dsOf, List.length_cons, List.length_nil]
    simp [setb1, waitK]
  · rw [frz (.tup ((rngL 0 (n + 1)).map setK)) rfl rfl]
    refine agrees_ret (.tup [setb1, openK n, .tup [.str "home"]]) (dueK n) (-1) (fun P N => ?_) (open_fits hn) h
    simp only [wCons, wTup, wV, wC, wNil, wNeg, LEnv.at, LV.fz, dsOf, List.length_cons, List.length_nil]
    simp [setb1, openK]
end LW
namespace LW
open PySem PySem.Spec PyProof.Rows L2 DL
/-! expressions that are drawn -/
structure Ex (x : D) (k : Nat) : Prop where
  good : good x = true
  pos : 1 ≤ k
  expr : ∀ (n : Nat) (r : Int), k ≤ n → isExpr n x r = decide ((k : Int) ≤ r)
theorem paired_in {w : Str} (h : w ∈ pairedW) : w ≠ "name" ∧ w ≠ "not" := by
  have : ∀ w ∈ pairedW, w ≠ "name" ∧ w ≠ "not" := by decide +kernel
  exact this w h
theorem paired_good {w : Str} (h : w ∈ pairedW) : good (.str w) = true := by
  have : ∀ w ∈ pairedW, good (.str w) = true := by decide +kernel
  exact this w h
theorem ex_dig {i : Int} (h0 : 0 ≤ i) (h9 : i ≤ 9) : Ex (.int i) 1 := ⟨rfl, Nat.le_refl _, fun n r hn => by
  obtain ⟨m, rfl⟩ : ∃ m, n = m + 1 := ⟨n - 1, by omega⟩
  unfold isExpr
  by_cases h : r < 1
  · rw [if_pos h]; exact (decide_eq_false (by omega)).symm
  · rw [if_neg h]
    simp only [isDig, h0, h9, decide_true, Bool.and_self, if_true]
    exact (decide_eq_true (by omega)).symm⟩
theorem ex_name {y : D} (hy : isName y = true) (hg : good y = true) : Ex (.tup [.str "name", y]) 1 := ⟨by
  have : good (.str "name") = true := by decide +kernel
  simp only [good, goods] at this ⊢
  rw [this, hg]
  rfl, Nat.le_refl _, fun n r hn => by
  obtain ⟨m, rfl⟩ : ∃ m, n = m + 1 := ⟨n - 1, by omega⟩
  unfold isExpr
  by_cases h : r < 1
  · rw [if_pos h]; exact (decide_eq_false (by omega)).symm
  · rw [if_neg h, if_neg (by exact Bool.false_ne_true)]
    simp only [if_true, hy]
    exact (decide_eq_true (by omega)).symm⟩
theorem ex_not {x : D} {k : Nat} (h : Ex x k) : Ex (.tup [.str "not", x]) (k + 1) := ⟨by
  have : good (.str "not") = true := by decide +kernel
  have hg := h.good
  simp only [good, goods] at this ⊢
  rw [this, hg]
  rfl, by omega, fun n r hn => by
  obtain ⟨m, rfl⟩ : ∃ m, n = m + 1 := ⟨n - 1, by omega⟩
  have hp := h.pos
  unfold isExpr
  by_cases h1 : r < 1
  · rw [if_pos h1]; exact (decide_eq_false (by omega)).symm
  · rw [if_neg h1, if_neg (by exact Bool.false_ne_true)]
    simp only [wne, if_false, if_true, h.expr m (r - 1) (by omega)]
    exact decide_eq_decide.mpr (by omega)⟩
theorem ex_pair {w : Str} (hw : w ∈ pairedW) {x y : D} {k l m : Nat} (h : Ex x k) (h' : Ex y l) (hm : m = max k l + 1) : Ex (.tup [.str w, x, y]) m := ⟨by
  have := paired_good hw
  have hg := h.good
  have hg' := h'.good
  simp only [good, goods] at this ⊢
  rw [this, hg, hg']
  rfl, by omega, fun n r hn => by
  obtain ⟨i, rfl⟩ : ∃ m, n = m + 1 := ⟨n - 1, by omega⟩
  have hp := h.pos
  have hp' := h'.pos
  obtain ⟨n1, n2⟩ := paired_in hw
  unfold isExpr
  by_cases h1 : r < 1
  · rw [if_pos h1]; exact (decide_eq_false (by omega)).symm
  · rw [if_neg h1, if_neg (by exact Bool.false_ne_true)]
    simp only [n1, n2, hw, if_false, if_true, h.expr i (r - 1) (by omega), h'.expr i (r - 1) (by omega)]
    rw [← Bool.decide_and]
    exact decide_eq_decide.mpr (by omega)⟩
def stE (v : D) : List D := [.tup [.str "set", .str "a", v], .tup [.str "tell", .str "p", v], .tup [.str "if", v, .tup [], .tup [.tup [.str "fail"]]]]
def dueE (k : Nat) : Option D := if k ≤ 5 then none else some (.tup [.int 1])
theorem fail_sim : Sim (.tup [.str "fail"]) := sim_of (by decide +kernel)
theorem if_blocks (v b c : D) : blocksOf (.tup [.str "if", v, b, c]) = [b, c] := by simp [blocksOf, wne]
theorem stE_stmt {v : D} {k : Nat} (h : Ex v k) (hk : k ≤ 7) : ∀ x ∈ stE v, isStmt x = decide (k ≤ 5) := by
  have e := h.expr 8 5 (by omega)
  have a : isName (.str "a") = true := by decide +kernel
  have p : isName (.str "p") = true := by decide +kernel
  have b : isBlk (.tup []) = true := rfl
  have c : isBlk (.tup [.tup [.str "fail"]]) = true := rfl
  have q : decide ((k : Int) ≤ 5) = decide (k ≤ 5) := decide_eq_decide.mpr (by omega)
  intro x hx
  rcases List.mem_cons.mp hx with z | z
  · rw [z]; simp only [isStmt, true_or, if_true, isDeal, wne, a, e, q]; simp [wne]
  · rcases List.mem_cons.mp z with z | z
    · rw [z]; simp only [isStmt, isDeal, wne, p, e, q]; simp [wne]
    · rw [List.mem_singleton.mp z]; simp only [isStmt, isIf, wne, b, c, e, q]; simp [wne]
theorem stE_good {v : D} (h : good v = true) : ∀ x ∈ stE v, good x = true := by
  have g : ∀ z : Str, good (.str z) = true → ∀ b c : D, good b = true → good c = true → good (.tup [.str z, b, c]) = true := fun z hz b c hb hc => by
    simp only [good, goods] at hz ⊢
    rw [hz, hb, hc]
    rfl
  intro x hx
  rcases List.mem_cons.mp hx with z | z
  · rw [z]; exact g _ (by decide +kernel) _ _ (by decide +kernel) h
  · rcases List.mem_cons.mp z with z | z
    · rw [z]; exact g _ (by decide +kernel) _ _ (by decide +kernel) h
    · rw [List.mem_singleton.mp z]
      have q : good (.str "if") = true := by decide +kernel
      have q2 : good (.tup [.tup [.str "fail"]]) = true := by decide +kernel
      simp only [good, goods] at q q2 ⊢
      rw [q, h]
      simpa using q2
theorem stE_item {v : D} {k : Nat} (h : Ex v k) (hk : k ≤ 5) : ∀ x ∈ stE v, itemOk 15 1 false x = true ∧ itemC 15 x ≤ 10 := by
  have hs := stE_stmt h (by omega)
  intro x hx
  have hx' := hs x hx
  rw [decide_eq_true hk] at hx'
  have f1 : ∀ y ∈ [D.tup [.str "fail"]], Sim y := fun y hy => by rw [List.mem_singleton.mp hy]; exact fail_sim
  rcases List.mem_cons.mp hx with z | z
  · have s : Sim x := ⟨stE_good h.good x hx, hx', by rw [z]; simp [blocksOf, wne], by rw [z]; simp [headW, wne], by rw [z]; simp [headW, wne]⟩
    exact ⟨sim_ok s _ _ _, by rw [sim_c s]; decide⟩
  · rcases List.mem_cons.mp z with z | z
    · have s : Sim x := ⟨stE_good h.good x hx, hx', by rw [z]; simp [blocksOf, wne], by rw [z]; simp [headW, wne], by rw [z]; simp [headW, wne]⟩
      exact ⟨sim_ok s _ _ _, by rw [sim_c s]; decide⟩
    · have z' := List.mem_singleton.mp z
      refine ⟨item_ok (deep_ok hx' (by rw [z']; simp [headW, wne]) (by decide) fun q => ?_) fun b hb => ?_, ?_⟩
      · rw [z'] at q; simp [headW, wne] at q
      · rw [z', if_blocks] at hb
        rcases List.mem_cons.mp hb with e | e
        · rw [e]; rfl
        · rw [List.mem_singleton.mp e]; exact sims_ok f1 _ _ _
      · unfold itemC
        rw [z', if_blocks]
        have c1 := sims_c f1 14
        have c2 : cntW 15 [] = 0 := rfl
        simp only [List.map_cons, List.map_nil, List.sum_cons, List.sum_nil, itemsOf, c1, c2]
        simp
theorem stE_fits {v : D} {k : Nat} (h : Ex v k) (hk : k ≤ 7) : ∀ x ∈ stE v, Fits (.tup [.tup [.str "home"], x]) (dueE k) (-1) := by
  intro x hx
  have h1 : ∀ y ∈ [D.tup [.str "home"]], Sim y := fun y hy => by rw [List.mem_singleton.mp hy]; exact home_sim
  have hs := stE_stmt h hk x hx
  refine ⟨goods_of fun y hy => ?_, ?_, fun y e => ?_, fun _ => .inl (by decide)⟩
  · rcases List.mem_cons.mp hy with e | e
    · rw [e]; exact home_sim.good
    · rw [List.mem_singleton.mp e]; exact stE_good h.good x hx
  · unfold dueE
    by_cases h5 : k ≤ 5
    · rw [if_pos h5]
      obtain ⟨i1, i2⟩ := stE_item h h5 x hx
      refine bad_none rfl ?_ ?_
      · show okW (15 + 1) ([.tup [.str "home"]] ++ [x]) 1 false = true
        rw [ok_app, sims_ok h1, okW_succ]
        simp only [List.all_cons, List.all_nil, Bool.and_true, Bool.true_and]
        exact i1
      · show cntW (15 + 1) ([.tup [.str "home"]] ++ [x]) ≤ 6000
        rw [cnt_app, sims_c h1, cntW_succ 15 [x], List.map_singleton, List.sum_singleton, List.length_singleton, List.length_singleton]
        omega
    · rw [if_neg h5]
      rw [decide_eq_false h5] at hs
      exact outer_bad (A := [.tup [.str "home"]]) (R := []) h1 (stmt_wrong hs _ _) (by simp)
  · unfold dueE at e
    split at e
    · cases e
    · cases e; exact pure_t1
end LW
namespace LW
open PySem PySem.Spec PyProof.Rows L2 DL
/-! the drawn chain of expressions -/
theorem fz_d (x : D) : (LV.d x).fz = .d x := rfl
theorem ix_strs {ws : List Str} {r : Int} (h0 : 0 ≤ r) (h1 : r < ws.length) : ∃ z ∈ ws, atI (ws.map D.str) r = some (.str z) := by
  obtain ⟨x, hx, e⟩ := atI_mem (xs := ws.map D.str) h0 (by rw [List.length_map]; exact h1)
  obtain ⟨z, hz, rfl⟩ := List.mem_map.mp hx
  exact ⟨z, hz, e⟩
theorem ex_nb : Ex (.tup [.str "name", .str "b"]) 1 := ex_name (by decide +kernel) (by decide +kernel)
theorem ex_nc : Ex (.tup [.str "name", .str "c"]) 1 := ex_name (by decide +kernel) (by decide +kernel)
theorem ex_3 : Ex (.int 3) 1 := ex_dig (by decide) (by decide)
theorem chain_ok (ga : Addr) (n : Nat) (hn : n ≤ 10) (P : LV → Unit → Prop) (h : ∀ x, Ex x (n + 1) → P (.d x) ()) : m__law_chain ga [.raw (.ref ga), .d (.int (n + 1))] () P noX := by
  have hbig : 100000 < sizeLine := by decide
  refine ⟨rfl, ?_⟩
  unfold u__law_chain
  have start : ∀ x, Ex x 1 → wSeq (wFor (wRng1 (wOp subF (wVb 1) (wC (.int 1)))) (gN 3) (wSeq (wSet 4 (wCl (m__law_draw ga) [] (wCons (wV 0) (wCons (wC (.int 3)) wNil))))
    (wSeq (wSet 5 (wOp ixF (wLst (wCons (wC (.str "plus")) (wCons (wC (.str "minus")) (wCons (wC (.str "same")) (wCons (wC (.str "less")) wNil))))) (wCl (m__law_draw ga) [] (wCons (wV 0) (wCons (wC (.int 4)) wNil)))))
    (wIfS (wTb (wOp (eqF false) (wVb 4) (wC (.int 0)))) (wFrz 2 (wSet 2 (wTup (wCons (wC (.str "not")) (wCons (wV 2) wNil))))) (wIfS (wTb (wOp (eqF false) (wVb 4) (wC (.int 1)))) (wFrz 5 (wFrz 2 (wSet 2 (wTup (wCons (wV 5) (wCons (wV 2) (wCons (wCl (m__law_draw ga) [] (wCons (wV 0) (wCons (wC (.int 10)) wNil))) wNil))))))) (wFrz 5 (wFrz 2 (wSet 2 (wTup (wCons (wV 5) (wCons (wTup (wCons (wC (.str "name")) (wCons (wC (.str "c")) wNil))) (wCons (wV 2) wNil))))))))))))
    (wRetV 2) { nx := fun _ s => P (.d .non) s, rt := P, bk := fun _ _ => False, ct := fun _ _ => False, xn := fun _ => noX } [some (.raw (.ref ga)), some (.d (.int (n + 1))), some (.d x), none, none, none] () := fun x hx => by
    simp only [wSeq, wFor, wRng1, wOp, wVb, wC, LEnv.at, subF, ii0, rngD_eq]
    have e1 : ((n : Int) + 1 - 1).toNat = n := by omega
    rw [e1]
    refine ⟨by omega, ?_⟩
    refine wGo_inv (fun rest env => ∃ x k o3 o4 o5, Ex x k ∧ k + rest.length = n + 1 ∧ env = [some (.raw (.ref ga)), some (.d (.int (n + 1))), some (.d x), o3, o4, o5]) ?_ ?_ _ _ ⟨x, 1, _, _, _, hx, by rw [rngL_len]; omega, rfl⟩
    · rintro env ⟨x, k, o3, o4, o5, hx, hk, rfl⟩
      simp only [List.length_nil, Nat.add_zero] at hk
      subst hk
      exact h x hx
    · rintro y rest env ⟨x, k, o3, o4, o5, hx, hk, rfl⟩ K hK
      simp only [List.length_cons] at hk
      refine set_draw rfl (by decide) (by decide +kernel) fun r h0 h1 => ?_
      simp only [gN, wSeq, wSet, wOp, wLst, wCl, wCons, wV, wC, wNil, LEnv.at, LV.fz, dsOf, List.set_cons_succ, List.set_cons_zero, List.append_nil, List.cons_append, List.nil_append, List.length_cons, List.length_nil]
      refine ⟨by decide, ?_⟩
      refine draw_ok (by decide) (by decide +kernel) fun w w0 w1 => ?_
      obtain ⟨z, hz, e⟩ := ix_strs (ws := pairedW) w0 w1
      have e' : atI [D.str (Str.ofString "plus"), D.str (Str.ofString "minus"), D.str (Str.ofString "same"), D.str (Str.ofString "less")] w = some (.str z) := e
      simp only [ixF, LV.seq, e']
      have hr : r = 0 ∨ r = 1 ∨ r = 2 := by omega
      have hp := hx.pos
      rcases hr with rfl | rfl | rfl
      · simp [wIfS, wTb, wOp, wVb, wC, LEnv.at, eqF, sEq, wFrz, wSet, wTup, wCons, wV, wNil, fz_d, dsOf]
        exact hK _ ⟨_, k + 1, _, _, _, ex_not hx, by omega, rfl⟩
      · simp [wIfS, wTb, wOp, wVb, wC, LEnv.at, eqF, sEq, wFrz, wSet, wTup, wCons, wCl, wV, wNil, fz_d, dsOf]
        refine draw_ok (by decide) (by decide +kernel) fun c c0 c1 => ?_
        exact ⟨by simp [fz_d], hK _ ⟨_, k + 1, _, _, _, ex_pair hz hx (ex_dig c0 (by omega)) (by omega), by omega, rfl⟩⟩
      · simp [wIfS, wTb, wOp, wVb, wC, LEnv.at, eqF, sEq, wFrz, wSet, wTup, wCons, wV, wNil, fz_d, dsOf]
        exact hK _ ⟨_, k + 1, _, _, _, ex_pair hz ex_nc hx (by omega), by omega, rfl⟩
  show wSeq (wSet 2 _) _ _ [some (.raw (.ref ga)), some (.d (.int (n + 1))), none, none, none, none] ()
  simp only [wSeq, wSet, wOp, wLst, wTup, wCl, wCons, wV, wC, wNil, LEnv.at, LV.fz, dsOf, List.append_nil, List.cons_append, List.nil_append, List.length_cons, List.length_nil]
  refine ⟨by decide, ?_⟩
  refine ⟨by decide, ?_⟩
  refine draw_ok (by decide) (by decide +kernel) fun w w0 w1 => ?_
  have hw : w = 0 ∨ w = 1 := by omega
  rcases hw with rfl | rfl
  · exact start _ ex_3
  · exact start _ ex_nb
theorem exprs_ok (ga : Addr) (P : LV → Unit → Prop) (h : P (.d (.bl true)) ()) : m__law_expressions_agree ga [.raw (.ref ga)] () P noX := by
  have hbig : 100000 < sizeLine := by decide
  refine ⟨rfl, ?_⟩
  unfold u__law_expressions_agree
  simp only [wSeq, wSet, wOp, wC, wCl, wCons, wV, wNil, LEnv.at, startN, List.map_cons, List.map_nil, List.cons_append, List.nil_append, List.set_cons_succ, List.set_cons_zero, List.length_cons, List.length_nil, Nat.reduceAdd, Nat.reduceSub, List.replicate_succ, List.replicate_zero, LV.fz, List.append_nil]
  refine draw_ok (by decide) (by decide +kernel) fun r h0 h1 => ?_
  simp only [addF]
  obtain ⟨n, rfl⟩ := Int.eq_ofNat_of_zero_le h0
  have e3 : (3 : Int) + n = ((n + 2 : Nat) : Int) + 1 := by omega
  simp only [wFrz, wSet, wCl, wCons, wV, wNil, LEnv.at, LV.fz, List.set_cons_succ, List.set_cons_zero, List.append_nil]
  rw [e3]
  refine chain_ok ga (n + 2) (by omega) _ fun v hv => ?_
  have hk : n + 2 + 1 ≤ 7 := by omega
  have k1 : dueD (dueE (n + 2 + 1)) = if decide ((5 : Int) < ((n + 2 : Nat) : Int) + 1) = true then .tup [.int 1] else .str "let" := by
    unfold dueE
    by_cases hb : n + 2 + 1 ≤ 5
    · rw [if_pos hb, decide_eq_false (by omega)]; rfl
    · rw [if_neg hb, decide_eq_true (by omega)]; rfl
  show wSeq (wSet 3 _) _ _ _ ()
  rw [seq_set (.d (.str "let")) fun P N => rfl]
  simp only [List.set_cons_succ, List.set_cons_zero]
  rw [if_set (decide ((5 : Int) < ((n + 2 : Nat) : Int) + 1)) (.d (.tup [.int 1])) [some (.raw (.ref ga)), some (.d (.int (((n + 2 : Nat) : Int) + 1))), some (.d v), some (.d (dueD (dueE (n + 2 + 1)))), none] (fun P N => rfl) (fun _ P N => by simp only [wTup, wCons, wC, wNil, dsOf]; exact propext (and_iff_right (by decide)))
    (by rw [k1]; generalize decide ((5 : Int) < ((n + 2 : Nat) : Int) + 1) = bb; cases bb <;> rfl)]
  rw [seq_frz v rfl rfl]
  simp only [wSeq, wFor, wWalk]
  simp only [wLst, wCons, wTup, wC, wV, wNil, LEnv.at, LV.fz, dsOf, walkD, LV.seq, List.append_nil, List.cons_append, List.nil_append, List.length_cons, List.length_nil]
  refine ⟨by decide, by decide, by decide, by decide, by decide, by decide, by decide, ?_⟩
  refine wGo_inv (fun rest env => (∀ x ∈ rest, x ∈ stE v) ∧ ∃ o4, env = [some (.raw (.ref ga)), some (.d (.int (((n + 2 : Nat) : Int) + 1))), some (.d v), some (.d (dueD (dueE (n + 2 + 1)))), o4]) ?_ ?_ _ _ ⟨fun x hx => hx, _, rfl⟩
  · rintro env ⟨_, o4, rfl⟩
    exact h
  · rintro x rest env ⟨hr, o4, rfl⟩ K hK
    simp only [gN, List.set_cons_succ, List.set_cons_zero]
    refine agrees_if (.tup [.tup [.str "home"], x]) (dueE (n + 2 + 1)) (-1) (fun P N => ?_) (stE_fits hv hk x (hr x List.mem_cons_self)) ?_
    · simp only [wCons, wTup, wV, wC, wNil, wNeg, LEnv.at, LV.fz, dsOf, List.length_cons, List.length_nil]
      simp
    · exact hK _ ⟨fun y hy => hr y (List.mem_cons_of_mem _ hy), _, rfl⟩
end LW
namespace LW
open PySem PySem.Spec PyProof.Rows L2 DL
/-! names and ports of one to ten letters -/
theorem any_strs (z : Str) : ∀ ws : List Str, ((ws.map D.str).any fun u => D.eqf u (.str z)) = decide (z ∈ ws)
  | [] => rfl
  | w :: ws => by
    rw [List.map_cons, List.any_cons, any_strs z ws]
    show ((w == z) || decide (z ∈ ws)) = decide (z ∈ w :: ws)
    by_cases h : w = z
    · subst h; simp
    · have h' : ¬ z = w := fun e => h e.symm
      simp [h, h']
theorem flat_strs : ∀ ws : List Str, (ws.map D.str).all D.flat = true
  | [] => rfl
  | w :: ws => by rw [List.map_cons, List.all_cons, flat_strs ws]; rfl
def wordsA : List Str := ["on", "or", "if", "set", "not", "own",
  "end", "tell", "hear", "wait", "open", "else", "home", "fail", "plus", "same", "less", "over"]
def wordsB : List Str := ["repeat", "leave", "minus", "routine"]
theorem split_words : Txt.split (Str.ofString "on or if set not own end tell hear wait open else home fail plus same less over") (Str.ofString " ") = wordsA := by decide +kernel
theorem kept_in : ∀ z ∈ kw_KEPT_WORDS, z ∈ wordsA ∨ z ∈ wordsB := by decide +kernel
/-- small letters alone -/
def Low (z : Str) : Prop := ∀ c ∈ z.cps.toList, c ∈ lettersS.cps.toList
structure Nm (z : Str) : Prop where
  one : 1 ≤ z.length
  ten : z.length ≤ 10
  name : isName (.str z) = decide (z.length ≤ 8)
theorem nm_of {z : Str} (h1 : 1 ≤ z.length) (h2 : z.length ≤ 10) (hl : Low z) (ha : z ∉ wordsA) (hb : z ∉ wordsB) : Nm z := ⟨h1, h2, by
  have hk : z ∉ kw_KEPT_WORDS := fun h => (kept_in z h).elim ha hb
  have a : (z.cps.toList.all fun c => decide (c ∈ lettersS.cps.toList)) = true := List.all_eq_true.mpr fun c hc => decide_eq_true (hl c hc)
  unfold isName
  simp only [a, hk, decide_false, Bool.not_false, Bool.and_true, decide_eq_true (show (1 : Int) ≤ (z.length : Int) by omega), Bool.true_and]
  exact decide_eq_decide.mpr (by omega)⟩
theorem nm_kq : Nm "kq" := ⟨by decide +kernel, by decide +kernel, by decide +kernel⟩
theorem nm_good {z : Str} (h : Nm z) : good (.str z) = true := by
  have := h.ten
  unfold good
  exact decide_eq_true (by omega)
def stN (z : Str) : List D := [.tup [.str "set", .str z, .int 1], .tup [.str "tell", .str z, .int 1], .tup [.str "hear", .str z, .str z], .tup [.str "tell", .str "p", .tup [.str "name", .str z]]]
theorem stN_good {z : Str} (h : Nm z) : ∀ x ∈ stN z, good x = true := by
  have g : ∀ w : Str, good (.str w) = true → ∀ b c : D, good b = true → good c = true → good (.tup [.str w, b, c]) = true := fun w hw b c hb hc => by
    simp only [good, goods] at hw ⊢
    rw [hw, hb, hc]
    rfl
  have hz := nm_good h
  have g2 : good (.tup [.str "name", .str z]) = true := by
    have : good (.str "name") = true := by decide +kernel
    simp only [good, goods] at this hz ⊢
    rw [this, hz]
    rfl
  intro x hx
  rcases List.mem_cons.mp hx with e | e
  · rw [e]; exact g _ (by decide +kernel) _ _ hz rfl
  · rcases List.mem_cons.mp e with e | e
    · rw [e]; exact g _ (by decide +kernel) _ _ hz rfl
    · rcases List.mem_cons.mp e with e | e
      · rw [e]; exact g _ (by decide +kernel) _ _ hz hz
      · rw [List.mem_singleton.mp e]; exact g _ (by decide +kernel) _ _ (by decide +kernel) g2
theorem stN_stmt (z : Str) : ∀ x ∈ stN z, isStmt x = isName (.str z) := by
  have p : isName (.str "p") = true := by decide +kernel
  have d1 : isExpr 8 (.int 1) 5 = true := by decide +kernel
  have en : isExpr 8 (.tup [.str "name", .str z]) 5 = isName (.str z) := by simp [isExpr, isDig]
  intro x hx
  rcases List.mem_cons.mp hx with e | e
  · rw [e]; simp only [isStmt, isDeal, wne, d1]; simp [wne]
  · rcases List.mem_cons.mp e with e | e
    · rw [e]; simp only [isStmt, isDeal, wne, d1]; simp [wne]
    · rcases List.mem_cons.mp e with e | e
      · rw [e]; simp only [isStmt, isDeal, wne]; simp [wne]
      · rw [List.mem_singleton.mp e]; simp only [isStmt, isDeal, wne, p, en]; simp [wne]
theorem stN_plain (z : Str) : ∀ x ∈ stN z, blocksOf x = [] ∧ headW x ≠ "leave" ∧ headW x ≠ "repeat" := by
  intro x hx
  rcases List.mem_cons.mp hx with e | e
  · rw [e]; simp [blocksOf, headW, wne]
  · rcases List.mem_cons.mp e with e | e
    · rw [e]; simp [blocksOf, headW, wne]
    · rcases List.mem_cons.mp e with e | e
      · rw [e]; simp [blocksOf, headW, wne]
      · rw [List.mem_singleton.mp e]; simp [blocksOf, headW, wne]
def dueN (z : Str) : Option D := if z.length ≤ 8 then none else some (.tup [.int 1])
theorem stN_fits {z : Str} (h : Nm z) : ∀ x ∈ stN z, Fits (.tup [.tup [.str "home"], x]) (dueN z) 2 := by
  intro x hx
  have hs := stN_stmt z x hx
  rw [h.name] at hs
  obtain ⟨p1, p2, p3⟩ := stN_plain z x hx
  have h1 : ∀ y ∈ [D.tup [.str "home"]], Sim y := fun y hy => by rw [List.mem_singleton.mp hy]; exact home_sim
  have hg : good (.tup [.tup [.str "home"], x]) = true := goods_of fun y hy => by
    rcases List.mem_cons.mp hy with e | e
    · rw [e]; exact home_sim.good
    · rw [List.mem_singleton.mp e]; exact stN_good h x hx
  unfold dueN
  by_cases h8 : z.length ≤ 8
  · rw [if_pos h8]
    rw [decide_eq_true h8] at hs
    have sx : Sim x := ⟨stN_good h x hx, hs, p1, p2, p3⟩
    have h2 : ∀ y ∈ [D.tup [.str "home"], x], Sim y := fun y hy => by
      rcases List.mem_cons.mp hy with e | e
      · rw [e]; exact home_sim
      · rw [List.mem_singleton.mp e]; exact sx
    have hc : cntW 16 [D.tup [.str "home"], x] = 2 := sims_c h2 15
    exact ⟨hg, bad_none rfl (sims_ok h2 16 1 false) (by rw [show itemsOf (.tup [.tup [.str "home"], x]) = [.tup [.str "home"], x] from rfl, hc]; decide), (fun y e => by cases e), fun _ => .inr hc⟩
  · rw [if_neg h8]
    rw [decide_eq_false h8] at hs
    exact ⟨hg, outer_bad (A := [.tup [.str "home"]]) (R := []) h1 (stmt_wrong hs _ _) (by simp), (fun y e => by cases e; exact pure_t1), fun e => by cases e⟩
theorem cut_str (z : Str) (n : Nat) : (cutS z none (some (n : Int))).cps.toList = z.cps.toList.take n := by
  have e : (cutS z none (some (n : Int))).cps.toList = cutL z.cps.toList none (some (n : Int)) := by
    unfold cutS cutL
    simp
    rfl
  rw [e]
  unfold cutL
  rw [HT.sIx_none, HT.sIx_nat, List.drop_zero, Nat.sub_zero]
  exact List.take_eq_take_min.symm
theorem str_len (z : Str) : z.length = z.cps.toList.length := rfl
theorem low_app {z : Str} {c : Nat} (h : Low z) (hc : c ∈ lettersL) : Low (z ++ ⟨#[c]⟩) := fun d hd => by
  have e : (z ++ (⟨#[c]⟩ : Str)).cps.toList = z.cps.toList ++ [c] := by
    show (z.cps ++ #[c]).toList = _
    rw [Array.toList_append]
  rw [e] at hd
  rcases List.mem_append.mp hd with q | q
  · exact h d q
  · rw [List.mem_singleton.mp q]; exact hc
theorem low_cut {z : Str} (h : Low z) (n : Nat) : Low (cutS z none (some (n : Int))) := fun d hd => h d (by rw [cut_str] at hd; exact List.mem_of_mem_take hd)
theorem cut_len {z : Str} {n : Nat} (h : n ≤ z.length) : (cutS z none (some (n : Int))).length = n := by
  have e : (cutS z none (some (n : Int))).length = (cutS z none (some (n : Int))).cps.toList.length := rfl
  rw [e, cut_str, List.length_take]
  have : z.cps.toList.length = z.length := rfl
  omega
def startsN : List Str := ["a", "z", "m", "kq"]
theorem starts_low : ∀ z ∈ startsN, (z.cps.toList.all fun c => decide (c ∈ lettersS.cps.toList)) = true ∧ 1 ≤ z.length ∧ z.length ≤ 2 := by decide +kernel
theorem in_words {z : Str} {wa wb : W Unit} {env : LEnv} (ws : List Str) (h1 : ws.length ≤ 1000) (ha : ∀ P N, wa env () P N = P (.d (.str z)) ()) (hb : ∀ P N, wb env () P N = P (.l (ws.map D.str)) ()) : ∀ P N, wTb (wOp (inF false) wa wb) env () P N = P (decide (z ∈ ws)) () := fun P N => by
  unfold wTb wOp
  rw [ha]
  dsimp only
  rw [hb]
  simp only [inF, LV.seq, any_strs, flat_strs, true_and, if_false, Bool.false_eq_true]
  exact propext (and_iff_right rfl)
theorem in_wordsT {z : Str} {wa wb : W Unit} {env : LEnv} (ws : List Str) (ha : ∀ P N, wa env () P N = P (.d (.str z)) ()) (hb : ∀ P N, wb env () P N = P (.d (.tup (ws.map D.str))) ()) : ∀ P N, wTb (wOp (inF false) wa wb) env () P N = P (decide (z ∈ ws)) () := fun P N => by
  unfold wTb wOp
  rw [ha]
  dsimp only
  rw [hb]
  simp only [inF, LV.seq, any_strs, flat_strs, true_and, if_false, Bool.false_eq_true]
  exact propext (and_iff_right rfl)
def pickN (b : Bool) (y : Str) : Str := if b = true then "kq" else y
theorem letters_ok (ga : Addr) (P : LV → Unit → Prop) (h : P (.d (.bl true)) ()) : m__law_letters_agree ga [.raw (.ref ga)] () P noX := by
  have hbig : 100000 < sizeLine := by decide
  refine ⟨rfl, ?_⟩
  unfold u__law_letters_agree
  simp only [wSeq, wSet, wOp, wC, wCl, wLst, dsOf, wCons, wV, wNil, LEnv.at, startN, List.map_cons, List.map_nil, List.cons_append, List.nil_append, List.set_cons_succ, List.set_cons_zero, List.length_cons, List.length_nil, Nat.reduceAdd, Nat.reduceSub, List.replicate_succ, List.replicate_zero, LV.fz, List.append_nil]
  refine draw_ok (by decide) (by decide +kernel) fun r h0 h1 => ?_
  simp only [addF]
  refine ⟨by decide, ?_⟩
  refine draw_ok (by decide) (by decide +kernel) fun s s0 s1 => ?_
  obtain ⟨z0, hz0, e0⟩ := ix_strs (ws := startsN) s0 s1
  have e0' : atI [D.str (Str.ofString "a"), D.str (Str.ofString "z"), D.str (Str.ofString "m"), D.str (Str.ofString "kq")] s = some (.str z0) := e0
  obtain ⟨l0, l1, l2⟩ := starts_low z0 hz0
  simp only [ixF, LV.seq, e0']
  simp only [wFor, wRng1, wC, rngD_eq]
  refine ⟨by decide, ?_⟩
  refine wGo_inv (fun rest env => ∃ z o3, Low z ∧ 11 ≤ z.length + rest.length ∧ z.length + rest.length ≤ 12 ∧ env = [some (.raw (.ref ga)), some (.d (.int (1 + r))), some (.d (.str z)), o3, none, none, none]) ?_ ?_ _ _ ⟨z0, _, fun c hc => of_decide_eq_true (List.all_eq_true.mp l0 c hc), by rw [rngL_len]; omega, by rw [rngL_len]; omega, rfl⟩
  · rintro env ⟨z, o3, hl, k1, k2, rfl⟩
    simp only [List.length_nil, Nat.add_zero] at k1 k2
    obtain ⟨n, hn⟩ : ∃ n : Nat, 1 + r = (n : Int) := ⟨(1 + r).toNat, by omega⟩
    rw [hn]
    dsimp only
    rw [seq_frz (.int n) rfl rfl]
    rw [seq_set (.d (.str (cutS z none (some (n : Int))))) fun P N => by
      simp only [wSl, wVb, woN, woS, wV, LEnv.at, slF]
      exact propext (and_iff_right (by omega))]
    simp only [List.set_cons_succ, List.set_cons_zero]
    have c1 := cut_len (z := z) (n := n) (by omega)
    have c2 := low_cut hl n
    generalize cutS z none (some (n : Int)) = y at c1 c2 ⊢
    rw [seq_set (.d (.str (Str.ofString "on or if set not own end tell hear wait open else home fail plus same less over"))) fun P N => rfl]
    simp only [List.set_cons_succ, List.set_cons_zero]
    rw [if_set (decide (y ∈ wordsA) || decide (y ∈ wordsB)) (.d (.str "kq")) [some (.raw (.ref ga)), some (.d (.int n)), some (.d (.str (pickN (decide (y ∈ wordsA) || decide (y ∈ wordsB)) y))), o3, some (.d (.str (Str.ofString "on or if set not own end tell hear wait open else home fail plus same less over"))), none, none]
      (fun P N => by
        unfold wtOr
        rw [in_words wordsA (by decide) (fun P N => rfl) fun P N => by
          simp only [wSplit, wV, wC, LEnv.at, split_words]
          exact propext (and_iff_right (by decide +kernel))]
        cases decide (y ∈ wordsA) with
        | true => rfl
        | false =>
          rw [Bool.false_or]
          refine Eq.trans ?_ (in_wordsT (N := N) (z := y) (env := [some (.raw (.ref ga)), some (.d (.int n)), some (.d (.str y)), o3, some (.d (.str (Str.ofString "on or if set not own end tell hear wait open else home fail plus same less over"))), none, none]) (wa := wVb 2) (wb := wTup (wCons (wC (.str "repeat")) (wCons (wC (.str "leave")) (wCons (wC (.str "minus")) (wCons (wC (.str "routine")) wNil))))) wordsB (fun P N => rfl) (fun P N => by
            simp only [wTup, wCons, wC, wNil, LV.fz, dsOf, List.length_cons, List.length_nil]
            exact propext (and_iff_right (by decide))) P)
          rfl)
      (fun _ P N => rfl) (by generalize (decide (y ∈ wordsA) || decide (y ∈ wordsB)) = bb; cases bb <;> rfl)]
    have hw : Nm (pickN (decide (y ∈ wordsA) || decide (y ∈ wordsB)) y) := by
      by_cases q : (decide (y ∈ wordsA) || decide (y ∈ wordsB)) = true
      · unfold pickN; rw [if_pos q]; exact nm_kq
      · unfold pickN; rw [if_neg q]
        rw [Bool.or_eq_true, not_or, decide_eq_true_iff, decide_eq_true_iff] at q
        exact nm_of (by omega) (by omega) c2 q.1 q.2
    generalize (pickN (decide (y ∈ wordsA) || decide (y ∈ wordsB)) y) = w at hw ⊢
    have w10 := hw.ten
    have k1 : dueD (dueN w) = if decide ((8 : Int) < w.length) = true then .tup [.int 1] else .str "let" := by
      unfold dueN
      by_cases hb : w.length ≤ 8
      · rw [if_pos hb, decide_eq_false (by omega)]; rfl
      · rw [if_neg hb, decide_eq_true (by omega)]; rfl
    rw [seq_set (.d (.str "let")) fun P N => rfl]
    simp only [List.set_cons_succ, List.set_cons_zero]
    rw [if_set (decide ((8 : Int) < w.length)) (.d (.tup [.int 1])) [some (.raw (.ref ga)), some (.d (.int n)), some (.d (.str w)), o3, some (.d (.str (Str.ofString "on or if set not own end tell hear wait open else home fail plus same less over"))), some (.d (dueD (dueN w))), none] (fun P N => by
        simp only [wTb, wOp, wUn, wVb, wC, LEnv.at, lenF, gtI, ii0]
        exact propext (and_iff_right (by omega))) (fun _ P N => by simp only [wTup, wCons, wC, wNil, dsOf]; exact propext (and_iff_right (by decide)))
      (by rw [k1]; generalize decide ((8 : Int) < w.length) = bb; cases bb <;> rfl)]
    rw [seq_frz (.str w) rfl rfl]
    simp only [wSeq, wFor, wWalk]
    simp only [wLst, wCons, wTup, wC, wV, wNil, LEnv.at, LV.fz, dsOf, walkD, LV.seq, List.append_nil, List.cons_append, List.nil_append, List.length_cons, List.length_nil]
    refine ⟨by decide, by decide, by decide, by decide, by decide, by decide, ?_⟩
    refine wGo_inv (fun rest env => (∀ x ∈ rest, x ∈ stN w) ∧ ∃ o6, env = [some (.raw (.ref ga)), some (.d (.int n)), some (.d (.str w)), o3, some (.d (.str (Str.ofString "on or if set not own end tell hear wait open else home fail plus same less over"))), some (.d (dueD (dueN w))), o6]) ?_ ?_ _ _ ⟨fun x hx => hx, _, rfl⟩
    · rintro env ⟨_, o6, rfl⟩
      exact h
    · rintro x rest env ⟨hr, o6, rfl⟩ K hK
      simp only [gN, List.set_cons_succ, List.set_cons_zero]
      refine agrees_if (.tup [.tup [.str "home"], x]) (dueN w) 2 (fun P N => ?_) (stN_fits hw x (hr x List.mem_cons_self)) ?_
      · simp only [wCons, wTup, wV, wC, wNil, wNeg, LEnv.at, LV.fz, dsOf, List.length_cons, List.length_nil]
        simp
      · exact hK _ ⟨fun y hy => hr y (List.mem_cons_of_mem _ hy), _, rfl⟩
  · rintro y rest env ⟨z, o3, hl, k1, k2, rfl⟩ K hK
    simp only [List.length_cons] at k1 k2
    simp only [gN, wSet, wOp, wVb, wC, wCl, wCons, wV, wNil, LEnv.at, List.set_cons_succ, List.set_cons_zero, LV.fz, List.append_nil]
    refine draw_ok (by decide) (by decide +kernel) fun r h0 h1 => ?_
    obtain ⟨c, hc, e⟩ := atI_mem (xs := lettersL) h0 (by rw [letters_len]; omega)
    have e' : atI (Str.ofString "abcdefghijklmnopqrstuvwxyz").cps.toList r = some c := e
    have hll : (Str.ofString "abcdefghijklmnopqrstuvwxyz").length ≤ sizeLine := by decide +kernel
    simp only [ixF, LV.seq, e', hll, true_and, addF]
    have q1 : (⟨#[c]⟩ : Str).length = 1 := rfl
    have q2 : (z ++ (⟨#[c]⟩ : Str)).length = z.length + 1 := by rw [Str.length_append, q1]
    exact ⟨by rw [q1]; omega, hK _ ⟨_, _, low_app hl hc, by rw [q2]; omega, by rw [q2]; omega, rfl⟩⟩
end LW
namespace LW
open PySem PySem.Spec PyProof.Rows L2 DL
/-! blocks within one another -/
def Plain1 (b : D) : Prop := ∃ xs, b = .tup xs ∧ xs.length ≤ 1 ∧ ∀ x ∈ xs, Sim x
structure Ar (S B : D) (num : Nat) : Prop where
  good : good B = true → good S = true
  stmt : isBlk B = true → isStmt S = true
  blocks : ∃ L R, blocksOf S = L ++ B :: R ∧ L.length = num ∧ L.length + R.length ≤ 3 ∧ (∀ b ∈ L, Plain1 b) ∧ ∀ b ∈ R, Plain1 b
  stay : headW S ≠ "leave"
  rep : headW S = "repeat" → secondW S = B
theorem plain_first {b : D} (h : Plain1 b) (n : Nat) (p : List Int) (d : Int) (lp : Bool) : firstW n (itemsOf b) p d lp = none := by
  obtain ⟨xs, rfl, _, hs⟩ := h
  exact (firstW_ok n xs p d lp).mpr (sims_ok hs n d lp)
theorem plain_cnt {b : D} (h : Plain1 b) (n : Nat) : cntW n (itemsOf b) ≤ 1 := by
  obtain ⟨xs, rfl, hl, hs⟩ := h
  cases n with
  | zero => exact (by decide : (0 : Int) ≤ 1)
  | succ n =>
    show cntW (n + 1) xs ≤ 1
    rw [sims_c hs]
    omega
theorem plains_sum (n : Nat) : ∀ {L : List D}, (∀ b ∈ L, Plain1 b) → (L.map fun b => cntW n (itemsOf b)).sum ≤ L.length
  | [], _ => by simp
  | b :: L, h => by
    have h1 := plain_cnt (h b List.mem_cons_self) n
    have h2 := plains_sum n (L := L) fun c hc => h c (List.mem_cons_of_mem _ hc)
    rw [List.map_cons, List.sum_cons, List.length_cons]
    omega
structure Lv (d : Nat) (B : D) (path : Option (List Int)) : Prop where
  good : good B = true
  items : ∃ z k r, B = .tup (tellD z k :: r) ∧ Sim (tellD z k) ∧ r.length ≤ 11
  first : d ≤ 12 → ∀ p lp, firstW (17 - d) (itemsOf B) p d lp = path.map (p ++ ·)
  cnt : ∀ n, cntW n (itemsOf B) ≤ 7 * (16 - d)
  len : ∀ q, path = some q → q.length ≤ 2 * (16 - d)
theorem lv_blk {d : Nat} {B : D} {path : Option (List Int)} (h : Lv d B path) : isBlk B = true := by
  obtain ⟨z, k, r, rfl, _, hl⟩ := h.items
  exact blk_of (by rw [List.length_cons]; omega)
theorem lv_deals {d : Nat} {B : D} {path : Option (List Int)} (h : Lv d B path) (e : Int) : dealsD B e = true := by
  obtain ⟨z, k, r, rfl, hs, _⟩ := h.items
  exact tells_deals hs.stmt
theorem ar_f {S B : D} {num d : Nat} {path : Option (List Int)} (ha : Ar S B num) (hB : Lv (d + 1) B path) (hd : d < 12) (lp : Bool) (q : List Int) : itemF (16 - d) d lp S q = path.map fun r => q ++ (num : Int) :: r := by
  have hw : isWrong S d lp = false := deep_ok (ha.stmt (lv_blk hB)) ha.stay (by omega) fun h => by rw [ha.rep h]; exact lv_deals hB _
  obtain ⟨L, R, hbl, hL, _, pL, pR⟩ := ha.blocks
  unfold itemF
  rw [if_neg (by rw [hw]; decide), hbl, scan_none fun b hb q => plain_first (pL b hb) _ _ _ _, hL]
  have hf := hB.first (by omega) (q ++ [0 + (num : Int)]) (lp || decide (headW S = "repeat"))
  have e17 : 17 - (d + 1) = 16 - d := by omega
  rw [e17] at hf
  have hf' : firstW (16 - d) (itemsOf B) (q ++ [0 + (num : Int)]) ((d : Int) + 1) (lp || decide (headW S = "repeat")) = path.map ((q ++ [0 + (num : Int)]) ++ ·) := hf
  cases path with
  | none =>
    rw [scan_go (by exact hf')]
    have := scan_none (f := fun b q' => firstW (16 - d) (itemsOf b) q' ((d : Int) + 1) (lp || decide (headW S = "repeat"))) (p := q) (A := R) (R := []) (i := 0 + (num : Int) + 1) fun b hb q => plain_first (pR b hb) _ _ _ _
    rw [List.append_nil] at this
    rw [this]
    rfl
  | some r =>
    refine (scan_hit (q := q ++ (num : Int) :: r) ?_).trans rfl
    refine hf'.trans ?_
    simp
theorem lv_step {d : Nat} {S B : D} {num : Nat} {path path' : Option (List Int)} {A : List D} {z : Str} {k : Int} {r : List D} (hd0 : 1 ≤ d) (hd : d ≤ 13) (hB : Lv (d + 1) B path) (ha : Ar S B num) (hA : A = tellD z k :: r) (hs : ∀ x ∈ A, Sim x) (hl : A.length ≤ 3)
    (h1 : d < 12 → path' = path.map fun q => (A.length : Int) :: (num : Int) :: q) (h2 : d = 12 → path' = some [(A.length : Int)]) (h3 : ∀ q, path' = some q → q.length ≤ 2 * (16 - d)) : Lv d (.tup (A ++ [S])) path' := by
  refine ⟨?_, ⟨z, k, r ++ [S], by rw [hA]; rfl, hs _ (by rw [hA]; exact List.mem_cons_self), ?_⟩, fun h12 p lp => ?_, fun n => ?_, h3⟩
  · refine goods_of fun x hx => ?_
    rcases List.mem_append.mp hx with e | e
    · exact (hs x e).good
    · rw [List.mem_singleton.mp e]; exact ha.good hB.good
  · rw [hA, List.length_cons] at hl
    rw [List.length_append, List.length_singleton]
    omega
  · have e17 : 17 - d = (16 - d) + 1 := by omega
    rw [e17, firstW_succ]
    show scan (itemF (16 - d) d lp) p 0 (A ++ [S]) = _
    rw [scan_sims hs]
    by_cases h : d < 12
    · have hf := ar_f ha hB h lp (p ++ [0 + (A.length : Int)])
      rw [h1 h]
      cases path with
      | none =>
        rw [scan_go hf]
        rfl
      | some q =>
        rw [scan_hit hf]
        simp
    · have hd12 : d = 12 := by omega
      rw [h2 hd12]
      have hw : isWrong S d lp = true := by
        subst hd12
        obtain ⟨L, R, hbl, _⟩ := ha.blocks
        unfold isWrong
        rw [if_neg (by rw [ha.stmt (lv_blk hB)]; decide), if_neg ha.stay, if_pos ⟨by rw [hbl]; simp, by decide⟩]
      rw [scan_hit (wrong_f hw)]
      simp
  · cases n with
    | zero =>
      show (0 : Int) ≤ _
      omega
    | succ n =>
      show cntW (n + 1) (A ++ [S]) ≤ _
      obtain ⟨L, R, hbl, hL, hLR, pL, pR⟩ := ha.blocks
      rw [cnt_app, sims_c hs, cnt_one, hbl, List.map_append, List.map_cons, List.sum_append, List.sum_cons]
      have c1 := plains_sum n pL
      have c2 := plains_sum n pR
      have c3 := hB.cnt n
      omega
end LW
namespace LW
open PySem PySem.Spec PyProof.Rows L2 DL
/-! what is laid around a block -/
theorem plain_nil : Plain1 (.tup []) := ⟨[], rfl, by simp, fun x hx => by cases hx⟩
theorem plain_home : Plain1 (.tup [.tup [.str "home"]]) := ⟨[.tup [.str "home"]], rfl, by simp, fun x hx => by rw [List.mem_singleton.mp hx]; exact home_sim⟩
theorem good_cons {x : D} {xs : List D} (h : good x = true) (hs : goods xs = true) : goods (x :: xs) = true := by
  unfold goods
  rw [h, hs]
  rfl
theorem ar_rep (B : D) : Ar (repD B) B 0 := ⟨rep_good, fun h => by rw [rep_stmt]; exact h, ⟨[], [], rep_blocks B, rfl, by simp, fun b hb => (by cases hb), fun b hb => (by cases hb)⟩, by rw [rep_head]; decide +kernel, fun _ => rfl⟩
theorem ar_if1 (B : D) : Ar (.tup [.str "if", .tup [.str "name", .str "a"], B, .tup [.tup [.str "home"]]]) B 0 := ⟨fun h => good_cons (by decide +kernel) (good_cons (by decide +kernel) (good_cons h (by decide +kernel))), fun h => by
    have e : isExpr 8 (.tup [.str "name", .str "a"]) 5 = true := by decide +kernel
    have c : isBlk (.tup [.tup [.str "home"]]) = true := rfl
    simp only [isStmt, isIf, wne, e, h, c]
    simp [wne], ⟨[], [.tup [.tup [.str "home"]]], if_blocks _ _ _, rfl, by simp, fun b hb => (by cases hb), fun b hb => by rw [List.mem_singleton.mp hb]; exact plain_home⟩, by simp [headW, wne], fun h => by simp [headW, wne] at h⟩
theorem ar_if2 (B : D) : Ar (.tup [.str "if", .int 0, .tup [], B]) B 1 := ⟨fun h => good_cons (by decide +kernel) (good_cons (by decide +kernel) (good_cons (by decide +kernel) (good_cons h rfl))), fun h => by
    have e : isExpr 8 (.int 0) 5 = true := by decide +kernel
    have c : isBlk (.tup []) = true := rfl
    simp only [isStmt, isIf, wne, e, h, c]
    simp [wne], ⟨[.tup []], [], if_blocks _ _ _, rfl, by simp, fun b hb => (by rw [List.mem_singleton.mp hb]; exact plain_nil), fun b hb => by cases hb⟩, by simp [headW, wne], fun h => by simp [headW, wne] at h⟩
def waitD (B : D) : D := .tup [.str "wait", .tup [.tup [.str "r", .str "a", .tup []], .tup [.str "p", .str "c", B], .tup [.str "q", .str "a", .tup []]]]
theorem ar_wait (B : D) : Ar (waitD B) B 1 := ⟨fun h => good_cons (by decide +kernel) (good_cons (good_cons (by decide +kernel) (good_cons (good_cons (by decide +kernel) (good_cons (by decide +kernel) (good_cons h rfl))) (by decide +kernel))) rfl), fun h => by
    have n1 : isName (.str "r") = true := by decide +kernel
    have n2 : isName (.str "a") = true := by decide +kernel
    have n3 : isName (.str "p") = true := by decide +kernel
    have n4 : isName (.str "c") = true := by decide +kernel
    have n5 : isName (.str "q") = true := by decide +kernel
    have c : isBlk (.tup []) = true := rfl
    have a1 : ([].any fun z => D.eqf z (.str "r")) = false := rfl
    have a2 : ([D.str "r"].any fun z => D.eqf z (.str "p")) = false := by decide +kernel
    have a3 : ([D.str "r", D.str "p"].any fun z => D.eqf z (.str "q")) = false := by decide +kernel
    have ro : rowsOk [.tup [.str "r", .str "a", .tup []], .tup [.str "p", .str "c", B], .tup [.str "q", .str "a", .tup []]] [] = true := by
      simp only [rowsOk, n1, n2, n3, n4, n5, c, h, a1, a2, a3, List.nil_append, List.cons_append, Bool.not_false, Bool.and_self]
    simp only [waitD, isStmt, wne]
    simp [wne, areRows, ro], ⟨[.tup []], [.tup []], by simp [waitD, blocksOf, itemsOf, third], rfl, by simp, fun b hb => (by rw [List.mem_singleton.mp hb]; exact plain_nil), fun b hb => by rw [List.mem_singleton.mp hb]; exact plain_nil⟩, by simp [waitD, headW, wne], fun h => by simp [waitD, headW, wne] at h⟩
theorem ar_open (B : D) (L R : List D) (hLR : L.length + R.length = 3) (hL : ∀ b ∈ L, b = .tup []) (hR : ∀ b ∈ R, b = .tup []) : Ar (openD (L ++ B :: R)) B L.length := ⟨fun h => open_good (goods_of fun x hx => by
    rcases List.mem_append.mp hx with e | e
    · rw [hL x e]; rfl
    · rcases List.mem_cons.mp e with e | e
      · rw [e]; exact h
      · rw [hR x e]; rfl), fun h => by
    rw [open_stmt]
    unfold areBlocks
    rw [Bool.and_eq_true, Bool.and_eq_true]
    refine ⟨⟨decide_eq_true (by simp; omega), decide_eq_true (by simp; omega)⟩, List.all_eq_true.mpr fun x hx => ?_⟩
    rcases List.mem_append.mp hx with e | e
    · rw [hL x e]; rfl
    · rcases List.mem_cons.mp e with e | e
      · rw [e]; exact h
      · rw [hR x e]; rfl, ⟨L, R, open_blocks _, rfl, by omega, fun b hb => (by rw [hL b hb]; exact plain_nil), fun b hb => by rw [hR b hb]; exact plain_nil⟩, by rw [open_head]; decide +kernel, fun h => by rw [open_head] at h; exact absurd h (by decide +kernel)⟩
theorem around_ok (ga : Addr) (B : D) (P : LV → Unit → Prop) (h : ∀ S (num : Nat), Ar S B num → P (.d (.tup [S, .int num])) ()) : m__law_around ga [.raw (.ref ga), .d B] () P noX := by
  have hbig : 100000 < sizeLine := by decide
  refine ⟨rfl, ?_⟩
  unfold u__law_around
  refine set_draw rfl (by decide) (by decide +kernel) fun r h0 h1 => ?_
  simp only [startN, List.map_cons, List.map_nil, List.cons_append, List.nil_append, List.set_cons_succ, List.set_cons_zero, List.length_cons, List.length_nil, Nat.reduceAdd, Nat.reduceSub, List.replicate_succ, List.replicate_zero]
  have tst : ∀ (c : Int) (o : Option LV) P N, wTb (wOp (eqF false) (wVb 2) (wC (.int c))) [some (.raw (.ref ga)), some (.d B), some (.d (.int r)), o] () P N = P (decide (r = c)) () := fun c o P N => rfl
  have hr : r = 0 ∨ r = 1 ∨ r = 2 ∨ r = 3 ∨ r = 4 := by omega
  rcases hr with rfl | rfl | rfl | rfl | rfl
  · rw [seq_yes fun P N => tst 0 _ P N]
    exact ⟨by simp, by simp, h _ 0 (ar_rep B)⟩
  · rw [seq_no fun P N => tst 0 _ P N, seq_yes fun P N => tst 1 _ P N]
    exact ⟨by simp, by simp, by simp, by simp, by simp, h _ 0 (ar_if1 B)⟩
  · rw [seq_no fun P N => tst 0 _ P N, seq_no fun P N => tst 1 _ P N, seq_yes fun P N => tst 2 _ P N]
    exact ⟨by simp, by simp, by simp, h _ 1 (ar_if2 B)⟩
  · rw [seq_no fun P N => tst 0 _ P N, seq_no fun P N => tst 1 _ P N, seq_no fun P N => tst 2 _ P N, seq_yes fun P N => tst 3 _ P N]
    have hw := h _ 1 (ar_wait B)
    exact ⟨by simp, by simp, by simp, by simp, by simp, by simp, by simp, by simp, hw⟩
  · rw [seq_no fun P N => tst 0 _ P N, seq_no fun P N => tst 1 _ P N, seq_no fun P N => tst 2 _ P N, seq_no fun P N => tst 3 _ P N]
    refine set_draw rfl (by decide) (by decide +kernel) fun j j0 j1 => ?_
    simp only [List.set_cons_succ, List.set_cons_zero]
    rw [frz (.int j) rfl rfl]
    have m1 := fun P => mul_rep (k := j) (xs := [.tup []]) j0 (by omega) (by simp) P
    have m2 := fun P => mul_rep (k := 3 - j) (xs := [.tup []]) (by omega) (by omega) (by simp) P
    simp only [wRet, wTup, wCons, wNil, wC, wV, wOp, wVb, LEnv.at, LV.fz, dsOf, subF, ii0, m1, m2, addF, List.length_cons, List.length_nil]
    have hj : j = 0 ∨ j = 1 ∨ j = 2 ∨ j = 3 := by omega
    rcases hj with rfl | rfl | rfl | rfl
    · have hw := h _ 0 (ar_open B [] [.tup [], .tup [], .tup []] rfl (by simp) (by simp))
      exact ⟨by simp, by simp, by simp, Nat.le_trans (Nat.le_of_eq (m := 1) rfl) (by omega), by simp, by simp, Nat.le_trans (Nat.le_of_eq (m := 4) rfl) (by omega), by simp, by simp, hw⟩
    · have hw := h _ 1 (ar_open B [.tup []] [.tup [], .tup []] rfl (by simp) (by simp))
      exact ⟨by simp, by simp, by simp, Nat.le_trans (Nat.le_of_eq (m := 2) rfl) (by omega), by simp, by simp, Nat.le_trans (Nat.le_of_eq (m := 4) rfl) (by omega), by simp, by simp, hw⟩
    · have hw := h _ 2 (ar_open B [.tup [], .tup []] [.tup []] rfl (by simp) (by simp))
      exact ⟨by simp, by simp, by simp, Nat.le_trans (Nat.le_of_eq (m := 3) rfl) (by omega), by simp, by simp, Nat.le_trans (Nat.le_of_eq (m := 4) rfl) (by omega), by simp, by simp, hw⟩
    · have hw := h _ 3 (ar_open B [.tup [], .tup [], .tup []] [] rfl (by simp) (by simp))
      exact ⟨by simp, by simp, by simp, Nat.le_trans (Nat.le_of_eq (m := 4) rfl) (by omega), by simp, by simp, Nat.le_trans (Nat.le_of_eq (m := 4) rfl) (by omega), by simp, by simp, hw⟩
end LW
namespace LW
open PySem PySem.Spec PyProof.Rows L2 DL
/-! the drawn depths -/
def dnL : Nat → List D
  | 0 => []
  | 1 => []
  | d + 2 => .int ((d + 2 : Nat) : Int) :: dnL (d + 1)
theorem dn_rng (n : Nat) : rngB 2 (2 + (n : Int)) = dnL (n + 1) := by
  rw [rngB_nat]
  induction n with
  | zero => rfl
  | succ n ih =>
    rw [List.range_succ, List.map_append, List.reverse_append, ih]
    show D.int (2 + (n : Int)) :: dnL (n + 1) = D.int ((n + 2 : Nat) : Int) :: dnL (n + 1)
    rw [show (2 : Int) + (n : Int) = ((n + 2 : Nat) : Int) by omega]
theorem lv_start {m : Nat} (h9 : 9 ≤ m) (h14 : m ≤ 14) : Lv m (.tup [tellD "p" 1]) none := by
  have hs : ∀ x ∈ [tellD "p" 1], Sim x := fun x hx => by rw [List.mem_singleton.mp hx]; exact tellp1
  refine ⟨sims_good hs, ⟨"p", 1, [], rfl, tellp1, by simp⟩, fun _ p lp => (firstW_ok _ _ _ _ _).mpr (sims_ok hs _ _ _), fun n => ?_, fun q e => by cases e⟩
  cases n with
  | zero =>
    show (0 : Int) ≤ _
    omega
  | succ n =>
    show cntW (n + 1) [tellD "p" 1] ≤ _
    rw [sims_c hs]
    simp
    omega
theorem lv_start7 {m : Nat} (h9 : 9 ≤ m) (h14 : m ≤ 14) : Lv m (.tup [tellD "p" 1, .int 7]) (some [1]) := by
  have hs : ∀ x ∈ [tellD "p" 1], Sim x := fun x hx => by rw [List.mem_singleton.mp hx]; exact tellp1
  refine ⟨good_cons tellp1.good rfl, ⟨"p", 1, [.int 7], rfl, tellp1, by simp⟩, fun h12 p lp => ?_, fun n => ?_, fun q e => by cases e; simp; omega⟩
  · have e17 : 17 - m = (16 - m) + 1 := by omega
    rw [e17, firstW_succ]
    show scan (itemF (16 - m) m lp) p 0 ([tellD "p" 1] ++ [.int 7]) = _
    rw [scan_sims hs, scan_hit (wrong_f (stmt_wrong rfl _ _))]
    rfl
  · cases n with
    | zero =>
      show (0 : Int) ≤ _
      omega
    | succ n =>
      show cntW (n + 1) ([tellD "p" 1] ++ [.int 7]) ≤ _
      rw [cnt_app, sims_c hs, cnt_one]
      simp [blocksOf]
      omega
theorem lv_fits {B : D} {path : Option (List Int)} (h : Lv 1 B path) : Fits B (path.map pathD) (-1) := by
  have hf := h.first (by decide) [] false
  refine ⟨h.good, ?_, fun y e => ?_, fun _ => .inl (by decide)⟩
  · cases path with
    | none => exact bad_none (lv_blk h) ((firstW_ok 16 _ [] 1 false).mp hf) (Int.le_trans (h.cnt 16) (by decide))
    | some q => exact bad_path (lv_blk h) (hf.trans (by simp))
  · cases path with
    | none => cases e
    | some q =>
      cases e
      exact pure_path 58 q (Nat.le_trans (h.len q rfl) (by decide))
theorem aheads_sim (n : Nat) (hn : n ≤ 3) : ∀ x ∈ (rngL 0 n).map (fun x => match x with | .int k => tellD "q" k | x => x), Sim x := by
  intro x hx
  obtain ⟨y, hy, rfl⟩ := List.mem_map.mp hx
  obtain ⟨k, rfl, k0, k1⟩ := rng_mem hy
  exact tell_sim (by decide +kernel) (by decide +kernel) k0 (by omega)
end LW
namespace LW
open PySem PySem.Spec PyProof.Rows L2 DL
/-! the loop of depths -/
def qK (x : D) : D := match x with
  | .int k => tellD "q" k
  | x => x
theorem ahead_list (n : Nat) : ∃ r, (rngL 0 (n + 1)).map qK = tellD "q" 0 :: r := ⟨_, rfl⟩
theorem aheads_simQ (n : Nat) (hn : n ≤ 3) : ∀ x ∈ (rngL 0 n).map qK, Sim x := by
  intro x hx
  obtain ⟨y, hy, rfl⟩ := List.mem_map.mp hx
  obtain ⟨k, rfl, k0, k1⟩ := rng_mem hy
  exact tell_sim (by decide +kernel) (by decide +kernel) k0 (by omega)
def nextP (d len num : Nat) (path : Option (List Int)) : Option (List Int) := if d = 12 then some [(len : Int)] else path.map fun q => (len : Int) :: (num : Int) :: q
theorem lv_next {d : Nat} {S B : D} {num : Nat} {path : Option (List Int)} {n : Nat} (hd0 : 1 ≤ d) (hd : d ≤ 13) (hB : Lv (d + 1) B path) (ha : Ar S B num) (hn : n ≤ 2) : Lv d (.tup ((rngL 0 (n + 1)).map qK ++ [S])) (nextP d (n + 1) num path) := by
  obtain ⟨r, hr⟩ := ahead_list n
  have hlen : ((rngL 0 (n + 1)).map qK).length = n + 1 := by rw [List.length_map, rngL_len]
  refine lv_step (k := 0) (r := r) hd0 hd hB ha hr (aheads_simQ (n + 1) (by omega)) (by omega) (fun h => ?_) (fun h => ?_) fun q e => ?_
  · unfold nextP
    rw [if_neg (by omega), hlen]
  · unfold nextP
    rw [if_pos h, hlen]
  · unfold nextP at e
    split at e
    · cases e; simp; omega
    · cases path with
      | none => cases e
      | some p =>
        cases e
        have := hB.len p rfl
        simp only [List.length_cons]
        omega
theorem if_last {t : WT Unit} {i : Nat} {w : W Unit} {M : ED Unit} {env : LEnv} {s : Unit} (b : Bool) (lv : LV) (env' : LEnv) (h1 : ∀ P N, t env s P N = P b s) (h2 : b = true → ∀ P N, w env s P N = P lv s) (h3 : env' = if b = true then env.set i (some lv) else env) :
    wIfS t (wSet i w) wNx M env s = M.nx env' s := by
  have := if_set (v := fun M => M.nx) (M := M) b lv env' h1 h2 h3
  exact this
def depthBody (ga : Addr) : WS Unit := wSeq (wFrz 2 (wUnp (wCl (m__law_around ga) [] (wCons (wV 0) (wCons (wV 2) wNil))) (gT 2 (gsC (gN 6) (gsC (gN 7) gsN)))))
    (wSeq (wSet 8 (wUn tupleF (wLc (wRng1 (wOp addF (wC (.int 1)) (wCl (m__law_draw ga) [] (wCons (wV 0) (wCons (wC (.int 3)) wNil))))) (gN 9) wYes (wTup (wCons (wC (.str "tell")) (wCons (wC (.str "q")) (wCons (wV 9) wNil)))) [9])))
    (wSeq (wSet 2 (wOp addF (wVb 8) (wTup (wCons (wV 6) wNil))))
    (wSeq (wIfS (wTb (wOp (isF true) (wVb 3) (wC .non))) (wSet 3 (wOp addF (wTup (wCons (wUn lenF (wVb 8)) (wCons (wV 7) wNil))) (wVb 3))) wNx)
    (wIfS (wTb (wOp (eqF false) (wVb 5) (wC (.int 13)))) (wSet 3 (wTup (wCons (wUn lenF (wVb 8)) wNil))) wNx))))
theorem depth_body (ga : Addr) (m : Int) (d : Nat) (hd0 : 1 ≤ d) (hd : d ≤ 13) (B : D) (path : Option (List Int)) (hB : Lv (d + 1) B path) (o6 o7 o8 o9 : Option LV) (M : ED Unit)
    (K : ∀ B' path' o6 o7 o8 o9, Lv d B' path' → M.nx [some (.raw (.ref ga)), some (.d (.int m)), some (.d B'), some (.d (pathO path')), some (.d (.str "let")), some (.d (.int ((d + 1 : Nat) : Int))), o6, o7, o8, o9] ()) :
    depthBody ga M [some (.raw (.ref ga)), some (.d (.int m)), some (.d B), some (.d (pathO path)), some (.d (.str "let")), some (.d (.int ((d + 1 : Nat) : Int))), o6, o7, o8, o9] () := by
  have hbig : 100000 < sizeLine := by decide
  unfold depthBody
  rw [seq_frz B rfl rfl]
  simp only [wSeq, wUnp, wCl, wCons, wV, wNil, LEnv.at, LV.fz, List.append_nil]
  refine around_ok ga B _ fun S num ha => ?_
  simp only [gT2, List.set_cons_succ, List.set_cons_zero]
  simp only [wSet, wUn, wLc, wRng1, wOp, wC, wCl, wCons, wV, wNil, LEnv.at, LV.fz, List.append_nil]
  refine draw_ok (by decide) (by decide +kernel) fun r h0 h1 => ?_
  simp only [addF]
  obtain ⟨n, rfl⟩ := Int.eq_ofNat_of_zero_le h0
  have e1 : ((1 : Int) + (n : Int)).toNat = n + 1 := by omega
  rw [rngD_eq, e1]
  refine ⟨by omega, ?_⟩
  refine ⟨by rw [rngL_len]; omega, ?_⟩
  rw [wLc_map qK _ [] fun x hx => ⟨_, fun K => rfl, fun P N => rfl, fun P N => by
    obtain ⟨k, rfl, k0, k1⟩ := rng_mem hx
    simp only [gN, wTup, wCons, wC, wV, wNil, wipeE, LEnv.at, LV.fz, dsOf, List.set_cons_succ, List.set_cons_zero, List.length_cons, List.length_nil]
    exact propext (and_iff_right (by simp))⟩]
  rw [List.nil_append]
  simp only [tupleF, LV.seq, LV.lis]
  have hlen : ((rngL 0 (n + 1)).map qK).length = n + 1 := by rw [List.length_map, rngL_len]
  have hnx := lv_next hd0 hd hB ha (n := n) (by omega)
  generalize (rngL 0 (n + 1)).map qK = A at hlen hnx ⊢
  have hA : A.length + 1 ≤ sizeLine := by omega
  simp only [List.set_cons_succ, List.set_cons_zero]
  rw [seq_set (.d (.tup (A ++ [S]))) fun P N => by
    simp only [wOp, wVb, wTup, wCons, wV, wNil, LEnv.at, LV.fz, dsOf, addF, List.length_cons, List.length_nil]
    simp [hA]]
  simp only [List.set_cons_succ, List.set_cons_zero]
  have hpl : ∀ q, path = some q → 2 + q.length ≤ sizeLine := fun q e => by
    have := hB.len q e
    omega
  rw [if_set path.isSome (.d (pathO (path.map fun q => ((n + 1 : Nat) : Int) :: (num : Int) :: q))) [some (.raw (.ref ga)), some (.d (.int m)), some (.d (.tup (A ++ [S]))), some (.d (pathO (path.map fun q => ((n + 1 : Nat) : Int) :: (num : Int) :: q))), some (.d (.str "let")), some (.d (.int ((d + 1 : Nat) : Int))), some (.d S), some (.d (.int num)), some (.d (.tup A)), o9]
    (fun P N => by cases path <;> rfl)
    (fun e P N => by
      cases path with
      | none => cases e
      | some q =>
        have := hpl q rfl
        simp only [wOp, wUn, wVb, wTup, wCons, wV, wNil, LEnv.at, LV.fz, lenF, LV.seq, dsOf, addF, List.length_cons, List.length_nil, pathO, pathD, Option.map_some, hlen]
        simp [this])
    (by cases path <;> rfl)]
  rw [if_last (decide (((d + 1 : Nat) : Int) = 13)) (.d (pathD [((n + 1 : Nat) : Int)])) [some (.raw (.ref ga)), some (.d (.int m)), some (.d (.tup (A ++ [S]))), some (.d (pathO (nextP d (n + 1) num path))), some (.d (.str "let")), some (.d (.int ((d + 1 : Nat) : Int))), some (.d S), some (.d (.int num)), some (.d (.tup A)), o9]
    (fun P N => rfl)
    (fun _ P N => by
      simp only [wUn, wVb, wTup, wCons, wV, wNil, LEnv.at, LV.fz, lenF, LV.seq, dsOf, List.length_cons, List.length_nil, pathD, hlen]
      simp)
    (by
      unfold nextP
      by_cases h : d = 12
      · rw [if_pos h, decide_eq_true (by omega)]; rfl
      · rw [if_neg h, decide_eq_false (by omega)]; rfl)]
  exact K _ _ _ _ _ _ hnx
end LW
namespace LW
open PySem PySem.Spec PyProof.Rows L2 DL
theorem draw_ifs {ga : Addr} {j : Nat} {many c : Int} {u : WS Unit} {M : ED Unit} {env : LEnv} (he : env.at j = some (.raw (.ref ga))) (hm : 0 < many) (hl : many.natAbs.log2 < 9000) (h1 : u M env ()) (h2 : M.nx env ()) :
    wIfS (wTb (wOp (eqF false) (wCl (m__law_draw ga) [] (wCons (wV j) (wCons (wC (.int many)) wNil))) (wC (.int c)))) u wNx M env () := by
  unfold wIfS wTb wOp
  refine w_draw he hm hl fun r h0 h1' => ?_
  simp only [wC, eqF, sEq]
  by_cases h : r = c
  · rw [decide_eq_true h]; exact h1
  · rw [decide_eq_false h]; exact h2
theorem depths_tail (ga : Addr) (n : Nat) (h14 : n + 1 ≤ 14) (B : D) (path : Option (List Int)) (hB : Lv (n + 1) B path) (P : LV → Unit → Prop) (h : P (.d (.bl true)) ()) (M : ED Unit) (hM : M.rt = P) :
    wSeq (wSet 4 (wC (.str "let"))) (wSeq (wFor (wRevR2 (wC (.int 2)) (wOp addF (wVb 1) (wC (.int 1)))) (gN 5) (depthBody ga)) (wSeq (wIfS (wTb (wOp (isF true) (wVb 3) (wC .non))) (wFrz 3 (wSet 4 (wV 3))) wNx)
    (wFrz 2 (wFrz 4 (wRet (wClU m__law_agrees [] (wCons (wV 2) (wCons (wV 4) (wCons (wNeg (wC (.int 1))) wNil)))))))))
    M [some (.raw (.ref ga)), some (.d (.int ((n + 1 : Nat) : Int))), some (.d B), some (.d (pathO path)), none, none, none, none, none, none] () := by
  have hbig : 100000 < sizeLine := by decide
  rw [seq_set (.d (.str "let")) fun P N => rfl]
  simp only [List.set_cons_succ, List.set_cons_zero]
  simp only [wSeq, wFor, wRevR2, wOp, wVb, wC, LEnv.at, addF]
  have e1 : ((n + 1 : Nat) : Int) + 1 = 2 + (n : Int) := by omega
  rw [e1, dn_rng]
  refine ⟨by omega, ?_⟩
  refine wGo_inv (fun rest env => ∃ d B path o5 o6 o7 o8 o9, 1 ≤ d ∧ d ≤ 14 ∧ rest = dnL d ∧ Lv d B path ∧ env = [some (.raw (.ref ga)), some (.d (.int ((n + 1 : Nat) : Int))), some (.d B), some (.d (pathO path)), some (.d (.str "let")), o5, o6, o7, o8, o9]) ?_ ?_ _ _ ⟨n + 1, B, path, _, _, _, _, _, by omega, h14, rfl, hB, rfl⟩
  · rintro env ⟨d, B, path, o5, o6, o7, o8, o9, d1, d2, hr, hB, rfl⟩
    have hd : d = 1 := by
      match d, d1, hr with
      | 1, _, _ => rfl
      | d + 2, _, hr => cases hr
    subst hd
    have hf := lv_fits hB
    cases path with
    | none =>
      dsimp only
      rw [seq_no fun P N => rfl, frz B rfl rfl, frz (.str "let") rfl rfl]
      exact agrees_ret B none (-1) (fun P N => rfl) hf (by rw [hM]; exact h)
    | some q =>
      dsimp only
      rw [seq_yes fun P N => rfl, frz (pathD q) rfl rfl]
      simp only [wSet, wV, LEnv.at, LV.fz, List.set_cons_succ, List.set_cons_zero]
      rw [frz B rfl rfl, frz (pathD q) rfl rfl]
      exact agrees_ret B (some (pathD q)) (-1) (fun P N => rfl) hf (by rw [hM]; exact h)
  · rintro x rest env ⟨d, B, path, o5, o6, o7, o8, o9, d1, d2, hr, hB, rfl⟩ K hK
    obtain ⟨e, rfl, rfl, rfl⟩ : ∃ e, d = e + 2 ∧ x = .int ((e + 2 : Nat) : Int) ∧ rest = dnL (e + 1) := by
      match d, d1, hr with
      | e + 2, _, hr => cases hr; exact ⟨e, rfl, rfl, rfl⟩
    simp only [gN, List.set_cons_succ, List.set_cons_zero]
    exact depth_body ga _ (e + 1) (by omega) (by omega) B path hB _ _ _ _ _ fun B' path' o6 o7 o8 o9 hB' => hK _ ⟨e + 1, B', path', _, _, _, _, _, by omega, by omega, rfl, hB', rfl⟩
theorem depths_ok (ga : Addr) (P : LV → Unit → Prop) (h : P (.d (.bl true)) ()) : m__law_depths_agree ga [.raw (.ref ga)] () P noX := by
  have hbig : 100000 < sizeLine := by decide
  refine ⟨rfl, ?_⟩
  unfold u__law_depths_agree
  simp only [wSeq, wSet, wOp, wC, wCl, wCons, wV, wNil, LEnv.at, startN, List.map_cons, List.map_nil, List.cons_append, List.nil_append, List.set_cons_succ, List.set_cons_zero, List.length_cons, List.length_nil, Nat.reduceAdd, Nat.reduceSub, List.replicate_succ, List.replicate_zero, LV.fz, List.append_nil]
  refine draw_ok (by decide) (by decide +kernel) fun r h0 h1 => ?_
  simp only [addF]
  obtain ⟨n, hn⟩ : ∃ n : Nat, 9 + r = ((n + 1 : Nat) : Int) := ⟨(8 + r).toNat, by omega⟩
  rw [hn]
  simp only [wTup, wCons, wC, wNil, LV.fz, dsOf, List.length_cons, List.length_nil]
  refine ⟨by decide, by decide, ?_⟩
  refine draw_ifs (j := 0) (ga := ga) (many := 2) (c := 0) rfl (by decide) (by decide +kernel) ?_ ?_
  · rw [seq_set (.d (.tup [tellD "p" 1, .int 7])) fun P N => by
      simp only [wOp, wVb, wTup, wCons, wC, wNil, LEnv.at, LV.fz, dsOf, addF, List.length_cons, List.length_nil]
      simp [tellD, show 2 ≤ sizeLine by omega]]
    refine ⟨by decide, ?_⟩
    exact depths_tail ga n (by omega) _ (some [1]) (lv_start7 (by omega) (by omega)) P h _ rfl
  · exact depths_tail ga n (by omega) _ none (lv_start (by omega) (by omega)) P h _ rfl
end LW
namespace LW
open PySem PySem.Spec PyProof.Rows L2 DL
/-! great routines -/
structure Szd (e : Nat) (m : Int) (xs : List D) : Prop where
  good : goods xs = true
  len : xs.length ≤ 12
  ok : ∀ (n : Nat) (d : Int) (lp : Bool), d + e ≤ 12 → okW n xs d lp = true
  cnt : ∀ n : Nat, e < n → cntW n xs = m
structure Lrg (e : Nat) (m : Int) (x : D) : Prop where
  good : good x = true
  ok : ∀ (n : Nat) (d : Int) (lp : Bool), d + e ≤ 12 → itemOk n d lp x = true
  cnt : ∀ n : Nat, e ≤ n → 1 + itemC n x = m
theorem lrg_tell (e : Nat) : Lrg e 1 (tellD "p" 1) := ⟨tellp1.good, fun n d lp _ => sim_ok tellp1 n d lp, fun n _ => by rw [sim_c tellp1]; rfl⟩
theorem szd_zero (k : Nat) (hk : k ≤ 12) : Szd 0 k (List.replicate k (.tup [.str "hear", .str "p", .str "a"])) := by
  have hs : ∀ x ∈ List.replicate k (D.tup [.str "hear", .str "p", .str "a"]), Sim x := fun x hx => by rw [(List.mem_replicate.mp hx).2]; exact hear_sim
  refine ⟨sims_good hs, by rw [List.length_replicate]; exact hk, fun n d lp _ => sims_ok hs n d lp, fun n hn => ?_⟩
  obtain ⟨n', rfl⟩ : ∃ n', n = n' + 1 := ⟨n - 1, by omega⟩
  rw [sims_c hs, List.length_replicate]
theorem lrg_open {e : Nat} {a b c f : Int} {xa xb xc xf : List D} (ha : Szd e a xa) (hb : Szd e b xb) (hc : Szd e c xc) (hf : Szd e f xf) : Lrg (e + 1) (1 + (a + b + c + f)) (openD [.tup xa, .tup xb, .tup xc, .tup xf]) := by
  have hst : isStmt (openD [.tup xa, .tup xb, .tup xc, .tup xf]) = true := by
    rw [open_stmt]
    simp [areBlocks, blk_of ha.len, blk_of hb.len, blk_of hc.len, blk_of hf.len]
  refine ⟨open_good (good_cons ha.good (good_cons hb.good (good_cons hc.good (good_cons hf.good rfl)))), fun n d lp h => ?_, fun n h => ?_⟩
  · refine item_ok (deep_ok hst (by rw [open_head]; decide +kernel) (by omega) fun q => by rw [open_head] at q; exact absurd q (by decide +kernel)) fun y hy => ?_
    rw [open_blocks] at hy
    have hd : d + 1 + (e : Int) ≤ 12 := by omega
    rcases List.mem_cons.mp hy with q | q
    · rw [q]; exact ha.ok _ _ _ hd
    · rcases List.mem_cons.mp q with q | q
      · rw [q]; exact hb.ok _ _ _ hd
      · rcases List.mem_cons.mp q with q | q
        · rw [q]; exact hc.ok _ _ _ hd
        · rw [List.mem_singleton.mp q]; exact hf.ok _ _ _ hd
  · unfold itemC
    rw [open_blocks]
    simp only [List.map_cons, List.map_nil, List.sum_cons, List.sum_nil, itemsOf, ha.cnt n (by omega), hb.cnt n (by omega), hc.cnt n (by omega), hf.cnt n (by omega)]
    omega
theorem szd_snoc {e : Nat} {m s : Int} {xs : List D} {x : D} (h : Szd e m xs) (hx : Lrg e s x) (hl : xs.length ≤ 11) : Szd e (m + s) (xs ++ [x]) := by
  refine ⟨goods_of fun y hy => ?_, by rw [List.length_append, List.length_singleton]; omega, fun n d lp hd => ?_, fun n hn => ?_⟩
  · rcases List.mem_append.mp hy with q | q
    · exact goods_mem h.good y q
    · rw [List.mem_singleton.mp q]; exact hx.good
  · cases n with
    | zero => rfl
    | succ n =>
      rw [ok_app, h.ok (n + 1) d lp hd, okW_succ]
      simp only [List.all_cons, List.all_nil, Bool.and_true, Bool.true_and]
      exact hx.ok n d lp hd
  · obtain ⟨n', rfl⟩ : ∃ n', n = n' + 1 := ⟨n - 1, by omega⟩
    rw [cnt_app, h.cnt (n' + 1) hn, cntW_succ n' [x], List.map_singleton, List.sum_singleton, List.length_singleton]
    have := hx.cnt n' (by omega)
    omega
end LW
namespace LW
open PySem PySem.Spec PyProof.Rows L2 DL
/-! shares -/
theorem share_le {n rest c : Int} (hn : 1 ≤ n) (h0 : 0 ≤ rest) (h : rest ≤ n * c) (hc : 0 ≤ c) : 0 ≤ (rest + (n - 1)) / n ∧ (rest + (n - 1)) / n ≤ c ∧ (rest + (n - 1)) / n ≤ rest ∧ rest - (rest + (n - 1)) / n ≤ (n - 1) * c ∧ (1 ≤ rest → 1 ≤ (rest + (n - 1)) / n) := by
  have hpos : 0 < n := by omega
  have hdm := Int.emod_add_mul_ediv (rest + (n - 1)) n
  have hm0 := Int.emod_nonneg (rest + (n - 1)) (by omega : n ≠ 0)
  have hm1 := Int.emod_lt_of_pos (rest + (n - 1)) hpos
  generalize (rest + (n - 1)) / n = s at hdm ⊢
  generalize (rest + (n - 1)) % n = m at hdm hm0 hm1
  have s0 : 0 ≤ s := by
    by_cases q : 0 ≤ s
    · exact q
    · have : n * s ≤ n * (-1) := Int.mul_le_mul_of_nonneg_left (by omega) (by omega)
      omega
  have s1 : s ≤ c := by
    by_cases q : s ≤ c
    · exact q
    · have : n * (c + 1) ≤ n * s := Int.mul_le_mul_of_nonneg_left (by omega) (by omega)
      rw [Int.mul_add, Int.mul_one] at this
      omega
  have s2 : s ≤ rest := by
    by_cases q : s ≤ rest
    · exact q
    · have : n * (rest + 1) ≤ n * s := Int.mul_le_mul_of_nonneg_left (by omega) (by omega)
      rw [Int.mul_add, Int.mul_one] at this
      have : 1 * rest ≤ n * rest := Int.mul_le_mul_of_nonneg_right (by omega) h0
      omega
  have s3 : (n - 1) * s ≤ (n - 1) * c := Int.mul_le_mul_of_nonneg_left s1 (by omega)
  have s4 : (n - 1) * s = n * s - s := by rw [Int.sub_mul, Int.one_mul]
  refine ⟨s0, s1, s2, by omega, fun h1 => ?_⟩
  by_cases q : 1 ≤ s
  · exact q
  · have hs : s = 0 := by omega
    subst hs
    rw [Int.mul_zero] at hdm
    omega
end LW
namespace LW
open PySem PySem.Spec PyProof.Rows L2 DL
/-! the walk of great routines -/
theorem share_more {n rest : Int} (hn : 1 ≤ n) (h : n ≤ rest) : n - 1 ≤ rest - (rest + (n - 1)) / n := by
  have hpos : 0 < n := by omega
  have hdm := Int.emod_add_mul_ediv (rest + (n - 1)) n
  have hm0 := Int.emod_nonneg (rest + (n - 1)) (by omega : n ≠ 0)
  generalize (rest + (n - 1)) / n = s at hdm ⊢
  generalize (rest + (n - 1)) % n = m at hdm hm0
  -- n * s ≤ rest + n - 1; were rest - s < n - 1, then s ≥ rest - n + 2
  by_cases q : n - 1 ≤ rest - s
  · exact q
  · have h1 : n * (rest - n + 2) ≤ n * s := Int.mul_le_mul_of_nonneg_left (by omega) (by omega)
    have h2 : 0 ≤ (n - 1) * (rest - n) := Int.mul_nonneg (by omega) (by omega)
    have e1 : n * (rest - n + 2) = n * (rest - n) + 2 * n := by rw [Int.mul_add, Int.mul_comm n 2]
    have e2 : (n - 1) * (rest - n) = n * (rest - n) - (rest - n) := by rw [Int.sub_mul, Int.one_mul]
    omega
theorem szd_nil (e : Nat) : Szd e 0 [] := ⟨rfl, by simp, fun n d lp _ => by cases n <;> rfl, fun n hn => by
  obtain ⟨n', rfl⟩ : ∃ n', n = n' + 1 := ⟨n - 1, by omega⟩
  rfl⟩
def sizedBody (ml : MF Unit) : WS Unit := wSeq (wSet 5 (wOp fdivF (wOp subF (wOp addF (wVb 3) (wC (.int 11))) (wVb 4)) (wOp subF (wC (.int 12)) (wVb 4))))
    (wIfS (wTb (wOp gtI (wVb 5) (wC (.int 0)))) (wSeq (wFrz 5 (wApp 2 (wClU ml [] (wCons (wV 5) (wCons (wV 1) wNil)))))
    (wSet 3 (wOp subF (wVb 3) (wVb 5)))) wNx)
theorem sized_body (ml : MF Unit) (e : Nat) (c m : Int) (hlarge : ∀ s, 1 ≤ s → s ≤ c → ∀ P, (∀ x, Lrg e s x → P (.d x) ()) → ml [.d (.int s), .d (.int e)] () P noX)
    (k : Nat) (hk : k < 12) (xs : List D) (rest : Int) (h0 : 0 ≤ rest) (h1 : rest ≤ (12 - (k : Int)) * c) (hc : 0 ≤ c) (hs : Szd e (m - rest) xs) (hl : xs.length ≤ k) (o5 : Option LV) (M : ED Unit) (hbig : rest < 1000000)
    (K : ∀ xs' rest' o5, 0 ≤ rest' → rest' ≤ (11 - (k : Int)) * c → Szd e (m - rest') xs' → xs'.length ≤ k + 1 → (12 - (k : Int) ≤ rest → xs.length = k → xs'.length = k + 1 ∧ 11 - (k : Int) ≤ rest') → rest' < 1000000 →
      M.nx [some (.d (.int m)), some (.d (.int e)), some (.l xs'), some (.d (.int rest')), some (.d (.int k)), o5] ()) :
    sizedBody ml M [some (.d (.int m)), some (.d (.int e)), some (.l xs), some (.d (.int rest)), some (.d (.int k)), o5] () := by
  have hb : 100000 < sizeLine := by decide
  have e11 : rest + 11 - (k : Int) = rest + ((12 - (k : Int)) - 1) := by omega
  obtain ⟨s0, s1, s2, s3, s4⟩ := share_le (n := 12 - (k : Int)) (rest := rest) (c := c) (by omega) h0 h1 hc
  have s5 := fun q => share_more (n := 12 - (k : Int)) (rest := rest) (by omega) q
  unfold sizedBody
  simp only [wSeq, wSet, wOp, wVb, wC, LEnv.at, addF, subF, ii0, fdivF, iiF, List.set_cons_succ, List.set_cons_zero, e11]
  generalize (rest + ((12 - (k : Int)) - 1)) / (12 - (k : Int)) = s at s0 s1 s2 s3 s4 s5 ⊢
  refine ⟨⟨by omega, by omega⟩, ?_⟩
  have e12 : rest - s ≤ (11 - (k : Int)) * c := by
    have : (12 - (k : Int)) - 1 = 11 - (k : Int) := by omega
    rw [← this]; exact s3
  simp only [wIfS, wTb, wOp, wVb, wC, LEnv.at, gtI, ii0]
  by_cases hp : 0 < s
  · rw [if_pos (decide_eq_true hp)]
    simp only [wSeq, wFrz, wApp, wClU, wCons, wV, wNil, LEnv.at, LV.fz, List.set_cons_succ, List.set_cons_zero, List.append_nil]
    refine hlarge s (by omega) s1 _ fun x hx => ?_
    simp only [LV.fz]
    refine ⟨by omega, ?_⟩
    simp only [wSet, wOp, wVb, LEnv.at, ii0, List.set_cons_succ, List.set_cons_zero]
    have hm : m - rest + s = m - (rest - s) := by omega
    refine K _ _ _ (by omega) e12 (by rw [← hm]; exact szd_snoc hs hx (by omega)) (by rw [List.length_append, List.length_singleton]; omega) (fun q r => ⟨by rw [List.length_append, List.length_singleton, r], by have := s5 q; omega⟩) (by omega)
  · rw [if_neg (by rw [decide_eq_false hp]; decide)]
    have hr : ¬ 1 ≤ rest := fun q => by have := s4 q; omega
    have hs0 : s = 0 := by omega
    subst hs0
    rw [Int.sub_zero] at e12
    exact K xs rest _ h0 e12 hs (by omega) (fun q _ => absurd q (by omega)) hbig
/-! the caps -/
def cap : Nat → Int
  | 0 => 12
  | e + 1 => 12 * (1 + 4 * cap e)
theorem cap_pos : ∀ e, 1 ≤ cap e
  | 0 => by decide
  | e + 1 => by have := cap_pos e; unfold cap; omega
theorem sized_loop (ml : MF Unit) (e : Nat) (c m : Int) (hlarge : ∀ s, 1 ≤ s → s ≤ c → ∀ P, (∀ x, Lrg e s x → P (.d x) ()) → ml [.d (.int s), .d (.int e)] () P noX) (h0 : 0 ≤ m) (h1 : m ≤ 12 * c) (hc : 0 ≤ c) (hbig : m < 1000000) (M : ED Unit) (o4 o5 : Option LV)
    (K : ∀ xs o3 o4 o5, Szd e m xs → (12 ≤ m → xs.length = 12) → M.nx [some (.d (.int m)), some (.d (.int e)), some (.l xs), o3, o4, o5] ()) :
    wFor (wRng1 (wC (.int 12))) (gN 4) (sizedBody ml) M [some (.d (.int m)), some (.d (.int e)), some (.l []), some (.d (.int m)), o4, o5] () := by
  simp only [wFor, wRng1, wC, rngD_eq]
  refine ⟨by decide, ?_⟩
  have e12 : (12 : Int).toNat = 12 := rfl
  rw [e12]
  refine wGo_inv (fun left env => ∃ (k : Nat) (xs : List D) (rest : Int) (o4 o5 : Option LV), k ≤ 12 ∧ left = rngL k (12 - k) ∧ 0 ≤ rest ∧ rest ≤ (12 - (k : Int)) * c ∧ Szd e (m - rest) xs ∧ xs.length ≤ k ∧ (12 ≤ m → xs.length = k ∧ 12 - (k : Int) ≤ rest) ∧ rest < 1000000 ∧ env = [some (.d (.int m)), some (.d (.int e)), some (.l xs), some (.d (.int rest)), o4, o5]) ?_ ?_ _ _ ⟨0, [], m, _, _, by omega, rfl, h0, by simpa using h1, by rw [Int.sub_self]; exact szd_nil e, Nat.le_refl _, fun h => ⟨rfl, by omega⟩, hbig, rfl⟩
  · rintro env ⟨k, xs, rest, o4, o5, hk, hl, r0, r1, hs, hn, h12, hb, rfl⟩
    have hk12 : k = 12 := by
      rcases Nat.lt_or_ge k 12 with q | q
      · obtain ⟨j, hj⟩ : ∃ j, 12 - k = j + 1 := ⟨11 - k, by omega⟩
        rw [hj] at hl; cases hl
      · omega
    subst hk12
    have : (12 - ((12 : Nat) : Int)) * c = 0 := by simp
    have hr : rest = 0 := by omega
    subst hr
    rw [Int.sub_zero] at hs
    exact K xs _ _ _ hs fun h => (h12 h).1
  · rintro x left env ⟨k, xs, rest, o4, o5, hk, hl, r0, r1, hs, hn, h12, hb, rfl⟩ N hN
    have hk12 : k < 12 := by
      rcases Nat.lt_or_ge k 12 with q | q
      · exact q
      · rw [show 12 - k = 0 by omega] at hl; cases hl
    obtain ⟨j, hj⟩ : ∃ j, 12 - k = j + 1 := ⟨11 - k, by omega⟩
    rw [hj] at hl
    cases hl
    simp only [gN, List.set_cons_succ, List.set_cons_zero]
    refine sized_body ml e c m hlarge k hk12 xs rest r0 r1 hc hs hn o5 _ hb fun xs' rest' o5' a1 a2 a3 a4 a5 a6 => hN _ ⟨k + 1, xs', rest', _, o5', by omega, ?_, a1, ?_, a3, a4, fun h => ?_, a6, rfl⟩
    · rw [show 12 - (k + 1) = j by omega]; rfl
    · have : (12 - ((k + 1 : Nat) : Int)) = 11 - (k : Int) := by omega
      rw [this]; exact a2
    · obtain ⟨b1, b2⟩ := h12 h
      obtain ⟨b3, b4⟩ := a5 b2 b1
      exact ⟨b3, by omega⟩
end LW
namespace LW
open PySem PySem.Spec PyProof.Rows L2 DL
/-! large -/
def largeBody (ms : MF Unit) : WS Unit := wSeq (wSet 5 (wOp fdivF (wOp subF (wOp addF (wVb 2) (wC (.int 3))) (wVb 4)) (wOp subF (wC (.int 4)) (wVb 4))))
    (wSeq (wFrz 5 (wApp 3 (wClU ms [] (wCons (wV 5) (wCons (wOp subF (wVb 1) (wC (.int 1))) wNil)))))
    (wSet 2 (wOp subF (wVb 2) (wVb 5))))
theorem large_body (ms : MF Unit) (e : Nat) (c : Int) (hsized : ∀ m, 0 ≤ m → m ≤ c → ∀ P, (∀ xs, Szd e m xs → P (.d (.tup xs)) ()) → ms [.d (.int m), .d (.int e)] () P noX)
    (k : Nat) (hk : k < 4) (bs : List D) (rest : Int) (h0 : 0 ≤ rest) (h1 : rest ≤ (4 - (k : Int)) * c) (hc : 0 ≤ c) (hl : bs.length ≤ k) (s : LV) (o5 : Option LV) (M : ED Unit) (hbig : rest < 1000000)
    (K : ∀ a xs o5, Szd e a xs → 0 ≤ a → 0 ≤ rest - a → rest - a ≤ (3 - (k : Int)) * c → M.nx [some s, some (.d (.int (e + 1))), some (.d (.int (rest - a))), some (.l (bs ++ [.tup xs])), some (.d (.int k)), o5] ()) :
    largeBody ms M [some s, some (.d (.int (e + 1))), some (.d (.int rest)), some (.l bs), some (.d (.int k)), o5] () := by
  have hb : 100000 < sizeLine := by decide
  have e11 : rest + 3 - (k : Int) = rest + ((4 - (k : Int)) - 1) := by omega
  obtain ⟨s0, s1, s2, s3, s4⟩ := share_le (n := 4 - (k : Int)) (rest := rest) (c := c) (by omega) h0 h1 hc
  unfold largeBody
  simp only [wSeq, wSet, wOp, wVb, wC, LEnv.at, addF, subF, ii0, fdivF, iiF, List.set_cons_succ, List.set_cons_zero, e11]
  generalize (rest + ((4 - (k : Int)) - 1)) / (4 - (k : Int)) = a at s0 s1 s2 s3 s4 ⊢
  refine ⟨⟨by omega, by omega⟩, ?_⟩
  have e12 : rest - a ≤ (3 - (k : Int)) * c := by
    have : (4 - (k : Int)) - 1 = 3 - (k : Int) := by omega
    rw [← this]; exact s3
  simp only [wFrz, wApp, wClU, wOp, wVb, wC, ii0, wCons, wV, wNil, LEnv.at, LV.fz, List.set_cons_succ, List.set_cons_zero, List.append_nil]
  have ee : ((e : Int) + 1 - 1) = e := by omega
  rw [ee]
  refine hsized a s0 s1 _ fun xs hx => ?_
  simp only [LV.fz]
  exact ⟨by omega, K a xs _ hx s0 (by omega) e12⟩
theorem go_cons {S : Type} {i : Nat} {b : WS S} {M : ED S} {x : D} {r : List D} {env : LEnv} {s : S} (h : b { M with nx := wGo (gN i) b M r, ct := wGo (gN i) b M r, bk := M.nx } (env.set i (some (.d x))) s) : wGo (gN i) b M (x :: r) env s := h
theorem large_loop (ms : MF Unit) (e : Nat) (hsized : ∀ m, 0 ≤ m → m ≤ cap e → ∀ P, (∀ xs, Szd e m xs → P (.d (.tup xs)) ()) → ms [.d (.int m), .d (.int e)] () P noX)
    (s : Int) (h1 : 1 ≤ s) (h2 : s ≤ 1 + 4 * cap e) (hbig : s < 1000000) (M : ED Unit) (o4 o5 : Option LV)
    (K : ∀ a b c d xa xb xc xd o2 o4 o5, Szd e a xa → Szd e b xb → Szd e c xc → Szd e d xd → s = 1 + (a + b + c + d) → M.nx [some (.d (.int s)), some (.d (.int (e + 1))), o2, some (.l [.tup xa, .tup xb, .tup xc, .tup xd]), o4, o5] ()) :
    wFor (wRng1 (wC (.int 4))) (gN 4) (largeBody ms) M [some (.d (.int s)), some (.d (.int (e + 1))), some (.d (.int (s - 1))), some (.l []), o4, o5] () := by
  have hcp := cap_pos e
  have e4 : rngD 0 (Int.toNat 4) = [.int ((0 : Nat) : Int), .int ((1 : Nat) : Int), .int ((2 : Nat) : Int), .int ((3 : Nat) : Int)] := rfl
  simp only [wFor, wRng1, wC]
  refine ⟨by decide, ?_⟩
  rw [e4]
  have go := fun k hk bs rest h0 h1 hl s o5 M hb K => large_body ms e (cap e) hsized k hk bs rest h0 h1 (by omega) hl s o5 M hb K
  refine go_cons ?_
  simp only [List.set_cons_succ, List.set_cons_zero]
  refine go 0 (by omega) [] (s - 1) (by omega) (by simp; omega) (by simp) _ _ _ (by omega) fun a xa o5 ha ap a0 a1 => ?_
  dsimp only
  refine go_cons ?_
  simp only [List.set_cons_succ, List.set_cons_zero]
  refine go 1 (by omega) _ _ a0 (by simpa using a1) (by simp) _ _ _ (by omega) fun b xb o5 hb' bp b0 b1 => ?_
  dsimp only
  refine go_cons ?_
  simp only [List.set_cons_succ, List.set_cons_zero]
  refine go 2 (by omega) _ _ b0 (by simpa using b1) (by simp) _ _ _ (by omega) fun c xc o5 hc cp c0 c1 => ?_
  dsimp only
  refine go_cons ?_
  simp only [List.set_cons_succ, List.set_cons_zero]
  refine go 3 (by omega) _ _ c0 (by simpa using c1) (by simp) _ _ _ (by omega) fun d xd o5 hd dp d0 d1 => ?_
  have hz : s - 1 - a - b - c - d = 0 := by
    have : (3 - ((3 : Nat) : Int)) * cap e = 0 := by simp
    omega
  exact K a b c d xa xb xc xd _ _ _ ha hb' hc hd (by omega)
theorem large_step (n : Nat) (e : Nat) (hsized : ∀ m, 0 ≤ m → m ≤ cap e → ∀ P, (∀ xs, Szd e m xs → P (.d (.tup xs)) ()) → m__law_sized n [.d (.int m), .d (.int e)] () P noX)
    (s : Int) (h1 : 1 ≤ s) (h2 : s ≤ 1 + 4 * cap e) (hbig : s < 1000000) (P : LV → Unit → Prop) (h : ∀ x, Lrg (e + 1) s x → P (.d x) ()) : m__law_large (n + 1) [.d (.int s), .d (.int (e + 1))] () P noX := by
  refine ⟨rfl, ?_⟩
  unfold u__law_large
  by_cases hs : s = 1
  · subst hs
    rw [seq_yes fun P N => by simp [wSeq, wSet, wOp, wUn, wVb, wV, wC, wRet, wRetV, wRetN, wIfS, wNx, wBrk, wCnt, wFor, wWalk, wEnum, wRng1, wRng2, wRev, walkD, gN, gT, gsC, gsN, wAnd, wOr, wNot, wCh, wTb, wTr, wtAnd, wtOr, wtNot, wClU, wCl, wClX, wClUX, wCons, wNil, wTup, wLst, wDk, wDt, wFld, wSl, woN, woS, wKw, wRaise, wNeg, wFrz, wApp, wExt, wDrop, wUnp, wIf, wYes, wDisp1, wSplit, wLvals, wOFld, wOGet, wMk, wMkX, wDSet, wDGet, wDIn, wScr, wMt, wMtX, startN, LEnv.at, tru, isT, isC, LV.dd, LV.fz, LV.seq, LV.lis, LV.tpl, Ty6.has, lenF, intF, listF, tupleF, anyF, sumF, eqF, sEq, isF, LV.isN, inF, ixF, ltI, leI, gtI, geI, ii0, iiF, subF, modF, mulF, mulF2, listF2, LV.dt, fdivF, addF, powF, slF, dsOf, D.sign, D.flat, List.map_cons, List.map_nil, List.length_cons, List.length_nil, List.cons_append, List.nil_append, List.append_nil, List.set_cons_zero, List.set_cons_succ, List.set_nil, Nat.sub_self, Nat.reduceSub, Nat.reduceAdd, List.replicate_succ, List.replicate_zero, Bool.false_eq_true, if_true, if_false, true_and, and_true, false_and, and_false]]
    exact ⟨by decide, h _ (lrg_tell (e + 1))⟩
  · rw [seq_no fun P N => by simp [wSeq, wSet, wOp, wUn, wVb, wV, wC, wRet, wRetV, wRetN, wIfS, wNx, wBrk, wCnt, wFor, wWalk, wEnum, wRng1, wRng2, wRev, walkD, gN, gT, gsC, gsN, wAnd, wOr, wNot, wCh, wTb, wTr, wtAnd, wtOr, wtNot, wClU, wCl, wClX, wClUX, wCons, wNil, wTup, wLst, wDk, wDt, wFld, wSl, woN, woS, wKw, wRaise, wNeg, wFrz, wApp, wExt, wDrop, wUnp, wIf, wYes, wDisp1, wSplit, wLvals, wOFld, wOGet, wMk, wMkX, wDSet, wDGet, wDIn, wScr, wMt, wMtX, startN, LEnv.at, tru, isT, isC, LV.dd, LV.fz, LV.seq, LV.lis, LV.tpl, Ty6.has, lenF, intF, listF, tupleF, anyF, sumF, eqF, sEq, isF, LV.isN, inF, ixF, ltI, leI, gtI, geI, ii0, iiF, subF, modF, mulF, mulF2, listF2, LV.dt, fdivF, addF, powF, slF, dsOf, D.sign, D.flat, List.map_cons, List.map_nil, List.length_cons, List.length_nil, List.cons_append, List.nil_append, List.append_nil, List.set_cons_zero, List.set_cons_succ, List.set_nil, Nat.sub_self, Nat.reduceSub, Nat.reduceAdd, List.replicate_succ, List.replicate_zero, Bool.false_eq_true, if_true, if_false, true_and, and_true, false_and, and_false, hs], seq_set (.d (.int (s - 1))) fun P N => by simp [wSeq, wSet, wOp, wUn, wVb, wV, wC, wRet, wRetV, wRetN, wIfS, wNx, wBrk, wCnt, wFor, wWalk, wEnum, wRng1, wRng2, wRev, walkD, gN, gT, gsC, gsN, wAnd, wOr, wNot, wCh, wTb, wTr, wtAnd, wtOr, wtNot, wClU, wCl, wClX, wClUX, wCons, wNil, wTup, wLst, wDk, wDt, wFld, wSl, woN, woS, wKw, wRaise, wNeg, wFrz, wApp, wExt, wDrop, wUnp, wIf, wYes, wDisp1, wSplit, wLvals, wOFld, wOGet, wMk, wMkX, wDSet, wDGet, wDIn, wScr, wMt, wMtX, startN, LEnv.at, tru, isT, isC, LV.dd, LV.fz, LV.seq, LV.lis, LV.tpl, Ty6.has, lenF, intF, listF, tupleF, anyF, sumF, eqF, sEq, isF, LV.isN, inF, ixF, ltI, leI, gtI, geI, ii0, iiF, subF, modF, mulF, mulF2, listF2, LV.dt, fdivF, addF, powF, slF, dsOf, D.sign, D.flat, List.map_cons, List.map_nil, List.length_cons, List.length_nil, List.cons_append, List.nil_append, List.append_nil, List.set_cons_zero, List.set_cons_succ, List.set_nil, Nat.sub_self, Nat.reduceSub, Nat.reduceAdd, List.replicate_succ, List.replicate_zero, Bool.false_eq_true, if_true, if_false, true_and, and_true, false_and, and_false]]
    rw [seq_set (.l []) fun P N => by simp [wSeq, wSet, wOp, wUn, wVb, wV, wC, wRet, wRetV, wRetN, wIfS, wNx, wBrk, wCnt, wFor, wWalk, wEnum, wRng1, wRng2, wRev, walkD, gN, gT, gsC, gsN, wAnd, wOr, wNot, wCh, wTb, wTr, wtAnd, wtOr, wtNot, wClU, wCl, wClX, wClUX, wCons, wNil, wTup, wLst, wDk, wDt, wFld, wSl, woN, woS, wKw, wRaise, wNeg, wFrz, wApp, wExt, wDrop, wUnp, wIf, wYes, wDisp1, wSplit, wLvals, wOFld, wOGet, wMk, wMkX, wDSet, wDGet, wDIn, wScr, wMt, wMtX, startN, LEnv.at, tru, isT, isC, LV.dd, LV.fz, LV.seq, LV.lis, LV.tpl, Ty6.has, lenF, intF, listF, tupleF, anyF, sumF, eqF, sEq, isF, LV.isN, inF, ixF, ltI, leI, gtI, geI, ii0, iiF, subF, modF, mulF, mulF2, listF2, LV.dt, fdivF, addF, powF, slF, dsOf, D.sign, D.flat, List.map_cons, List.map_nil, List.length_cons, List.length_nil, List.cons_append, List.nil_append, List.append_nil, List.set_cons_zero, List.set_cons_succ, List.set_nil, Nat.sub_self, Nat.reduceSub, Nat.reduceAdd, List.replicate_succ, List.replicate_zero, Bool.false_eq_true, if_true, if_false, true_and, and_true, false_and, and_false]]
    refine large_loop (m__law_sized n) e hsized s h1 h2 hbig _ _ _ fun a b c d xa xb xc xd o2 o4 o5 ha hb hc hd hsum => ?_
    simp only [wRet, wTup, wCons, wC, wUn, wVb, wNil, LEnv.at, tupleF, LV.lis, LV.fz, dsOf]
    refine ⟨by simp, ?_⟩
    rw [hsum] at h
    exact h _ (lrg_open ha hb hc hd)
theorem sized_zero (n : Nat) (m : Int) (h0 : 0 ≤ m) (h1 : m ≤ 12) (P : LV → Unit → Prop) (h : ∀ xs, Szd 0 m xs → P (.d (.tup xs)) ()) : m__law_sized (n + 1) [.d (.int m), .d (.int 0)] () P noX := by
  refine ⟨rfl, ?_⟩
  unfold u__law_sized
  rw [seq_yes fun P N => by simp [wSeq, wSet, wOp, wUn, wVb, wV, wC, wRet, wRetV, wRetN, wIfS, wNx, wBrk, wCnt, wFor, wWalk, wEnum, wRng1, wRng2, wRev, walkD, gN, gT, gsC, gsN, wAnd, wOr, wNot, wCh, wTb, wTr, wtAnd, wtOr, wtNot, wClU, wCl, wClX, wClUX, wCons, wNil, wTup, wLst, wDk, wDt, wFld, wSl, woN, woS, wKw, wRaise, wNeg, wFrz, wApp, wExt, wDrop, wUnp, wIf, wYes, wDisp1, wSplit, wLvals, wOFld, wOGet, wMk, wMkX, wDSet, wDGet, wDIn, wScr, wMt, wMtX, startN, LEnv.at, tru, isT, isC, LV.dd, LV.fz, LV.seq, LV.lis, LV.tpl, Ty6.has, lenF, intF, listF, tupleF, anyF, sumF, eqF, sEq, isF, LV.isN, inF, ixF, ltI, leI, gtI, geI, ii0, iiF, subF, modF, mulF, mulF2, listF2, LV.dt, fdivF, addF, powF, slF, dsOf, D.sign, D.flat, List.map_cons, List.map_nil, List.length_cons, List.length_nil, List.cons_append, List.nil_append, List.append_nil, List.set_cons_zero, List.set_cons_succ, List.set_nil, Nat.sub_self, Nat.reduceSub, Nat.reduceAdd, List.replicate_succ, List.replicate_zero, Bool.false_eq_true, if_true, if_false, true_and, and_true, false_and, and_false]]
  obtain ⟨k, rfl⟩ := Int.eq_ofNat_of_zero_le h0
  have mr := fun P => mul_rep (k := (k : Int)) (xs := [.tup [.str "hear", .str "p", .str "a"]]) (by omega) (by omega) (by simp) P
  have hr : repL (k : Int) [.tup [.str "hear", .str "p", .str "a"]] = List.replicate k (.tup [.str "hear", .str "p", .str "a"]) := by
    unfold repL
    by_cases q : (k : Int) = 1
    · rw [if_pos (.inr q), show k = 1 by omega]; rfl
    · rw [if_neg (by simp; omega)]
      by_cases q2 : (k : Int) ≤ 0
      · rw [if_pos q2, show k = 0 by omega]; rfl
      · rw [if_neg q2]; simp [List.flatten_replicate_singleton]
  simp only [wRet, wOp, wTup, wCons, wC, wVb, wNil, LEnv.at, startN, List.map_cons, List.map_nil, List.cons_append, List.nil_append, LV.fz, dsOf]
  simp only [mr, hr]
  exact ⟨by decide, by decide, h _ (szd_zero k (by omega))⟩
theorem sized_step (n : Nat) (e : Nat) (hlarge : ∀ s, 1 ≤ s → s ≤ 1 + 4 * cap e → ∀ P, (∀ x, Lrg (e + 1) s x → P (.d x) ()) → m__law_large n [.d (.int s), .d (.int (e + 1))] () P noX)
    (m : Int) (h0 : 0 ≤ m) (h1 : m ≤ cap (e + 1)) (hbig : m < 1000000) (P : LV → Unit → Prop) (h : ∀ xs, Szd (e + 1) m xs → (12 ≤ m → xs.length = 12) → P (.d (.tup xs)) ()) : m__law_sized (n + 1) [.d (.int m), .d (.int (e + 1))] () P noX := by
  have hcp := cap_pos e
  refine ⟨rfl, ?_⟩
  unfold u__law_sized
  have hn1 : ¬ ((e : Int) + 1 < 1) := by omega
  rw [seq_no fun P N => by simp [wSeq, wSet, wOp, wUn, wVb, wV, wC, wRet, wRetV, wRetN, wIfS, wNx, wBrk, wCnt, wFor, wWalk, wEnum, wRng1, wRng2, wRev, walkD, gN, gT, gsC, gsN, wAnd, wOr, wNot, wCh, wTb, wTr, wtAnd, wtOr, wtNot, wClU, wCl, wClX, wClUX, wCons, wNil, wTup, wLst, wDk, wDt, wFld, wSl, woN, woS, wKw, wRaise, wNeg, wFrz, wApp, wExt, wDrop, wUnp, wIf, wYes, wDisp1, wSplit, wLvals, wOFld, wOGet, wMk, wMkX, wDSet, wDGet, wDIn, wScr, wMt, wMtX, startN, LEnv.at, tru, isT, isC, LV.dd, LV.fz, LV.seq, LV.lis, LV.tpl, Ty6.has, lenF, intF, listF, tupleF, anyF, sumF, eqF, sEq, isF, LV.isN, inF, ixF, ltI, leI, gtI, geI, ii0, iiF, subF, modF, mulF, mulF2, listF2, LV.dt, fdivF, addF, powF, slF, dsOf, D.sign, D.flat, List.map_cons, List.map_nil, List.length_cons, List.length_nil, List.cons_append, List.nil_append, List.append_nil, List.set_cons_zero, List.set_cons_succ, List.set_nil, Nat.sub_self, Nat.reduceSub, Nat.reduceAdd, List.replicate_succ, List.replicate_zero, Bool.false_eq_true, if_true, if_false, true_and, and_true, false_and, and_false, hn1], seq_set (.l []) fun P N => by simp [wSeq, wSet, wOp, wUn, wVb, wV, wC, wRet, wRetV, wRetN, wIfS, wNx, wBrk, wCnt, wFor, wWalk, wEnum, wRng1, wRng2, wRev, walkD, gN, gT, gsC, gsN, wAnd, wOr, wNot, wCh, wTb, wTr, wtAnd, wtOr, wtNot, wClU, wCl, wClX, wClUX, wCons, wNil, wTup, wLst, wDk, wDt, wFld, wSl, woN, woS, wKw, wRaise, wNeg, wFrz, wApp, wExt, wDrop, wUnp, wIf, wYes, wDisp1, wSplit, wLvals, wOFld, wOGet, wMk, wMkX, wDSet, wDGet, wDIn, wScr, wMt, wMtX, startN, LEnv.at, tru, isT, isC, LV.dd, LV.fz, LV.seq, LV.lis, LV.tpl, Ty6.has, lenF, intF, listF, tupleF, anyF, sumF, eqF, sEq, isF, LV.isN, inF, ixF, ltI, leI, gtI, geI, ii0, iiF, subF, modF, mulF, mulF2, listF2, LV.dt, fdivF, addF, powF, slF, dsOf, D.sign, D.flat, List.map_cons, List.map_nil, List.length_cons, List.length_nil, List.cons_append, List.nil_append, List.append_nil, List.set_cons_zero, List.set_cons_succ, List.set_nil, Nat.sub_self, Nat.reduceSub, Nat.reduceAdd, List.replicate_succ, List.replicate_zero, Bool.false_eq_true, if_true, if_false, true_and, and_true, false_and, and_false], seq_set (.d (.int m)) fun P N => by simp [wSeq, wSet, wOp, wUn, wVb, wV, wC, wRet, wRetV, wRetN, wIfS, wNx, wBrk, wCnt, wFor, wWalk, wEnum, wRng1, wRng2, wRev, walkD, gN, gT, gsC, gsN, wAnd, wOr, wNot, wCh, wTb, wTr, wtAnd, wtOr, wtNot, wClU, wCl, wClX, wClUX, wCons, wNil, wTup, wLst, wDk, wDt, wFld, wSl, woN, woS, wKw, wRaise, wNeg, wFrz, wApp, wExt, wDrop, wUnp, wIf, wYes, wDisp1, wSplit, wLvals, wOFld, wOGet, wMk, wMkX, wDSet, wDGet, wDIn, wScr, wMt, wMtX, startN, LEnv.at, tru, isT, isC, LV.dd, LV.fz, LV.seq, LV.lis, LV.tpl, Ty6.has, lenF, intF, listF, tupleF, anyF, sumF, eqF, sEq, isF, LV.isN, inF, ixF, ltI, leI, gtI, geI, ii0, iiF, subF, modF, mulF, mulF2, listF2, LV.dt, fdivF, addF, powF, slF, dsOf, D.sign, D.flat, List.map_cons, List.map_nil, List.length_cons, List.length_nil, List.cons_append, List.nil_append, List.append_nil, List.set_cons_zero, List.set_cons_succ, List.set_nil, Nat.sub_self, Nat.reduceSub, Nat.reduceAdd, List.replicate_succ, List.replicate_zero, Bool.false_eq_true, if_true, if_false, true_and, and_true, false_and, and_false]]
  refine sized_loop (m__law_large n) (e + 1) (1 + 4 * cap e) m hlarge h0 h1 (by omega) hbig _ _ _ fun xs o3 o4 o5 hs hl => ?_
  simp only [wRet, wUn, wVb, LEnv.at, tupleF, LV.lis]
  exact h xs hs hl
theorem sized2 (m : Int) (h0 : 0 ≤ m) (h1 : m ≤ 7000) (P : LV → Unit → Prop) (h : ∀ xs, Szd 2 m xs → (12 ≤ m → xs.length = 12) → P (.d (.tup xs)) ()) : m__law_sized 8 [.d (.int m), .d (.int 2)] () P noX := by
  have c1 : cap 1 = 588 := rfl
  have c2 : cap 2 = 28236 := rfl
  have l1 := fun s a b P => large_step 4 0 (fun m a b P h => sized_zero 3 m a b P h) s a b (by have : cap 0 = 12 := rfl; omega) P
  have s1 := fun m a b P h => sized_step 5 0 l1 m a b (by have : cap (0 + 1) = 588 := rfl; omega) P h
  have l2 := fun s a b P => large_step 6 1 (fun m a b P h => s1 m a b P fun xs q _ => h xs q) s a b (by omega) P
  exact sized_step 7 1 l2 m h0 (by have : cap (1 + 1) = 28236 := rfl; omega) (by omega) P h
end LW
namespace LW
open PySem PySem.Spec PyProof.Rows L2 DL
/-! counts -/
theorem szd_fits {m : Int} {xs : List D} (h : Szd 2 m xs) : Fits (.tup xs) (if m ≤ 6000 then none else some .non) m := by
  have hc : cntW 16 (itemsOf (.tup xs)) = m := h.cnt 16 (by omega)
  have hok : okW 16 (itemsOf (.tup xs)) 1 false = true := h.ok 16 1 false (by decide)
  refine ⟨h.good, ?_, fun y e => ?_, fun _ => .inr hc⟩
  · by_cases q : m ≤ 6000
    · rw [if_pos q]
      exact bad_none (blk_of h.len) hok (by rw [hc]; exact q)
    · rw [if_neg q]
      exact bad_many (blk_of h.len) hok (by rw [hc]; omega)
  · split at e
    · cases e
    · cases e; rfl
theorem cut_to {xs : List D} {k : Nat} (h : k ≤ xs.length) : cutL xs none (some (k : Int)) = xs.take k := by
  unfold cutL
  rw [HT.sIx_none, HT.sIx_nat, Nat.min_eq_left h, List.drop_zero, Nat.sub_zero]
theorem item_f {n : Nat} {d : Int} {lp : Bool} {x : D} (q : List Int) (h : itemOk n d lp x = true) : itemF n d lp x q = none := by
  unfold itemOk at h
  rw [Bool.and_eq_true, List.all_eq_true] at h
  unfold itemF
  rw [if_neg (by have := h.1; intro z; rw [z] at this; cases this)]
  have := scan_none (f := fun b q' => firstW n (itemsOf b) q' (d + 1) (lp || decide (headW x = "repeat"))) (p := q) (A := blocksOf x) (R := []) (i := 0) fun b hb q' => (firstW_ok n _ _ _ _).mpr (h.2 b hb)
  rw [List.append_nil] at this
  rw [this]
  rfl
def leaveD : D := .tup [.str "leave"]
theorem leave_wrong : isWrong leaveD 1 false = true := by decide +kernel
theorem leave_fits {m n : Int} {xs : List D} (h : Szd 2 m xs) (hl : xs.length = 12) : Fits (.tup (xs.take 11 ++ [leaveD])) (some (.tup [.int 11])) n := by
  have h11 : (xs.take 11).length = 11 := by rw [List.length_take]; omega
  refine ⟨goods_of fun y hy => ?_, ?_, fun y e => ?_, fun q => by cases q⟩
  · rcases List.mem_append.mp hy with q | q
    · exact goods_mem h.good y (List.mem_of_mem_take q)
    · rw [List.mem_singleton.mp q]; decide +kernel
  · refine bad_path (p := [11]) (blk_of (by rw [List.length_append, h11]; decide)) ?_
    show scan (itemF 15 1 false) [] 0 (xs.take 11 ++ [leaveD]) = _
    have hok := h.ok 16 1 false (by decide)
    rw [okW_succ, List.all_eq_true] at hok
    rw [scan_none fun x hx q => item_f q (hok x (List.mem_of_mem_take hx)), h11]
    exact scan_hit (wrong_f leave_wrong)
  · cases e; rfl
theorem counts_ok (ga : Addr) (P : LV → Unit → Prop) (h : P (.d (.bl true)) ()) : m__law_counts_agree ga [.raw (.ref ga)] () P noX := by
  have hbig : 100000 < sizeLine := by decide
  refine ⟨rfl, ?_⟩
  unfold u__law_counts_agree
  simp only [wSeq, wSet, wOp, wC, wCl, wCons, wV, wNil, LEnv.at, startN, List.map_cons, List.map_nil, List.cons_append, List.nil_append, List.set_cons_succ, List.set_cons_zero, List.length_cons, List.length_nil, Nat.reduceAdd, Nat.reduceSub, List.replicate_succ, List.replicate_zero, LV.fz, List.append_nil]
  refine draw_ok (by decide) (by decide +kernel) fun r h0 h1 => ?_
  simp only [addF]
  refine draw_ifs (j := 0) (ga := ga) (many := 3) (c := 0) rfl (by decide) (by decide +kernel) ?_ ?_
  · rw [frz (.int (5996 + r)) rfl rfl]
    simp only [wRet, wClU, wCons, wOp, wSl, wVb, wV, wC, wNil, woN, woS, wTup, LEnv.at, addF, LV.fz, List.append_nil]
    refine sized2 (5996 + r + 600) (by omega) (by omega) _ fun xs hs hl => ?_
    have hl := hl (by omega)
    have hc : cutL xs none (some 11) = xs.take 11 := cut_to (k := 11) (by omega)
    have h11 : (xs.take 11).length = 11 := by rw [List.length_take]; omega
    simp only [slF, hc, dsOf, addF, h11, List.length_cons, List.length_nil]
    refine ⟨by decide, by decide, by omega, ?_⟩
    refine ⟨by decide, ?_⟩
    have f := leave_fits (n := 5996 + r) hs hl
    have key := agrees_ok _ _ _ P f.good f.bad f.pure f.many h
    simp only [leaveD, dueD] at key
    exact key
  · dsimp only
    rw [seq_set (.d (.str "let")) fun P N => rfl]
    simp only [List.set_cons_succ, List.set_cons_zero]
    rw [if_set (decide (6000 < 5996 + r)) (.d .non) [some (.raw (.ref ga)), some (.d (.int (5996 + r))), some (.d (dueD (if 5996 + r ≤ 6000 then none else some .non)))] (fun P N => rfl) (fun _ P N => rfl)
      (by by_cases q : 5996 + r ≤ 6000
          · rw [if_pos q, if_neg (by rw [decide_eq_false (by omega)]; decide)]; rfl
          · rw [if_neg q, if_pos (decide_eq_true (by omega))]; rfl)]
    rw [frz (.int (5996 + r)) rfl rfl]
    simp only [wRet, wClU, wCons, wOp, wV, wC, wNil, LEnv.at, LV.fz, List.append_nil]
    refine sized2 (5996 + r) (by omega) (by omega) _ fun xs hs _ => ?_
    have f := szd_fits hs
    simp only [LV.fz]
    exact agrees_ok _ _ _ P f.good f.bad f.pure f.many h
end LW
namespace LW
open PySem PySem.Spec PyProof.Rows L2 DL
/-! the law -/
theorem law_hu : ∀ (a : Addr) (ns : List Int), ns.length ≤ 63 → u__law_source a ns (edSrc ns) (startN 3 [.raw (.ref a)]) () := by
  intro a ns hl
  have hbig : 100000 < sizeLine := by decide
  have hc : cutL (ns.map D.int) none (some 63) = ns.map D.int := by
    unfold cutL
    rw [HT.sIx_none, show (63 : Int) = ((63 : Nat) : Int) from rfl, HT.sIx_nat]
    rw [List.length_map, Nat.min_eq_right hl, List.drop_zero, Nat.sub_zero]
    exact List.take_of_length_le (by rw [List.length_map]; exact Nat.le_refl _)
  unfold u__law_source
  simp only [wSeq, wSet, wLc, wWalk, wScr, woN, woS, wC, walkD, LV.seq, hc, LEnv.at, startN, List.map_cons, List.map_nil, List.cons_append, List.nil_append, List.set_cons_succ, List.set_cons_zero, List.length_cons, List.length_nil, Nat.reduceAdd, Nat.reduceSub, List.replicate_succ, List.replicate_zero, LV.fz, List.append_nil]
  refine ⟨trivial, ?_⟩
  refine ⟨by rw [List.length_map]; omega, ?_⟩
  rw [wLc_map (fun x => x) _ [] fun x hx => by
    obtain ⟨i, _, rfl⟩ := List.mem_map.mp hx
    exact ⟨_, fun K => rfl, fun P N => rfl, fun P N => by simp [wUn, wVb, intF, wipeE, LEnv.at]⟩]
  rw [List.map_id', List.nil_append]
  simp [wFrz, LEnv.at, LV.fz, wRet, wLst, wCons, wV, wC, wNil, wOp, wUn, wVb, sumF, LV.lis, intsOf_map, intF, modF, iiF, dsOf]
  exact ⟨_, ns, by omega, rfl⟩
theorem law_hv : ∀ (a ga : Addr), u_law ga edLaw ((startN 3 [.raw (.ref a)]).set 1 (some (.raw (.ref ga)))) () := by
  intro a ga
  unfold u_law
  simp only [wSeq, wSet, wOp, wC, wCl, wCons, wV, wNil, LEnv.at, startN, List.map_cons, List.map_nil, List.cons_append, List.nil_append, List.set_cons_succ, List.set_cons_zero, List.length_cons, List.length_nil, Nat.reduceAdd, Nat.reduceSub, List.replicate_succ, List.replicate_zero, LV.fz, List.append_nil]
  refine draw_ok (by decide) (by decide +kernel) fun r h0 h1 => ?_
  simp only [eqF, sEq, wIfS, wtOr, wtNot, wTr, wCl, wCons, wV, wNil, LEnv.at, LV.fz, List.append_nil]
  refine sizes_ok ga _ ?_
  simp only [tru, Bool.not_true, Bool.false_eq_true, if_false]
  refine depths_ok ga _ ?_
  simp only [tru, Bool.not_true, Bool.false_eq_true, if_false]
  refine rows_ok ga _ ?_
  simp only [tru, Bool.not_true, Bool.false_eq_true, if_false, wNx]
  refine exprs_ok ga _ ?_
  simp only [tru, Bool.not_true, Bool.false_eq_true, if_false]
  refine letters_ok ga _ ?_
  simp only [tru, Bool.not_true, Bool.false_eq_true, if_false, wVb, LEnv.at]
  by_cases q : r = 0
  · rw [decide_eq_true q]
    trace_state
    exact counts_ok ga _ rfl
  · rw [decide_eq_false q]
    rfl
end LW
namespace LW
open PySem PySem.Spec PyProof.Rows L2 DL
theorem kwm_KEPT_WORDS {w : World} {K : PySem.W.Frag} {h : Heap} {mg : Str → Option Value} {d : Addr} {n : Nat} {h0 h1 h2 h3 h4 h5 h6 h7 h8 h9 h10 h11 h12 h13 h14 h15 h16 h17 h18 h19 h20 h21 : Int} {t0 t1 t2 t3 t4 t5 t6 t7 t8 t9 t10 t11 t12 t13 t14 t15 t16 t17 t18 t19 t20 t21 : Tok} {v0 v1 v2 v3 v4 v5 v6 v7 v8 v9 v10 v11 v12 v13 v14 v15 v16 v17 v18 v19 v20 v21 : Value} (X : K.In h) (G : h.Ns mainGlobals mg) (e : PySem.W.nsIn K mainGlobals "KEPT_WORDS" = some (some (.ref d))) (l : K.lookup d = some ⟨.type "dict", none, .dict [⟨h0, .str "set" t0, v0⟩, ⟨h1, .str "tell" t1, v1⟩, ⟨h2, .str "hear" t2, v2⟩, ⟨h3, .str "wait" t3, v3⟩, ⟨h4, .str "on" t4, v4⟩, ⟨h5, .str "open" t5, v5⟩, ⟨h6, .str "or" t6, v6⟩, ⟨h7, .str "if" t7, v7⟩, ⟨h8, .str "else" t8, v8⟩, ⟨h9, .str "repeat" t9, v9⟩, ⟨h10, .str "leave" t10, v10⟩, ⟨h11, .str "home" t11, v11⟩, ⟨h12, .str "fail" t12, v12⟩, ⟨h13, .str "end" t13, v13⟩, ⟨h14, .str "plus" t14, v14⟩, ⟨h15, .str "minus" t15, v15⟩, ⟨h16, .str "same" t16, v16⟩, ⟨h17, .str "less" t17, v17⟩, ⟨h18, .str "not" t18, v18⟩, ⟨h19, .str "routine" t19, v19⟩, ⟨h20, .str "own" t20, v20⟩, ⟨h21, .str "over" t21, v21⟩].toArray n, #[]⟩) (low : (d == sysModules) = false) (lit : h0 = PyData.keyHash w.params "set" ∧ h1 = PyData.keyHash w.params "tell" ∧ h2 = PyData.keyHash w.params "hear" ∧ h3 = PyData.keyHash w.params "wait" ∧ h4 = PyData.keyHash w.params "on" ∧ h5 = PyData.keyHash w.params "open" ∧ h6 = PyData.keyHash w.params "or" ∧ h7 = PyData.keyHash w.params "if" ∧ h8 = PyData.keyHash w.params "else" ∧ h9 = PyData.keyHash w.params "repeat" ∧ h10 = PyData.keyHash w.params "leave" ∧ h11 = PyData.keyHash w.params "home" ∧ h12 = PyData.keyHash w.params "fail" ∧ h13 = PyData.keyHash w.params "end" ∧ h14 = PyData.keyHash w.params "plus" ∧ h15 = PyData.keyHash w.params "minus" ∧ h16 = PyData.keyHash w.params "same" ∧ h17 = PyData.keyHash w.params "less" ∧ h18 = PyData.keyHash w.params "not" ∧ h19 = PyData.keyHash w.params "routine" ∧ h20 = PyData.keyHash w.params "own" ∧ h21 = PyData.keyHash w.params "over") : KWE K w mg "KEPT_WORDS" kw_KEPT_WORDS :=
  kwE X G e l low (let ⟨q0, q1, q2, q3, q4, q5, q6, q7, q8, q9, q10, q11, q12, q13, q14, q15, q16, q17, q18, q19, q20, q21⟩ := lit; ⟨⟨_, _, rfl, q0⟩, ⟨⟨_, _, rfl, q1⟩, ⟨⟨_, _, rfl, q2⟩, ⟨⟨_, _, rfl, q3⟩, ⟨⟨_, _, rfl, q4⟩, ⟨⟨_, _, rfl, q5⟩, ⟨⟨_, _, rfl, q6⟩, ⟨⟨_, _, rfl, q7⟩, ⟨⟨_, _, rfl, q8⟩, ⟨⟨_, _, rfl, q9⟩, ⟨⟨_, _, rfl, q10⟩, ⟨⟨_, _, rfl, q11⟩, ⟨⟨_, _, rfl, q12⟩, ⟨⟨_, _, rfl, q13⟩, ⟨⟨_, _, rfl, q14⟩, ⟨⟨_, _, rfl, q15⟩, ⟨⟨_, _, rfl, q16⟩, ⟨⟨_, _, rfl, q17⟩, ⟨⟨_, _, rfl, q18⟩, ⟨⟨_, _, rfl, q19⟩, ⟨⟨_, _, rfl, q20⟩, ⟨⟨_, _, rfl, q21⟩, True.intro⟩⟩⟩⟩⟩⟩⟩⟩⟩⟩⟩⟩⟩⟩⟩⟩⟩⟩⟩⟩⟩⟩) (.cons ⟨_, rfl⟩ (.cons ⟨_, rfl⟩ (.cons ⟨_, rfl⟩ (.cons ⟨_, rfl⟩ (.cons ⟨_, rfl⟩ (.cons ⟨_, rfl⟩ (.cons ⟨_, rfl⟩ (.cons ⟨_, rfl⟩ (.cons ⟨_, rfl⟩ (.cons ⟨_, rfl⟩ (.cons ⟨_, rfl⟩ (.cons ⟨_, rfl⟩ (.cons ⟨_, rfl⟩ (.cons ⟨_, rfl⟩ (.cons ⟨_, rfl⟩ (.cons ⟨_, rfl⟩ (.cons ⟨_, rfl⟩ (.cons ⟨_, rfl⟩ (.cons ⟨_, rfl⟩ (.cons ⟨_, rfl⟩ (.cons ⟨_, rfl⟩ (.cons ⟨_, rfl⟩ .nil))))))))))))))))))))))
theorem gcm_PAIRED {K : PySem.W.Frag} {h : Heap} {mg : Str → Option Value} {a : Addr} {n2 : Nat} {od2 : Option Addr} {s2 : Array (Option Value)} {t0 t1 t2 t3 : Tok} {cl : Nat → Addr} (X : K.In h) (G : h.Ns mainGlobals mg) (e : PySem.W.nsIn K mainGlobals "PAIRED" = some (some (.ref a))) (l : K.lookup a = some ⟨.type "tuple", od2, .seq ([.str "plus" t0, .str "minus" t1, .str "same" t2, .str "less" t3] : List Value).toArray n2, s2⟩) : Gc K mg "PAIRED" cl (.tupK [(.str "plus"), (.str "minus"), (.str "same"), (.str "less")]) :=
  gcT X G e l (by simp) ⟨[.str "plus", .str "minus", .str "same", .str "less"], (.cons ⟨_, rfl⟩ (.cons ⟨_, rfl⟩ (.cons ⟨_, rfl⟩ (.cons ⟨_, rfl⟩ .nil)))), fun G => (.cons (Rp.str _) (.cons (Rp.str _) (.cons (Rp.str _) (.cons (Rp.str _) .nil))))⟩
theorem dm_is_expression {K : PySem.W.Frag} {h : Heap} {mg : Str → Option Value} {fa T : Addr} {od an oT : Option Addr} {sl sT : Array (Option Value)} {oc kV dc pm cd ct cT : Value} {nT : Nat} {t0 : Tok} {cl : Nat → Addr} (X : K.In h) (G : h.Ns mainGlobals mg) (e : PySem.W.nsIn K mainGlobals "is_expression" = some (some (.ref fa))) (l : K.lookup fa = some ⟨oc, od, .func (PySem.W.fnOf "is_expression" "is_expression" (defArgs (top 19)) (defBody (top 19)) (defScope (top 19)) (.ref T) kV dc pm an cd ct), sl⟩) (c : PySem.W.codeIn K cd "is_expression" = true) (k : PySem.W.keepIn K (.ref fa) = true) (t : K.lookup T = some ⟨cT, oT, .seq ([.int 5 t0] : List Value).toArray nT, sT⟩) : DefE K mg cl "is_expression" (top 19) [.d (.int 5)] :=
  dE1 X G e l c k t ⟨[.int 5], by simp, (.cons ⟨_, rfl⟩ .nil), fun G H => (.cons (Rp.int _) rfl .nil)⟩
theorem dm_listed {K : PySem.W.Frag} {h : Heap} {mg : Str → Option Value} {fa T : Addr} {od an oT : Option Addr} {sl sT : Array (Option Value)} {oc kV dc pm cd ct cT : Value} {nT : Nat} {a0 : Addr} {od0 : Option Addr} {n0 : Nat} {s0 : Array (Option Value)} {cl : Nat → Addr} (X : K.In h) (G : h.Ns mainGlobals mg) (e : PySem.W.nsIn K mainGlobals "listed" = some (some (.ref fa))) (l : K.lookup fa = some ⟨oc, od, .func (PySem.W.fnOf "listed" "listed" (defArgs (top 31)) (defBody (top 31)) (defScope (top 31)) (.ref T) kV dc pm an cd ct), sl⟩) (c : PySem.W.codeIn K cd "listed" = true) (k : PySem.W.keepIn K (.ref fa) = true) (t : K.lookup T = some ⟨cT, oT, .seq ([.ref a0] : List Value).toArray nT, sT⟩) (u0 : K.lookup a0 = some ⟨.type "tuple", od0, .seq ([] : List Value).toArray n0, s0⟩) : DefE K mg cl "listed" (top 31) [.d (.tupK [])] :=
  dE1 X G e l c k t ⟨[.ref a0], by simp, (.cons rfl .nil), fun G H => (.cons (Rp.tupK (sqT_nil u0) .nil) rfl .nil)⟩
theorem dm_deals {K : PySem.W.Frag} {h : Heap} {mg : Str → Option Value} {fa T : Addr} {od an oT : Option Addr} {sl sT : Array (Option Value)} {oc kV dc pm cd ct cT : Value} {nT : Nat} {t0 : Tok} {cl : Nat → Addr} (X : K.In h) (G : h.Ns mainGlobals mg) (e : PySem.W.nsIn K mainGlobals "deals" = some (some (.ref fa))) (l : K.lookup fa = some ⟨oc, od, .func (PySem.W.fnOf "deals" "deals" (defArgs (top 43)) (defBody (top 43)) (defScope (top 43)) (.ref T) kV dc pm an cd ct), sl⟩) (c : PySem.W.codeIn K cd "deals" = true) (k : PySem.W.keepIn K (.ref fa) = true) (t : K.lookup T = some ⟨cT, oT, .seq ([.int 2 t0] : List Value).toArray nT, sT⟩) : DefE K mg cl "deals" (top 43) [.d (.int 2)] :=
  dE1 X G e l c k t ⟨[.int 2], by simp, (.cons ⟨_, rfl⟩ .nil), fun G H => (.cons (Rp.int _) rfl .nil)⟩
theorem dm_first_wrong {K : PySem.W.Frag} {h : Heap} {mg : Str → Option Value} {fa T : Addr} {od an oT : Option Addr} {sl sT : Array (Option Value)} {oc kV dc pm cd ct cT : Value} {nT : Nat} {a0 : Addr} {od0 : Option Addr} {n0 : Nat} {s0 : Array (Option Value)} {t1 : Tok} {cl : Nat → Addr} (X : K.In h) (G : h.Ns mainGlobals mg) (e : PySem.W.nsIn K mainGlobals "first_wrong" = some (some (.ref fa))) (l : K.lookup fa = some ⟨oc, od, .func (PySem.W.fnOf "first_wrong" "first_wrong" (defArgs (top 45)) (defBody (top 45)) (defScope (top 45)) (.ref T) kV dc pm an cd ct), sl⟩) (c : PySem.W.codeIn K cd "first_wrong" = true) (k : PySem.W.keepIn K (.ref fa) = true) (t : K.lookup T = some ⟨cT, oT, .seq ([.ref a0, .int 1 t1, .bool false] : List Value).toArray nT, sT⟩) (u0 : K.lookup a0 = some ⟨.type "tuple", od0, .seq ([] : List Value).toArray n0, s0⟩) : DefE K mg cl "first_wrong" (top 45) [.d (.tupK []), .d (.int 1), .d (.bl false)] :=
  dE1 X G e l c k t ⟨[.ref a0, .int 1, .bl false], by simp, (.cons rfl (.cons ⟨_, rfl⟩ (.cons rfl .nil))), fun G H => (.cons (Rp.tupK (sqT_nil u0) .nil) rfl (.cons (Rp.int _) rfl (.cons (Rp.bl _) rfl .nil)))⟩
theorem end_mk {P : Program} {w : World} {K : PySem.W.Frag} {h : Heap} {mg : Str → Option Value} {fa : Addr} {C0 fR0 : Addr} {fI : Addr} {X0 : Addr} {X1 : Addr} {X2 : Addr} {fM_Routine_paths : Addr} (X : K.In h) (G : h.Ns mainGlobals mg) (hfa : mg "law" = some (.ref fa))
    (o0 : PySem.W.nsIn K mainGlobals "Routine" = some (some (.ref C0)))
    (pg0 : PySem.W.plainGet K C0 Str.empty = true)
    (hd0 : PySem.W.hasDictIn K C0 = true)
    (po0 : PySem.W.plainOver K C0 = true)
    (sa0 : PySem.W.findIn K (.ref C0) "__setattr__" = some (some (.builtin "object.__setattr__")))
    (ha0 : PySem.W.findIn K (.ref C0) "__class__" = some (some (.builtin "object.__class__")))
    (hm0 : PySem.W.mroIn K C0 (.type "object") = some true)
    (ic0 : PySem.W.isClsIn K C0 = true)
    (ty0 : PySem.W.typeIn K (.ref C0) = some (.type "type"))
    (mk0 : PySem.W.makesIn K C0 = true)
    (kp0 : PySem.W.keepIn K (.ref C0) = true)
    (so0_0 : PySem.W.subIn K (.ref C0) (.type "int") = some false)
    (so0_1 : PySem.W.subIn K (.ref C0) (.type "bool") = some false)
    (so0_2 : PySem.W.subIn K (.ref C0) (.type "str") = some false)
    (so0_3 : PySem.W.subIn K (.ref C0) (.type "tuple") = some false)
    (so0_4 : PySem.W.subIn K (.ref C0) (.type "list") = some false)
    (so0_5 : PySem.W.subIn K (.ref C0) (.type "dict") = some false)
    (si0_0 : PySem.W.subIn K (.type "int") (.ref C0) = some false)
    (si0_1 : PySem.W.subIn K (.type "bool") (.ref C0) = some false)
    (si0_2 : PySem.W.subIn K (.type "str") (.ref C0) = some false)
    (si0_3 : PySem.W.subIn K (.type "tuple") (.ref C0) = some false)
    (si0_4 : PySem.W.subIn K (.type "list") (.ref C0) = some false)
    (si0_5 : PySem.W.subIn K (.type "dict") (.ref C0) = some false)
    (si0_6 : PySem.W.subIn K (.type "NoneType") (.ref C0) = some false)
    (ii0 : PySem.W.findIn K (.ref C0) "__init__" = some (some (.ref fR0)))
    (if0 : PySem.W.isFn K (.ref fR0) = true)
    (id0 : ∃ fd, FunD K "__init__" "Routine.__init__" (defArgs (inClass (top 49) 0)) (defBody (inClass (top 49) 0)) (defScope (inClass (top 49) 0)) [] [] fR0 fd)
    (hn : PySem.W.specialIn K (.builtin "object.__class__") "__get__" = some (some (.builtin "getset_descriptor.__get__")))
    (htk : PySem.W.takesIn K (.builtin "object.__class__") = some true)
    (a_Routine_block : PySem.W.findIn K (.ref C0) "block" = some none)
    (a_Routine_table : PySem.W.findIn K (.ref C0) "table" = some none)
    (n_block_0 : PySem.W.findIn K (.ref C0) "block" = some none)
    (n_name_list_0 : PySem.W.findIn K (.ref C0) "name_list" = some none)
    (n_port_list_0 : PySem.W.findIn K (.ref C0) "port_list" = some none)
    (n_table_0 : PySem.W.findIn K (.ref C0) "table" = some none)
    (e0 : PySem.W.nsIn K mainGlobals "HeardError" = some (some (.ref X0)))
    (x0 : ExC K X0 fI)
    (eb0 : PySem.W.subIn K (.ref X0) (.type "BaseException") = some true)
    (ec0 : PySem.W.isClsIn K X0 = true)
    (et0 : PySem.W.typeIn K (.ref X0) = some (.type "type"))
    (e1 : PySem.W.nsIn K mainGlobals "BadRoutine" = some (some (.ref X1)))
    (x1 : ExC K X1 fI)
    (eb1 : PySem.W.subIn K (.ref X1) (.type "BaseException") = some true)
    (ec1 : PySem.W.isClsIn K X1 = true)
    (et1 : PySem.W.typeIn K (.ref X1) = some (.type "type"))
    (e2 : PySem.W.nsIn K mainGlobals "NoPath" = some (some (.ref X2)))
    (x2 : ExC K X2 fI)
    (eb2 : PySem.W.subIn K (.ref X2) (.type "BaseException") = some true)
    (ec2 : PySem.W.isClsIn K X2 = true)
    (et2 : PySem.W.typeIn K (.ref X2) = some (.type "type"))
    (es0_0 : PySem.W.subIn K (.ref X0) (.ref X0) = some true)
    (es0_1 : PySem.W.subIn K (.ref X0) (.ref X1) = some false)
    (es0_2 : PySem.W.subIn K (.ref X0) (.ref X2) = some false)
    (es1_0 : PySem.W.subIn K (.ref X1) (.ref X0) = some true)
    (es1_1 : PySem.W.subIn K (.ref X1) (.ref X1) = some true)
    (es1_2 : PySem.W.subIn K (.ref X1) (.ref X2) = some false)
    (es2_0 : PySem.W.subIn K (.ref X2) (.ref X0) = some true)
    (es2_1 : PySem.W.subIn K (.ref X2) (.ref X1) = some false)
    (es2_2 : PySem.W.subIn K (.ref X2) (.ref X2) = some true)
    (ity : PySem.W.typeIn K (.ref fI) = some (.type "function"))
    (ifn : ∃ fd, FunD K "__init__" "HeardError.__init__" (defArgs (inClass (top 37) 0)) (defBody (inClass (top 37) 0)) (defScope (inClass (top 37) 0)) [.non] [] fI fd)
    (z_isinstance : PySem.W.nsIn K mainGlobals "isinstance" = some none)
    (z_bool : PySem.W.nsIn K mainGlobals "bool" = some none)
    (z_int : PySem.W.nsIn K mainGlobals "int" = some none)
    (z_len : PySem.W.nsIn K mainGlobals "len" = some none)
    (z_str : PySem.W.nsIn K mainGlobals "str" = some none)
    (z_tuple : PySem.W.nsIn K mainGlobals "tuple" = some none)
    (z_list : PySem.W.nsIn K mainGlobals "list" = some none)
    (z_enumerate : PySem.W.nsIn K mainGlobals "enumerate" = some none)
    (z_sorted : PySem.W.nsIn K mainGlobals "sorted" = some none)
    (z_any : PySem.W.nsIn K mainGlobals "any" = some none)
    (z_range : PySem.W.nsIn K mainGlobals "range" = some none)
    (z_reversed : PySem.W.nsIn K mainGlobals "reversed" = some none)
    (z_sum : PySem.W.nsIn K mainGlobals "sum" = some none)
    (g_MOST_LETTERS : ∀ cl : Nat → Addr, Gc K mg "MOST_LETTERS" cl (.int 8))
    (g_LETTERS : ∀ cl : Nat → Addr, Gc K mg "LETTERS" cl (.str "abcdefghijklmnopqrstuvwxyz"))
    (k_KEPT_WORDS : KWE K w mg "KEPT_WORDS" kw_KEPT_WORDS)
    (g_PAIRED : ∀ cl : Nat → Addr, Gc K mg "PAIRED" cl (.tupK [(.str "plus"), (.str "minus"), (.str "same"), (.str "less")]))
    (g_MOST_STATEMENTS : ∀ cl : Nat → Addr, Gc K mg "MOST_STATEMENTS" cl (.int 12))
    (g_MOST_ROWS : ∀ cl : Nat → Addr, Gc K mg "MOST_ROWS" cl (.int 4))
    (g_MOST_DEPTH : ∀ cl : Nat → Addr, Gc K mg "MOST_DEPTH" cl (.int 12))
    (g_MOST_ALL : ∀ cl : Nat → Addr, Gc K mg "MOST_ALL" cl (.int 6000))
    (d_is_integer : ∀ cl : Nat → Addr, DefE K mg cl "is_integer" (top 10) [])
    (d_is_count : ∀ cl : Nat → Addr, DefE K mg cl "is_count" (top 11) [])
    (d_is_digit : ∀ cl : Nat → Addr, DefE K mg cl "is_digit" (top 12) [])
    (d_is_name : ∀ cl : Nat → Addr, DefE K mg cl "is_name" (top 13) [])
    (d_is_tuple : ∀ cl : Nat → Addr, DefE K mg cl "is_tuple" (top 14) [])
    (d_is_path : ∀ cl : Nat → Addr, DefE K mg cl "is_path" (top 15) [])
    (d_is_paired : ∀ cl : Nat → Addr, DefE K mg cl "is_paired" (top 18) [])
    (d_is_expression : ∀ cl : Nat → Addr, DefE K mg cl "is_expression" (top 19) [.d (.int 5)])
    (d_expression_names : ∀ cl : Nat → Addr, DefE K mg cl "expression_names" (top 20) [])
    (d_is_block_shape : ∀ cl : Nat → Addr, DefE K mg cl "is_block_shape" (top 22) [])
    (d_are_rows : ∀ cl : Nat → Addr, DefE K mg cl "are_rows" (top 23) [])
    (d_are_blocks : ∀ cl : Nat → Addr, DefE K mg cl "are_blocks" (top 24) [])
    (d_is_dealing_shape : ∀ cl : Nat → Addr, DefE K mg cl "is_dealing_shape" (top 25) [])
    (d_is_if_shape : ∀ cl : Nat → Addr, DefE K mg cl "is_if_shape" (top 26) [])
    (d_is_statement : ∀ cl : Nat → Addr, DefE K mg cl "is_statement" (top 27) [])
    (d_blocks_of : ∀ cl : Nat → Addr, DefE K mg cl "blocks_of" (top 28) [])
    (d_names_of : ∀ cl : Nat → Addr, DefE K mg cl "names_of" (top 29) [])
    (d_ports_of : ∀ cl : Nat → Addr, DefE K mg cl "ports_of" (top 30) [])
    (d_listed : ∀ cl : Nat → Addr, DefE K mg cl "listed" (top 31) [.d (.tupK [])])
    (d_statement_table : ∀ cl : Nat → Addr, DefE K mg cl "statement_table" (top 32) [])
    (d_ascending : ∀ cl : Nat → Addr, DefE K mg cl "ascending" (top 33) [])
    (d_block_names : ∀ cl : Nat → Addr, DefE K mg cl "block_names" (top 34) [])
    (d_block_ports : ∀ cl : Nat → Addr, DefE K mg cl "block_ports" (top 35) [])
    (d_ways_of : ∀ cl : Nat → Addr, DefE K mg cl "ways_of" (top 41) [])
    (d_ways_through : ∀ cl : Nat → Addr, DefE K mg cl "ways_through" (top 42) [])
    (d_deals : ∀ cl : Nat → Addr, DefE K mg cl "deals" (top 43) [.d (.int 2)])
    (d_is_wrong : ∀ cl : Nat → Addr, DefE K mg cl "is_wrong" (top 44) [])
    (d_first_wrong : ∀ cl : Nat → Addr, DefE K mg cl "first_wrong" (top 45) [.d (.tupK []), .d (.int 1), .d (.bl false)])
    (d_statement_count : ∀ cl : Nat → Addr, DefE K mg cl "statement_count" (top 46) [])
    (d_check_top_block : ∀ cl : Nat → Addr, DefE K mg cl "check_top_block" (top 47) [])
    (d__law_source : ∀ cl : Nat → Addr, DefE K mg cl "_law_source" (top 51) [])
    (d__law_mixed : ∀ cl : Nat → Addr, DefE K mg cl "_law_mixed" (top 52) [])
    (d__law_draw : ∀ cl : Nat → Addr, DefE K mg cl "_law_draw" (top 53) [])
    (d__law_alike : ∀ cl : Nat → Addr, DefE K mg cl "_law_alike" (top 54) [])
    (d__law_simple : ∀ cl : Nat → Addr, DefE K mg cl "_law_simple" (top 55) [])
    (d__law_agrees : ∀ cl : Nat → Addr, DefE K mg cl "_law_agrees" (top 56) [])
    (d__law_sizes_agree : ∀ cl : Nat → Addr, DefE K mg cl "_law_sizes_agree" (top 57) [])
    (d__law_around : ∀ cl : Nat → Addr, DefE K mg cl "_law_around" (top 58) [])
    (d__law_depths_agree : ∀ cl : Nat → Addr, DefE K mg cl "_law_depths_agree" (top 59) [])
    (d__law_rows_agree : ∀ cl : Nat → Addr, DefE K mg cl "_law_rows_agree" (top 60) [])
    (d__law_chain : ∀ cl : Nat → Addr, DefE K mg cl "_law_chain" (top 61) [])
    (d__law_expressions_agree : ∀ cl : Nat → Addr, DefE K mg cl "_law_expressions_agree" (top 62) [])
    (d__law_letters_agree : ∀ cl : Nat → Addr, DefE K mg cl "_law_letters_agree" (top 63) [])
    (d__law_large : ∀ cl : Nat → Addr, DefE K mg cl "_law_large" (top 64) [])
    (d__law_sized : ∀ cl : Nat → Addr, DefE K mg cl "_law_sized" (top 65) [])
    (d__law_counts_agree : ∀ cl : Nat → Addr, DefE K mg cl "_law_counts_agree" (top 66) [])
    (d_law : ∀ cl : Nat → Addr, DefE K mg cl "law" (top 67) [])
    (mi_Routine_paths : PySem.W.findIn K (.ref C0) "paths" = some (some (.ref fM_Routine_paths)))
    (mf_Routine_paths : PySem.W.isFn K (.ref fM_Routine_paths) = true)
    (md_Routine_paths : ∃ fd, FunD K "paths" "Routine.paths" (defArgs (inClass (top 49) 4)) (defBody (inClass (top 49) 4)) (defScope (inClass (top 49) 4)) [] [] fM_Routine_paths fd) :
    ∃ fd : FuncData, (∀ (s : Shared) (u : Value), BindsTo s fd ⟨[u], []⟩ [("_law_script", u)]) ∧ ∀ base : Heap, K.In base → base.Ns mainGlobals mg → FnOk P w K mg base CX0 63 fa fd ["_law_script"] (spLawD K) := by
  have T : Txt w K mg (fun c => match c with | _ => C0) (fun c => match c with | 0 => X0 | 1 => X1 | _ + 2 => X2) fI := {
    ck := fun c => match c with | _ => (clsOk_of ⟨pg0, hd0, po0, sa0⟩ ha0 hn htk hm0 ic0 ty0 so0_0 so0_1 so0_2 so0_3 so0_4 so0_5 si0_0 si0_1 si0_2 si0_3 si0_4 si0_5 si0_6)
    cls := fun c => match c with | _ => ⟨pg0, hd0, po0, sa0⟩
    o_Routine := PySem.W.mg_of X G o0
    ap0 := fun k hk => match k, hk with | 0, _ => kit_self | k + 1, hk => absurd hk (by simp [nCl])
    i_Routine := let ⟨fd, F⟩ := id0; ⟨fR0, fd, [], F, fun _ _ => .nil, ii0, if0⟩
    mk_Routine := mk0
    kp_Routine := kp0
    a_Routine_block := a_Routine_block
    a_Routine_table := a_Routine_table
    n_block := fun c => match c with | _ => n_block_0
    n_name_list := fun c => match c with | _ => n_name_list_0
    n_port_list := fun c => match c with | _ => n_port_list_0
    n_table := fun c => match c with | _ => n_table_0
    x := fun c => match c with | 0 => x0 | 1 => x1 | _ + 2 => x2
    i_ty := ity
    i_fn := ifn
    e_HeardError := PySem.W.mg_of X G e0
    h_HeardError := fun c hc => match c, hc with | 0, _ => exm_of eb0 ec0 et0 es0_0 | 1, _ => exm_of eb0 ec0 et0 es1_0 | 2, _ => exm_of eb0 ec0 et0 es2_0 | k + 3, hk => absurd hk (by simp [nXl])
    e_BadRoutine := PySem.W.mg_of X G e1
    h_BadRoutine := fun c hc => match c, hc with | 0, _ => exm_of eb1 ec1 et1 es0_1 | 1, _ => exm_of eb1 ec1 et1 es1_1 | 2, _ => exm_of eb1 ec1 et1 es2_1 | k + 3, hk => absurd hk (by simp [nXl])
    e_NoPath := PySem.W.mg_of X G e2
    h_NoPath := fun c hc => match c, hc with | 0, _ => exm_of eb2 ec2 et2 es0_2 | 1, _ => exm_of eb2 ec2 et2 es1_2 | 2, _ => exm_of eb2 ec2 et2 es2_2 | k + 3, hk => absurd hk (by simp [nXl])
    z_isinstance := PySem.W.mg_none_of X G z_isinstance
    z_bool := PySem.W.mg_none_of X G z_bool
    z_int := PySem.W.mg_none_of X G z_int
    z_len := PySem.W.mg_none_of X G z_len
    z_str := PySem.W.mg_none_of X G z_str
    z_tuple := PySem.W.mg_none_of X G z_tuple
    z_list := PySem.W.mg_none_of X G z_list
    z_enumerate := PySem.W.mg_none_of X G z_enumerate
    z_sorted := PySem.W.mg_none_of X G z_sorted
    z_any := PySem.W.mg_none_of X G z_any
    z_range := PySem.W.mg_none_of X G z_range
    z_reversed := PySem.W.mg_none_of X G z_reversed
    z_sum := PySem.W.mg_none_of X G z_sum
    g_MOST_LETTERS := g_MOST_LETTERS _
    g_LETTERS := g_LETTERS _
    k_KEPT_WORDS := k_KEPT_WORDS
    g_PAIRED := g_PAIRED _
    g_MOST_STATEMENTS := g_MOST_STATEMENTS _
    g_MOST_ROWS := g_MOST_ROWS _
    g_MOST_DEPTH := g_MOST_DEPTH _
    g_MOST_ALL := g_MOST_ALL _
    d_is_integer := d_is_integer _
    d_is_count := d_is_count _
    d_is_digit := d_is_digit _
    d_is_name := d_is_name _
    d_is_tuple := d_is_tuple _
    d_is_path := d_is_path _
    d_is_paired := d_is_paired _
    d_is_expression := d_is_expression _
    d_expression_names := d_expression_names _
    d_is_block_shape := d_is_block_shape _
    d_are_rows := d_are_rows _
    d_are_blocks := d_are_blocks _
    d_is_dealing_shape := d_is_dealing_shape _
    d_is_if_shape := d_is_if_shape _
    d_is_statement := d_is_statement _
    d_blocks_of := d_blocks_of _
    d_names_of := d_names_of _
    d_ports_of := d_ports_of _
    d_listed := d_listed _
    d_statement_table := d_statement_table _
    d_ascending := d_ascending _
    d_block_names := d_block_names _
    d_block_ports := d_block_ports _
    d_ways_of := d_ways_of _
    d_ways_through := d_ways_through _
    d_deals := d_deals _
    d_is_wrong := d_is_wrong _
    d_first_wrong := d_first_wrong _
    d_statement_count := d_statement_count _
    d_check_top_block := d_check_top_block _
    d__law_source := d__law_source _
    d__law_mixed := d__law_mixed _
    d__law_draw := d__law_draw _
    d__law_alike := d__law_alike _
    d__law_simple := d__law_simple _
    d__law_agrees := d__law_agrees _
    d__law_sizes_agree := d__law_sizes_agree _
    d__law_around := d__law_around _
    d__law_depths_agree := d__law_depths_agree _
    d__law_rows_agree := d__law_rows_agree _
    d__law_chain := d__law_chain _
    d__law_expressions_agree := d__law_expressions_agree _
    d__law_letters_agree := d__law_letters_agree _
    d__law_large := d__law_large _
    d__law_sized := d__law_sized _
    d__law_counts_agree := d__law_counts_agree _
    d_law := d_law _
    q_Routine_paths := let ⟨fd, F⟩ := md_Routine_paths; ⟨fM_Routine_paths, fd, [], F, fun _ _ => .nil, mi_Routine_paths, mf_Routine_paths⟩ }
  obtain ⟨fL, dvs, F, hd⟩ := T.d_law.ex
  obtain ⟨fd, F1⟩ := F.ex
  have e := F.mgf.symm.trans hfa
  cases e
  have e2 := hd (fun _ => none) (fun _ => none)
  cases e2
  exact ⟨fd, fun s u => FunD.bindsA (ps := ["_law_script"]) F1 (fun _ _ _ _ _ _ us hl => match us, hl with | [_], _ => rfl) s [u] rfl, fun base _ _ => ok_law T law_hu law_hv F1⟩
theorem walk {l : PySem.W.OpenLaw} {q : Program} {loose : List Str} {XP : (Str → Option Value) → Heap → Prop} {YP : World → Heap → Prop} {d : DefRec} {K : Params → PySem.W.Frag} (hn : l.most = some 63) (hdf : d.params.defaults = [])
    (hY : ∀ (w : World) (h : Heap), YP w h → (K w.params).In h)
    (F : ∀ (w : World) (mg : Str → Option Value) (fa : Addr) (h : Heap), (K w.params).In h → h.Ns mainGlobals mg → mg d.name = some (.ref fa) →
      ∃ fd : FuncData, (∀ (s : Shared) (u : Value), BindsTo s fd ⟨[u], []⟩ [("_law_script", u)]) ∧ ∀ base : Heap, (K w.params).In base → base.Ns mainGlobals mg → FnOk l.prog w (K w.params) mg base CX0 63 fa fd ["_law_script"] (spLawD (K w.params))) :
    PySem.W.WalkO q loose XP YP l.row.toRowW d [] (fun f vs => PySem.call f vs) :=
  L2.walk_of (n := 63) (k := 63) (x := "_law_script") (CX := fun _ => CX0) (sp := fun w => spLawD (K w.params)) hn (by decide) hdf ⟨rfl, by decide, by decide⟩ hY F (fun _ _ a ns hl _ hS => ⟨a, ns, rfl, hS, hl, fun _ => rfl⟩) fun _ _ _ _ _ z => z
end LW
open PySem PySem.W PyProof.Rows
set_option maxRecDepth 100000 in
set_option maxHeartbeats 0 in
theorem PySem.Challenge.cw_onlyheard_k11_bounds_holds : PySem.Challenge.rw_onlyheard_k11_bounds.Holds := by
  w_on; o_law; k_head; (case hw => w_witness2)
  k_fill
  refine LW.walk (l := PySem.Challenge.rw_onlyheard_k11_bounds) rfl rfl (fun w h Y => PySem.W.kIn_of Y) ?F
  case F =>
    intro w mg fa h KX G hmg
    refine' LW.end_mk KX G hmg ?o0 ?pg0 ?hd0 ?po0 ?sa0 ?ha0 ?hm0 ?ic0 ?ty0 ?mk0 ?kp0 ?so0_0 ?so0_1 ?so0_2 ?so0_3 ?so0_4 ?so0_5 ?si0_0 ?si0_1 ?si0_2 ?si0_3 ?si0_4 ?si0_5 ?si0_6 ?ii0 ?if0 ?id0 ?hn ?htk ?a_Routine_block ?a_Routine_table ?n_block_0 ?n_name_list_0 ?n_port_list_0 ?n_table_0 ?e0 ?x0 ?eb0 ?ec0 ?et0 ?e1 ?x1 ?eb1 ?ec1 ?et1 ?e2 ?x2 ?eb2 ?ec2 ?et2 ?es0_0 ?es0_1 ?es0_2 ?es1_0 ?es1_1 ?es1_2 ?es2_0 ?es2_1 ?es2_2 ?ity ?ifn ?z_isinstance ?z_bool ?z_int ?z_len ?z_str ?z_tuple ?z_list ?z_enumerate ?z_sorted ?z_any ?z_range ?z_reversed ?z_sum ?g_MOST_LETTERS ?g_LETTERS ?k_KEPT_WORDS ?g_PAIRED ?g_MOST_STATEMENTS ?g_MOST_ROWS ?g_MOST_DEPTH ?g_MOST_ALL ?d_is_integer ?d_is_count ?d_is_digit ?d_is_name ?d_is_tuple ?d_is_path ?d_is_paired ?d_is_expression ?d_expression_names ?d_is_block_shape ?d_are_rows ?d_are_blocks ?d_is_dealing_shape ?d_is_if_shape ?d_is_statement ?d_blocks_of ?d_names_of ?d_ports_of ?d_listed ?d_statement_table ?d_ascending ?d_block_names ?d_block_ports ?d_ways_of ?d_ways_through ?d_deals ?d_is_wrong ?d_first_wrong ?d_statement_count ?d_check_top_block ?d__law_source ?d__law_mixed ?d__law_draw ?d__law_alike ?d__law_simple ?d__law_agrees ?d__law_sizes_agree ?d__law_around ?d__law_depths_agree ?d__law_rows_agree ?d__law_chain ?d__law_expressions_agree ?d__law_letters_agree ?d__law_large ?d__law_sized ?d__law_counts_agree ?d_law ?mi_Routine_paths ?mf_Routine_paths ?md_Routine_paths
    (case o0 => (try clear hmg); k_is)
    (case pg0 => (try clear hmg); k_is)
    (case hd0 => (try clear hmg); k_is)
    (case po0 => (try clear hmg); k_is)
    (case sa0 => (try clear hmg); k_is)
    (case ha0 => (try clear hmg); k_is)
    (case hm0 => (try clear hmg); k_is)
    (case ic0 => (try clear hmg); k_is)
    (case ty0 => (try clear hmg); k_is)
    (case mk0 => (try clear hmg); k_is)
    (case kp0 => (try clear hmg); k_is)
    (case so0_0 => (try clear hmg); k_is)
    (case so0_1 => (try clear hmg); k_is)
    (case so0_2 => (try clear hmg); k_is)
    (case so0_3 => (try clear hmg); k_is)
    (case so0_4 => (try clear hmg); k_is)
    (case so0_5 => (try clear hmg); k_is)
    (case si0_0 => (try clear hmg); k_is)
    (case si0_1 => (try clear hmg); k_is)
    (case si0_2 => (try clear hmg); k_is)
    (case si0_3 => (try clear hmg); k_is)
    (case si0_4 => (try clear hmg); k_is)
    (case si0_5 => (try clear hmg); k_is)
    (case si0_6 => (try clear hmg); k_is)
    (case ii0 => (try clear hmg); k_is)
    (case if0 => (try clear hmg); k_is)
    (case id0 => (try clear hmg); refine' DL.fD0 ?l ?c ?k; (case l => k_is); (case c => k_is); (case k => k_is))
    (case hn => (try clear hmg); k_is)
    (case htk => (try clear hmg); k_is)
    (case a_Routine_block => (try clear hmg); k_is)
    (case a_Routine_table => (try clear hmg); k_is)
    (case n_block_0 => (try clear hmg); k_is)
    (case n_name_list_0 => (try clear hmg); k_is)
    (case n_port_list_0 => (try clear hmg); k_is)
    (case n_table_0 => (try clear hmg); k_is)
    (case e0 => (try clear hmg); k_is)
    (case x0 => (try clear hmg); refine' DL.oexC_of ?l ?r ?sa ?e ?t ?k ?iC ?no ?ga ?gg ?hd; (case l => k_is); (case r => decide +kernel); (case sa => k_is); (case e => k_is); (case t => k_is); (case k => k_is); (case iC => k_is); (case no => k_is); (case ga => k_is); (case gg => k_is); (case hd => k_is))
    (case eb0 => (try clear hmg); k_is)
    (case ec0 => (try clear hmg); k_is)
    (case et0 => (try clear hmg); k_is)
    (case e1 => (try clear hmg); k_is)
    (case x1 => (try clear hmg); refine' DL.oexC_of ?l ?r ?sa ?e ?t ?k ?iC ?no ?ga ?gg ?hd; (case l => k_is); (case r => decide +kernel); (case sa => k_is); (case e => k_is); (case t => k_is); (case k => k_is); (case iC => k_is); (case no => k_is); (case ga => k_is); (case gg => k_is); (case hd => k_is))
    (case eb1 => (try clear hmg); k_is)
    (case ec1 => (try clear hmg); k_is)
    (case et1 => (try clear hmg); k_is)
    (case e2 => (try clear hmg); k_is)
    (case x2 => (try clear hmg); refine' DL.oexC_of ?l ?r ?sa ?e ?t ?k ?iC ?no ?ga ?gg ?hd; (case l => k_is); (case r => decide +kernel); (case sa => k_is); (case e => k_is); (case t => k_is); (case k => k_is); (case iC => k_is); (case no => k_is); (case ga => k_is); (case gg => k_is); (case hd => k_is))
    (case eb2 => (try clear hmg); k_is)
    (case ec2 => (try clear hmg); k_is)
    (case et2 => (try clear hmg); k_is)
    (case es0_0 => (try clear hmg); k_is)
    (case es0_1 => (try clear hmg); k_is)
    (case es0_2 => (try clear hmg); k_is)
    (case es1_0 => (try clear hmg); k_is)
    (case es1_1 => (try clear hmg); k_is)
    (case es1_2 => (try clear hmg); k_is)
    (case es2_0 => (try clear hmg); k_is)
    (case es2_1 => (try clear hmg); k_is)
    (case es2_2 => (try clear hmg); k_is)
    (case ity => (try clear hmg); k_is)
    (case ifn => (try clear hmg); refine' DL.fD1 (its := [.none]) ?l ?c ?k ?t (by simp) (.cons rfl .nil); (case l => k_is); (case c => k_is); (case k => k_is); (case t => k_is))
    (case z_isinstance => (try clear hmg); k_is)
    (case z_bool => (try clear hmg); k_is)
    (case z_int => (try clear hmg); k_is)
    (case z_len => (try clear hmg); k_is)
    (case z_str => (try clear hmg); k_is)
    (case z_tuple => (try clear hmg); k_is)
    (case z_list => (try clear hmg); k_is)
    (case z_enumerate => (try clear hmg); k_is)
    (case z_sorted => (try clear hmg); k_is)
    (case z_any => (try clear hmg); k_is)
    (case z_range => (try clear hmg); k_is)
    (case z_reversed => (try clear hmg); k_is)
    (case z_sum => (try clear hmg); k_is)
    (case g_MOST_LETTERS => (try clear hmg); intro cl; refine' DL.gcI KX G ?e; (case e => k_is))
    (case g_LETTERS => (try clear hmg); intro cl; refine' DL.gcS KX G ?e; (case e => k_is))
    (case k_KEPT_WORDS => (try clear hmg); refine' LW.kwm_KEPT_WORDS KX G ?kw1 ?kw2 ?kw3 ?kw4; (case kw1 => k_is); (case kw2 => k_is); (case kw3 => decide +kernel); (case kw4 => exact ⟨rfl, rfl, rfl, rfl, rfl, rfl, rfl, rfl, rfl, rfl, rfl, rfl, rfl, rfl, rfl, rfl, rfl, rfl, rfl, rfl, rfl, rfl⟩))
    (case g_PAIRED => (try clear hmg); intro cl; refine' LW.gcm_PAIRED KX G ?gc1 ?gc2; (case gc1 => k_is); (case gc2 => k_is))
    (case g_MOST_STATEMENTS => (try clear hmg); intro cl; refine' DL.gcI KX G ?e; (case e => k_is))
    (case g_MOST_ROWS => (try clear hmg); intro cl; refine' DL.gcI KX G ?e; (case e => k_is))
    (case g_MOST_DEPTH => (try clear hmg); intro cl; refine' DL.gcI KX G ?e; (case e => k_is))
    (case g_MOST_ALL => (try clear hmg); intro cl; refine' DL.gcI KX G ?e; (case e => k_is))
    (case d_is_integer => (try clear hmg); intro cl; refine' DL.dE0 KX G ?e ?l ?c ?k; (case e => k_is); (case l => k_is); (case c => k_is); (case k => k_is))
    (case d_is_count => (try clear hmg); intro cl; refine' DL.dE0 KX G ?e ?l ?c ?k; (case e => k_is); (case l => k_is); (case c => k_is); (case k => k_is))
    (case d_is_digit => (try clear hmg); intro cl; refine' DL.dE0 KX G ?e ?l ?c ?k; (case e => k_is); (case l => k_is); (case c => k_is); (case k => k_is))
    (case d_is_name => (try clear hmg); intro cl; refine' DL.dE0 KX G ?e ?l ?c ?k; (case e => k_is); (case l => k_is); (case c => k_is); (case k => k_is))
    (case d_is_tuple => (try clear hmg); intro cl; refine' DL.dE0 KX G ?e ?l ?c ?k; (case e => k_is); (case l => k_is); (case c => k_is); (case k => k_is))
    (case d_is_path => (try clear hmg); intro cl; refine' DL.dE0 KX G ?e ?l ?c ?k; (case e => k_is); (case l => k_is); (case c => k_is); (case k => k_is))
    (case d_is_paired => (try clear hmg); intro cl; refine' DL.dE0 KX G ?e ?l ?c ?k; (case e => k_is); (case l => k_is); (case c => k_is); (case k => k_is))
    (case d_is_expression => (try clear hmg); intro cl; refine' LW.dm_is_expression KX G ?de ?dl ?dc ?dk ?dt; (case de => k_is); (case dl => k_is); (case dc => k_is); (case dk => k_is); (case dt => k_is))
    (case d_expression_names => (try clear hmg); intro cl; refine' DL.dE0 KX G ?e ?l ?c ?k; (case e => k_is); (case l => k_is); (case c => k_is); (case k => k_is))
    (case d_is_block_shape => (try clear hmg); intro cl; refine' DL.dE0 KX G ?e ?l ?c ?k; (case e => k_is); (case l => k_is); (case c => k_is); (case k => k_is))
    (case d_are_rows => (try clear hmg); intro cl; refine' DL.dE0 KX G ?e ?l ?c ?k; (case e => k_is); (case l => k_is); (case c => k_is); (case k => k_is))
    (case d_are_blocks => (try clear hmg); intro cl; refine' DL.dE0 KX G ?e ?l ?c ?k; (case e => k_is); (case l => k_is); (case c => k_is); (case k => k_is))
    (case d_is_dealing_shape => (try clear hmg); intro cl; refine' DL.dE0 KX G ?e ?l ?c ?k; (case e => k_is); (case l => k_is); (case c => k_is); (case k => k_is))
    (case d_is_if_shape => (try clear hmg); intro cl; refine' DL.dE0 KX G ?e ?l ?c ?k; (case e => k_is); (case l => k_is); (case c => k_is); (case k => k_is))
    (case d_is_statement => (try clear hmg); intro cl; refine' DL.dE0 KX G ?e ?l ?c ?k; (case e => k_is); (case l => k_is); (case c => k_is); (case k => k_is))
    (case d_blocks_of => (try clear hmg); intro cl; refine' DL.dE0 KX G ?e ?l ?c ?k; (case e => k_is); (case l => k_is); (case c => k_is); (case k => k_is))
    (case d_names_of => (try clear hmg); intro cl; refine' DL.dE0 KX G ?e ?l ?c ?k; (case e => k_is); (case l => k_is); (case c => k_is); (case k => k_is))
    (case d_ports_of => (try clear hmg); intro cl; refine' DL.dE0 KX G ?e ?l ?c ?k; (case e => k_is); (case l => k_is); (case c => k_is); (case k => k_is))
    (case d_listed => (try clear hmg); intro cl; refine' LW.dm_listed KX G ?de ?dl ?dc ?dk ?dt ?du0; (case de => k_is); (case dl => k_is); (case dc => k_is); (case dk => k_is); (case dt => k_is); (case du0 => k_is))
    (case d_statement_table => (try clear hmg); intro cl; refine' DL.dE0 KX G ?e ?l ?c ?k; (case e => k_is); (case l => k_is); (case c => k_is); (case k => k_is))
    (case d_ascending => (try clear hmg); intro cl; refine' DL.dE0 KX G ?e ?l ?c ?k; (case e => k_is); (case l => k_is); (case c => k_is); (case k => k_is))
    (case d_block_names => (try clear hmg); intro cl; refine' DL.dE0 KX G ?e ?l ?c ?k; (case e => k_is); (case l => k_is); (case c => k_is); (case k => k_is))
    (case d_block_ports => (try clear hmg); intro cl; refine' DL.dE0 KX G ?e ?l ?c ?k; (case e => k_is); (case l => k_is); (case c => k_is); (case k => k_is))
    (case d_ways_of => (try clear hmg); intro cl; refine' DL.dE0 KX G ?e ?l ?c ?k; (case e => k_is); (case l => k_is); (case c => k_is); (case k => k_is))
    (case d_ways_through => (try clear hmg); intro cl; refine' DL.dE0 KX G ?e ?l ?c ?k; (case e => k_is); (case l => k_is); (case c => k_is); (case k => k_is))
    (case d_deals => (try clear hmg); intro cl; refine' LW.dm_deals KX G ?de ?dl ?dc ?dk ?dt; (case de => k_is); (case dl => k_is); (case dc => k_is); (case dk => k_is); (case dt => k_is))
    (case d_is_wrong => (try clear hmg); intro cl; refine' DL.dE0 KX G ?e ?l ?c ?k; (case e => k_is); (case l => k_is); (case c => k_is); (case k => k_is))
    (case d_first_wrong => (try clear hmg); intro cl; refine' LW.dm_first_wrong KX G ?de ?dl ?dc ?dk ?dt ?du0; (case de => k_is); (case dl => k_is); (case dc => k_is); (case dk => k_is); (case dt => k_is); (case du0 => k_is))
    (case d_statement_count => (try clear hmg); intro cl; refine' DL.dE0 KX G ?e ?l ?c ?k; (case e => k_is); (case l => k_is); (case c => k_is); (case k => k_is))
    (case d_check_top_block => (try clear hmg); intro cl; refine' DL.dE0 KX G ?e ?l ?c ?k; (case e => k_is); (case l => k_is); (case c => k_is); (case k => k_is))
    (case d__law_source => (try clear hmg); intro cl; refine' DL.dE0 KX G ?e ?l ?c ?k; (case e => k_is); (case l => k_is); (case c => k_is); (case k => k_is))
    (case d__law_mixed => (try clear hmg); intro cl; refine' DL.dE0 KX G ?e ?l ?c ?k; (case e => k_is); (case l => k_is); (case c => k_is); (case k => k_is))
    (case d__law_draw => (try clear hmg); intro cl; refine' DL.dE0 KX G ?e ?l ?c ?k; (case e => k_is); (case l => k_is); (case c => k_is); (case k => k_is))
    (case d__law_alike => (try clear hmg); intro cl; refine' DL.dE0 KX G ?e ?l ?c ?k; (case e => k_is); (case l => k_is); (case c => k_is); (case k => k_is))
    (case d__law_simple => (try clear hmg); intro cl; refine' DL.dE0 KX G ?e ?l ?c ?k; (case e => k_is); (case l => k_is); (case c => k_is); (case k => k_is))
    (case d__law_agrees => (try clear hmg); intro cl; refine' DL.dE0 KX G ?e ?l ?c ?k; (case e => k_is); (case l => k_is); (case c => k_is); (case k => k_is))
    (case d__law_sizes_agree => (try clear hmg); intro cl; refine' DL.dE0 KX G ?e ?l ?c ?k; (case e => k_is); (case l => k_is); (case c => k_is); (case k => k_is))
    (case d__law_around => (try clear hmg); intro cl; refine' DL.dE0 KX G ?e ?l ?c ?k; (case e => k_is); (case l => k_is); (case c => k_is); (case k => k_is))
    (case d__law_depths_agree => (try clear hmg); intro cl; refine' DL.dE0 KX G ?e ?l ?c ?k; (case e => k_is); (case l => k_is); (case c => k_is); (case k => k_is))
    (case d__law_rows_agree => (try clear hmg); intro cl; refine' DL.dE0 KX G ?e ?l ?c ?k; (case e => k_is); (case l => k_is); (case c => k_is); (case k => k_is))
    (case d__law_chain => (try clear hmg); intro cl; refine' DL.dE0 KX G ?e ?l ?c ?k; (case e => k_is); (case l => k_is); (case c => k_is); (case k => k_is))
    (case d__law_expressions_agree => (try clear hmg); intro cl; refine' DL.dE0 KX G ?e ?l ?c ?k; (case e => k_is); (case l => k_is); (case c => k_is); (case k => k_is))
    (case d__law_letters_agree => (try clear hmg); intro cl; refine' DL.dE0 KX G ?e ?l ?c ?k; (case e => k_is); (case l => k_is); (case c => k_is); (case k => k_is))
    (case d__law_large => (try clear hmg); intro cl; refine' DL.dE0 KX G ?e ?l ?c ?k; (case e => k_is); (case l => k_is); (case c => k_is); (case k => k_is))
    (case d__law_sized => (try clear hmg); intro cl; refine' DL.dE0 KX G ?e ?l ?c ?k; (case e => k_is); (case l => k_is); (case c => k_is); (case k => k_is))
    (case d__law_counts_agree => (try clear hmg); intro cl; refine' DL.dE0 KX G ?e ?l ?c ?k; (case e => k_is); (case l => k_is); (case c => k_is); (case k => k_is))
    (case d_law => (try clear hmg); intro cl; refine' DL.dE0 KX G ?e ?l ?c ?k; (case e => k_is); (case l => k_is); (case c => k_is); (case k => k_is))
    (case mi_Routine_paths => (try clear hmg); k_is)
    (case mf_Routine_paths => (try clear hmg); k_is)
    (case md_Routine_paths => (try clear hmg); refine' DL.fD0 ?l ?c ?k; (case l => k_is); (case c => k_is); (case k => k_is))
