import PyProof.Rows.All
import Wide.All
import OpenK.AllK
import Wide.FinOn
import HandS.ForMost
import HandS.Lambda
import HandS.IsInst
import HandS.TupAny
import HandS.Zip
import PyProof.P3Eq
import HandS.Defaults
import HandS.MakeKwOnly
import HandS.ClsMeth
import HandS.Property
import HandS.OwnEq
import HandS.Strs
import HandS.Star
import HandS.Style
import HandS.FStr
import HandS.RaiseMore
import HandS.Codes
import HandS.SetFor
import KE.KExcSuper
import HandS.Base
import HandS.Call
import HandS.Exc
import HandS.ExcInit
import HandS.ExcOwn
import HandS.HotCalls
import KE.KTryMore
import HandS.EndTab
import PyProof.ListMulRoad
import PyProof.Rows.SeqMore
import PyProof.InstNe
import KE.KEqNest
import PyProof.NeKinds
import KE.KExcLine
import KE.KNestM
import HandS.ExcIs
import PySem.Challenge.RW_lastheard_k05_books_changed
set_option Elab.async false
set_option linter.all false
set_option autoImplicit false
set_option maxRecDepth 100000
namespace DL
open PySem L2

inductive D where
  | non | bl (b : Bool) | int (i : Int) | str (s : Str)
  | tup (l : List D) | lst (l : List D)
  | ins (c : Nat) (ns : List Str) (l : List D)
  | obj (n : Nat)
  | exn (c : Nat) (ns : List Str) (l : List D)
inductive L where
  | val (d : D) | own (l : List D) | oins (c : Nat) (ns : List Str) (l : List D)
def L.owns : L → Bool
  | .val _ => false
  | _ => true
inductive O where
  | lst (l : List D)
  | ins (c : Nat) (ns : List Str) (l : List D)
  | tbl (q : Str)

structure Gh where
  ads : List Addr
  M : Addr → Prop
/-- the written part; the classes; the tables of the lambdas' code objects; the exception that is handled -/
structure Ct where
  K : PySem.W.Frag
  cl : Nat → Addr
  tb : Str → Addr := fun _ => 0
  xp : Option (Addr × Obj) := none
/-- an exception's dict -/
def Xd (G : Gh) (H : Hp) (x : Addr) (fs : List (Str × V)) : Prop := H x = some (.xd fs) ∧ ¬ G.M x

abbrev H0 : Hp := fun _ => none
def LAt (C : Ct) (G : Gh) (H : Hp) (a : Addr) (vs : List V) : Prop := (Rd H a (.lst vs) ∧ ¬ G.M a) ∨ SqL C.K H0 a vs
def TAt (C : Ct) (G : Gh) (H : Hp) (a : Addr) (vs : List V) : Prop := (Rd H a (.tup vs) ∧ ¬ G.M a) ∨ SqT C.K H0 a vs
theorem noRd {a : Addr} {u : HO} (h : Rd H0 a u) : False := by
  rcases h with h | ⟨_, h⟩ <;> cases h
theorem LAt.sq {C : Ct} {G : Gh} {H : Hp} {a : Addr} {vs : List V} (h : LAt C G H a vs) : SqL C.K H a vs := by
  rcases h with ⟨h, _⟩ | h | h
  · exact .inl h
  · exact (noRd h).elim
  · exact .inr h
theorem TAt.sq {C : Ct} {G : Gh} {H : Hp} {a : Addr} {vs : List V} (h : TAt C G H a vs) : SqT C.K H a vs := by
  rcases h with ⟨h, _⟩ | h | h
  · exact .inl h
  · exact (noRd h).elim
  · exact .inr h

mutual
inductive Rp (C : Ct) (G : Gh) (H : Hp) : D → V → Prop
  | non : Rp C G H .non .non
  | bl (b : Bool) : Rp C G H (.bl b) (.bl b)
  | int (i : Int) : Rp C G H (.int i) (.int i)
  | str (x : Str) : PySem.PyData.strOk x = true → Rp C G H (.str x) (.str x)
  | lst {a : Addr} {vs : List V} {l : List D} : LAt C G H a vs → l.length ≤ sizeLine → Rps C G H l vs → Rp C G H (.lst l) (.ref a)
  | tup {a : Addr} {vs : List V} {l : List D} : TAt C G H a vs → l.length ≤ sizeLine → Rps C G H l vs → Rp C G H (.tup l) (.ref a)
  | ins {a dx : Addr} {c : Nat} {ns : List Str} {vs : List V} {l : List D} : H a = some (.ins (C.cl c) dx (ns.zip vs)) → ¬ G.M a → ns.length = vs.length → Rps C G H l vs → Rp C G H (.ins c ns l) (.ref a)
  | obj {n : Nat} {a : Addr} : G.ads[n]? = some a → Rp C G H (.obj n) (.ref a)
  | exn {a d : Addr} {oe : Obj} {c : Nat} {ns : List Str} {vs : List V} {l : List D} : C.xp = some (a, oe) → Zc (.ref (C.cl c)) (some d) oe → Xd G H d (ns.zip vs) → Rps C G H l vs → Rp C G H (.exn c ns l) (.ref a)
inductive Rps (C : Ct) (G : Gh) (H : Hp) : List D → List V → Prop
  | nil : Rps C G H [] []
  | cons {d : D} {v : V} {l : List D} {vs : List V} : Rp C G H d v → Rps C G H l vs → Rps C G H (d :: l) (v :: vs)
end

structure Stab (G : Gh) (H : Hp) (G' : Gh) (H' : Hp) : Prop where
  ads : ∀ (n : Nat) (a : Addr), G.ads[n]? = some a → G'.ads[n]? = some a
  keep : ∀ a o, H a = some o → ¬ G.M a → H' a = some o ∧ ¬ G'.M a

section
variable {C : Ct} {G G' G2 : Gh} {H H' H2 : Hp}
theorem Stab.rd (s : Stab G H G' H') {a : Addr} {u : HO} (h : Rd H a u ∧ ¬ G.M a) : Rd H' a u ∧ ¬ G'.M a := by
  obtain ⟨h | ⟨o, h⟩, m⟩ := h
  · exact ⟨.inl (s.keep _ _ h m).1, (s.keep _ _ h m).2⟩
  · exact ⟨.inr ⟨o, (s.keep _ _ h m).1⟩, (s.keep _ _ h m).2⟩
theorem LAt.stab {a : Addr} {vs : List V} (h : LAt C G H a vs) (s : Stab G H G' H') : LAt C G' H' a vs := h.elim (fun h => .inl (s.rd h)) .inr
theorem TAt.stab {a : Addr} {vs : List V} (h : TAt C G H a vs) (s : Stab G H G' H') : TAt C G' H' a vs := h.elim (fun h => .inl (s.rd h)) .inr
mutual
theorem Rp.stab (s : Stab G H G' H') : ∀ {d : D} {v : V}, Rp C G H d v → Rp C G' H' d v
  | _, _, .non => .non
  | _, _, .bl b => .bl b
  | _, _, .int i => .int i
  | _, _, .str x h => .str x h
  | _, _, .lst h z r => .lst (h.stab s) z (Rps.stab s r)
  | _, _, .tup h z r => .tup (h.stab s) z (Rps.stab s r)
  | _, _, .ins h m e r => .ins (s.keep _ _ h m).1 (s.keep _ _ h m).2 e (Rps.stab s r)
  | _, _, .obj h => .obj (s.ads _ _ h)
  | _, _, .exn e z h r => .exn e z (s.keep _ _ h.1 h.2) (Rps.stab s r)
theorem Rps.stab (s : Stab G H G' H') : ∀ {l : List D} {vs : List V}, Rps C G H l vs → Rps C G' H' l vs
  | _, _, .nil => .nil
  | _, _, .cons r q => .cons (Rp.stab s r) (Rps.stab s q)
end
theorem Rps.length : ∀ {l : List D} {vs : List V}, Rps C G H l vs → l.length = vs.length
  | _, _, .nil => rfl
  | _, _, .cons _ q => by rw [List.length_cons, List.length_cons, q.length]
theorem Rps.get : ∀ {l : List D} {vs : List V} {i : Nat} {d : D}, Rps C G H l vs → l[i]? = some d → ∃ v, vs[i]? = some v ∧ Rp C G H d v
  | _, _, _, _, .nil, h => by simp at h
  | _, _, 0, _, .cons r _, h => by simp at h; subst h; exact ⟨_, rfl, r⟩
  | _, _, i + 1, _, .cons _ q, h => by
    obtain ⟨v, h1, h2⟩ := q.get (i := i) (by simpa using h)
    exact ⟨v, by simpa using h1, h2⟩
theorem Rps.append : ∀ {l m : List D} {vs ws : List V}, Rps C G H l vs → Rps C G H m ws → Rps C G H (l ++ m) (vs ++ ws)
  | _, _, _, _, .nil, h => h
  | _, _, _, _, .cons r q, h => .cons r (q.append h)
theorem Rps.set {d : D} {v : V} (h : Rp C G H d v) : ∀ {l : List D} {vs : List V} (i : Nat), Rps C G H l vs → Rps C G H (l.set i d) (vs.set i v)
  | _, _, _, .nil => .nil
  | _, _, 0, .cons _ q => .cons h q
  | _, _, i + 1, .cons r q => .cons r (Rps.set h i q)
theorem Rps.take : ∀ {l : List D} {vs : List V} (n : Nat), Rps C G H l vs → Rps C G H (l.take n) (vs.take n)
  | _, _, 0, _ => .nil
  | _, _, _ + 1, .nil => .nil
  | _, _, n + 1, .cons r q => .cons r (q.take n)
theorem Rps.drop : ∀ {l : List D} {vs : List V} (n : Nat), Rps C G H l vs → Rps C G H (l.drop n) (vs.drop n)
  | _, _, 0, r => r
  | _, _, _ + 1, .nil => .nil
  | _, _, n + 1, .cons _ q => q.drop n
theorem Rps.insertAt {d : D} {v : V} (h : Rp C G H d v) {l : List D} {vs : List V} (i : Nat) (r : Rps C G H l vs) : Rps C G H (l.take i ++ d :: l.drop i) (vs.take i ++ v :: vs.drop i) := (r.take i).append (.cons h (r.drop i))
theorem Rps.eraseIdx : ∀ {l : List D} {vs : List V} (i : Nat), Rps C G H l vs → Rps C G H (l.eraseIdx i) (vs.eraseIdx i)
  | _, _, _, .nil => .nil
  | _, _, 0, .cons _ q => q
  | _, _, i + 1, .cons r q => .cons r (q.eraseIdx i)

/-- an object's state -/
inductive Ro (C : Ct) (G : Gh) (H : Hp) : O → Addr → Prop
  | lst {a : Addr} {vs : List V} {l : List D} : H a = some (.lst vs) → l.length ≤ sizeLine → Rps C G H l vs → Ro C G H (.lst l) a
  | ins {a dx : Addr} {c : Nat} {ns : List Str} {vs : List V} {l : List D} : H a = some (.ins (C.cl c) dx (ns.zip vs)) → ns.length = vs.length → Rps C G H l vs → Ro C G H (.ins c ns l) a
  | tbl {a : Addr} {q : Str} {ps : Array Value} : C.tb q = a → H a = some (.tbl ps) → TriplesOk ps.toList → (∀ (pos : Pos) (cv : Value), codeAmong pos ps.toList = some cv → ∃ c, cv = .ref c ∧ H c = some (LamX.CodeO c q) ∧ ¬ G.M c) → Ro C G H (.tbl q) a
/-- a slot's -/
inductive Rl (C : Ct) (G : Gh) (H : Hp) : L → V → Prop
  | val {d : D} {v : V} : Rp C G H d v → Rl C G H (.val d) v
  | own {a : Addr} {vs : List V} {l : List D} : G.M a → H a = some (.lst vs) → l.length ≤ sizeLine → Rps C G H l vs → Rl C G H (.own l) (.ref a)
  | oins {a dx : Addr} {c : Nat} {ns : List Str} {vs : List V} {l : List D} : G.M a → H a = some (.ins (C.cl c) dx (ns.zip vs)) → ns.length = vs.length → Rps C G H l vs → Rl C G H (.oins c ns l) (.ref a)
structure Rh (C : Ct) (G : Gh) (H : Hp) (η : List O) : Prop where
  len : G.ads.length = η.length
  nd : G.ads.Nodup
  ob : ∀ (n : Nat) (o : O) (a : Addr), η[n]? = some o → G.ads[n]? = some a → G.M a ∧ Ro C G H o a
  mh : ∀ a, G.M a → H a ≠ none

abbrev En := List (Option L)
structure At (C : Ct) (G : Gh) (H : Hp) (δ : En) (σ : St) (η : List O) : Prop where
  len : δ.length = σ.length
  sl : ∀ (i : Nat) (l : L), δ[i]? = some (some l) → ∃ v, σ[i]? = some (some v) ∧ Rl C G H l v
  un : ∀ (i j : Nat) (l l' : L) (v : V), i ≠ j → δ[i]? = some (some l) → δ[j]? = some (some l') → l.owns = true → l'.owns = true → σ[i]? = some (some v) → σ[j]? = some (some v) → False
  nad : ∀ (i : Nat) (l : L) (a : Addr), δ[i]? = some (some l) → l.owns = true → σ[i]? = some (some (.ref a)) → a ∉ G.ads
  he : Rh C G H η

structure Nx (G : Gh) (H : Hp) (G' : Gh) (H' : Hp) : Prop where
  ads : ∀ (n : Nat) (a : Addr), G.ads[n]? = some a → G'.ads[n]? = some a
  keep : ∀ a o, H a = some o → a ∉ G.ads → H' a = some o
  mu : ∀ a o, H a = some o → (G'.M a ↔ G.M a)
  new : ∀ a, a ∈ G'.ads → a ∈ G.ads ∨ H a = none
  there : ∀ a, H' a = none → H a = none

theorem Rh.adsM {η : List O} (h : Rh C G H η) {a : Addr} (ha : a ∈ G.ads) : G.M a := by
  obtain ⟨n, hn⟩ := List.mem_iff_getElem?.mp ha
  obtain ⟨h1, _⟩ := List.getElem?_eq_some_iff.mp hn
  have h2 : n < η.length := by rw [← h.len]; exact h1
  exact (h.ob n η[n] a (by simp [h2]) hn).1
theorem Nx.refl : Nx G H G H := ⟨fun _ _ h => h, fun _ _ h _ => h, fun _ _ _ => Iff.rfl, fun _ h => .inl h, fun _ h => h⟩
theorem Nx.trans (x : Nx G H G' H') (y : Nx G' H' G2 H2) : Nx G H G2 H2 := by
  refine ⟨fun n a h => y.ads n a (x.ads n a h), fun a o h m => ?_, fun a o h => ?_, fun a h => ?_, fun a h => x.there a (y.there a h)⟩
  · refine y.keep a o (x.keep a o h m) fun h' => ?_
    rcases x.new a h' with z | z
    · exact m z
    · rw [h] at z; cases z
  · cases q : H' a with
    | none => rw [x.there a q] at h; cases h
    | some o' => exact (y.mu a o' q).trans (x.mu a o h)
  · rcases y.new a h with z | z
    · exact x.new a z
    · exact .inr (x.there a z)
theorem Nx.stab {η : List O} (x : Nx G H G' H') (h : Rh C G H η) : Stab G H G' H' :=
  ⟨x.ads, fun a o ha m => ⟨x.keep a o ha fun z => m (h.adsM z), fun z => m ((x.mu a o ha).mp z)⟩⟩

/-- behind a step: the slots stand -/
theorem At.next {δ : En} {σ : St} {η η' : List O} (a : At C G H δ σ η) (x : Nx G H G' H') (h : Rh C G' H' η') : At C G' H' δ σ η' := by
  have st := x.stab a.he
  have kp : ∀ {i : Nat} {l : L} {b : Addr}, δ[i]? = some (some l) → l.owns = true → σ[i]? = some (some (V.ref b)) → ∀ o, H b = some o → H' b = some o := fun h1 h2 h3 o h4 => x.keep _ o h4 (a.nad _ _ _ h1 h2 h3)
  refine ⟨a.len, fun i l hl => ?_, a.un, fun i l b h1 h2 h3 => ?_, h⟩
  · obtain ⟨v, h1, h2⟩ := a.sl i l hl
    refine ⟨v, h1, ?_⟩
    cases h2 with
    | val r => exact .val (r.stab st)
    | own m e z r => exact .own ((x.mu _ _ e).mpr m) (kp hl rfl h1 _ e) z (r.stab st)
    | oins m e n r => exact .oins ((x.mu _ _ e).mpr m) (kp hl rfl h1 _ e) n (r.stab st)
  · intro z
    have q := a.nad i l b h1 h2 h3
    rcases x.new b z with w | w
    · exact q w
    · obtain ⟨v, e1, e2⟩ := a.sl i l h1
      rw [h3] at e1
      cases e1
      cases e2 with
      | val r => cases h2
      | own m e z r => rw [w] at e; cases e
      | oins m e n r => rw [w] at e; cases e
end

/-! ### results -/
inductive R (α : Type) where
  | ok (a : α) (η : List O)
  | exc (c : Nat) (ns : List Str) (l : List D) (η : List O)
  | bad
def R.bind {α β : Type} (r : R α) (k : α → List O → R β) : R β := match r with
  | .ok a η => k a η
  | .exc c ns l η => .exc c ns l η
  | .bad => .bad
abbrev F (α : Type) := En → List O → R α

/-- what is wanted of an exception: class, own dict, heap -/
abbrev XE3 := V → Addr → Hp → Prop
def FinR {α β : Type} (C : Ct) (Rel : Gh → Hp → α → β → Prop) (E : XK) (G : Gh) (H : Hp) (r : R α) (Q : β → Hp → Prop) : Prop := match r with
  | .ok d η' => ∀ v G' H', Nx G H G' H' → Rh C G' H' η' → Rel G' H' d v → Q v H'
  | .exc c ns l η' => ∀ x vs G' H', Nx G H G' H' → Rh C G' H' η' → Xd G' H' x (ns.zip vs) → Rps C G' H' l vs → E (.ref (C.cl c)) (some x) H'
  | .bad => False
/-- the reading of a function of the data -/
def tG {α β : Type} (C : Ct) (Rel : Gh → Hp → α → β → Prop) (W : Value → Option Addr → St → Hp → Prop) (f : F α) : St → Hp → (β → Hp → Prop) → Prop := fun σ H Q =>
  ∃ G δ η, At C G H δ σ η ∧ FinR C Rel (fun c d H' => W c d σ H') G H (f δ η) Q

section
variable {α β γ κ : Type} {C : Ct} {G G' : Gh} {H H' : Hp} {δ : En} {σ : St} {η η' : List O} {E : XK} {W : Value → Option Addr → St → Hp → Prop}
variable {Rel : Gh → Hp → α → β → Prop} {Rel2 : Gh → Hp → γ → κ → Prop} {Q : β → Hp → Prop} {Q2 : κ → Hp → Prop}
theorem FinR.next {r : R α} (h : FinR C Rel E G H r Q) (x : Nx G H G' H') : FinR C Rel E G' H' r Q := by
  cases r with
  | ok d η' => exact fun v G2 H2 y q1 q2 => h v G2 H2 (x.trans y) q1 q2
  | exc c ns l η' => exact fun a vs G2 H2 y q1 q2 q3 => h a vs G2 H2 (x.trans y) q1 q2 q3
  | bad => exact h
theorem tG.bind {f : F α} {k : α → List O → R γ} (a : At C G H δ σ η) (fin : FinR C Rel2 (fun c d H' => W c d σ H') G H ((f δ η).bind k) Q2)
    (h : ∀ x v G1 H1 η1, At C G1 H1 δ σ η1 → Nx G H G1 H1 → Rel G1 H1 x v → FinR C Rel2 (fun c d H' => W c d σ H') G1 H1 (k x η1) Q2 → Q v H1) : tG C Rel W f σ H Q := by
  refine ⟨G, δ, η, a, ?_⟩
  cases hf : f δ η with
  | ok d η1 =>
    rw [hf] at fin
    have fin' : FinR C Rel2 (fun c d H' => W c d σ H') G H (k d η1) Q2 := fin
    exact fun v G1 H1 x q1 q2 => h d v G1 H1 η1 (a.next x q1) x q2 (fin'.next x)
  | exc c ns l η1 =>
    rw [hf] at fin
    exact fun b vs G1 H1 x q1 q2 q3 => fin b vs G1 H1 x q1 q2 q3
  | bad =>
    rw [hf] at fin
    exact fin
end
end DL
namespace DL
open PySem L2

/-! ### borrowed values -/
/-- stable: a list of the frame's own; loose: any list that stands now -/
def Rpb (C : Ct) (G : Gh) (H : Hp) (d : D) (v : V) : Prop := Rp C G H d v ∨ ∃ a vs l, d = .lst l ∧ v = .ref a ∧ H a = some (.lst vs) ∧ (Rps C G H l vs ∧ l.length ≤ sizeLine) ∧ a ∉ G.ads
def Rpu (C : Ct) (G : Gh) (H : Hp) (d : D) (v : V) : Prop := Rp C G H d v ∨ ∃ a vs l, d = .lst l ∧ v = .ref a ∧ H a = some (.lst vs) ∧ (Rps C G H l vs ∧ l.length ≤ sizeLine)
def RB (G : Gh) (H : Hp) (b c : Bool) : Prop := b = c
section
variable {C : Ct} {G G' G2 : Gh} {H H' H2 : Hp} {d : D} {v : V} {η : List O}
theorem Rp.b (h : Rp C G H d v) : Rpb C G H d v := .inl h
theorem Rpb.u (h : Rpb C G H d v) : Rpu C G H d v := h.elim .inl fun ⟨a, vs, l, h1, h2, h3, h4, _⟩ => .inr ⟨a, vs, l, h1, h2, h3, h4⟩
theorem Rpb.next (h : Rpb C G H d v) (x : Nx G H G' H') (r : Rh C G H η) : Rpb C G' H' d v := by
  rcases h with h | ⟨a, vs, l, h1, h2, h3, h4, h5⟩
  · exact .inl (h.stab (x.stab r))
  · refine .inr ⟨a, vs, l, h1, h2, x.keep _ _ h3 h5, ⟨h4.1.stab (x.stab r), h4.2⟩, fun z => ?_⟩
    rcases x.new a z with w | w
    · exact h5 w
    · rw [h3] at w; cases w
/-- a list that is read -/
theorem Rpu.lst {l : List D} (h : Rpu C G H (.lst l) v) : ∃ a vs, v = .ref a ∧ SqL C.K H a vs ∧ Rps C G H l vs := by
  rcases h with h | ⟨a, vs, l', h1, h2, h3, h4, _⟩
  · cases h with
    | lst h1 _ h2 => exact ⟨_, _, rfl, h1.sq, h2⟩
  · cases h1
    exact ⟨a, vs, h2, SqL.of h3, h4⟩
theorem Rpu.lstZ {l : List D} (h : Rpu C G H (.lst l) v) : l.length ≤ sizeLine := by
  rcases h with h | ⟨a, vs, l', h1, h2, h3, h4, z⟩
  · cases h with
    | lst _ z _ => exact z
  · cases h1
    exact z
theorem Rpu.tupZ {l : List D} (h : Rpu C G H (.tup l) v) : l.length ≤ sizeLine := by
  rcases h with h | ⟨a, vs, l', h1, h2, h3, h4, z⟩
  · cases h with
    | tup _ z _ => exact z
  · cases h1
theorem Rpu.tup {l : List D} (h : Rpu C G H (.tup l) v) : ∃ a vs, v = .ref a ∧ SqT C.K H a vs ∧ Rps C G H l vs := by
  rcases h with h | ⟨a, vs, l', h1, h2, h3, h4⟩
  · cases h with
    | tup h1 _ h2 => exact ⟨_, _, rfl, h1.sq, h2⟩
  · cases h1
theorem Rpu.int {i : Int} (h : Rpu C G H (.int i) v) : v = .int i := by
  rcases h with h | ⟨a, vs, l', h1, _⟩
  · cases h; rfl
  · cases h1
theorem Rpu.str {i : Str} (h : Rpu C G H (.str i) v) : v = .str i := by
  rcases h with h | ⟨a, vs, l', h1, _⟩
  · cases h; rfl
  · cases h1
theorem Rpu.strOk {i : Str} (h : Rpu C G H (.str i) v) : PySem.PyData.strOk i = true := by
  rcases h with h | ⟨a, vs, l', h1, _⟩
  · cases h with
    | str _ h => exact h
  · cases h1
theorem Rpu.bl {i : Bool} (h : Rpu C G H (.bl i) v) : v = .bl i := by
  rcases h with h | ⟨a, vs, l', h1, _⟩
  · cases h; rfl
  · cases h1
theorem Rpu.non (h : Rpu C G H .non v) : v = .non := by
  rcases h with h | ⟨a, vs, l', h1, _⟩
  · cases h; rfl
  · cases h1
theorem Rpu.obj {n : Nat} (h : Rpu C G H (.obj n) v) : ∃ a, v = .ref a ∧ G.ads[n]? = some a := by
  rcases h with h | ⟨a, vs, l', h1, _⟩
  · cases h with
    | obj h => exact ⟨_, rfl, h⟩
  · cases h1

/-! ### a new object that will not change -/
theorem Nx.alloc {p : Addr} {o : HO} (hp : H p = none) : Nx G H G (upd H p o) := by
  refine ⟨fun _ _ h => h, fun a u h _ => ?_, fun _ _ _ => Iff.rfl, fun _ h => .inl h, fun a h => ?_⟩
  · rw [upd_ne (ne_of_none h hp)]; exact h
  · by_cases e : a = p
    · subst e; exact hp
    · rw [upd_ne e] at h; exact h
theorem Ro.stab {o : O} {a : Addr} (s : Stab G H G' H') (k : ∀ u, H a = some u → H' a = some u) (r : Ro C G H o a) : Ro C G' H' o a := by
  cases r with
  | lst h z r => exact .lst (k _ h) z (r.stab s)
  | ins h e r => exact .ins (k _ h) e (r.stab s)
  | tbl e h t c => exact .tbl e (k _ h) t fun pos cv hc => (c pos cv hc).elim fun b z => ⟨b, z.1, (s.keep _ _ z.2.1 z.2.2).1, (s.keep _ _ z.2.1 z.2.2).2⟩
theorem Ro.at {o : O} {a : Addr} (r : Ro C G H o a) : H a ≠ none := by
  cases r with
  | lst h z r => rw [h]; exact fun z => by cases z
  | ins h e r => rw [h]; exact fun z => by cases z
  | tbl e h t c => rw [h]; exact fun z => by cases z
theorem Rh.alloc {p : Addr} {o : HO} (r : Rh C G H η) (hp : H p = none) : Rh C G (upd H p o) η := by
  have x : Nx G H G (upd H p o) := Nx.alloc hp
  refine ⟨r.len, r.nd, fun n o' a h1 h2 => ?_, fun a m => ?_⟩
  · obtain ⟨m, q⟩ := r.ob n o' a h1 h2
    refine ⟨m, q.stab (x.stab r) fun u hu => ?_⟩
    rw [upd_ne (ne_of_none hu hp)]; exact hu
  · exact fun z => r.mh a m (x.there a z)
theorem Rh.fresh {p : Addr} (r : Rh C G H η) (hp : H p = none) : ¬ G.M p := fun m => r.mh p m hp
end

/-! ### lifting -/
def lift {α : Type} (o : Option α) (η : List O) : R α := match o with
  | some a => .ok a η
  | none => .bad
@[simp] theorem lift_some {α : Type} {a : α} {η : List O} : lift (some a) η = .ok a η := rfl
@[simp] theorem lift_none {α : Type} {η : List O} : lift (none : Option α) η = .bad := rfl
@[simp] theorem bind_ok {α β : Type} {a : α} {η : List O} {k : α → List O → R β} : (R.ok a η).bind k = k a η := rfl
@[simp] theorem bind_exc {α β : Type} {c : Nat} {ns : List Str} {l : List D} {η : List O} {k : α → List O → R β} : (R.exc c ns l η : R α).bind k = .exc c ns l η := rfl
@[simp] theorem bind_bad {α β : Type} {k : α → List O → R β} : (R.bad : R α).bind k = .bad := rfl

abbrev WX0 : Value → Option Addr → St → Hp → Prop := fun _ _ _ _ => False
section
variable {X : Cx} {C : Ct} {W : Value → Option Addr → St → Hp → Prop}
abbrev FE (C : Ct) (W : Value → Option Addr → St → Hp → Prop) (X : Cx) (e : Expr) (f : F D) : Prop := PE X e (tG C (Rp C) W f)
abbrev FB (C : Ct) (W : Value → Option Addr → St → Hp → Prop) (X : Cx) (e : Expr) (f : F D) : Prop := PE X e (tG C (Rpb C) W f)
abbrev FU (C : Ct) (W : Value → Option Addr → St → Hp → Prop) (X : Cx) (e : Expr) (f : F D) : Prop := PE X e (tG C (Rpu C) W f)
abbrev FT (C : Ct) (W : Value → Option Addr → St → Hp → Prop) (X : Cx) (e : Expr) (f : F Bool) : Prop := PT X e (tG C RB W f)
abbrev FA (C : Ct) (W : Value → Option Addr → St → Hp → Prop) (X : Cx) (es : List Expr) (f : F (List D)) : Prop := PA X es (tG C (Rps C) W f)

theorem PE.imp {X : Cx} {e : Expr} {t t' : TE} (h : PE X e t) (i : ∀ σ H Q, t' σ H Q → t σ H Q) : PE X e t' := ⟨fun pins s σ H Q I q => h.run pins s σ H Q I (i _ _ _ q)⟩
theorem PT.imp {X : Cx} {e : Expr} {t t' : TT} (h : PT X e t) (i : ∀ σ H Q, t' σ H Q → t σ H Q) : PT X e t' := ⟨fun pins s σ H Q I q => h.run pins s σ H Q I (i _ _ _ q)⟩
theorem PA.imp {X : Cx} {e : List Expr} {t t' : TA} (h : PA X e t) (i : ∀ σ H Q, t' σ H Q → t σ H Q) : PA X e t' := ⟨fun pos pins s σ H Q I q => h.run pos pins s σ H Q I (i _ _ _ q)⟩
theorem PS.imp {X : Cx} {e : Stmt} {t t' : TS} (h : PS X e t) (i : ∀ D σ H, t' D σ H → t D σ H) : PS X e t' := ⟨fun pins s σ H Q I q => h.run pins s σ H Q I (i _ _ _ q)⟩
theorem PSs.imp {X : Cx} {e : List Stmt} {t t' : TS} (h : PSs X e t) (i : ∀ D σ H, t' D σ H → t D σ H) : PSs X e t' := ⟨fun pins s σ H Q I q => h.run pins s σ H Q I (i _ _ _ q)⟩

theorem tG.rel {α β : Type} {Rel Rel' : Gh → Hp → α → β → Prop} {f : F α} (h : ∀ G H d v, Rel G H d v → Rel' G H d v) {σ : St} {H : Hp} {Q : β → Hp → Prop} (q : tG C Rel' W f σ H Q) : tG C Rel W f σ H Q := by
  obtain ⟨G, δ, η, a, fin⟩ := q
  refine ⟨G, δ, η, a, ?_⟩
  cases hf : f δ η with
  | ok d η1 => rw [hf] at fin; exact fun v G1 H1 x q1 q2 => fin v G1 H1 x q1 (h _ _ _ _ q2)
  | exc c ns l η1 => rw [hf] at fin; exact fin
  | bad => rw [hf] at fin; exact fin
theorem fe_b {e : Expr} {f : F D} (h : FE C W X e f) : FB C W X e f := PE.imp h fun _ _ _ q => tG.rel (fun _ _ _ _ z => Rp.b z) q
theorem fb_u {e : Expr} {f : F D} (h : FB C W X e f) : FU C W X e f := PE.imp h fun _ _ _ q => tG.rel (fun _ _ _ _ z => Rpb.u z) q
theorem fe_u {e : Expr} {f : F D} (h : FE C W X e f) : FU C W X e f := fb_u (fe_b h)

/-! ### names, constants -/
def fV (i : Nat) : F D := fun δ η => match δ[i]? with
  | some (some (.val d)) => .ok d η
  | _ => .bad
theorem fe_v (i : Nat) {x : Str} {pos : Pos} (hN : X.N[i]? = some x := by rfl) (hv : Vis X.env.scope x := by first | exact Or.inl rfl | exact Or.inr (Or.inl rfl) | exact Or.inr (Or.inr rfl)) (hd : (x == ("__debug__" : Str)) = false := by decide)
    (hcd : (x == ("__classdict__" : Str)) = false := by decide) : FE C W X (.Name x pos) (fV i) := by
  refine PE.imp (pe_var hN hv hd hcd) fun σ H Q ⟨G, δ, η, a, fin⟩ => ?_
  unfold fV at fin
  split at fin
  · rename_i d h
    obtain ⟨v, h1, h2⟩ := a.sl i _ h
    cases h2 with
    | val r => exact ⟨v, h1, fin v G H Nx.refl a.he r⟩
  · exact fin.elim
/-- a list of the frame's own is read -/
def fVo (i : Nat) : F D := fun δ η => match δ[i]? with
  | some (some (.own l)) => .ok (.lst l) η
  | _ => .bad
theorem fb_v (i : Nat) {x : Str} {pos : Pos} (hN : X.N[i]? = some x := by rfl) (hv : Vis X.env.scope x := by first | exact Or.inl rfl | exact Or.inr (Or.inl rfl) | exact Or.inr (Or.inr rfl)) (hd : (x == ("__debug__" : Str)) = false := by decide)
    (hcd : (x == ("__classdict__" : Str)) = false := by decide) : FB C W X (.Name x pos) (fVo i) := by
  refine PE.imp (pe_var hN hv hd hcd) fun σ H Q ⟨G, δ, η, a, fin⟩ => ?_
  unfold fVo at fin
  split at fin
  · rename_i l h
    obtain ⟨v, h1, h2⟩ := a.sl i _ h
    cases h2 with
    | own m e z r => exact ⟨_, h1, fin _ G H Nx.refl a.he (.inr ⟨_, _, _, rfl, rfl, e, ⟨r, z⟩, a.nad i _ _ h rfl h1⟩)⟩
  · exact fin.elim
def fC (d : D) : F D := fun _ η => .ok d η
theorem fe_c {e : Expr} {d : D} {v : V} (h : PE X e (tC v)) (r : ∀ G H, Rp C G H d v) : FE C W X e (fC d) :=
  PE.imp h fun σ H Q ⟨G, δ, η, a, fin⟩ => fin v G H Nx.refl a.he (r G H)
theorem fe_int {i : Int} {j pos} : FE C W X (.Constant (.int i) j pos) (fC (.int i)) := fe_c pe_int fun _ _ => .int i
theorem fe_bl {b : Bool} {j pos} : FE C W X (.Constant (.bool b) j pos) (fC (.bl b)) := fe_c pe_bl fun _ _ => .bl b
theorem fe_non {j pos} : FE C W X (.Constant .none j pos) (fC .non) := fe_c pe_non fun _ _ => .non
theorem fe_str {x : Str} {j pos} (h : PySem.PyData.strOk x = true := by decide +kernel) : FE C W X (.Constant (.str x) j pos) (fC (.str x)) := fe_c pe_str fun _ _ => .str x h
theorem fe_gint {x : Str} {i : Int} {t : Tok} {pos : Pos} (hm : X.mg x = some (.int i t)) (hg : Gl X x := by rfl) (hd : (x == ("__debug__" : Str)) = false := by decide) : FE C W X (.Name x pos) (fC (.int i)) := fe_c (pe_glob (v := .int i) hg hm ⟨t, rfl⟩ hd) fun _ _ => .int i
theorem fe_gstr {x : Str} {i : Str} {t : Tok} {pos : Pos} (hm : X.mg x = some (.str i t)) (hg : Gl X x := by rfl) (hd : (x == ("__debug__" : Str)) = false := by decide) (hok : PySem.PyData.strOk i = true := by decide +kernel) : FE C W X (.Name x pos) (fC (.str i)) := fe_c (pe_glob (v := .str i) hg hm ⟨t, rfl⟩ hd) fun _ _ => .str i hok

/-! ### two-place operations -/
/-- what follows a value that an operation has made -/
def Gives (C : Ct) (G : Gh) (H : Hp) (η : List O) (o : Option D) (Q : VK) : Prop := match o with
  | some r => ∀ z G' H', Nx G H G' H' → Rh C G' H' η → Rp C G' H' r z → Q z H'
  | none => False
def rD (C : Ct) (g : D → D → Option D) : R2 := fun x y H Q => ∃ G η d e, Rh C G H η ∧ Rpu C G H d x ∧ Rpu C G H e y ∧ Gives C G H η (g d e) Q
def fOp (g : D → D → Option D) (fa fb : F D) : F D := fun δ η => (fa δ η).bind fun d η => (fb δ η).bind fun e η => lift (g d e) η
theorem FinR.gives {G : Gh} {H : Hp} {η : List O} {o : Option D} {E : XK} {Q : VK} (r : Rh C G H η) (h : FinR C (Rp C) E G H (lift o η) Q) : Gives C G H η o Q := by
  cases o with
  | none => exact h
  | some d => exact fun z G' H' x q1 q2 => h z G' H' x q1 q2
theorem tOp_of {g : D → D → Option D} {fa fb : F D} {σ : St} {H : Hp} {Q : VK} (h : tG C (Rp C) W (fOp g fa fb) σ H Q) : tOp (rD C g) (tG C (Rpb C) W fa) (tG C (Rpu C) W fb) σ H Q := by
  obtain ⟨G, δ, η, a, fin⟩ := h
  refine tG.bind (Rel2 := Rp C) a fin fun d v G1 H1 η1 a1 x1 r1 fin1 => ?_
  refine tG.bind (Rel2 := Rp C) a1 fin1 fun e w G2 H2 η2 a2 x2 r2 fin2 => ?_
  exact ⟨G2, η2, d, e, a2.he, (r1.next x2 a1.he).u, r2, fin2.gives a2.he⟩
variable {a b c : Expr} {fa fb fc : F D} {pos : Pos} {g g' : D → D → Option D}
theorem fe_op {op : Operator} (ho : OpR X (binaryOp op) (rD C g)) (ha : FB C W X a fa) (hb : FU C W X b fb) : FE C W X (.BinOp a op b pos) (fOp g fa fb) := PE.imp (pe_op ho ha hb) fun _ _ _ q => tOp_of q
theorem fe_cmp {op : CmpOp} (ho : OpR X (compareOp op) (rD C g)) (ha : FB C W X a fa) (hb : FU C W X b fb) (hm : behindInMarks op b = false) : FE C W X (.Compare a [op] [b] pos) (fOp g fa fb) := PE.imp (pe_cmpR ho ha hb hm) fun _ _ _ q => tOp_of q

/-- a test by a value: True or False -/
def toB (f : F D) : F Bool := fun δ η => (f δ η).bind fun d η => match d with
  | .bl b => .ok b η
  | _ => .bad
theorem tTest_of {f : F D} {t : TE} (h : ∀ σ H Q, tG C (Rp C) W f σ H Q → t σ H Q) (mono : True) {σ : St} {H : Hp} {Q : Bool → Hp → Prop} (q : tG C RB W (toB f) σ H Q) : tTest t σ H Q := by
  obtain ⟨G, δ, η, a, fin⟩ := q
  refine h _ _ _ (tG.bind (Rel2 := RB) a fin fun d v G1 H1 η1 a1 x1 r1 fin1 => ?_)
  cases r1 with
  | bl b => exact ⟨b, rfl, fin1 b G1 H1 Nx.refl a1.he rfl⟩
  | _ => exact fin1.elim
theorem ft_cmp {op : CmpOp} (ho : OpR X (compareOp op) (rD C g)) (ha : FB C W X a fa) (hb : FU C W X b fb) (hm : behindInMarks op b = false) : FT C W X (.Compare a [op] [b] pos) (toB (fOp g fa fb)) := PT.imp (pt_cmpR ho ha hb hm) fun _ _ _ q => tTest_of (fun _ _ _ z => tOp_of z) trivial q
/-- a < b < c -/
def fCh (g g' : D → D → Option D) (fa fb fc : F D) : F D := fun δ η => (fa δ η).bind fun d η => (fb δ η).bind fun e η => match g d e with
  | some (.bl true) => (fc δ η).bind fun k η => lift (g' e k) η
  | some (.bl false) => .ok (.bl false) η
  | _ => .bad
theorem tChain_of {σ : St} {H : Hp} {Q : VK} (h : tG C (Rp C) W (fCh g g' fa fb fc) σ H Q) : tChain (rD C g) (rD C g') (tG C (Rpb C) W fa) (tG C (Rpb C) W fb) (tG C (Rpu C) W fc) σ H Q := by
  obtain ⟨G, δ, η, a, fin⟩ := h
  refine tG.bind (Rel2 := Rp C) a fin fun d v G1 H1 η1 a1 x1 r1 fin1 => ?_
  refine tG.bind (Rel2 := Rp C) a1 fin1 fun e w G2 H2 η2 a2 x2 r2 fin2 => ?_
  refine ⟨G2, η2, d, e, a2.he, (r1.next x2 a1.he).u, r2.u, ?_⟩
  cases hg : g d e with
  | none => rw [hg] at fin2; exact fin2
  | some k =>
    rw [hg] at fin2
    intro z G3 H3 x3 h3 r3
    cases r3 with
    | bl b =>
      refine ⟨b, rfl, ?_⟩
      cases b with
      | false => rw [if_neg Bool.false_ne_true]; exact fin2 _ G3 H3 x3 h3 (.bl false)
      | true =>
        rw [if_pos rfl]
        refine tG.bind (Rel2 := Rp C) (a2.next x3 h3) (fin2.next x3) fun k w' G4 H4 η4 a4 x4 r4 fin4 => ?_
        exact ⟨G4, η4, e, k, a4.he, ((r2.next x3 a2.he).next x4 h3).u, r4, fin4.gives a4.he⟩
    | _ => exact fin2.elim
theorem fe_chain {op op' : CmpOp} (ho : OpR X (compareOp op) (rD C g)) (ho' : OpR X (compareOp op') (rD C g')) (ha : FB C W X a fa) (hb : FB C W X b fb) (hc : FU C W X c fc) (hm : lastMarks [op, op'] [b, c] = false := by with_unfolding_all rfl) :
    FE C W X (.Compare a [op, op'] [b, c] pos) (fCh g g' fa fb fc) := PE.imp (pe_chain ho ho' ha hb hc hm) fun _ _ _ q => tChain_of q
theorem ft_chain {op op' : CmpOp} (ho : OpR X (compareOp op) (rD C g)) (ho' : OpR X (compareOp op') (rD C g')) (ha : FB C W X a fa) (hb : FB C W X b fb) (hc : FU C W X c fc) (hm : lastMarks [op, op'] [b, c] = false := by with_unfolding_all rfl) :
    FT C W X (.Compare a [op, op'] [b, c] pos) (toB (fCh g g' fa fb fc)) := PT.imp (pt_chain ho ho' ha hb hc hm) fun _ _ _ q => tTest_of (fun _ _ _ z => tChain_of z) trivial q

/-! ### truth, and, or, not, if -/
def truD : D → Option Bool
  | .non => some false
  | .bl b => some b
  | .int i => some (i != 0)
  | .str x => if x.length ≤ sizeLine then some ((x.length : Int) != 0) else none
  | .lst l => some (!l.isEmpty)
  | .tup l => some (!l.isEmpty)
  | _ => none
def fTru (f : F D) : F Bool := fun δ η => (f δ η).bind fun d η => lift (truD d) η
theorem Rps.emp {G : Gh} {H : Hp} {l : List D} {vs : List V} (h : Rps C G H l vs) : l.isEmpty = vs.isEmpty := by cases h <;> rfl
theorem ft_tru (hK : X.K = C.K) (ha : FU C W X a fa) (he : ∀ whole, isTrue a X.env whole = (do let v ← whole; standAt a.pos; holding [v] (truthy v)) := by intro _; rfl) : FT C W X a (fTru fa) := by
  refine PT.imp (pt_truth ha he) fun σ H Q ⟨G, δ, η, at0, fin⟩ => ?_
  refine tG.bind (Rel2 := RB) at0 fin fun d v G1 H1 η1 a1 x1 r1 fin1 => ?_
  have go : ∀ {k : Bool}, FinR C RB (fun c d H' => W c d σ H') G1 H1 (lift (some k) η1) Q → Q k H1 := fun z => z _ G1 H1 Nx.refl a1.he rfl
  cases d with
  | non => rw [r1.non]; exact ⟨_, rfl, go fin1⟩
  | bl b => rw [r1.bl]; exact ⟨_, rfl, go fin1⟩
  | int i => rw [r1.int]; exact ⟨_, rfl, go fin1⟩
  | str x =>
    rw [r1.str]
    unfold truD at fin1
    dsimp only at fin1
    split at fin1
    · rename_i h; exact ⟨_, ⟨h, rfl⟩, go fin1⟩
    · exact fin1.elim
  | lst l =>
    obtain ⟨p, vs, rfl, h1, h2⟩ := r1.lst
    rw [← hK] at h1
    exact ⟨_, .inl ⟨vs, h1, rfl⟩, by rw [← h2.emp]; exact go fin1⟩
  | tup l =>
    obtain ⟨p, vs, rfl, h1, h2⟩ := r1.tup
    rw [← hK] at h1
    exact ⟨_, .inr (.inl ⟨vs, h1, rfl⟩), by rw [← h2.emp]; exact go fin1⟩
  | _ => exact fin1.elim
/-- an expression that gives True or False, as a test -/
theorem ft_val (ha : FE C W X a fa) (he : ∀ whole, isTrue a X.env whole = (do let v ← whole; standAt a.pos; holding [v] (truthy v)) := by intro _; rfl) : FT C W X a (toB fa) :=
  PT.imp (pt_val ha he) fun _ _ _ q => tTest_of (fun _ _ _ z => z) trivial q
def fAndB (f u : F Bool) : F Bool := fun δ η => (f δ η).bind fun c η => if c = true then u δ η else .ok false η
def fOrB (f u : F Bool) : F Bool := fun δ η => (f δ η).bind fun c η => if c = true then .ok true η else u δ η
def fNotB (f : F Bool) : F Bool := fun δ η => (f δ η).bind fun c η => .ok (!c) η
variable {rest : List Expr} {tA tB' : F Bool}
abbrev FW (C : Ct) (W : Value → Option Addr → St → Hp → Prop) (X : Cx) (e : Expr) (f : F Bool) : Prop := PW X e (tG C RB W f)
theorem PW.imp {X : Cx} {e : Expr} {t t' : TT} (h : PW X e t) (i : ∀ σ H Q, t' σ H Q → t σ H Q) : PW X e t' := ⟨fun wh pins s σ H Q I q => h.run wh pins s σ H Q I (i _ _ _ q)⟩
theorem fw_and1 (ha : FT C W X a tA) : FW C W X (.BoolOp .And [a] pos) tA := pw_and1 ha
theorem fw_or1 (ha : FT C W X a tA) : FW C W X (.BoolOp .Or [a] pos) tA := pw_or1 ha
theorem fw_and (ha : FT C W X a tA) (hb : FW C W X (.BoolOp .And (b :: rest) pos) tB') : FW C W X (.BoolOp .And (a :: b :: rest) pos) (fAndB tA tB') := by
  refine PW.imp (pw_and ha hb) fun σ H Q ⟨G, δ, η, at0, fin⟩ => ?_
  refine tG.bind (Rel2 := RB) at0 fin fun d v G1 H1 η1 a1 x1 r1 fin1 => ?_
  have r1 : d = v := r1
  subst r1
  cases d with
  | true => rw [if_pos rfl] at fin1 ⊢; exact ⟨G1, δ, η1, a1, fin1⟩
  | false => rw [if_neg Bool.false_ne_true] at fin1 ⊢; exact fin1 _ G1 H1 Nx.refl a1.he rfl
theorem fw_or (ha : FT C W X a tA) (hb : FW C W X (.BoolOp .Or (b :: rest) pos) tB') : FW C W X (.BoolOp .Or (a :: b :: rest) pos) (fOrB tA tB') := by
  refine PW.imp (pw_or ha hb) fun σ H Q ⟨G, δ, η, at0, fin⟩ => ?_
  refine tG.bind (Rel2 := RB) at0 fin fun d v G1 H1 η1 a1 x1 r1 fin1 => ?_
  have r1 : d = v := r1
  subst r1
  cases d with
  | false => rw [if_neg Bool.false_ne_true] at fin1 ⊢; exact ⟨G1, δ, η1, a1, fin1⟩
  | true => rw [if_pos rfl] at fin1 ⊢; exact fin1 _ G1 H1 Nx.refl a1.he rfl
theorem ft_w {f : F Bool} (h : FW C W X a f) : FT C W X a f := h.pt
theorem ft_not (ha : FT C W X a tA) : FT C W X (.UnaryOp .Not a pos) (fNotB tA) := by
  refine PT.imp (pt_not ha) fun σ H Q ⟨G, δ, η, at0, fin⟩ => ?_
  refine tG.bind (Rel2 := RB) at0 fin fun d v G1 H1 η1 a1 x1 r1 fin1 => ?_
  have r1 : d = v := r1
  subst r1
  exact fin1 _ G1 H1 Nx.refl a1.he rfl
/-- as values -/
def fAnd (fa fb : F D) : F D := fun δ η => (fa δ η).bind fun d η => match d with
  | .bl true => fb δ η
  | .bl false => .ok (.bl false) η
  | _ => .bad
def fOr (fa fb : F D) : F D := fun δ η => (fa δ η).bind fun d η => match d with
  | .bl true => .ok (.bl true) η
  | .bl false => fb δ η
  | _ => .bad
def fNot (fa : F D) : F D := fun δ η => (fa δ η).bind fun d η => match d with
  | .bl b => .ok (.bl (!b)) η
  | _ => .bad
theorem fe_one {op} (h : FE C W X a fa) : FE C W X (.BoolOp op [a] pos) fa := pe_one h
theorem fe_and (ha : FE C W X a fa) (hb : FE C W X (.BoolOp .And (b :: rest) pos) fb) : FE C W X (.BoolOp .And (a :: b :: rest) pos) (fAnd fa fb) := by
  refine PE.imp (pe_and ha hb) fun σ H Q ⟨G, δ, η, at0, fin⟩ => ?_
  refine tG.bind (Rel2 := Rp C) at0 fin fun d v G1 H1 η1 a1 x1 r1 fin1 => ?_
  cases r1 with
  | bl b =>
    refine ⟨b, rfl, ?_⟩
    cases b with
    | true => rw [if_pos rfl]; exact ⟨G1, δ, η1, a1, fin1⟩
    | false => rw [if_neg Bool.false_ne_true]; exact fin1 _ G1 H1 Nx.refl a1.he (.bl false)
  | _ => exact fin1.elim
theorem fe_or (ha : FE C W X a fa) (hb : FE C W X (.BoolOp .Or (b :: rest) pos) fb) : FE C W X (.BoolOp .Or (a :: b :: rest) pos) (fOr fa fb) := by
  refine PE.imp (pe_or ha hb) fun σ H Q ⟨G, δ, η, at0, fin⟩ => ?_
  refine tG.bind (Rel2 := Rp C) at0 fin fun d v G1 H1 η1 a1 x1 r1 fin1 => ?_
  cases r1 with
  | bl b =>
    refine ⟨b, rfl, ?_⟩
    cases b with
    | true => rw [if_pos rfl]; exact fin1 _ G1 H1 Nx.refl a1.he (.bl true)
    | false => rw [if_neg Bool.false_ne_true]; exact ⟨G1, δ, η1, a1, fin1⟩
  | _ => exact fin1.elim
theorem fe_not (ha : FE C W X a fa) : FE C W X (.UnaryOp .Not a pos) (fNot fa) := by
  refine PE.imp (pe_not ha) fun σ H Q ⟨G, δ, η, at0, fin⟩ => ?_
  refine tG.bind (Rel2 := Rp C) at0 fin fun d v G1 H1 η1 a1 x1 r1 fin1 => ?_
  cases r1 with
  | bl b => exact ⟨b, rfl, fin1 _ G1 H1 Nx.refl a1.he (.bl _)⟩
  | _ => exact fin1.elim
def fIf (t : F Bool) (fa fb : F D) : F D := fun δ η => (t δ η).bind fun c η => if c = true then fa δ η else fb δ η
theorem fe_if (hc : FT C W X c tA) (ha : FE C W X a fa) (hb : FE C W X b fb) : FE C W X (.IfExp c a b pos) (fIf tA fa fb) := by
  refine PE.imp (pe_ifExp hc ha hb) fun σ H Q ⟨G, δ, η, at0, fin⟩ => ?_
  refine tG.bind (Rel2 := Rp C) at0 fin fun d v G1 H1 η1 a1 x1 r1 fin1 => ?_
  have r1 : d = v := r1
  subst r1
  cases d with
  | true => rw [if_pos rfl] at fin1 ⊢; exact ⟨G1, δ, η1, a1, fin1⟩
  | false => rw [if_neg Bool.false_ne_true] at fin1 ⊢; exact ⟨G1, δ, η1, a1, fin1⟩

/-! ### argument lists, displays -/
def fNil : F (List D) := fun _ η => .ok [] η
def fCons (fa : F D) (fr : F (List D)) : F (List D) := fun δ η => (fa δ η).bind fun d η => (fr δ η).bind fun ds η => .ok (d :: ds) η
variable {es : List Expr} {fs : F (List D)} {e : Expr} {fe : F D}
theorem fa_nil : FA C W X [] fNil := PA.imp pa_nil fun σ H Q ⟨G, δ, η, a, fin⟩ => fin [] G H Nx.refl a.he .nil
theorem fa_cons (ha : FE C W X e fe) (hr : FA C W X es fs) (hs : starEach (e :: es) X.env = (false, eval e X.env) :: starEach es X.env := by rfl) : FA C W X (e :: es) (fCons fe fs) := by
  refine PA.imp (pa_cons ha hr hs) fun σ H Q ⟨G, δ, η, at0, fin⟩ => ?_
  refine tG.bind (Rel2 := Rps C) at0 fin fun d v G1 H1 η1 a1 x1 r1 fin1 => ?_
  refine tG.bind (Rel2 := Rps C) a1 fin1 fun ds vs G2 H2 η2 a2 x2 r2 fin2 => ?_
  exact fin2 _ G2 H2 Nx.refl a2.he (.cons (r1.stab (x2.stab a1.he)) r2)
def fTup (fs : F (List D)) : F D := fun δ η => (fs δ η).bind fun ds η => if ds.length ≤ sizeLine then .ok (.tup ds) η else .bad
def fLst (fs : F (List D)) : F D := fun δ η => (fs δ η).bind fun ds η => if ds.length ≤ sizeLine then .ok (.lst ds) η else .bad
theorem Rp.newTup {G : Gh} {H : Hp} {η : List O} {p : Addr} {l : List D} {vs : List V} (r : Rh C G H η) (hp : H p = none) (z : l.length ≤ sizeLine) (h : Rps C G H l vs) : Rp C G (upd H p (.tup vs)) (.tup l) (.ref p) :=
  .tup (.inl ⟨.inl upd_same, r.fresh hp⟩) z (h.stab ((Nx.alloc hp).stab r))
theorem Rp.newLst {G : Gh} {H : Hp} {η : List O} {p : Addr} {l : List D} {vs : List V} (r : Rh C G H η) (hp : H p = none) (z : l.length ≤ sizeLine) (h : Rps C G H l vs) : Rp C G (upd H p (.lst vs)) (.lst l) (.ref p) :=
  .lst (.inl ⟨.inl upd_same, r.fresh hp⟩) z (h.stab ((Nx.alloc hp).stab r))
theorem fe_tup {x1} (h : FA C W X es fs) : FE C W X (.Tuple es x1 pos) (fTup fs) := by
  refine PE.imp (pe_tup h) fun σ H Q ⟨G, δ, η, at0, fin⟩ => ?_
  refine tG.bind (Rel2 := Rp C) at0 fin fun d v G1 H1 η1 a1 x1 r1 fin1 => ?_
  split at fin1
  · rename_i hz
    exact ⟨by rw [← r1.length]; exact hz, fun p hp => fin1 _ G1 _ (Nx.alloc hp) (a1.he.alloc hp) (.newTup a1.he hp hz r1)⟩
  · exact fin1.elim
theorem fe_lst (h : FA C W X es fs) : FE C W X (.List es pos) (fLst fs) := by
  refine PE.imp (pe_lst h) fun σ H Q ⟨G, δ, η, at0, fin⟩ => ?_
  refine tG.bind (Rel2 := Rp C) at0 fin fun d v G1 H1 η1 a1 x1 r1 fin1 => ?_
  split at fin1
  · rename_i hz
    exact ⟨by rw [← r1.length]; exact hz, fun p hp => fin1 _ G1 _ (Nx.alloc hp) (a1.he.alloc hp) (.newLst a1.he hp hz r1)⟩
  · exact fin1.elim
end
end DL
namespace DL
open PySem L2
section
variable {X : Cx} {C : Ct} {W : Value → Option Addr → St → Hp → Prop}
theorem Gives.same {G : Gh} {H : Hp} {η : List O} {r : D} {Q : VK} {z : V} (h : Gives C G H η (some r) Q) (hr : Rh C G H η) (q : Rp C G H r z) : Q z H := h z G H Nx.refl hr q
theorem Gives.lst {G : Gh} {H : Hp} {η : List O} {l : List D} {vs : List V} {Q : VK} {p : Addr} (h : Gives C G H η (some (.lst l)) Q) (hr : Rh C G H η) (hp : H p = none) (z : l.length ≤ sizeLine) (q : Rps C G H l vs) : Q (.ref p) (upd H p (.lst vs)) :=
  h _ G _ (Nx.alloc hp) (hr.alloc hp) (.newLst hr hp z q)
theorem Gives.tup {G : Gh} {H : Hp} {η : List O} {l : List D} {vs : List V} {Q : VK} {p : Addr} (h : Gives C G H η (some (.tup l)) Q) (hr : Rh C G H η) (hp : H p = none) (z : l.length ≤ sizeLine) (q : Rps C G H l vs) : Q (.ref p) (upd H p (.tup vs)) :=
  h _ G _ (Nx.alloc hp) (hr.alloc hp) (.newTup hr hp z q)
/-- an operation by what it does on values -/
theorem opD {f : Value → Value → Sem Value} {r : R2} {g : D → D → Option D} (h : OpR X f r) (i : ∀ x y H Q, rD C g x y H Q → r x y H Q) : OpR X f (rD C g) := fun pins s σ H x y v u Q I rx ry q => h pins s σ H x y v u Q I rx ry (i _ _ _ _ q)
theorem opD2 {f : Value → Value → Sem Value} {r r' : R2} {g : D → D → Option D} (h : OpR X f r) (h' : OpR X f r') (i : ∀ x y H Q, rD C g x y H Q → r x y H Q ∨ r' x y H Q) : OpR X f (rD C g) := fun pins s σ H x y v u Q I rx ry q =>
  (i _ _ _ _ q).elim (h pins s σ H x y v u Q I rx ry) (h' pins s σ H x y v u Q I rx ry)
theorem opD3 {f : Value → Value → Sem Value} {r r' r3 : R2} {g : D → D → Option D} (h : OpR X f r) (h' : OpR X f r') (h3 : OpR X f r3) (i : ∀ x y H Q, rD C g x y H Q → r x y H Q ∨ r' x y H Q ∨ r3 x y H Q) : OpR X f (rD C g) := fun pins s σ H x y v u Q I rx ry q =>
  (i _ _ _ _ q).elim (h pins s σ H x y v u Q I rx ry) fun q => q.elim (h' pins s σ H x y v u Q I rx ry) (h3 pins s σ H x y v u Q I rx ry)

theorem ok_app {a b : Str} (h1 : PySem.PyData.strOk a = true) (h2 : PySem.PyData.strOk b = true) : PySem.PyData.strOk (a ++ b) = true := by
  unfold PySem.PyData.strOk at *
  show (a.cps ++ b.cps).all _ = true
  rw [Array.all_append, h1, h2]; rfl
theorem ok_list {a : Str} : PySem.PyData.strOk a = true ↔ ∀ c ∈ a.cps.toList, c < 0x110000 := by
  unfold PySem.PyData.strOk
  rw [← Array.all_toList, List.all_eq_true]
  simp
theorem ok_one {a : Str} {c : Nat} (h : PySem.PyData.strOk a = true) (hc : c ∈ a.cps.toList) : PySem.PyData.strOk ⟨#[c]⟩ = true := ok_list.mpr fun d hd => by
  have : d = c := by simpa using hd
  rw [this]; exact ok_list.mp h c hc
theorem ok_cut {z : Str} {lo hi : Option Int} (h : PySem.PyData.strOk z = true) : PySem.PyData.strOk (cutS z lo hi) = true := ok_list.mpr fun d hd => by
  unfold cutS at hd
  simp only [List.toList_toArray] at hd
  exact ok_list.mp h d (List.mem_of_mem_drop (List.mem_of_mem_take hd))
/-- a list and a list -/
def rCatL (K : PySem.W.Frag) : R2 := fun x y H Q => ∃ l b xs zs, x = .ref l ∧ y = .ref b ∧ SqL K H l xs ∧ SqL K H b zs ∧ xs.length + zs.length ≤ sizeLine ∧ ∀ p, H p = none → Q (.ref p) (upd H p (.lst (xs ++ zs)))
theorem op_catL : OpR X (binaryOp .Add) (rCatL X.K) := by
  intro pins s σ H x y v u Q I rx ry h
  obtain ⟨l, b, xs, zs, rfl, rfl, hl, hb, hz, q⟩ := h
  cases rx
  cases ry
  obtain ⟨is, r, ⟨⟨_, _, _, sl⟩, n, e, rfl, rfl, rfl⟩, _⟩ := I.list hl
  obtain ⟨js, r2, ⟨⟨_, _, _, sl2⟩, n2, e2, rfl, rfl, rfl⟩, _⟩ := I.list hb
  have len : is.toArray.size + js.toArray.size ≤ sizeLine := by rw [List.size_toArray, List.size_toArray, ← r.length, ← r2.length]; exact hz
  have cat : is.toArray ++ js.toArray = (is ++ js).toArray := by simp
  refine concat_meets ⟨_, e, rfl⟩ ⟨_, e2, rfl⟩ noFill_list_add seq_list_add PySem.F.slot_list_add PySem.F.entry_list_add (PySem.F.args_list_add_2 _ _) (PyProof.Rows.list_addW l b is.toArray js.toArray n n2 none none sl sl2 len) ⟨e, e2, ?_⟩
  rw [cat]
  exact ⟨.ref _, _, I.lnew (t' := s.toks) (r.append r2) (by rw [List.length_append]; exact hz), rfl, q _ I.fresh⟩
def addD : D → D → Option D
  | .int i, .int j => some (.int (i + j))
  | .str a, .str b => if a.length + b.length ≤ sizeLine then some (.str (a ++ b)) else none
  | .lst a, .lst b => if a.length + b.length ≤ sizeLine then some (.lst (a ++ b)) else none
  | .tup a, .tup b => if a.length + b.length ≤ sizeLine then some (.tup (a ++ b)) else none
  | _, _ => none
theorem opD4 {f : Value → Value → Sem Value} {r r' r3 r4 : R2} {g : D → D → Option D} (h : OpR X f r) (h' : OpR X f r') (h3 : OpR X f r3) (h4 : OpR X f r4) (i : ∀ x y H Q, rD C g x y H Q → r x y H Q ∨ r' x y H Q ∨ r3 x y H Q ∨ r4 x y H Q) : OpR X f (rD C g) := fun pins s σ H x y v u Q I rx ry q =>
  (i _ _ _ _ q).elim (h pins s σ H x y v u Q I rx ry) fun q => q.elim (h' pins s σ H x y v u Q I rx ry) fun q => q.elim (h3 pins s σ H x y v u Q I rx ry) (h4 pins s σ H x y v u Q I rx ry)
theorem Rpu.tupRp {G : Gh} {H : Hp} {l : List D} {v : V} (h : Rpu C G H (.tup l) v) : Rp C G H (.tup l) v := by
  rcases h with h | ⟨a, vs, l', h1, _⟩
  · exact h
  · cases h1
theorem o_add (hK : X.K = C.K) : OpR X (binaryOp .Add) (rD C addD) := opD4 op_add op_add_str op_catL op_catA fun x y H Q ⟨G, η, d, e, hr, h1, h2, q⟩ => by
  unfold addD at q
  split at q
  · exact .inl ⟨_, _, h1.int, h2.int, q.same hr (.int _)⟩
  · split at q
    · rename_i hz; exact .inr (.inl ⟨_, _, h1.str, h2.str, hz, q.same hr (.str _ (ok_app h1.strOk h2.strOk))⟩)
    · exact q.elim
  · split at q
    · rename_i hz
      obtain ⟨l, vs, e1, s1, r1⟩ := h1.lst
      obtain ⟨l2, vs2, e2, s2, r2⟩ := h2.lst
      rw [← hK] at s1 s2
      exact .inr (.inr (.inl ⟨l, l2, vs, vs2, e1, e2, s1, s2, by rw [← r1.length, ← r2.length]; exact hz, fun p hp => q.lst hr hp (by rw [List.length_append]; exact hz) (r1.append r2)⟩))
    · exact q.elim
  · split at q
    · rename_i hz
      have t1 := h1.tupRp
      have t2 := h2.tupRp
      obtain ⟨l, vs, e1, s1, r1⟩ := h1.tup
      obtain ⟨l2, vs2, e2, s2, r2⟩ := h2.tup
      rw [← hK] at s1 s2
      subst e1 e2
      refine .inr (.inr (.inr ⟨l, l2, vs, vs2, rfl, rfl, s1, s2, by rw [← r1.length, ← r2.length]; exact hz, fun z => ?_, fun _ z => ?_, fun _ _ p hp => q.tup hr hp (by rw [List.length_append]; exact hz) (r1.append r2)⟩))
      · subst z
        cases r1
        exact q.same hr t2
      · subst z
        cases r2
        rw [List.append_nil] at q
        exact q.same hr t1
    · exact q.elim
  · exact q.elim
def intD (c : Int → Int → Bool) (g : Int → Int → D) : D → D → Option D
  | .int i, .int j => if c i j = true then some (g i j) else none
  | _, _ => none
theorem o_intI {f : Value → Value → Sem Value} {c : Int → Int → Bool} {P : Int → Int → Prop} {g : Int → Int → Int} (h : OpR X f (rI P fun i j => .int (g i j))) (hc : ∀ i j, c i j = true → P i j) : OpR X f (rD C (intD c fun i j => .int (g i j))) :=
  opD h fun x y H Q ⟨G, η, d, e, hr, h1, h2, q⟩ => by
    unfold intD at q
    split at q
    · split at q
      · rename_i hz; exact ⟨_, _, h1.int, h2.int, hc _ _ hz, q.same hr (.int _)⟩
      · exact q.elim
    · exact q.elim
theorem o_intI0 {f : Value → Value → Sem Value} {g : Int → Int → Int} (h : OpR X f (rI0 fun i j => .int (g i j))) : OpR X f (rD C (intD (fun _ _ => true) fun i j => .int (g i j))) :=
  opD h fun x y H Q ⟨G, η, d, e, hr, h1, h2, q⟩ => by
    unfold intD at q
    split at q
    · exact ⟨_, _, h1.int, h2.int, Gives.same (r := .int (g _ _)) q hr (.int _)⟩
    · exact q.elim
theorem o_intB0 {f : Value → Value → Sem Value} {g : Int → Int → Bool} (h : OpR X f (rI0 fun i j => .bl (g i j))) : OpR X f (rD C (intD (fun _ _ => true) fun i j => .bl (g i j))) :=
  opD h fun x y H Q ⟨G, η, d, e, hr, h1, h2, q⟩ => by
    unfold intD at q
    split at q
    · exact ⟨_, _, h1.int, h2.int, Gives.same (r := .bl (g _ _)) q hr (.bl _)⟩
    · exact q.elim
def cmulB (i j : Int) : Bool := (decide (-(2 ^ 64) < i) && decide (i < 2 ^ 64)) || (decide (-(2 ^ 64) < j) && decide (j < 2 ^ 64))
def cdivB (_ j : Int) : Bool := decide (0 < j) && decide (j < 1073741824)
def cpowB (i j : Int) : Bool := decide (0 ≤ j) && decide (j ≤ 1000000) && decide (i.natAbs < 2 ^ 64)
def subD := intD (fun _ _ => true) fun i j => .int (i - j)
def mulD := intD cmulB fun i j => .int (i * j)
def modD := intD (fun _ j => decide (0 < j)) fun i j => .int (i % j)
def fdivD := intD cdivB fun i j => .int (i / j)
def powD := intD cpowB fun i j => .int (i ^ j.toNat)
theorem o_sub : OpR X (binaryOp .Sub) (rD C subD) := o_intI0 op_sub
theorem o_mul : OpR X (binaryOp .Mult) (rD C mulD) := o_intI op_mul fun i j h => by simpa [cmulB, CMul] using h
theorem o_mod : OpR X (binaryOp .Mod) (rD C modD) := o_intI op_mod fun i j h => by simpa using h
theorem o_fdiv : OpR X (binaryOp .FloorDiv) (rD C fdivD) := o_intI op_fdiv fun i j h => by simpa [cdivB, CDiv] using h
theorem o_pow : OpR X (binaryOp .Pow) (rD C powD) := o_intI op_pow fun i j h => by
  simp only [cpowB, Bool.and_eq_true, decide_eq_true_eq] at h
  exact ⟨h.1.1, h.1.2, h.2⟩
def ltD := intD (fun _ _ => true) fun i j => .bl (decide (i < j))
def leD := intD (fun _ _ => true) fun i j => .bl (decide (i ≤ j))
def gtD := intD (fun _ _ => true) fun i j => .bl (decide (j < i))
def geD := intD (fun _ _ => true) fun i j => .bl (decide (j ≤ i))
theorem o_lt : OpR X (compareOp .Lt) (rD C ltD) := o_intB0 op_lt
theorem o_le : OpR X (compareOp .LtE) (rD C leD) := o_intB0 op_le
theorem o_gt : OpR X (compareOp .Gt) (rD C gtD) := o_intB0 op_gt
theorem o_ge : OpR X (compareOp .GtE) (rD C geD) := o_intB0 op_ge

/-- == of scalars -/
def eqS : D → D → Option Bool
  | .non, .non => some true
  | .non, .int _ => some false
  | .int _, .non => some false
  | .non, .bl _ => some false
  | .bl _, .non => some false
  | .non, .str _ => some false
  | .str _, .non => some false
  | .int i, .int j => some (decide (i = j))
  | .bl i, .bl j => some (decide (i = j))
  | .str i, .str j => some (decide (i = j))
  | .int _, .str _ => some false
  | .str _, .int _ => some false
  | .bl _, .str _ => some false
  | .str _, .bl _ => some false
  | _, _ => none
theorem eqS_r {G : Gh} {H : Hp} {d e : D} {x y : V} {b : Bool} (h1 : Rpu C G H d x) (h2 : Rpu C G H e y) (h : eqS d e = some b) : scal x y = true ∧ b = decide (x = y) := by
  unfold eqS at h
  split at h <;> first
    | (cases h; rw [h1.non, h2.non]; exact ⟨rfl, by simp⟩)
    | (cases h; rw [h1.non, h2.int]; exact ⟨rfl, by simp⟩)
    | (cases h; rw [h1.int, h2.non]; exact ⟨rfl, by simp⟩)
    | (cases h; rw [h1.non, h2.bl]; exact ⟨rfl, by simp⟩)
    | (cases h; rw [h1.bl, h2.non]; exact ⟨rfl, by simp⟩)
    | (cases h; rw [h1.non, h2.str]; exact ⟨rfl, by simp⟩)
    | (cases h; rw [h1.str, h2.non]; exact ⟨rfl, by simp⟩)
    | (cases h; rw [h1.int, h2.int]; exact ⟨rfl, by simp⟩)
    | (cases h; rw [h1.bl, h2.bl]; exact ⟨rfl, by simp⟩)
    | (cases h; rw [h1.str, h2.str]; exact ⟨rfl, by simp⟩)
    | (cases h; rw [h1.int, h2.str]; exact ⟨rfl, by simp⟩)
    | (cases h; rw [h1.str, h2.int]; exact ⟨rfl, by simp⟩)
    | (cases h; rw [h1.bl, h2.str]; exact ⟨rfl, by simp⟩)
    | (cases h; rw [h1.str, h2.bl]; exact ⟨rfl, by simp⟩)
    | cases h
def eqSD (d e : D) : Option D := (eqS d e).map .bl
def neSD (d e : D) : Option D := (eqS d e).map fun b => .bl (!b)
theorem o_eqS : OpR X (compareOp .Eq) (rD C eqSD) := opD op_eq fun x y H Q ⟨G, η, d, e, hr, h1, h2, q⟩ => by
  unfold eqSD at q
  cases hb : eqS d e with
  | none => rw [hb] at q; exact q.elim
  | some b =>
    rw [hb] at q
    obtain ⟨s, k⟩ := eqS_r h1 h2 hb
    exact ⟨s, by rw [← k]; exact q.same hr (.bl b)⟩
theorem o_neS : OpR X (compareOp .NotEq) (rD C neSD) := opD op_ne fun x y H Q ⟨G, η, d, e, hr, h1, h2, q⟩ => by
  unfold neSD at q
  cases hb : eqS d e with
  | none => rw [hb] at q; exact q.elim
  | some b =>
    rw [hb] at q
    obtain ⟨s, k⟩ := eqS_r h1 h2 hb
    exact ⟨s, by rw [← k]; exact q.same hr (.bl (!b))⟩
/-- is None -/
def D.isNon : D → Bool
  | .non => true
  | _ => false
def isN (d e : D) : Option D := if e.isNon = true then some (.bl d.isNon) else none
def notN (d e : D) : Option D := if e.isNon = true then some (.bl (!d.isNon)) else none
theorem isNon_eq {e : D} (h : e.isNon = true) : e = .non := by cases e <;> first | rfl | cases h
theorem Rpu.none_iff {G : Gh} {H : Hp} {d : D} {x : V} (h : Rpu C G H d x) : decide (x = .non) = d.isNon := by
  rcases h with h | ⟨a, vs, l, rfl, rfl, _⟩
  · cases h <;> simp [D.isNon]
  · simp [D.isNon]
theorem o_isN : OpR X (compareOp .Is) (rD C isN) := opD op_isN fun x y H Q ⟨G, η, d, e, hr, h1, h2, q⟩ => by
  have k := h1.none_iff
  unfold isN at q
  split at q
  · rename_i hn
    rw [isNon_eq hn] at h2
    exact ⟨h2.non, by rw [k]; exact q.same hr (.bl _)⟩
  · exact q.elim
theorem o_notN : OpR X (compareOp .IsNot) (rD C notN) := opD op_notN fun x y H Q ⟨G, η, d, e, hr, h1, h2, q⟩ => by
  have k := h1.none_iff
  unfold notN at q
  split at q
  · rename_i hn
    rw [isNon_eq hn] at h2
    exact ⟨h2.non, by rw [k]; exact q.same hr (.bl _)⟩
  · exact q.elim
/-- a text in a text -/
def inStr : D → D → Option D
  | .str i, .str j => some (.bl (!(Builtin.Str.occurrences j i 0 j.length 1).isEmpty))
  | _, _ => none
theorem o_inStr : OpR X (compareOp .In) (rD C inStr) := opD op_in_str fun x y H Q ⟨G, η, d, e, hr, h1, h2, q⟩ => by
  unfold inStr at q
  split at q
  · exact ⟨_, _, h1.str, h2.str, q.same hr (.bl _)⟩
  · exact q.elim
def notInStr : D → D → Option D
  | .str i, .str j => some (.bl (!(!(Builtin.Str.occurrences j i 0 j.length 1).isEmpty)))
  | _, _ => none
theorem o_notInStr : OpR X (compareOp .NotIn) (rD C notInStr) := opD op_notin_str fun x y H Q ⟨G, η, d, e, hr, h1, h2, q⟩ => by
  unfold notInStr at q
  split at q
  · exact ⟨_, _, h1.str, h2.str, q.same hr (.bl _)⟩
  · exact q.elim

/-! ### subscripts, slices -/
def ixD : D → D → Option D
  | .lst l, .int i => atI l i
  | .tup l, .int i => atI l i
  | .str z, .int i => if z.length ≤ sizeLine then (atI z.cps.toList i).map fun c => .str ⟨#[c]⟩ else none
  | _, _ => none
theorem Rps.atI {G : Gh} {H : Hp} {l : List D} {vs : List V} {i : Int} {d : D} (r : Rps C G H l vs) (h : L2.atI l i = some d) : ∃ v, L2.atI vs i = some v ∧ Rp C G H d v := by
  unfold L2.atI at h ⊢
  rw [← r.length]
  cases hx : ixN l.length i with
  | none => rw [hx] at h; cases h
  | some j =>
    rw [hx] at h
    exact r.get h
theorem atI_mem {α : Type} {l : List α} {i : Int} {c : α} (h : L2.atI l i = some c) : c ∈ l := by
  unfold L2.atI at h
  cases hx : ixN l.length i with
  | none => rw [hx] at h; cases h
  | some j => rw [hx] at h; exact List.mem_of_getElem? h
theorem x_ix (hK : X.K = C.K) : IxR X (rD C ixD) := fun value slice pins s σ H x y v u Q I rx ry ⟨G, η, d, e, hr, h1, h2, q⟩ hsb => by
  refine ix_seq value slice pins s σ H x y v u Q I rx ry ?_ hsb
  unfold ixD at q
  split at q
  · rename_i l i
    obtain ⟨a, vs, ex, hs, hrs⟩ := h1.lst
    rw [← hK] at hs
    cases hd : atI l i with
    | none => rw [hd] at q; exact q.elim
    | some d =>
      rw [hd] at q
      obtain ⟨w, k1, k2⟩ := hrs.atI hd
      exact .inl ⟨a, vs, i, w, ex, h2.int, hs, k1, q.same hr k2⟩
  · rename_i l i
    obtain ⟨a, vs, ex, hs, hrs⟩ := h1.tup
    rw [← hK] at hs
    cases hd : atI l i with
    | none => rw [hd] at q; exact q.elim
    | some d =>
      rw [hd] at q
      obtain ⟨w, k1, k2⟩ := hrs.atI hd
      exact .inr (.inl ⟨a, vs, i, w, ex, h2.int, hs, k1, q.same hr k2⟩)
  · rename_i z i
    split at q
    · rename_i hz
      cases hd : atI z.cps.toList i with
      | none => rw [hd] at q; exact q.elim
      | some c =>
        rw [hd] at q
        exact .inr (.inr ⟨z, i, c, h1.str, h2.int, hz, hd, q.same hr (.str _ (ok_one h1.strOk (atI_mem hd)))⟩)
    · exact q.elim
  · exact q.elim
variable {a b c : Expr} {fa fb fc : F D} {pos p2 : Pos}
theorem fe_ix (hK : X.K = C.K) (ha : FB C W X a fa) (hb : FU C W X b fb) (hs : PlainIx b) : FE C W X (.Subscript a b pos) (fOp ixD fa fb) := PE.imp (pe_ix (x_ix hK) ha hb hs) fun _ _ _ q => tOp_of q
/-- an item of a mutable list at index n of the store -/
def fIxO (fa fb : F D) : F D := fun δ η => (fa δ η).bind fun d η => (fb δ η).bind fun e η => match d with
  | .obj n => match η[n]? with
    | some (.lst l) => lift (ixD (.lst l) e) η
    | _ => .bad
  | _ => .bad
theorem fe_ixO (hK : X.K = C.K) (ha : FE C W X a fa) (hb : FE C W X b fb) (hs : PlainIx b) : FE C W X (.Subscript a b pos) (fIxO fa fb) := by
  refine PE.imp (pe_ix (x_ix hK) ha hb hs) fun σ H Q ⟨G, δ, η, at0, fin⟩ => ?_
  refine tG.bind (Rel2 := Rp C) at0 fin fun d v G1 H1 η1 a1 x1 r1 fin1 => ?_
  refine tG.bind (Rel2 := Rp C) a1 fin1 fun e w G2 H2 η2 a2 x2 r2 fin2 => ?_
  split at fin2
  · rename_i n
    split at fin2
    · rename_i l hl
      cases (r1.stab (x2.stab a1.he)) with
      | obj ho =>
        obtain ⟨m, q⟩ := a2.he.ob n _ _ hl ho
        cases q with
        | lst h3 z h4 => exact ⟨G2, η2, .lst l, e, a2.he, .inr ⟨_, _, l, rfl, rfl, h3, h4, z⟩, .inl r2, fin2.gives a2.he⟩
    · exact fin2.elim
  · exact fin2.elim
def cutD (l : List D) (lo hi : Option Int) : List D := (l.drop (HT.sIx l.length 0 lo)).take (HT.sIx l.length l.length hi - HT.sIx l.length 0 lo)
def slD : D → Option Int → Option Int → Option D
  | .lst l, lo, hi => some (.lst (cutD l lo hi))
  | .str z, lo, hi => if z.length ≤ sizeLine then some (.str (cutS z lo hi)) else none
  | .tup l, lo, hi => some (.tup (cutD l lo hi))
  | _, _, _ => none
def rSlD (C : Ct) : V → Option Int → Option Int → Hp → VK → Prop := fun x lo hi H Q => ∃ G η d, Rh C G H η ∧ Rpu C G H d x ∧ Gives C G H η (slD d lo hi) Q
theorem s_sl (hK : X.K = C.K) : SlR X (rSlD C) := by
  have h := ((sl_list (X := X)).or sl_str).or sl_tupA
  intro pins s σ H x v vl vu lo hi sl Q I rx hs pl pu ⟨G, η, d, hr, h1, q⟩
  refine h pins s σ H x v vl vu lo hi sl Q I rx hs pl pu ?_
  unfold slD at q
  split at q
  · rename_i l lo hi
    obtain ⟨a, vs, ex, hq, hrs⟩ := h1.lst
    rw [← hK] at hq
    have hz := h1.lstZ
    refine .inl (.inl ⟨a, vs, ex, hq, fun p hp => ?_⟩)
    refine q.lst hr hp (by unfold cutD; rw [List.length_take, List.length_drop]; omega) ?_
    unfold cutD cutV
    rw [← hrs.length]
    exact (hrs.drop _).take _
  · split at q
    · rename_i hz; exact .inl (.inr ⟨_, h1.str, hz, q.same hr (.str _ (ok_cut h1.strOk))⟩)
    · exact q.elim
  · rename_i l
    have t1 := h1.tupRp
    obtain ⟨a, vs, ex, hq, hrs⟩ := h1.tup
    subst ex
    rw [← hK] at hq
    have hz := h1.tupZ
    refine .inr ⟨a, vs, rfl, hq, fun hw => ?_, fun _ p hp => ?_⟩
    · have e : cutD l lo hi = l := by
        unfold cutD
        rw [hrs.length, hw.1, hw.2, List.drop_zero, Nat.sub_zero, List.take_of_length_le (by rw [hrs.length]; exact Nat.le_refl _)]
      rw [e] at q
      exact q.same hr t1
    · refine q.tup hr hp (by unfold cutD; rw [List.length_take, List.length_drop]; omega) ?_
      unfold cutD cutV
      rw [← hrs.length]
      exact (hrs.drop _).take _
  · exact q.elim
/-- a part of a slice -/
abbrev FO (C : Ct) (W : Value → Option Addr → St → Hp → Prop) (X : Cx) (e : Option Expr) (f : F (Option Int)) : Prop := PO X e (tG C (fun _ _ a b => a = b) W f)
theorem PO.imp {X : Cx} {e : Option Expr} {t t' : TO} (h : PO X e t) (i : ∀ σ H Q, t' σ H Q → t σ H Q) : PO X e t' := ⟨fun pins s σ H Q I q => h.run pins s σ H Q I (i _ _ _ q)⟩
def fNoP : F (Option Int) := fun _ η => .ok none η
def fPt (f : F D) : F (Option Int) := fun δ η => (f δ η).bind fun d η => match d with
  | .int i => .ok (some i) η
  | _ => .bad
theorem fo_none : FO C W X none fNoP := PO.imp po_none fun σ H Q ⟨G, δ, η, a, fin⟩ => fin none G H Nx.refl a.he rfl
theorem fo_some (h : FE C W X a fa) : FO C W X (some a) (fPt fa) := PO.imp (po_some h) fun σ H Q ⟨G, δ, η, at0, fin⟩ => by
  refine tG.bind (Rel2 := fun _ _ a b => a = b) at0 fin fun d v G1 H1 η1 a1 x1 r1 fin1 => ?_
  cases r1 with
  | int i => exact ⟨i, rfl, fin1 _ G1 H1 Nx.refl a1.he rfl⟩
  | _ => exact fin1.elim
def fSl (fa : F D) (fl fh : F (Option Int)) : F D := fun δ η => (fa δ η).bind fun d η => (fl δ η).bind fun lo η => (fh δ η).bind fun hi η => lift (slD d lo hi) η
variable {lo hi : Option Expr} {fl fh : F (Option Int)}
theorem fe_sl (hK : X.K = C.K) (ha : FB C W X a fa) (hl : FO C W X lo fl) (hh : FO C W X hi fh) : FE C W X (.Subscript a (.Slice lo hi none p2) pos) (fSl fa fl fh) := by
  refine PE.imp (pe_slice (s_sl hK) ha hl hh) fun σ H Q ⟨G, δ, η, at0, fin⟩ => ?_
  refine tG.bind (Rel2 := Rp C) at0 fin fun d v G1 H1 η1 a1 x1 r1 fin1 => ?_
  refine tG.bind (Rel2 := Rp C) a1 fin1 fun i j G2 H2 η2 a2 x2 r2 fin2 => ?_
  refine tG.bind (Rel2 := Rp C) a2 fin2 fun i' j' G3 H3 η3 a3 x3 r3 fin3 => ?_
  have r2 : i = j := r2
  have r3 : i' = j' := r3
  subst r2 r3
  exact ⟨G3, η3, d, a3.he, ((r1.next x2 a1.he).next x3 a2.he).u, fin3.gives a3.he⟩

/-! ### built-ins by name -/
def rC (C : Ct) (g : List D → Option D) : List V → Hp → VK → Prop := fun vs H Q => ∃ G η ds, Rh C G H η ∧ Rps C G H ds vs ∧ Gives C G H η (g ds) Q
/-- one argument, also a list that may change -/
def rC1 (C : Ct) (g : D → Option D) : List V → Hp → VK → Prop := fun vs H Q => ∃ G η d v, vs = [v] ∧ Rh C G H η ∧ Rpu C G H d v ∧ Gives C G H η (g d) Q
def fCall1 (g : D → Option D) (fa : F D) : F D := fun δ η => (fa δ η).bind fun d η => lift (g d) η
def fCallN (g : List D → Option D) (fa : F (List D)) : F D := fun δ η => (fa δ η).bind fun d η => lift (g d) η
def Rpu1 (C : Ct) (G : Gh) (H : Hp) (d : D) (vs : List V) : Prop := ∃ v, vs = [v] ∧ Rpu C G H d v
variable {e : Expr} {fe : F D} {es : List Expr} {fs : F (List D)} {x : Str} {p : Pos} {id : String} {g : D → Option D} {gs : List D → Option D}
abbrev FA1 (C : Ct) (W : Value → Option Addr → St → Hp → Prop) (X : Cx) (es : List Expr) (f : F D) : Prop := PA X es (tG C (Rpu1 C) W f)
theorem fa1 (ha : FU C W X e fe) (hs : starEach [e] X.env = [(false, eval e X.env)] := by rfl) : FA1 C W X [e] fe := by
  refine PA.imp (pa_cons ha pa_nil hs) fun σ H Q ⟨G, δ, η, at0, fin⟩ => ?_
  have e1 : (fe δ η).bind (fun d η => R.ok d η) = fe δ η := by cases fe δ η <;> rfl
  rw [← e1] at fin
  refine tG.bind (Rel2 := Rpu1 C) at0 fin fun d v G1 H1 η1 a1 x1 r1 fin1 => ?_
  exact fin1 _ G1 H1 Nx.refl a1.he ⟨v, rfl, r1⟩
theorem fe_call1 (hc : CallR X (.builtin id) (rC1 C g)) (hm : X.mg x = none) (ha : FA1 C W X [e] fe) (hg : Gl X x := by rfl) (hv : bootBuiltins x = some (.builtin id) := by decide +kernel) (hn : x ≠ "__name__" := by decide) (hdb : (x == ("__debug__" : Str)) = false := by decide)
    (he : starEach [e] X.env = (false, eval e X.env) :: starEach [] X.env := by rfl) (hpl : (backTo pos (starEach [] X.env)).any (·.1) = false := by rfl) : FE C W X (.Call (.Name x p) [e] [] pos) (fCall1 g fe) := by
  refine PE.imp (pe_callB hc hg hm hv ha hn hdb he hpl) fun σ H Q ⟨G, δ, η, at0, fin⟩ => ?_
  refine tG.bind (Rel2 := Rp C) at0 fin fun d v G1 H1 η1 a1 x1 r1 fin1 => ?_
  obtain ⟨w, rfl, r1⟩ := r1
  exact ⟨G1, η1, d, w, rfl, a1.he, r1, fin1.gives a1.he⟩
theorem fe_callT1 (hc : CallR X (.type id) (rC1 C g)) (hm : X.mg x = none) (ha : FA1 C W X [e] fe) (hg : Gl X x := by rfl) (hv : bootBuiltins x = some (.type id) := by decide +kernel) (hn : x ≠ "__name__" := by decide) (hdb : (x == ("__debug__" : Str)) = false := by decide)
    (he : starEach [e] X.env = (false, eval e X.env) :: starEach [] X.env := by rfl) (hpl : (backTo pos (starEach [] X.env)).any (·.1) = false := by rfl) : FE C W X (.Call (.Name x p) [e] [] pos) (fCall1 g fe) := by
  refine PE.imp (pe_callTy hc hg hm hv ha hn hdb he hpl) fun σ H Q ⟨G, δ, η, at0, fin⟩ => ?_
  refine tG.bind (Rel2 := Rp C) at0 fin fun d v G1 H1 η1 a1 x1 r1 fin1 => ?_
  obtain ⟨w, rfl, r1⟩ := r1
  exact ⟨G1, η1, d, w, rfl, a1.he, r1, fin1.gives a1.he⟩
def lenD : D → Option D
  | .lst l => some (.int l.length)
  | .tup l => some (.int l.length)
  | .str z => if z.length ≤ sizeLine then some (.int z.length) else none
  | _ => none
theorem c_len (hK : X.K = C.K) : CallR X (.builtin "len") (rC1 C lenD) := fun pins s σ H xs us Q I r ⟨G, η, d, v, e, hr, h1, q⟩ => by
  refine call_len pins s σ H xs us Q I r ?_
  unfold lenD at q
  split at q
  · rename_i l
    obtain ⟨a, vs, rfl, hq, hrs⟩ := h1.lst
    rw [← hK] at hq
    exact ⟨_, vs.length, e, .inl ⟨vs, hq, rfl⟩, by rw [← hrs.length]; exact q.same hr (.int _)⟩
  · rename_i l
    obtain ⟨a, vs, rfl, hq, hrs⟩ := h1.tup
    rw [← hK] at hq
    exact ⟨_, vs.length, e, .inr ⟨vs, hq, rfl⟩, by rw [← hrs.length]; exact q.same hr (.int _)⟩
  · split at q
    · rename_i z hz
      refine ⟨v, z.length, e, ?_, q.same hr (.int _)⟩
      rw [h1.str]
      exact ⟨hz, rfl⟩
    · exact q.elim
  · exact q.elim
def intC : D → Option D
  | .int i => some (.int i)
  | .bl k => some (.int (if k then 1 else 0))
  | _ => none
theorem c_int : CallR X (.type "int") (rC1 C intC) := fun pins s σ H xs us Q I r ⟨G, η, d, v, e, hr, h1, q⟩ => by
  refine call_int1 pins s σ H xs us Q I r ?_
  unfold intC at q
  split at q
  · exact .inl ⟨_, by rw [e, h1.int], q.same hr (.int _)⟩
  · exact .inr ⟨_, by rw [e, h1.bl], q.same hr (.int _)⟩
  · exact q.elim
def listC : D → Option D
  | .lst l => some (.lst l)
  | .tup l => some (.lst l)
  | _ => none
theorem c_list (hK : X.K = C.K) : CallR X (.type "list") (rC1 C listC) := fun pins s σ H xs us Q I r ⟨G, η, d, v, e, hr, h1, q⟩ => by
  refine call_list_of pins s σ H xs us Q I r ?_
  unfold listC at q
  split at q
  · have hz := h1.lstZ
    obtain ⟨a, vs, rfl, hq, hrs⟩ := h1.lst
    rw [← hK] at hq
    exact ⟨a, vs, e, .inl hq, fun l hl => q.lst hr hl hz hrs⟩
  · have hz := h1.tupZ
    obtain ⟨a, vs, rfl, hq, hrs⟩ := h1.tup
    rw [← hK] at hq
    exact ⟨a, vs, e, .inr hq, fun l hl => q.lst hr hl hz hrs⟩
  · exact q.elim
def tupC : D → Option D
  | .lst l => some (.tup l)
  | .tup l => some (.tup l)
  | _ => none
theorem c_tup (hK : X.K = C.K) : CallR X (.type "tuple") (rC1 C tupC) := fun pins s σ H xs us Q I r ⟨G, η, d, v, e, hr, h1, q⟩ => by
  refine call_tuple_of pins s σ H xs us Q I r ?_
  unfold tupC at q
  split at q
  · have hz := h1.lstZ
    obtain ⟨a, vs, rfl, hq, hrs⟩ := h1.lst
    rw [← hK] at hq
    exact ⟨a, vs, e, .inl ⟨hq, fun l hl => q.tup hr hl hz hrs⟩⟩
  · rename_i l
    have h1' := h1
    obtain ⟨a, vs, rfl, hq, hrs⟩ := h1.tup
    rw [← hK] at hq
    rcases h1' with h | ⟨_, _, _, z, _⟩
    · exact ⟨a, vs, e, .inr ⟨hq, q.same hr h⟩⟩
    · cases z
  · exact q.elim
/-- the items as Bools -/
def blsOf : List D → Option (List Bool)
  | [] => some []
  | .bl b :: r => (blsOf r).map (b :: ·)
  | _ => none
theorem blsOf_r {G : Gh} {H : Hp} : ∀ {l : List D} {vs : List V} {bs : List Bool}, Rps C G H l vs → blsOf l = some bs → vs = bs.map V.bl
  | [], _, _, .nil, h => by cases h; rfl
  | d :: l, _, bs, .cons r q, h => by
    cases r with
    | bl b =>
      have h : (blsOf l).map (b :: ·) = some bs := h
      cases hl : blsOf l with
      | none => rw [hl] at h; cases h
      | some cs =>
        rw [hl] at h
        cases h
        rw [blsOf_r q hl]
        rfl
    | _ => cases h
def allC : D → Option D
  | .lst l => (blsOf l).map fun bs => .bl (bs.all fun b => b)
  | _ => none
def anyC : D → Option D
  | .lst l => (blsOf l).map fun bs => .bl (bs.any fun b => b)
  | _ => none
theorem c_all (hK : X.K = C.K) (hc : X.calm = true) : CallR X (.builtin "all") (rC1 C allC) := fun pins s σ H xs us Q I r ⟨G, η, d, v, e, hr, h1, q⟩ => by
  refine cr_all hc pins s σ H xs us Q I r ?_
  unfold allC at q
  split at q
  · obtain ⟨a, vs, rfl, hq, hrs⟩ := h1.lst
    rw [← hK] at hq
    rename_i l
    cases hb : blsOf l with
    | none => rw [hb] at q; exact q.elim
    | some bs =>
      rw [hb] at q
      rw [blsOf_r hrs hb] at hq
      exact ⟨a, bs, e, hq, q.same hr (.bl _)⟩
  · exact q.elim
theorem c_any (hK : X.K = C.K) (hc : X.calm = true) : CallR X (.builtin "any") (rC1 C anyC) := fun pins s σ H xs us Q I r ⟨G, η, d, v, e, hr, h1, q⟩ => by
  refine cr_any hc pins s σ H xs us Q I r ?_
  unfold anyC at q
  split at q
  · obtain ⟨a, vs, rfl, hq, hrs⟩ := h1.lst
    rw [← hK] at hq
    rename_i l
    cases hb : blsOf l with
    | none => rw [hb] at q; exact q.elim
    | some bs =>
      rw [hb] at q
      rw [blsOf_r hrs hb] at hq
      exact ⟨a, bs, e, hq, q.same hr (.bl _)⟩
  · exact q.elim
/-- texts joined -/
def strsOf : List D → Option (List Str)
  | [] => some []
  | .str b :: r => (strsOf r).map (b :: ·)
  | _ => none
theorem strsOf_r {G : Gh} {H : Hp} : ∀ {l : List D} {vs : List V} {bs : List Str}, Rps C G H l vs → strsOf l = some bs → vs = bs.map V.str
  | [], _, _, .nil, h => by cases h; rfl
  | d :: l, _, bs, .cons r q, h => by
    cases r with
    | str b _ =>
      have h : (strsOf l).map (b :: ·) = some bs := h
      cases hl : strsOf l with
      | none => rw [hl] at h; cases h
      | some cs =>
        rw [hl] at h
        cases h
        rw [strsOf_r q hl]
        rfl
    | _ => cases h
theorem strsOf_ok {G : Gh} {H : Hp} : ∀ {l : List D} {vs : List V} {bs : List Str}, Rps C G H l vs → strsOf l = some bs → ∀ z ∈ bs, PySem.PyData.strOk z = true
  | [], _, _, .nil, h => by cases h; simp
  | d :: l, _, bs, .cons r q, h => by
    cases r with
    | str b hb =>
      have h : (strsOf l).map (b :: ·) = some bs := h
      cases hl : strsOf l with
      | none => rw [hl] at h; cases h
      | some cs =>
        rw [hl] at h
        cases h
        intro z hz
        rcases List.mem_cons.mp hz with e | hz
        · rw [e]; exact hb
        · exact strsOf_ok q hl z hz
    | _ => cases h
theorem ok_join {a : Str} (ha : PySem.PyData.strOk a = true) {ys : List Str} (h : ∀ z ∈ ys, PySem.PyData.strOk z = true) : PySem.PyData.strOk (Txt.join a ys) = true := by
  rw [TL.join_eq]
  induction ys with
  | nil => exact (show PySem.PyData.strOk Str.empty = true by decide +kernel)
  | cons x r ih =>
    cases r with
    | nil => exact h x (by simp)
    | cons z r =>
      show PySem.PyData.strOk (x ++ a ++ Str.join a (z :: r)) = true
      exact ok_app (ok_app (h x (by simp)) ha) (ih fun w hw => h w (List.mem_cons_of_mem _ hw))
def joinS (a : Str) : D → Option D
  | .lst l => match strsOf l with
    | some ys => if (ys.map (·.length)).sum + ys.length * a.length ≤ 16777216 then some (.str (Txt.join a ys)) else none
    | none => none
  | .tup l => match strsOf l with
    | some ys => if (ys.map (·.length)).sum + ys.length * a.length ≤ 16777216 then some (.str (Txt.join a ys)) else none
    | none => none
  | _ => none
def fStrM (g : Str → D → Option D) (fa fb : F D) : F D := fun δ η => (fa δ η).bind fun d η => match d with
  | .str z => (fb δ η).bind fun e η => lift (g z e) η
  | _ => .bad
theorem fe_join {apos : Pos} (hK : X.K = C.K) (ha : FE C W X a fa) (hb : FU C W X b fb) (hs : starEach [b] X.env = [(false, eval b X.env)] := by rfl) (hbase : attributeBase a "join" X.env (eval a X.env) = eval a X.env := by rfl) (hline : (apos.endLine == pos.line) = true := by rfl) :
    FE C W X (.Call (.Attribute a "join" apos) [b] [] pos) (fStrM joinS fa fb) := by
  refine PE.imp (pe_join ha hb hs hbase hline) fun σ H Q ⟨G, δ, η, at0, fin⟩ => ?_
  refine tG.bind (Rel2 := Rp C) at0 fin fun d v G1 H1 η1 a1 x1 r1 fin1 => ?_
  split at fin1
  · rename_i z
    cases r1 with
    | str z okz =>
    refine ⟨⟨z, rfl⟩, ?_⟩
    refine tG.bind (Rel2 := Rp C) a1 fin1 fun e w G2 H2 η2 a2 x2 r2 fin2 => ?_
    have q := fin2.gives a2.he
    unfold joinS at q
    split at q
    · obtain ⟨p, vs, rfl, hq, hrs⟩ := r2.lst
      rw [← hK] at hq
      split at q
      · rename_i ys hy
        split at q
        · rename_i hz
          rw [strsOf_r hrs hy] at hq
          exact ⟨_, p, ys, rfl, rfl, .inl hq, hz, q.same a2.he (.str _ (ok_join okz (strsOf_ok hrs hy)))⟩
        · exact q.elim
      · exact q.elim
    · obtain ⟨p, vs, rfl, hq, hrs⟩ := r2.tup
      rw [← hK] at hq
      split at q
      · rename_i ys hy
        split at q
        · rename_i hz
          rw [strsOf_r hrs hy] at hq
          exact ⟨_, p, ys, rfl, rfl, .inr hq, hz, q.same a2.he (.str _ (ok_join okz (strsOf_ok hrs hy)))⟩
        · exact q.elim
      · exact q.elim
    · exact q.elim
  · exact fin1.elim
end
end DL
namespace DL
open PySem L2
abbrev WX := Value → Option Addr → St → Hp → Prop

/-! ### what a statement does -/
inductive SR where
  | nx (δ : En) (η : List O)
  | rt (d : D) (η : List O)
  | bk (δ : En) (η : List O)
  | ct (δ : En) (η : List O)
  | exc (c : Nat) (ns : List Str) (l : List D) (δ : En) (η : List O)
  | bad
abbrev S := En → List O → SR
def SR.seq (r : SR) (k : S) : SR := match r with
  | .nx δ η => k δ η
  | r => r
def R.toS {α : Type} (r : R α) (δ : En) (k : α → List O → SR) : SR := match r with
  | .ok a η => k a η
  | .exc c ns l η => .exc c ns l δ η
  | .bad => .bad
@[simp] theorem toS_ok {α : Type} {a : α} {δ : En} {η : List O} {k : α → List O → SR} : (R.ok a η).toS δ k = k a η := rfl
@[simp] theorem toS_exc {α : Type} {c : Nat} {ns : List Str} {l : List D} {δ : En} {η : List O} {k : α → List O → SR} : (R.exc c ns l η : R α).toS δ k = .exc c ns l δ η := rfl
@[simp] theorem toS_bad {α : Type} {δ : En} {k : α → List O → SR} : (R.bad : R α).toS δ k = .bad := rfl
@[simp] theorem seq_nx {δ : En} {η : List O} {k : S} : (SR.nx δ η).seq k = k δ η := rfl
@[simp] theorem seq_rt {d : D} {η : List O} {k : S} : (SR.rt d η).seq k = .rt d η := rfl
@[simp] theorem seq_bk {δ : En} {η : List O} {k : S} : (SR.bk δ η).seq k = .bk δ η := rfl
@[simp] theorem seq_ct {δ : En} {η : List O} {k : S} : (SR.ct δ η).seq k = .ct δ η := rfl
@[simp] theorem seq_exc {c : Nat} {ns : List Str} {l : List D} {δ : En} {η : List O} {k : S} : (SR.exc c ns l δ η).seq k = .exc c ns l δ η := rfl
@[simp] theorem seq_bad {k : S} : SR.bad.seq k = .bad := rfl

def Own (Hb : Hp) (δ : En) (σ : St) : Prop := ∀ (i : Nat) (l : L) (a : Addr), δ[i]? = some (some l) → l.owns = true → σ[i]? = some (some (V.ref a)) → Hb a = none
/-- the base: the def's entry; the stable base: a loop's start -/
structure Bs where
  G : Gh
  H : Hp
  Gs : Gh
  Hs : Hp
structure Hold (C : Ct) (B : Bs) (G : Gh) (H : Hp) (δ : En) (σ : St) (η : List O) : Prop where
  a : At C G H δ σ η
  o : Own B.H δ σ
  n : Nx B.G B.H G H
  s : Stab B.Gs B.Hs G H
def FinS (C : Ct) (W : WX) (B : Bs) (r : SR) (Dn : Ends) : Prop := match r with
  | .nx δ η => ∀ G H σ, Hold C B G H δ σ η → Dn.nx σ H
  | .bk δ η => ∀ G H σ, Hold C B G H δ σ η → Dn.bk σ H
  | .ct δ η => ∀ G H σ, Hold C B G H δ σ η → Dn.ct σ H
  | .rt d η => ∀ v G H, Nx B.G B.H G H → Rh C G H η → Rp C G H d v → Dn.rt v H
  | .exc c ns l δ η => ∀ x vs G H σ, Hold C B G H δ σ η → Xd G H x (ns.zip vs) → Rps C G H l vs → W (.ref (C.cl c)) (some x) σ H
  | .bad => False
def tS (C : Ct) (W : WX) (f : S) : TS := fun Dn σ H => ∃ B G δ η, Hold C B G H δ σ η ∧ FinS C W B (f δ η) Dn
abbrev FS (C : Ct) (W : WX) (X : Cx) (st : Stmt) (f : S) : Prop := PS X st (tS C W f)
abbrev FSs (C : Ct) (W : WX) (X : Cx) (st : List Stmt) (f : S) : Prop := PSs X st (tS C W f)

section
variable {C : Ct} {W : WX} {B : Bs} {G G' G1 : Gh} {H H' H1 : Hp} {δ : En} {σ : St} {η η' : List O}
theorem Stab.refl : Stab G H G H := ⟨fun _ _ h => h, fun _ _ h m => ⟨h, m⟩⟩
theorem Stab.trans (x : Stab G H G' H') (y : Stab G' H' G1 H1) : Stab G H G1 H1 := ⟨fun n a h => y.ads n a (x.ads n a h), fun a o h m => y.keep a o (x.keep a o h m).1 (x.keep a o h m).2⟩
theorem Hold.next (h : Hold C B G H δ σ η) (x : Nx G H G' H') (r : Rh C G' H' η') : Hold C B G' H' δ σ η' := ⟨h.a.next x r, h.o, h.n.trans x, h.s.trans (x.stab h.a.he)⟩
theorem tG.bindS {α β : Type} {Rel : Gh → Hp → α → β → Prop} {Q : β → Hp → Prop} {f : F α} {k : α → List O → SR} {Dn : Ends} (hd : Hold C B G H δ σ η) (fin : FinS C W B ((f δ η).toS δ k) Dn)
    (h : ∀ x v G1 H1 η1, Hold C B G1 H1 δ σ η1 → Nx G H G1 H1 → Rel G1 H1 x v → FinS C W B (k x η1) Dn → Q v H1) : tG C Rel W f σ H Q := by
  refine ⟨G, δ, η, hd.a, ?_⟩
  cases hf : f δ η with
  | ok d η1 =>
    rw [hf] at fin
    exact fun v G1 H1 x q1 q2 => h d v G1 H1 η1 (hd.next x q1) x q2 fin
  | exc c ns l η1 =>
    rw [hf] at fin
    exact fun b vs G1 H1 x q1 q2 q3 => fin b vs G1 H1 σ (hd.next x q1) q2 q3
  | bad =>
    rw [hf] at fin
    exact fin

/-! ### slots stored -/
theorem getSet {α : Type} {l : List α} {i j : Nat} {x y : α} (h : (l.set i x)[j]? = some y) : (j = i ∧ y = x) ∨ (j ≠ i ∧ l[j]? = some y) := by
  by_cases e : i = j
  · subst e
    left
    rw [List.getElem?_set_self'] at h
    cases q : l[i]? with
    | none => rw [q] at h; cases h
    | some z => rw [q] at h; exact ⟨rfl, (Option.some.inj h).symm⟩
  · right
    rw [List.getElem?_set_ne e] at h
    exact ⟨fun z => e z.symm, h⟩
theorem At.setVal {i : Nat} {d : D} {v : V} (a : At C G H δ σ η) (r : Rp C G H d v) : At C G H (δ.set i (some (.val d))) (σ.set i (some v)) η := by
  refine ⟨by simp [a.len], fun j l h => ?_, fun j k l l' v' hne h1 h2 o1 o2 s1 s2 => ?_, fun j l b h o s => ?_, a.he⟩
  · rcases getSet h with ⟨rfl, z⟩ | ⟨hj, h⟩
    · cases z
      have hlt : j < σ.length := by
        have := (List.getElem?_eq_some_iff.mp ‹_›).1
        rw [List.length_set] at this
        rw [← a.len]; exact this
      exact ⟨v, by rw [List.getElem?_set_self hlt], .val r⟩
    · obtain ⟨w, h1, h2⟩ := a.sl j l h
      exact ⟨w, by rw [List.getElem?_set_ne (Ne.symm hj)]; exact h1, h2⟩
  · rcases getSet h1 with ⟨_, h1⟩ | ⟨e1, h1⟩
    · cases h1; cases o1
    · rcases getSet h2 with ⟨_, h2⟩ | ⟨e2, h2⟩
      · cases h2; cases o2
      · rw [List.getElem?_set_ne (Ne.symm e1)] at s1
        rw [List.getElem?_set_ne (Ne.symm e2)] at s2
        exact a.un j k l l' v' hne h1 h2 o1 o2 s1 s2
  · rcases getSet h with ⟨_, h⟩ | ⟨e, h⟩
    · cases h; cases o
    · rw [List.getElem?_set_ne (Ne.symm e)] at s
      exact a.nad j l b h o s
theorem Own.setVal {Hb : Hp} {i : Nat} {d : D} {v : V} (o : Own Hb δ σ) : Own Hb (δ.set i (some (.val d))) (σ.set i (some v)) := fun j l b h ow s => by
  rcases getSet h with ⟨_, h⟩ | ⟨e, h⟩
  · cases h; cases ow
  · rw [List.getElem?_set_ne (Ne.symm e)] at s
    exact o j l b h ow s
theorem Hold.setVal {i : Nat} {d : D} {v : V} (h : Hold C B G H δ σ η) (r : Rp C G H d v) : Hold C B G H (δ.set i (some (.val d))) (σ.set i (some v)) η := ⟨h.a.setVal r, h.o.setVal, h.n, h.s⟩

/-- a mutable address more -/
def Gh.add (G : Gh) (p : Addr) : Gh := ⟨G.ads, fun a => G.M a ∨ a = p⟩
theorem Stab.add {p : Addr} {o : HO} (hp : H p = none) : Stab G H (G.add p) (upd H p o) := ⟨fun _ _ h => h, fun a u h m => ⟨by rw [upd_ne (ne_of_none h hp)]; exact h, fun z => z.elim m fun e => by subst e; rw [hp] at h; cases h⟩⟩
theorem Nx.add {p : Addr} {o : HO} (hp : H p = none) : Nx G H (G.add p) (upd H p o) := by
  refine ⟨fun _ _ h => h, fun a u h _ => by rw [upd_ne (ne_of_none h hp)]; exact h, fun a u h => ⟨fun z => z.elim (fun z => z) fun e => ?_, .inl⟩, fun _ h => .inl h, fun a h => ?_⟩
  · subst e; rw [hp] at h; cases h
  · by_cases e : a = p
    · subst e; exact hp
    · rw [upd_ne e] at h; exact h
theorem Rh.add {p : Addr} {o : HO} (r : Rh C G H η) (hp : H p = none) : Rh C (G.add p) (upd H p o) η := by
  refine ⟨r.len, r.nd, fun n o' a h1 h2 => ?_, fun a m => ?_⟩
  · obtain ⟨m, q⟩ := r.ob n o' a h1 h2
    refine ⟨.inl m, q.stab (Stab.add hp) fun u hu => ?_⟩
    rw [upd_ne (ne_of_none hu hp)]; exact hu
  · rcases m with m | rfl
    · exact fun z => r.mh a m ((Nx.add (G := G) (o := o) hp).there a z)
    · rw [upd_same]; exact fun z => by cases z
/-- a slot takes a new list as its own -/
theorem Hold.setOwn {i : Nat} {p : Addr} {l : List D} {vs : List V} (h : Hold C B G H δ σ η) (hp : H p = none) (hz : l.length ≤ sizeLine) (r : Rps C G H l vs) :
    Hold C B (G.add p) (upd H p (.lst vs)) (δ.set i (some (.own l))) (σ.set i (some (.ref p))) η := by
  have st : Stab G H (G.add p) (upd H p (.lst vs)) := Stab.add hp
  have a2 : At C (G.add p) (upd H p (.lst vs)) δ σ η := h.a.next (Nx.add hp) (h.a.he.add hp)
  have np : ∀ (j : Nat) (l : L), δ[j]? = some (some l) → l.owns = true → σ[j]? = some (some (V.ref p)) → False := fun j l h1 h2 h3 => by
    obtain ⟨v, e1, e2⟩ := h.a.sl j l h1
    rw [h3] at e1
    cases e1
    cases e2 with
    | val _ => cases h2
    | own m e z r => rw [hp] at e; cases e
    | oins m e n r => rw [hp] at e; cases e
  have npa : p ∉ G.ads := fun hm => h.a.he.mh p (h.a.he.adsM hm) hp
  refine ⟨⟨by simp [h.a.len], fun j l' hl => ?_, fun j k l' l'' v' hne h1 h2 o1 o2 s1 s2 => ?_, fun j l' b hl o s => ?_, a2.he⟩, fun j l' b hl o s => ?_, h.n.trans (Nx.add hp), h.s.trans st⟩
  · rcases getSet hl with ⟨rfl, z⟩ | ⟨hj, hl⟩
    · cases z
      have hlt : j < σ.length := by
        have := (List.getElem?_eq_some_iff.mp ‹_›).1
        rw [List.length_set] at this
        rw [← h.a.len]; exact this
      exact ⟨_, by rw [List.getElem?_set_self hlt], .own (.inr rfl) upd_same hz (r.stab st)⟩
    · obtain ⟨w, h1, h2⟩ := a2.sl j l' hl
      exact ⟨w, by rw [List.getElem?_set_ne (Ne.symm hj)]; exact h1, h2⟩
  · rcases getSet h1 with ⟨q1, y1⟩ | ⟨e1, y1⟩
    · rcases getSet h2 with ⟨q2, y2⟩ | ⟨e2, y2⟩
      · exact hne (q1.trans q2.symm)
      · subst q1
        rcases getSet s1 with ⟨_, w1⟩ | ⟨z, _⟩
        · cases w1
          rw [List.getElem?_set_ne (Ne.symm e2)] at s2
          exact np k l'' y2 o2 s2
        · exact z rfl
    · rw [List.getElem?_set_ne (Ne.symm e1)] at s1
      rcases getSet h2 with ⟨q2, y2⟩ | ⟨e2, y2⟩
      · subst q2
        rcases getSet s2 with ⟨_, w2⟩ | ⟨z, _⟩
        · cases w2
          exact np j l' y1 o1 s1
        · exact z rfl
      · rw [List.getElem?_set_ne (Ne.symm e2)] at s2
        exact h.a.un j k l' l'' v' hne y1 y2 o1 o2 s1 s2
  · rcases getSet hl with ⟨q1, hl⟩ | ⟨e1, hl⟩
    · subst q1
      rcases getSet s with ⟨_, s⟩ | ⟨z, _⟩
      · cases s; exact npa
      · exact absurd rfl z
    · rw [List.getElem?_set_ne (Ne.symm e1)] at s
      exact h.a.nad j l' b hl o s
  · rcases getSet hl with ⟨q1, hl⟩ | ⟨e1, hl⟩
    · subst q1
      rcases getSet s with ⟨_, s⟩ | ⟨z, _⟩
      · cases s; exact h.n.there p hp
      · exact absurd rfl z
    · rw [List.getElem?_set_ne (Ne.symm e1)] at s
      exact h.o j l' b hl o s
/-- a frame's own list is changed -/
theorem Hold.chOwn {i : Nat} {p : Addr} {l l' : List D} {vs vs' : List V} (h : Hold C B G H δ σ η) (hi : δ[i]? = some (some (.own l))) (hs : σ[i]? = some (some (.ref p))) (hm : G.M p) (he : H p = some (.lst vs)) (hz : l'.length ≤ sizeLine) (r : Rps C G H l' vs') :
    Hold C B G (upd H p (.lst vs')) (δ.set i (some (.own l'))) σ η := by
  have st : Stab G H G (upd H p (.lst vs')) := ⟨fun _ _ h => h, fun a o ha m => ⟨by rw [upd_ne (fun e => m (by rw [e]; exact hm))]; exact ha, m⟩⟩
  have npa : p ∉ G.ads := h.a.nad i _ p hi rfl hs
  have keep : ∀ a o, a ≠ p → H a = some o → upd H p (.lst vs') a = some o := fun a o e z => by rw [upd_ne e]; exact z
  have he2 : Rh C G (upd H p (.lst vs')) η := by
    refine ⟨h.a.he.len, h.a.he.nd, fun n o a h1 h2 => ?_, fun a m => ?_⟩
    · obtain ⟨m, q⟩ := h.a.he.ob n o a h1 h2
      exact ⟨m, q.stab st fun u hu => keep a u (fun e => npa (by rw [← e]; exact List.mem_of_getElem? h2)) hu⟩
    · by_cases e : a = p
      · subst e; rw [upd_same]; exact fun z => by cases z
      · rw [upd_ne e]; exact h.a.he.mh a m
  have hii : i < δ.length := (List.getElem?_eq_some_iff.mp hi).1
  have old : ∀ {j : Nat} {k : L}, (δ.set i (some (.own l')))[j]? = some (some k) → k.owns = true → ∃ k', δ[j]? = some (some k') ∧ k'.owns = true := fun {j k} hk ho => by
    rcases getSet hk with ⟨rfl, _⟩ | ⟨_, hk⟩
    · exact ⟨_, hi, rfl⟩
    · exact ⟨_, hk, ho⟩
  refine ⟨⟨by rw [List.length_set]; exact h.a.len, fun j k hk => ?_, fun j k l1 l2 v' hne h1 h2 o1 o2 s1 s2 => ?_, fun j k b hk o s => ?_, he2⟩, fun j k b hk o s => ?_, ?_, h.s.trans st⟩
  · rcases getSet hk with ⟨rfl, z⟩ | ⟨hj, hk⟩
    · cases z
      exact ⟨_, hs, .own hm upd_same hz (r.stab st)⟩
    · obtain ⟨w, h1, h2⟩ := h.a.sl j k hk
      refine ⟨w, h1, ?_⟩
      cases h2 with
      | val r => exact .val (r.stab st)
      | own m e zz r =>
        have q : _ ≠ p := fun z => h.a.un j i _ _ _ hj hk hi rfl rfl h1 (by rw [hs, ← z])
        exact .own m (keep _ _ q e) zz (r.stab st)
      | oins m e n r =>
        have q : _ ≠ p := fun z => h.a.un j i _ _ _ hj hk hi rfl rfl h1 (by rw [hs, ← z])
        exact .oins m (keep _ _ q e) n (r.stab st)
  · obtain ⟨k1, q1, p1⟩ := old h1 o1
    obtain ⟨k2, q2, p2⟩ := old h2 o2
    exact h.a.un j k k1 k2 v' hne q1 q2 p1 p2 s1 s2
  · obtain ⟨k1, q1, p1⟩ := old hk o
    exact h.a.nad j k1 b q1 p1 s
  · obtain ⟨k1, q1, p1⟩ := old hk o
    exact h.o j k1 b q1 p1 s
  · have hb : B.H p = none := h.o i _ p hi rfl hs
    refine ⟨h.n.ads, fun a o ha m => ?_, h.n.mu, h.n.new, fun a z => ?_⟩
    · exact keep a o (fun e => by rw [e, hb] at ha; cases ha) (h.n.keep a o ha m)
    · by_cases e : a = p
      · rw [e]; exact hb
      · rw [upd_ne e] at z; exact h.n.there a z
theorem ndIx {α : Type} {N : List α} (hN : N.Nodup) {i j : Nat} {x : α} (a : N[i]? = some x) (b : N[j]? = some x) : i = j := by
  obtain ⟨h1, e1⟩ := List.getElem?_eq_some_iff.mp a
  obtain ⟨h2, e2⟩ := List.getElem?_eq_some_iff.mp b
  exact (List.getElem_inj hN).mp (e1.trans e2.symm)
/-- an object of the store is changed -/
theorem Nx.chObj {n : Nat} {p : Addr} {o : HO} (hn : G.ads[n]? = some p) (hp : H p ≠ none) : Nx G H G (upd H p o) := by
  have hm : p ∈ G.ads := List.mem_of_getElem? hn
  refine ⟨fun _ _ h => h, fun a u h m => ?_, fun _ _ _ => Iff.rfl, fun _ h => .inl h, fun a h => ?_⟩
  · rw [upd_ne (fun e => m (by rw [e]; exact hm))]; exact h
  · by_cases e : a = p
    · subst e; rw [upd_same] at h; cases h
    · rw [upd_ne e] at h; exact h
theorem Rh.chObj {n : Nat} {p : Addr} {o : HO} {o' : O} (r : Rh C G H η) (hn : G.ads[n]? = some p) (q : Ro C G (upd H p o) o' p) : Rh C G (upd H p o) (η.set n o') := by
  have hm : G.M p := r.adsM (List.mem_of_getElem? hn)
  have st : Stab G H G (upd H p o) := ⟨fun _ _ h => h, fun a u ha m => ⟨by rw [upd_ne (fun e => m (by rw [e]; exact hm))]; exact ha, m⟩⟩
  refine ⟨by rw [List.length_set]; exact r.len, r.nd, fun k u a h1 h2 => ?_, fun a m => ?_⟩
  · rcases getSet h1 with ⟨rfl, rfl⟩ | ⟨hk, h1⟩
    · rw [hn] at h2; cases h2; exact ⟨hm, q⟩
    · obtain ⟨m, z⟩ := r.ob k u a h1 h2
      refine ⟨m, z.stab st fun w hw => ?_⟩
      rw [upd_ne]; exact hw
      intro e
      subst e
      exact hk (ndIx r.nd h2 hn)
  · by_cases e : a = p
    · subst e; rw [upd_same]; exact fun z => by cases z
    · rw [upd_ne e]; exact r.mh a m
end

/-! ### statements -/
section
variable {X : Cx} {C : Ct} {W : WX} {pos : Pos} {st : Stmt} {rest : List Stmt} {f g : S} {e : Expr} {fe : F D}
theorem fss_nil : FSs C W X [] .nx := PSs.imp pss_nil fun Dn σ H ⟨B, G, δ, η, h, fin⟩ => fin G H σ h
def sSeq (f g : S) : S := fun δ η => (f δ η).seq g
theorem fss_cons (h1 : FS C W X st f) (h2 : FSs C W X rest g) : FSs C W X (st :: rest) (sSeq f g) := by
  refine PSs.imp (pss_cons h1 h2) fun Dn σ H ⟨B, G, δ, η, h, fin⟩ => ⟨B, G, δ, η, h, ?_⟩
  unfold sSeq at fin
  cases hf : f δ η with
  | nx δ' η' => rw [hf] at fin; exact fun G' H' σ' h' => ⟨B, G', δ', η', h', fin⟩
  | rt d η' => rw [hf] at fin; exact fin
  | bk δ' η' => rw [hf] at fin; exact fin
  | ct δ' η' => rw [hf] at fin; exact fin
  | exc c ns l δ' η' => rw [hf] at fin; exact fin
  | bad => rw [hf] at fin; exact fin
theorem fss_one (h1 : FS C W X st f) : FSs C W X [st] f := pss_one h1
theorem fs_pass : FS C W X (.Pass pos) .nx := PS.imp ps_pass fun Dn σ H ⟨B, G, δ, η, h, fin⟩ => fin G H σ h
theorem fs_break : FS C W X (.Break pos) .bk := PS.imp ps_break fun Dn σ H ⟨B, G, δ, η, h, fin⟩ => fin G H σ h
theorem fs_continue : FS C W X (.Continue pos) .ct := PS.imp ps_continue fun Dn σ H ⟨B, G, δ, η, h, fin⟩ => fin G H σ h
def sRet (f : F D) : S := fun δ η => (f δ η).toS δ fun d η => .rt d η
theorem fs_ret (he : FE C W X e fe) : FS C W X (.Return (some e) pos) (sRet fe) := PS.imp (ps_ret he) fun Dn σ H ⟨B, G, δ, η, h, fin⟩ =>
  tG.bindS h fin fun d v G1 H1 η1 h1 x1 r1 fin1 => fin1 v G1 H1 h1.n h1.a.he r1
def sRetN : S := fun _ η => .rt .non η
theorem fs_retN : FS C W X (.Return none pos) sRetN := PS.imp ps_retN fun Dn σ H ⟨B, G, δ, η, h, fin⟩ => fin _ G H h.n h.a.he .non
/-- a list of the frame's own is handed back: it will not change any more -/
def sRetO (i : Nat) : S := fun δ η => match δ[i]? with
  | some (some (.own l)) => .rt (.lst l) η
  | _ => .bad
def Gh.sub (G : Gh) (p : Addr) : Gh := ⟨G.ads, fun a => G.M a ∧ a ≠ p⟩
theorem Stab.sub {G : Gh} {H : Hp} {p : Addr} : Stab G H (G.sub p) H := ⟨fun _ _ h => h, fun _ _ h m => ⟨h, fun z => m z.1⟩⟩
theorem fs_retO (i : Nat) {x : Str} {p : Pos} (hN : X.N[i]? = some x := by rfl) (hv : Vis X.env.scope x := by first | exact Or.inl rfl | exact Or.inr (Or.inl rfl) | exact Or.inr (Or.inr rfl)) (hd : (x == ("__debug__" : Str)) = false := by decide)
    (hcd : (x == ("__classdict__" : Str)) = false := by decide) : FS C W X (.Return (some (.Name x p)) pos) (sRetO i) := by
  refine PS.imp (ps_ret (pe_var hN hv hd hcd)) fun Dn σ H ⟨B, G, δ, η, h, fin⟩ => ?_
  unfold sRetO at fin
  split at fin
  · rename_i l hl
    obtain ⟨v, h1, h2⟩ := h.a.sl i _ hl
    cases h2 with
    | @own p vs _ m e zz r =>
      have hb := h.o i _ p hl rfl h1
      have npa := h.a.nad i _ p hl rfl h1
      refine ⟨_, h1, fin _ (G.sub p) H ⟨h.n.ads, h.n.keep, fun a o ha => ?_, h.n.new, h.n.there⟩ ?_ ?_⟩
      · refine ⟨fun z => (h.n.mu a o ha).mp z.1, fun z => ⟨(h.n.mu a o ha).mpr z, fun e => ?_⟩⟩
        subst e; rw [hb] at ha; cases ha
      · refine ⟨h.a.he.len, h.a.he.nd, fun n o a z1 z2 => ?_, fun a z => h.a.he.mh a z.1⟩
        obtain ⟨m, q⟩ := h.a.he.ob n o a z1 z2
        exact ⟨⟨m, fun e => npa (by rw [← e]; exact List.mem_of_getElem? z2)⟩, q.stab Stab.sub fun _ z => z⟩
      · exact .lst (.inl ⟨.inl e, fun z => z.2 rfl⟩) zz (r.stab Stab.sub)
  · exact fin.elim
def sIf (c : F Bool) (f g : S) : S := fun δ η => (c δ η).toS δ fun b η => if b = true then f δ η else g δ η
theorem fs_if {c : Expr} {a b : List Stmt} {tc : F Bool} (hc : FT C W X c tc) (ha : FSs C W X a f) (hb : FSs C W X b g) : FS C W X (.If c a b pos) (sIf tc f g) :=
  PS.imp (ps_if hc ha hb) fun Dn σ H ⟨B, G, δ, η, h, fin⟩ => tG.bindS h fin fun d v G1 H1 η1 h1 x1 r1 fin1 => by
    have r1 : d = v := r1
    subst r1
    cases d with
    | true => rw [if_pos rfl] at fin1 ⊢; exact ⟨B, G1, δ, η1, h1, fin1⟩
    | false => rw [if_neg Bool.false_ne_true] at fin1 ⊢; exact ⟨B, G1, δ, η1, h1, fin1⟩
def sDrop (f : F D) : S := fun δ η => (f δ η).toS δ fun _ η => .nx δ η
theorem fs_expr (he : FE C W X e fe) (hs : swapsWith e none pos.line X.env = pure false := by rfl) : FS C W X (.Expr e pos) (sDrop fe) := PS.imp (ps_expr he hs) fun Dn σ H ⟨B, G, δ, η, h, fin⟩ =>
  tG.bindS h fin fun d v G1 H1 η1 h1 x1 r1 fin1 => fin1 G1 H1 σ h1

/-! ### targets -/
inductive Tg where
  | nm (i : Nat) | tp (l : List Tg)
mutual
def gV (K : PySem.W.Frag) : Tg → TG
  | .nm i => gName i
  | .tp l => gTup K l.length (gVs K l)
def gVs (K : PySem.W.Frag) : List Tg → TGs
  | [] => gNil
  | t :: l => gCons (gV K t) (gVs K l)
end
mutual
def asg : Tg → D → En → Option En
  | .nm i, d, δ => some (δ.set i (some (.val d)))
  | .tp ts, .tup l, δ => asgs ts l δ
  | .tp _, _, _ => none
def asgs : List Tg → List D → En → Option En
  | [], [], δ => some δ
  | t :: ts, d :: l, δ => (asg t d δ).bind fun δ' => asgs ts l δ'
  | _, _, _ => none
end
mutual
def Tg.sl : Tg → List Nat
  | .nm i => [i]
  | .tp l => Tg.sls l
def Tg.sls : List Tg → List Nat
  | [] => []
  | t :: l => t.sl ++ Tg.sls l
end
theorem asgs_len : ∀ {ts : List Tg} {l : List D} {δ δ' : En}, asgs ts l δ = some δ' → l.length = ts.length
  | [], [], _, _, _ => rfl
  | [], _ :: _, _, _, h => by simp [asgs] at h
  | _ :: _, [], _, _, h => by simp [asgs] at h
  | t :: ts, d :: l, δ, δ', h => by
    rw [asgs] at h
    cases q : asg t d δ with
    | none => rw [q] at h; cases h
    | some δ1 =>
      rw [q] at h
      rw [List.length_cons, List.length_cons, asgs_len (ts := ts) h]
/-- the slots that a target does not name are as before -/
def Same' (vs : List Nat) (σ σ' : St) : Prop := σ'.length = σ.length ∧ ∀ i, i ∉ vs → σ'[i]? = σ[i]?
theorem Same'.refl {vs : List Nat} {σ : St} : Same' vs σ σ := ⟨rfl, fun _ _ => rfl⟩
theorem Same'.trans {vs : List Nat} {σ σ1 σ2 : St} (a : Same' vs σ σ1) (b : Same' vs σ1 σ2) : Same' vs σ σ2 := ⟨b.1.trans a.1, fun i h => (b.2 i h).trans (a.2 i h)⟩
theorem Same'.mono {vs ws : List Nat} {σ σ' : St} (a : Same' vs σ σ') (h : ∀ i ∈ vs, i ∈ ws) : Same' ws σ σ' := ⟨a.1, fun i z => a.2 i fun q => z (h i q)⟩
mutual
theorem gV_ok (hK : X.K = C.K) : ∀ (t : Tg) (d : D) (v : V) (G : Gh) (H : Hp) (δ δ' : En) (σ : St) (η : List O) (Q : St → Hp → Prop), asg t d δ = some δ' → Rp C G H d v →
    (∀ σ', (∀ B, Hold C B G H δ σ η → Hold C B G H δ' σ' η) → (At C G H δ σ η → At C G H δ' σ' η) → Same' t.sl σ σ' → Q σ' H) → gV X.K t v σ H Q
  | .nm i, d, v, G, H, δ, δ', σ, η, Q, h, r, q => by
    rw [asg] at h
    cases h
    rw [gV]
    exact q _ (fun B h => h.setVal r) (fun h => h.setVal r) ⟨by simp, fun j hj => List.getElem?_set_ne (by simpa [Tg.sl, eq_comm] using hj)⟩
  | .tp ts, d, v, G, H, δ, δ', σ, η, Q, h, r, q => by
    cases d with
    | tup l =>
      rw [asg] at h
      obtain ⟨a, vs, rfl, hs, hr⟩ := (Rp.b r).u.tup
      rw [← hK] at hs
      rw [gV]
      refine ⟨a, vs, rfl, hs, by rw [← hr.length]; exact asgs_len h, ?_⟩
      exact gVs_ok hK ts l vs G H δ δ' σ η Q h hr fun σ' h1 h2 h3 => q σ' h1 h2 (by rw [Tg.sl]; exact h3)
    | _ => simp [asg] at h
theorem gVs_ok (hK : X.K = C.K) : ∀ (ts : List Tg) (l : List D) (vs : List V) (G : Gh) (H : Hp) (δ δ' : En) (σ : St) (η : List O) (Q : St → Hp → Prop), asgs ts l δ = some δ' → Rps C G H l vs →
    (∀ σ', (∀ B, Hold C B G H δ σ η → Hold C B G H δ' σ' η) → (At C G H δ σ η → At C G H δ' σ' η) → Same' (Tg.sls ts) σ σ' → Q σ' H) → gVs X.K ts vs σ H Q
  | [], l, vs, G, H, δ, δ', σ, η, Q, h, r, q => by
    cases l with
    | nil =>
      rw [asgs] at h
      cases h
      cases r
      rw [gVs]
      exact ⟨rfl, q _ (fun _ h => h) (fun h => h) .refl⟩
    | cons _ _ => simp [asgs] at h
  | t :: ts, l, vs, G, H, δ, δ', σ, η, Q, h, r, q => by
    cases l with
    | nil => simp [asgs] at h
    | cons d l =>
      rw [asgs] at h
      cases q1 : asg t d δ with
      | none => rw [q1] at h; cases h
      | some δ1 =>
        rw [q1] at h
        cases r with
        | @cons _ v _ vs r rr =>
          rw [gVs]
          refine ⟨v, vs, rfl, ?_⟩
          refine gV_ok hK t d v G H δ δ1 σ η _ q1 r fun σ1 a1 b1 c1 => ?_
          refine gVs_ok hK ts l vs G H δ1 δ' σ1 η _ h rr fun σ2 a2 b2 c2 => ?_
          refine q σ2 (fun B z => a2 B (a1 B z)) (fun z => b2 (b1 z)) ?_
          rw [Tg.sls]
          exact (c1.mono fun i z => List.mem_append_left _ z).trans (c2.mono fun i z => List.mem_append_right _ z)
end
abbrev FG (X : Cx) (e : Expr) (t : Tg) : Prop := PG X e (gV X.K t)
abbrev FGs (X : Cx) (es : List Expr) (t : List Tg) : Prop := PGs X es (gVs X.K t)
theorem fg_nm {i : Nat} {x : Str} (hN : X.N.Nodup) (hi : X.N[i]? = some x := by rfl) (hx : Loc X.env.scope x := by first | exact Or.inl rfl | exact Or.inr rfl) (hf : X.fn x = true ∨ X.env.scope.names.lookup x = some .local := by first | exact .inl rfl | exact .inr rfl | assumption) : FG X (.Name x pos) (.nm i) := by
  show PG X _ (gV X.K (.nm i))
  rw [gV]
  exact pg_name hN hi hx hf
theorem fgs_nil : FGs X [] [] := by
  show PGs X _ (gVs X.K [])
  rw [gVs]
  exact pgs_nil
theorem fgs_cons {e : Expr} {es : List Expr} {t : Tg} {ts : List Tg} (h1 : FG X e t) (h2 : FGs X es ts) (hs : (assignEach (e :: es) X.env).map (·.2) = assign e X.env :: (assignEach es X.env).map (·.2) := by rfl) : FGs X (e :: es) (t :: ts) := by
  show PGs X _ (gVs X.K (t :: ts))
  rw [gVs]
  exact pgs_cons h1 h2 hs
theorem fg_tp {es : List Expr} {k : Nat} {ts : List Tg} (hc : X.calm = true) (h : FGs X es ts) (hn : (assignEach es X.env).length = ts.length := by rfl) (hst : (assignEach es X.env).findIdx? (·.1) = none := by rfl) : FG X (.Tuple es k pos) (.tp ts) := by
  show PG X _ (gV X.K (.tp ts))
  rw [gV]
  exact pg_tup hc h hn hst
/-- target = e -/
def sAsg (f : F D) (t : Tg) : S := fun δ η => (f δ η).toS δ fun d η => match asg t d δ with
  | some δ' => .nx δ' η
  | none => .bad
theorem fs_asg {t : Tg} (hK : X.K = C.K) (h : PS X st (tAsg (tG C (Rp C) W fe) (gV X.K t))) : FS C W X st (sAsg fe t) :=
  PS.imp h fun Dn σ H ⟨B, G, δ, η, h, fin⟩ => tG.bindS h fin fun d v G1 H1 η1 h1 x1 r1 fin1 => by
    cases q : asg t d δ with
    | none => rw [q] at fin1; exact fin1.elim
    | some δ' =>
      rw [q] at fin1
      exact gV_ok hK t d v G1 H1 δ δ' σ η1 Dn.nx q r1 fun σ' a _ _ => fin1 G1 H1 σ' (a B h1)
end
end DL
namespace DL
open PySem L2

/-! ### lists just made -/
def FinN (C : Ct) (E : XK) (G : Gh) (H : Hp) (r : R (List D)) (Q : VK) : Prop := match r with
  | .ok l η' => ∀ p vs G' H', Nx G H G' H' → Rh C G' H' η' → Rps C G' H' l vs → l.length ≤ sizeLine → H' p = none → Q (.ref p) (upd H' p (.lst vs))
  | .exc c ns l η' => ∀ x vs G' H', Nx G H G' H' → Rh C G' H' η' → Xd G' H' x (ns.zip vs) → Rps C G' H' l vs → E (.ref (C.cl c)) (some x) H'
  | .bad => False
def tN (C : Ct) (W : WX) (f : F (List D)) : TE := fun σ H Q => ∃ G δ η, At C G H δ σ η ∧ FinN C (fun c d H' => W c d σ H') G H (f δ η) Q
abbrev FN (C : Ct) (W : WX) (X : Cx) (e : Expr) (f : F (List D)) : Prop := PE X e (tN C W f)
section
variable {X : Cx} {C : Ct} {W : WX} {pos p2 : Pos} {e a b : Expr} {es : List Expr} {fe fa fb : F D} {fs fn : F (List D)}
theorem FinN.of {E : XK} {G G1 : Gh} {H H1 : Hp} {η1 : List O} {l : List D} {vs : List V} {Q : VK} (x : Nx G H G1 H1) (h : FinN C E G H (.ok l η1) Q) (r : Rh C G1 H1 η1) (q : Rps C G1 H1 l vs) (hz : l.length ≤ sizeLine) {p : Addr} (hp : H1 p = none) : Q (.ref p) (upd H1 p (.lst vs)) := h p vs G1 H1 x r q hz hp
theorem tN.bind {α β : Type} {Rel : Gh → Hp → α → β → Prop} {G : Gh} {H : Hp} {δ : En} {σ : St} {η : List O} {f : F α} {k : α → List O → R (List D)} {Q : β → Hp → Prop} {Q2 : VK} (a : At C G H δ σ η) (fin : FinN C (fun c d H' => W c d σ H') G H ((f δ η).bind k) Q2)
    (h : ∀ x v G1 H1 η1, At C G1 H1 δ σ η1 → Nx G H G1 H1 → Rel G1 H1 x v → FinN C (fun c d H' => W c d σ H') G1 H1 (k x η1) Q2 → Q v H1) : tG C Rel W f σ H Q := by
  refine ⟨G, δ, η, a, ?_⟩
  cases hf : f δ η with
  | ok d η1 =>
    rw [hf] at fin
    refine fun v G1 H1 x q1 q2 => h d v G1 H1 η1 (a.next x q1) x q2 ?_
    have fin : FinN C (fun c d H' => W c d σ H') G H (k d η1) Q2 := fin
    cases hk : k d η1 with
    | ok l η2 => rw [hk] at fin; exact fun p vs G2 H2 y z1 z2 z4 z3 => fin p vs G2 H2 (x.trans y) z1 z2 z4 z3
    | exc c ns l η2 => rw [hk] at fin; exact fun b vs G2 H2 y z1 z2 z3 => fin b vs G2 H2 (x.trans y) z1 z2 z3
    | bad => rw [hk] at fin; exact fin
  | exc c ns l η1 =>
    rw [hf] at fin
    exact fun b vs G1 H1 x q1 q2 q3 => fin b vs G1 H1 x q1 q2 q3
  | bad => rw [hf] at fin; exact fin
/-- as a value that will not change -/
def fFrz (f : F (List D)) : F D := fun δ η => (f δ η).bind fun l η => .ok (.lst l) η
theorem fe_n (h : FN C W X e fn) : FE C W X e (fFrz fn) := PE.imp h fun σ H Q ⟨G, δ, η, a, fin⟩ => by
  refine ⟨G, δ, η, a, ?_⟩
  unfold fFrz at fin
  cases hf : fn δ η with
  | ok l η1 =>
    rw [hf] at fin
    exact fun p vs G1 H1 x r q hz hp => fin _ G1 _ (x.trans (Nx.alloc hp)) (r.alloc hp) (.newLst r hp hz q)
  | exc c ns l η1 => rw [hf] at fin; exact fin
  | bad => rw [hf] at fin; exact fin
def fLstN (fs : F (List D)) : F (List D) := fun δ η => (fs δ η).bind fun ds η => if ds.length ≤ sizeLine then .ok ds η else .bad
theorem fn_lst (h : FA C W X es fs) : FN C W X (.List es pos) (fLstN fs) := by
  refine PE.imp (pe_lst h) fun σ H Q ⟨G, δ, η, at0, fin⟩ => ?_
  refine tN.bind at0 fin fun d v G1 H1 η1 a1 x1 r1 fin1 => ?_
  split at fin1
  · rename_i hz
    exact ⟨by rw [← r1.length]; exact hz, fun p hp => FinN.of Nx.refl fin1 a1.he r1 hz hp⟩
  · exact fin1.elim
/-- list(e) -/
def itemsD : D → Option (List D)
  | .lst l => some l
  | .tup l => some l
  | _ => none
def fListN (fa : F D) : F (List D) := fun δ η => (fa δ η).bind fun d η => lift (itemsD d) η
theorem fn_list {x : Str} {p : Pos} (hK : X.K = C.K) (hm : X.mg x = none) (ha : FU C W X e fe) (hs : starEach [e] X.env = [(false, eval e X.env)] := by rfl) (hg : Gl X x := by rfl) (hv : bootBuiltins x = some (.type "list") := by decide +kernel) (hn : x ≠ "__name__" := by decide) (hdb : (x == ("__debug__" : Str)) = false := by decide)
    (he : starEach [e] X.env = (false, eval e X.env) :: starEach [] X.env := by rfl) (hpl : (backTo pos (starEach [] X.env)).any (·.1) = false := by rfl) : FN C W X (.Call (.Name x p) [e] [] pos) (fListN fe) := by
  refine PE.imp (pe_callTy call_list_of hg hm hv (pa_cons ha pa_nil hs) hn hdb he hpl) fun σ H Q ⟨G, δ, η, at0, fin⟩ => ?_
  refine tN.bind at0 fin fun d v G1 H1 η1 a1 x1 r1 fin1 => ?_
  unfold itemsD at fin1
  split at fin1
  · have hz := r1.lstZ
    obtain ⟨a, vs, rfl, hq, hrs⟩ := r1.lst
    rw [← hK] at hq
    exact ⟨a, vs, rfl, .inl hq, fun l hl => FinN.of Nx.refl fin1 a1.he hrs hz hl⟩
  · have hz := r1.tupZ
    obtain ⟨a, vs, rfl, hq, hrs⟩ := r1.tup
    rw [← hK] at hq
    exact ⟨a, vs, rfl, .inr hq, fun l hl => FinN.of Nx.refl fin1 a1.he hrs hz hl⟩
  · exact fin1.elim
/-! ### a frame's own lists: made, changed -/
def sOwn (i : Nat) (f : F (List D)) : S := fun δ η => (f δ η).toS δ fun l η => .nx (δ.set i (some (.own l))) η
theorem fs_own {i : Nat} {st : Stmt} (h : PS X st (tAsg (tN C W fn) (gName i))) : FS C W X st (sOwn i fn) := PS.imp h fun Dn σ H ⟨B, G, δ, η, h, fin⟩ => by
  refine ⟨G, δ, η, h.a, ?_⟩
  unfold sOwn at fin
  cases hf : fn δ η with
  | ok l η1 =>
    rw [hf] at fin
    exact fun p vs G1 H1 x r q hz hp => fin _ _ _ ((h.next x r).setOwn hp hz q)
  | exc c ns l η1 => rw [hf] at fin; exact fun b vs G1 H1 x r q1 q2 => fin b vs G1 H1 σ (h.next x r) q1 q2
  | bad => rw [hf] at fin; exact fin
def sApp (i : Nat) (f : F D) : S := fun δ η => match δ[i]? with
  | some (some (.own l)) => (f δ η).toS δ fun d η => if l.length < sizeLine then .nx (δ.set i (some (.own (l ++ [d])))) η else .bad
  | _ => .bad
theorem fs_app (i : Nat) {x : Str} {p apos cpos : Pos} (ha : FE C W X e fe) (hN : X.N[i]? = some x := by rfl) (hv : Vis X.env.scope x := by first | exact Or.inl rfl | exact Or.inr (Or.inl rfl) | exact Or.inr (Or.inr rfl))
    (hs : starEach [e] X.env = [(false, eval e X.env)] := by rfl)
    (hbase : attributeBase (.Name x p) "append" X.env (eval (.Name x p) X.env) = eval (.Name x p) X.env := by rfl)
    (hfew : ((backTo cpos (starEach [e] X.env)).all (fun x => !x.1) && (backToKw cpos (keywordEach [] X.env)).all (fun x => x.1.isSome)
      && decide (([e] : List Expr).length + ([] : List Keyword).length + (if ([] : List Keyword).isEmpty then 0 else 1) < 30)) = true := by rfl)
    (hline : (apos.endLine == cpos.line) = true := by rfl) (hplain : (backTo cpos (starEach [] X.env)).any (·.1) = false := by rfl)
    (hd : (x == ("__debug__" : Str)) = false := by decide) (hcd : (x == ("__classdict__" : Str)) = false := by decide) (hsw : swapsWith (.Call (.Attribute (.Name x p) "append" apos) [e] [] cpos) none pos.line X.env = pure false := by rfl) :
    FS C W X (.Expr (.Call (.Attribute (.Name x p) "append" apos) [e] [] cpos) pos) (sApp i fe) := by
  refine PS.imp (ps_expr (pe_bm PySem.F.plainAttrs_list PySem.F.slot_list_append PySem.F.type_list_append (L2.mt_append) (pe_var hN hv hd hcd) (pa_cons ha pa_nil hs) hbase hfew hline hs hplain) hsw) fun Dn σ H ⟨B, G, δ, η, h, fin⟩ => ?_
  unfold sApp at fin
  split at fin
  · rename_i l hl
    obtain ⟨v, h1, h2⟩ := h.a.sl i _ hl
    cases h2 with
    | @own q vs _ m ee zz r =>
      refine ⟨_, h1, .inl ⟨rfl, vs, SqL.of ee⟩, ?_⟩
      refine tG.bindS h fin fun d v G1 H1 η1 h1' x1 r1 fin1 => ?_
      split at fin1
      · rename_i hz
        have st := x1.stab h.a.he
        have e1 := x1.keep _ _ ee (h.a.nad i _ _ hl rfl h1)
        exact ⟨q, vs, _, rfl, rfl, e1, by rw [← r.length]; exact hz, fin1 _ _ _ (h1'.chOwn hl h1 ((x1.mu _ _ ee).mpr m) e1 (by rw [List.length_append]; exact hz) ((r.stab st).append (.cons r1 .nil)))⟩
      · exact fin1.elim
  · exact fin.elim
/-! ### an item of an object of the store: o[i] = e (o a mutable list) -/
def sSetO (fe fa fb : F D) : S := fun δ η => (fe δ η).toS δ fun d η => (fa δ η).toS δ fun o η => (fb δ η).toS δ fun k η => match o, k with
  | .obj n, .int i => match η[n]? with
    | some (.lst l) => match ixN l.length i with
      | some j => .nx δ (η.set n (.lst (l.set j d)))
      | none => .bad
    | _ => .bad
  | _, _ => .bad
theorem fs_setO {st : Stmt} (h : PS X st (tAsg (tG C (Rp C) W fe) (gSub (tG C (Rp C) W fa) (tG C (Rp C) W fb) rSetL))) : FS C W X st (sSetO fe fa fb) := PS.imp h fun Dn σ H ⟨B, G, δ, η, h, fin⟩ => by
  refine tG.bindS h fin fun d v G1 H1 η1 h1 x1 r1 fin1 => ?_
  refine tG.bindS h1 fin1 fun o w G2 H2 η2 h2 x2 r2 fin2 => ?_
  refine tG.bindS h2 fin2 fun k u G3 H3 η3 h3 x3 r3 fin3 => ?_
  have r1' := (r1.stab (x2.stab h1.a.he)).stab (x3.stab h2.a.he)
  have r2' := r2.stab (x3.stab h2.a.he)
  split at fin3
  · rename_i n i
    split at fin3
    · rename_i l hl
      split at fin3
      · rename_i j hj
        cases r3
        cases r2' with
        | @obj _ p ho =>
          obtain ⟨m, q⟩ := h3.a.he.ob n _ _ hl ho
          cases q with
          | @lst _ vs _ e zz rs =>
            refine ⟨p, vs, i, j, rfl, rfl, e, by rw [← rs.length]; exact hj, ?_⟩
            have nx : Nx G3 H3 G3 (upd H3 p (.lst (vs.set j v))) := Nx.chObj ho (by rw [e]; exact fun z => by cases z)
            have st := nx.stab h3.a.he
            exact fin3 G3 _ σ (h3.next nx (h3.a.he.chObj ho (.lst upd_same (by rw [List.length_set]; exact zz) ((rs.set r1' j).stab st))))
      · exact fin3.elim
    · exact fin3.elim
  · exact fin3.elim

/-! ### what is walked -/
/-- the items of a walk, wherever the heap has gone by steps that leave standing things -/
def ItOk (C : Ct) (G : Gh) (H : Hp) (J : It) (ds : List D) : Prop := ds.length ≤ sizeLine ∧ ∀ G2 H2, Stab G H G2 H2 → (∀ a, G2.M a → H2 a ≠ none) → J.stop ds.length H2 ∧
  ∀ (i : Nat) (d : D), ds[i]? = some d → J.go i H2 ∧ ∀ x H3, J.yld i H2 x H3 → (∀ a o, H2 a = some o → H3 a = some o) ∧ Rp C G2 H3 d x
def FinI (C : Ct) (E : XK) (G : Gh) (H : Hp) (r : R (List D)) (K : It → Hp → Prop) : Prop := match r with
  | .ok ds η' => ∀ J G' H', Nx G H G' H' → Rh C G' H' η' → ItOk C G' H' J ds → K J H'
  | .exc c ns l η' => ∀ x vs G' H', Nx G H G' H' → Rh C G' H' η' → Xd G' H' x (ns.zip vs) → Rps C G' H' l vs → E (.ref (C.cl c)) (some x) H'
  | .bad => False
def tI (C : Ct) (W : WX) (f : F (List D)) : TI := fun σ H R => ∃ G δ η, At C G H δ σ η ∧ FinI C (fun c d H' => W c d σ H') G H (f δ η) R
abbrev FI (C : Ct) (W : WX) (X : Cx) (tg e : Expr) (f : F (List D)) : Prop := PI X tg e (tI C W f)
theorem PI.imp {X : Cx} {tg e : Expr} {t t' : TI} (h : PI X tg e t) (i : ∀ σ H Q, t' σ H Q → t σ H Q) : PI X tg e t' := ⟨fun pins s σ H Q I q => h.run pins s σ H Q I (i _ _ _ q)⟩
theorem FinI.next {E : XK} {G G' : Gh} {H H' : Hp} {r : R (List D)} {K : It → Hp → Prop} (h : FinI C E G H r K) (x : Nx G H G' H') : FinI C E G' H' r K := by
  cases r with
  | ok d η' => exact fun v G2 H2 y q1 q2 => h v G2 H2 (x.trans y) q1 q2
  | exc c ns l η' => exact fun a vs G2 H2 y q1 q2 q3 => h a vs G2 H2 (x.trans y) q1 q2 q3
  | bad => exact h
theorem tI.bind {α β : Type} {Rel : Gh → Hp → α → β → Prop} {f : F α} {k : α → List O → R (List D)} {G : Gh} {δ : En} {η : List O} {σ : St} {H : Hp} {R : It → Hp → Prop} {Q : β → Hp → Prop} (a : At C G H δ σ η) (fin : FinI C (fun c d H' => W c d σ H') G H ((f δ η).bind k) R)
    (h : ∀ x v G1 H1 η1, At C G1 H1 δ σ η1 → Nx G H G1 H1 → Rel G1 H1 x v → FinI C (fun c d H' => W c d σ H') G1 H1 (k x η1) R → Q v H1) : tG C Rel W f σ H Q := by
  refine ⟨G, δ, η, a, ?_⟩
  cases hf : f δ η with
  | ok d η1 =>
    rw [hf] at fin
    exact fun v G1 H1 x q1 q2 => h d v G1 H1 η1 (a.next x q1) x q2 (FinI.next (r := k d η1) fin x)
  | exc c ns l η1 => rw [hf] at fin; exact fin
  | bad => rw [hf] at fin; exact fin
/-- a list that stands still -/
theorem itList (hK : X.K = C.K) {G : Gh} {H : Hp} {a : Addr} {vs : List V} {l : List D} (h : LAt C G H a vs) (z : l.length ≤ sizeLine) (r : Rps C G H l vs) : ItOk C G H (Itl X.K a) l := ⟨z, fun G2 H2 st mh => by
  have h2 := (h.stab st).sq
  rw [← hK] at h2
  have r2 := r.stab st
  refine ⟨⟨vs, h2, Nat.le_of_eq r2.length.symm⟩, fun i d hd => ?_⟩
  obtain ⟨v, e1, e2⟩ := r2.get hd
  refine ⟨⟨vs, v, h2, e1⟩, fun x H3 ⟨y1, y2⟩ => ?_⟩
  subst y1
  have := y2 vs h2
  rw [e1] at this
  cases this
  exact ⟨fun _ _ z => z, e2⟩⟩
theorem itTup (hK : X.K = C.K) {G : Gh} {H : Hp} {a : Addr} {vs : List V} {l : List D} (h : TAt C G H a vs) (z : l.length ≤ sizeLine) (r : Rps C G H l vs) : ItOk C G H (Itt X.K a) l := ⟨z, fun G2 H2 st mh => by
  have h2 := (h.stab st).sq
  rw [← hK] at h2
  have r2 := r.stab st
  refine ⟨⟨vs, h2, Nat.le_of_eq r2.length.symm⟩, fun i d hd => ?_⟩
  obtain ⟨v, e1, e2⟩ := r2.get hd
  refine ⟨⟨vs, v, h2, e1⟩, fun x H3 ⟨y1, y2⟩ => ?_⟩
  subst y1
  have := y2 vs h2
  rw [e1] at this
  cases this
  exact ⟨fun _ _ z => z, e2⟩⟩
def lstOf : D → Option (List D)
  | .lst l => some l
  | _ => none
def tupOf : D → Option (List D)
  | .tup l => some l
  | _ => none
def fiL (fa : F D) : F (List D) := fun δ η => (fa δ η).bind fun d η => lift (lstOf d) η
def fiT (fa : F D) : F (List D) := fun δ η => (fa δ η).bind fun d η => lift (tupOf d) η
variable {tg : Expr}
theorem fi_lst (hK : X.K = C.K) (he : FE C W X e fe) : FI C W X tg e (fiL fe) := PI.imp (pi_list he) fun σ H R ⟨G, δ, η, a0, fin0⟩ => tI.bind a0 fin0 fun d v G1 H1 η1 a1 x1 r1 fin => by
  cases r1 with
  | lst h z r =>
    have h2 := h.sq
    rw [← hK] at h2
    exact ⟨_, rfl, ⟨_, h2⟩, fin _ G1 H1 Nx.refl a1.he (itList hK h z r)⟩
  | _ => exact fin.elim
theorem fi_tup (hK : X.K = C.K) (he : FE C W X e fe) : FI C W X tg e (fiT fe) := PI.imp (pi_tup he) fun σ H R ⟨G, δ, η, a0, fin0⟩ => tI.bind a0 fin0 fun d v G1 H1 η1 a1 x1 r1 fin => by
  cases r1 with
  | tup h z r =>
    have h2 := h.sq
    rw [← hK] at h2
    exact ⟨_, rfl, ⟨_, h2⟩, fin _ G1 H1 Nx.refl a1.he (itTup hK h z r)⟩
  | _ => exact fin.elim
/-- range(n) -/
def rngD (lo : Int) (n : Nat) : List D := (List.range n).map fun (k : Nat) => D.int (lo + (k : Int))
def fiR1 (fa : F D) : F (List D) := fun δ η => (fa δ η).bind fun d η => match d with
  | .int j => if j ≤ 16777216 ∧ -16777216 ≤ j then .ok (rngD 0 j.toNat) η else .bad
  | _ => .bad
theorem itRng {G : Gh} {H : Hp} {lo : Int} {n : Nat} (z : n ≤ sizeLine) : ItOk C G H (Itr lo n) (rngD lo n) := ⟨by simpa [rngD] using z, fun G2 H2 st mh => by
  refine ⟨by show n ≤ (rngD lo n).length; simp [rngD], fun i d hd => ?_⟩
  unfold rngD at hd
  rw [List.getElem?_map] at hd
  cases q : (List.range n)[i]? with
  | none => rw [q] at hd; cases hd
  | some k =>
    rw [q] at hd
    have hlt : i < n := by
      have := (List.getElem?_eq_some_iff.mp q).1
      simpa using this
    have hk : k = i := by
      have := (List.getElem?_eq_some_iff.mp q).2
      simpa using this.symm
    subst hk
    cases hd
    refine ⟨hlt, fun x H3 ⟨y1, y2⟩ => ?_⟩
    subst y1 y2
    exact ⟨fun _ _ z => z, .int _⟩⟩
theorem fi_rng1 {p : Pos} (hm : X.mg "range" = none) (he : FE C W X e fe) (hg : Gl X "range" := by rfl) (hs : starEach [e] X.env = [(false, eval e X.env)] := by rfl) : FI C W X tg (.Call (.Name "range" p) [e] [] pos) (fiR1 fe) :=
  PI.imp (pi_range1 hg hm (pa_cons he pa_nil hs) hs) fun σ H R ⟨G, δ, η, a0, fin0⟩ => tI.bind a0 fin0 fun d v G1 H1 η1 a1 x1 r1 fin => by
    cases r1 with
    | int j =>
      dsimp only at fin
      by_cases hz : j ≤ 16777216 ∧ -16777216 ≤ j
      · rw [if_pos hz] at fin
        exact ⟨j, rfl, by omega, by omega, fin _ G1 H1 Nx.refl a1.he (itRng (by rw [sizeLine_eq]; omega))⟩
      · rw [if_neg hz] at fin
        exact fin.elim
    | _ => exact fin.elim
/-- a text, sign by sign -/
def signsD (z : Str) : List D := z.cps.toList.map fun c => .str ⟨#[c]⟩
def fiS (fa : F D) : F (List D) := fun δ η => (fa δ η).bind fun d η => match d with
  | .str z => if z.length ≤ sizeLine then .ok (signsD z) η else .bad
  | _ => .bad
theorem fi_str (he : FE C W X e fe) : FI C W X tg e (fiS fe) := PI.imp (pi_str he) fun σ H R ⟨G, δ, η, a0, fin0⟩ => tI.bind a0 fin0 fun d v G1 H1 η1 a1 x1 r1 fin => by
  cases r1 with
  | str z okz =>
    dsimp only at fin
    by_cases hz : z.length ≤ sizeLine
    case neg => rw [if_neg hz] at fin; exact fin.elim
    rw [if_pos hz] at fin
    refine ⟨z, rfl, fin _ G1 H1 Nx.refl a1.he ⟨by simpa [signsD, Str.length] using hz, fun G2 H2 st mh => ⟨by show z.cps.size ≤ (signsD z).length; simp [signsD], fun i d hd => ?_⟩⟩⟩
    unfold signsD at hd
    rw [List.getElem?_map] at hd
    cases q : z.cps.toList[i]? with
    | none => rw [q] at hd; cases hd
    | some c =>
      rw [q] at hd
      cases hd
      have hlt : i < z.cps.size := by simpa using (List.getElem?_eq_some_iff.mp q).1
      refine ⟨hlt, fun x H3 ⟨y1, c', y2, y3⟩ => ?_⟩
      subst y1 y3
      rw [show z.cps.toList[i]? = z.cps[i]? from by simp] at q
      rw [q] at y2
      cases y2
      exact ⟨fun _ _ z => z, .str _ (ok_one okz (Array.mem_toList_iff.mpr (Array.mem_of_getElem? q)))⟩
  | _ => exact fin.elim
/-- enumerate(a list) -/
def enumD (l : List D) : List D := l.zipIdx.map fun p => .tup [.int (p.2 : Nat), p.1]
def fiE (fa : F D) : F (List D) := fun δ η => (fa δ η).bind fun d η => (lift (lstOf d) η).bind fun l η => .ok (enumD l) η
theorem fi_enum {p tpos : Pos} {elts : List Expr} {kk : Nat} (hK : X.K = C.K) (hm : X.mg "enumerate" = none) (he : FE C W X e fe) (hg : Gl X "enumerate" := by rfl) (hs : starEach [e] X.env = [(false, eval e X.env)] := by rfl) :
    FI C W X (.Tuple elts kk tpos) (.Call (.Name "enumerate" p) [e] [] pos) (fiE fe) :=
  PI.imp (pi_enum hg hm (pa_cons he pa_nil hs) hs) fun σ H R ⟨G, δ, η, a0, fin0⟩ => tI.bind a0 fin0 fun d v G1 H1 η1 a1 x1 r1 fin => by
    cases r1 with
    | @lst a vs l h z r =>
      have h2 := h.sq
      rw [← hK] at h2
      refine ⟨a, vs, rfl, h2, fin _ G1 H1 Nx.refl a1.he ⟨by simpa [enumD] using z, fun G2 H2 st mh => ?_⟩⟩
      have h3 := (h.stab st).sq
      rw [← hK] at h3
      have r3 := r.stab st
      refine ⟨⟨vs, h3, by simp [enumD, r3.length]⟩, fun i d hd => ?_⟩
      unfold enumD at hd
      rw [List.getElem?_map, List.getElem?_zipIdx] at hd
      cases q : l[i]? with
      | none => rw [q] at hd; cases hd
      | some k =>
        rw [q] at hd
        obtain ⟨w, e1, e2⟩ := r3.get q
        refine ⟨⟨vs, w, h3, e1⟩, fun x H3 ⟨T, y, y1, y2, y3, y4⟩ => ?_⟩
        have := y4 vs h3
        rw [e1] at this
        cases this
        subst y1 y3
        refine ⟨fun b o z => by rw [upd_ne (ne_of_none z y2)]; exact z, ?_⟩
        have hd : D.tup [.int ((0 + i : Nat) : Int), k] = d := Option.some.inj hd
        rw [← hd, Nat.zero_add]
        refine .tup (.inl ⟨.inl upd_same, fun m => mh T m y2⟩) (by rw [sizeLine_eq]; simp) (.cons (.int _) (.cons (e2.stab ?_) .nil))
        exact ⟨fun _ _ z => z, fun b o z m => ⟨by rw [upd_ne (ne_of_none z y2)]; exact z, m⟩⟩
    | _ => exact fin.elim
/-- zip(two lists) -/
def zipD (l m : List D) : List D := (l.zip m).map fun p => .tup [p.1, p.2]
def fiZ (fa fb : F D) : F (List D) := fun δ η => (fa δ η).bind fun d η => (fb δ η).bind fun e η => match d, e with
  | .lst l, .lst m => .ok (zipD l m) η
  | .tup l, .tup m => .ok (zipD l m) η
  | _, _ => .bad
theorem fi_zip {p tpos : Pos} {elts : List Expr} {kk : Nat} (hK : X.K = C.K) (hm : X.mg "zip" = none) (ha : FE C W X a fa) (hb : FE C W X b fb) (hg : Gl X "zip" := by rfl)
    (hs : starEach [a, b] X.env = (false, eval a X.env) :: starEach [b] X.env := by rfl) (hs2 : starEach [b] X.env = (false, eval b X.env) :: starEach [] X.env := by rfl) (hpl : (backTo pos (starEach [b] X.env)).any (·.1) = false := by rfl) :
    FI C W X (.Tuple elts kk tpos) (.Call (.Name "zip" p) [a, b] [] pos) (fiZ fa fb) :=
  PI.imp (RZ.pi_zipA hg hm (pa_cons ha (pa_cons hb pa_nil hs2) hs) hs hpl) fun σ H R ⟨G, δ, η, a0, fin⟩ => by
    refine tI.bind (Rel := Rp C) a0 fin fun d v G1 H1 η1 a1 x1 r1 fin1 => ?_
    refine tI.bind (Rel := Rp C) a1 fin1 fun e w G2 H2 η2 a2 x2 r2 fin2 => ?_
    split at fin2
    · rename_i l m
      cases (r1.stab (x2.stab a1.he)) with
      | @lst p vs _ h z r =>
        cases r2 with
        | @lst p2 ws _ h' z' r' =>
          have h2 := h.sq
          have h2' := h'.sq
          rw [← hK] at h2 h2'
          refine ⟨p, p2, vs, ws, rfl, .inl ⟨h2, h2', fin2 _ G2 H2 Nx.refl a2.he ⟨by simp only [zipD, List.length_map, List.length_zip]; omega, fun G3 H3 st mh => ?_⟩⟩⟩
          have h3 := (h.stab st).sq
          have h3' := (h'.stab st).sq
          rw [← hK] at h3 h3'
          have r3 := r.stab st
          have r3' := r'.stab st
          refine ⟨⟨vs, ws, h3, h3', ?_⟩, fun i d hd => ?_⟩
          · have e1 := r3.length
            have e2 := r3'.length
            simp only [zipD, List.length_map, List.length_zip]
            omega
          · unfold zipD at hd
            rw [List.getElem?_map] at hd
            cases q : (l.zip m)[i]? with
            | none => rw [q] at hd; cases hd
            | some z =>
              rw [q] at hd
              obtain ⟨q1, q2⟩ := List.getElem?_zip_eq_some.mp q
              obtain ⟨w1, e1, e2⟩ := r3.get q1
              obtain ⟨w2, e3, e4⟩ := r3'.get q2
              refine ⟨⟨vs, ws, w1, w2, h3, h3', e1, e3⟩, fun x H4 ⟨T, y, y', y1, y2, y3, y4, y5⟩ => ?_⟩
              have g1 := y4 vs h3
              have g2 := y5 ws h3'
              rw [e1] at g1
              rw [e3] at g2
              cases g1
              cases g2
              subst y1 y3
              refine ⟨fun b o z => by rw [upd_ne (ne_of_none z y2)]; exact z, ?_⟩
              have hd : D.tup [z.1, z.2] = d := Option.some.inj hd
              rw [← hd]
              have st4 : Stab G3 H3 G3 (upd H3 T (.tup [w1, w2])) := ⟨fun _ _ z => z, fun b o z m => ⟨by rw [upd_ne (ne_of_none z y2)]; exact z, m⟩⟩
              exact .tup (.inl ⟨.inl upd_same, fun m => mh T m y2⟩) (by rw [sizeLine_eq]; simp) (.cons (e2.stab st4) (.cons (e4.stab st4) .nil))
    · rename_i l m
      cases (r1.stab (x2.stab a1.he)) with
      | @tup p vs _ h z r =>
        cases r2 with
        | @tup p2 ws _ h' z' r' =>
          have h2 := h.sq
          have h2' := h'.sq
          rw [← hK] at h2 h2'
          refine ⟨p, p2, vs, ws, rfl, .inr ⟨h2, h2', fin2 _ G2 H2 Nx.refl a2.he ⟨by simp only [zipD, List.length_map, List.length_zip]; omega, fun G3 H3 st mh => ?_⟩⟩⟩
          have h3 := (h.stab st).sq
          have h3' := (h'.stab st).sq
          rw [← hK] at h3 h3'
          have r3 := r.stab st
          have r3' := r'.stab st
          refine ⟨⟨vs, ws, h3, h3', ?_⟩, fun i d hd => ?_⟩
          · have e1 := r3.length
            have e2 := r3'.length
            simp only [zipD, List.length_map, List.length_zip]
            omega
          · unfold zipD at hd
            rw [List.getElem?_map] at hd
            cases q : (l.zip m)[i]? with
            | none => rw [q] at hd; cases hd
            | some z =>
              rw [q] at hd
              obtain ⟨q1, q2⟩ := List.getElem?_zip_eq_some.mp q
              obtain ⟨w1, e1, e2⟩ := r3.get q1
              obtain ⟨w2, e3, e4⟩ := r3'.get q2
              refine ⟨⟨vs, ws, w1, w2, h3, h3', e1, e3⟩, fun x H4 ⟨T, y, y', y1, y2, y3, y4, y5⟩ => ?_⟩
              have g1 := y4 vs h3
              have g2 := y5 ws h3'
              rw [e1] at g1
              rw [e3] at g2
              cases g1
              cases g2
              subst y1 y3
              refine ⟨fun b o z => by rw [upd_ne (ne_of_none z y2)]; exact z, ?_⟩
              have hd : D.tup [z.1, z.2] = d := Option.some.inj hd
              rw [← hd]
              have st4 : Stab G3 H3 G3 (upd H3 T (.tup [w1, w2])) := ⟨fun _ _ z => z, fun b o z m => ⟨by rw [upd_ne (ne_of_none z y2)]; exact z, m⟩⟩
              exact .tup (.inl ⟨.inl upd_same, fun m => mh T m y2⟩) (by rw [sizeLine_eq]; simp) (.cons (e2.stab st4) (.cons (e4.stab st4) .nil))
    · exact fin2.elim
/-! ### for -/
def SR.turn (r : SR) (k : S) : SR := match r with
  | .nx δ η => k δ η
  | .ct δ η => k δ η
  | .bk δ η => .nx δ η
  | r => r
def loopF (t : Tg) (fb : S) : List D → S
  | [], δ, η => .nx δ η
  | x :: r, δ, η => match asg t x δ with
    | none => .bad
    | some δ1 => (fb δ1 η).turn (loopF t fb r)
def sFor (fi : F (List D)) (t : Tg) (fb : S) : S := fun δ η => (fi δ η).toS δ fun ds η => loopF t fb ds δ η
/-- the heap grows by things that no one knows -/
theorem Nx.ext {G : Gh} {H H' : Hp} (k : ∀ a o, H a = some o → H' a = some o) : Nx G H G H' := ⟨fun _ _ h => h, fun a o h _ => k a o h, fun _ _ _ => Iff.rfl, fun _ h => .inl h, fun a h => by
  cases q : H a with
  | none => rfl
  | some o => rw [k a o q] at h; cases h⟩
theorem Rh.ext {G : Gh} {H H' : Hp} {η : List O} (r : Rh C G H η) (k : ∀ a o, H a = some o → H' a = some o) : Rh C G H' η := by
  have x : Nx G H G H' := Nx.ext k
  refine ⟨r.len, r.nd, fun n o a h1 h2 => ?_, fun a m z => r.mh a m (x.there a z)⟩
  obtain ⟨m, q⟩ := r.ob n o a h1 h2
  exact ⟨m, q.stab (x.stab r) fun u hu => k a u hu⟩
theorem fs_for {iter : Expr} {t : Tg} {fi : F (List D)} {body : List Stmt} {fb : S} (hK : X.K = C.K) (hp : PassesOwn (model X.prog X.w) X.A X.env X.xe) (hc : X.calm = true) (hi : FI C W X tg iter fi) (hg : FG X tg t) (hb : FSs C W X body fb)
    (hs : ∀ x, foldedSetIterable iter X.env x = pure x := by intro _; rfl) : FS C W X (.For tg iter body [] pos) (sFor fi t fb) := by
  refine PS.imp (ps_for hp hc hi hg hb hs) fun Dn σ H ⟨B, G, δ, η, h, fin⟩ => ?_
  refine ⟨G, δ, η, h.a, ?_⟩
  unfold sFor at fin
  cases hf : fi δ η with
  | exc c ns l η1 => rw [hf] at fin; exact fun b vs G1 H1 x q1 q2 q3 => fin b vs G1 H1 σ (h.next x q1) q2 q3
  | bad => rw [hf] at fin; exact fin
  | ok ds η1 =>
    rw [hf, toS_ok] at fin
    intro J G1 H1 x1 r1 it
    have h1 := h.next x1 r1
    -- the base for the loop: its own start
    refine ⟨fun i m σ H => m = ds.length - i ∧ i ≤ ds.length ∧ ∃ G δ η, Hold C ⟨B.G, B.H, G1, H1⟩ G H δ σ η ∧ FinS C W B (loopF t fb (ds.drop i) δ η) Dn, ⟨ds.length, by simp, Nat.zero_le _, G1, δ, η1, ⟨h1.a, h1.o, h1.n, .refl⟩, by simpa using fin⟩, ?_⟩
    rintro i m σ2 H2 ⟨rfl, hi, G2, δ2, η2, h2, fin2⟩
    obtain ⟨i1, i2⟩ := it.2 G2 H2 h2.s h2.a.he.mh
    have back : ∀ {G H δ σ η}, Hold C ⟨B.G, B.H, G1, H1⟩ G H δ σ η → Hold C B G H δ σ η := fun z => ⟨z.a, z.o, z.n, h1.s.trans z.s⟩
    by_cases hlt : i < ds.length
    · refine .inr ?_
      obtain ⟨j1, j2⟩ := i2 i ds[i] (by simp [hlt])
      refine ⟨j1, fun σ H => ∃ G δ η, Hold C ⟨B.G, B.H, G1, H1⟩ G H δ σ η ∧ FinS C W B (loopF t fb (ds.drop (i + 1)) δ η) Dn, fun σ' H' z => ⟨ds.length - (i + 1), by omega, rfl, hlt, z⟩, fun x H3 y => ?_⟩
      obtain ⟨k1, k2⟩ := j2 x H3 y
      have nx : Nx G2 H2 G2 H3 := Nx.ext k1
      have h3 := h2.next nx (h2.a.he.ext k1)
      rw [List.drop_eq_getElem_cons hlt, loopF] at fin2
      cases q : asg t ds[i] δ2 with
      | none => rw [q] at fin2; exact fin2.elim
      | some δ3 =>
        rw [q] at fin2
        dsimp only at fin2
        refine gV_ok hK t _ x G2 H3 δ2 δ3 σ2 η2 _ q k2 fun σ3 a3 _ _ => ?_
        refine ⟨⟨B.G, B.H, G1, H1⟩, G2, δ3, η2, a3 _ h3, ?_⟩
        cases hb : fb δ3 η2 with
        | nx δ4 η4 => rw [hb] at fin2; exact fun G4 H4 σ4 z => ⟨G4, δ4, η4, z, fin2⟩
        | ct δ4 η4 => rw [hb] at fin2; exact fun G4 H4 σ4 z => ⟨G4, δ4, η4, z, fin2⟩
        | bk δ4 η4 => rw [hb] at fin2; exact fun G4 H4 σ4 z => fin2 G4 H4 σ4 (back z)
        | rt d η4 => rw [hb] at fin2; exact fin2
        | exc c ns l δ4 η4 => rw [hb] at fin2; exact fun x vs G4 H4 σ4 z => fin2 x vs G4 H4 σ4 (back z)
        | bad => rw [hb] at fin2; exact fin2
    · have e : i = ds.length := by omega
      subst e
      refine .inl ⟨i1, ?_⟩
      rw [List.drop_length, loopF] at fin2
      exact fin2 G2 H2 σ2 (back h2)

/-! ### comprehensions -/
def wipeD (δ : En) : List Nat → En
  | [] => δ
  | v :: vs => (wipeD δ vs).set v none
/-- nothing is raised within a comprehension -/
def R.nox {α : Type} (r : R α) : R α := match r with
  | .exc _ _ _ _ => .bad
  | r => r
@[simp] theorem nox_ok {α : Type} {a : α} {η : List O} : (R.ok a η).nox = .ok a η := rfl
@[simp] theorem nox_bad {α : Type} : (R.bad : R α).nox = .bad := rfl
@[simp] theorem nox_exc {α : Type} {c : Nat} {ns : List Str} {l : List D} {η : List O} : (R.exc c ns l η : R α).nox = .bad := rfl
def compF (t : Tg) (ft : F Bool) (fe : F D) (δw : En) : List D → List O → R (List D)
  | [], η => .ok [] η
  | x :: r, η => match asg t x δw with
    | none => .bad
    | some δ1 => (ft δ1 η).nox.bind fun b η => if b = true then (fe δ1 η).nox.bind fun y η => (compF t ft fe δw r η).bind fun ys η => .ok (y :: ys) η else compF t ft fe δw r η
/-- with what has been made -/
def fLc (vs : List Nat) (fi : F (List D)) (t : Tg) (ft : F Bool) (fe : F D) : F (List D) := fun δ η => (fi δ η).bind fun ds η => compF t ft fe (wipeD δ vs) ds η
theorem wipe_at {G : Gh} {H : Hp} {η : List O} : ∀ (vs : List Nat) {δ : En} {σ : St}, At C G H δ σ η → At C G H (wipeD δ vs) (wipe σ vs) η
  | [], _, _, a => a
  | v :: vs, δ, σ, a => by
    have b := wipe_at vs a
    have get : ∀ {j : Nat} {l : L}, (wipeD δ (v :: vs))[j]? = some (some l) → j ≠ v ∧ (wipeD δ vs)[j]? = some (some l) := fun {j l} h => by
      rcases getSet h with ⟨_, z⟩ | z
      · cases z
      · exact z
    have gs : ∀ {j : Nat}, j ≠ v → (wipe σ (v :: vs))[j]? = (wipe σ vs)[j]? := fun {j} h => by
      show ((wipe σ vs).set v none)[j]? = _
      rw [List.getElem?_set_ne (Ne.symm h)]
    refine ⟨?_, fun j l h => ?_, fun j k l l' w hne h1 h2 o1 o2 s1 s2 => ?_, fun j l c h o s => ?_, b.he⟩
    · show ((wipeD δ vs).set v none).length = ((wipe σ vs).set v none).length
      rw [List.length_set, List.length_set]; exact b.len
    · obtain ⟨h1, h2⟩ := get h
      rw [gs h1]; exact b.sl j l h2
    · obtain ⟨e1, h1⟩ := get h1
      obtain ⟨e2, h2⟩ := get h2
      rw [gs e1] at s1
      rw [gs e2] at s2
      exact b.un j k l l' w hne h1 h2 o1 o2 s1 s2
    · obtain ⟨e, h⟩ := get h
      rw [gs e] at s
      exact b.nad j l c h o s
theorem wipe_get (σ : St) : ∀ (vs : List Nat) (i : Nat), (wipe σ vs)[i]? = if i ∈ vs then σ[i]?.map (fun _ => none) else σ[i]?
  | [], i => by simp [wipe]
  | v :: vs, i => by
    show ((wipe σ vs).set v none)[i]? = _
    by_cases e : v = i
    · subst e
      rw [List.getElem?_set_self', wipe_get σ vs v]
      by_cases h : v ∈ vs
      · simp [h]; cases σ[v]? <;> rfl
      · simp [h]; cases σ[v]? <;> rfl
    · rw [List.getElem?_set_ne e, wipe_get σ vs i]
      have : i ∈ v :: vs ↔ i ∈ vs := by simp [Ne.symm e]
      simp only [this]
theorem wipe_same {vs : List Nat} {σ σ' : St} (h : Same' vs (wipe σ vs) σ') : wipe σ' vs = wipe σ vs := by
  apply List.ext_getElem?
  intro i
  rw [wipe_get, wipe_get]
  by_cases hi : i ∈ vs
  · rw [if_pos hi, if_pos hi]
    have hl : σ'.length = σ.length := by rw [h.1, wipe_length]
    by_cases hz : i < σ.length
    · rw [List.getElem?_eq_getElem hz, List.getElem?_eq_getElem (by omega)]; rfl
    · rw [List.getElem?_eq_none (by omega), List.getElem?_eq_none (by omega)]
  · rw [if_neg hi, if_neg hi, h.2 i hi, wipe_get, if_neg hi]
end
end DL
namespace DL
open PySem L2
open PyProof.Rows (envOfC)
section
variable {X : Cx} {C : Ct} {W : WX} {pos p2 : Pos} {e a b : Expr} {es : List Expr} {fe fa fb : F D} {fs fn : F (List D)} {tg : Expr}

/-! ### the new list of a comprehension, taken out of the heap -/
def out (H : Hp) (p : Addr) : Hp := fun b => if b = p then none else H b
theorem out_upd {H : Hp} {p : Addr} {o : HO} (h : H p = some o) : upd (out H p) p o = H := by
  funext b
  by_cases e : b = p
  · subst e; rw [upd_same, h]
  · rw [upd_ne e]; unfold out; rw [if_neg e]
theorem out_ne {H : Hp} {p b : Addr} (h : b ≠ p) : out H p b = H b := by unfold out; rw [if_neg h]
theorem out_same {H : Hp} {p : Addr} : out H p p = none := by unfold out; rw [if_pos rfl]
theorem Stab.out {G : Gh} {H : Hp} {p : Addr} (m : G.M p) : Stab G H (G.sub p) (out H p) := ⟨fun _ _ h => h, fun a o h n => ⟨by rw [out_ne (fun e => n (by rw [e]; exact m))]; exact h, fun z => n z.1⟩⟩
theorem Rh.out {G : Gh} {H : Hp} {η : List O} {p : Addr} (r : Rh C G H η) (m : G.M p) (np : p ∉ G.ads) : Rh C (G.sub p) (out H p) η := by
  refine ⟨r.len, r.nd, fun n o a h1 h2 => ?_, fun a z => ?_⟩
  · obtain ⟨q, h⟩ := r.ob n o a h1 h2
    have ne : a ≠ p := fun e => np (by rw [← e]; exact List.mem_of_getElem? h2)
    exact ⟨⟨q, ne⟩, h.stab (Stab.out m) fun u hu => by rw [out_ne ne]; exact hu⟩
  · rw [out_ne z.2]; exact r.mh a z.1
theorem Nx.out {G G' : Gh} {H H' : Hp} {p : Addr} (x : Nx G H G' H') (hp : H p = none) (m : G'.M p) : Nx G H (G'.sub p) (DL.out H' p) := by
  have ne : ∀ {a o}, H a = some o → a ≠ p := fun h e => by rw [e, hp] at h; cases h
  refine ⟨x.ads, fun a o h n => by rw [out_ne (ne h)]; exact x.keep a o h n, fun a o h => ⟨fun z => (x.mu a o h).mp z.1, fun z => ⟨(x.mu a o h).mpr z, ne h⟩⟩, x.new, fun a h => ?_⟩
  by_cases e : a = p
  · rw [e]; exact hp
  · rw [out_ne e] at h; exact x.there a h

/-- the new list grows -/
theorem Stab.temp {G : Gh} {H : Hp} {p : Addr} {o : HO} (m : G.M p) : Stab G H G (upd H p o) := ⟨fun _ _ h => h, fun b u h n => ⟨by rw [upd_ne (fun e => n (by rw [e]; exact m))]; exact h, n⟩⟩
theorem Nx.temp {G G' : Gh} {H H' : Hp} {p : Addr} {o : HO} (x : Nx G H G' H') (hp : H p = none) : Nx G H G' (upd H' p o) := by
  have ne : ∀ {a u}, H a = some u → a ≠ p := fun h e => by rw [e, hp] at h; cases h
  refine ⟨x.ads, fun a u h n => by rw [upd_ne (ne h)]; exact x.keep a u h n, x.mu, x.new, fun a h => ?_⟩
  by_cases e : a = p
  · rw [e]; exact hp
  · rw [upd_ne e] at h; exact x.there a h
theorem At.temp {G : Gh} {H : Hp} {δ : En} {σ : St} {η : List O} {p : Addr} {o : HO} (a : At C G H δ σ η) (no : ∀ (i : Nat) (l : L), δ[i]? = some (some l) → l.owns = true → σ[i]? ≠ some (some (V.ref p))) (m : G.M p) (np : p ∉ G.ads) : At C G (upd H p o) δ σ η := by
  have st : Stab G H G (upd H p o) := Stab.temp m
  have keep : ∀ a u, a ≠ p → H a = some u → upd H p o a = some u := fun a u e z => by rw [upd_ne e]; exact z
  refine ⟨a.len, fun i l h => ?_, a.un, a.nad, ⟨a.he.len, a.he.nd, fun n u b h1 h2 => ?_, fun b z => ?_⟩⟩
  · obtain ⟨v, h1, h2⟩ := a.sl i l h
    refine ⟨v, h1, ?_⟩
    cases h2 with
    | val r => exact .val (r.stab st)
    | own m e z r => exact .own m (keep _ _ (fun q => no i _ h rfl (by rw [h1, q])) e) z (r.stab st)
    | oins m e n r => exact .oins m (keep _ _ (fun q => no i _ h rfl (by rw [h1, q])) e) n (r.stab st)
  · obtain ⟨q, r⟩ := a.he.ob n u b h1 h2
    exact ⟨q, r.stab st fun w hw => keep _ _ (fun e => np (by rw [← e]; exact List.mem_of_getElem? h2)) hw⟩
  · by_cases e : b = p
    · rw [e, upd_same]; exact fun z => by cases z
    · rw [upd_ne e]; exact a.he.mh b z

/-! ### comprehensions -/
abbrev FTs (C : Ct) (X : Cx) (ifs : List Expr) (f : F Bool) : Prop := PTs X ifs (tG C RB WX0 f)
theorem PTs.imp {X : Cx} {e : List Expr} {t t' : TT} (h : PTs X e t) (i : ∀ σ H Q, t' σ H Q → t σ H Q) : PTs X e t' := ⟨fun pins s σ H Q I q => h.run pins s σ H Q I (i _ _ _ q)⟩
def fYes : F Bool := fun _ η => .ok true η
theorem fts_nil : FTs C X [] fYes := PTs.imp pts_nil fun σ H Q ⟨G, δ, η, a, fin⟩ => fin true G H Nx.refl a.he rfl
theorem fts_one {c : Expr} {f : F Bool} (h : FT C WX0 X c f) : FTs C X [c] f := pts_one h
/-- all but the context's handlers -/
theorem lc_of {t : Tg} {fi : F (List D)} {ft : F Bool} {vs : List Nat} (hK : X.K = C.K) (hvs : ∀ i ∈ t.sl, i ∈ vs) {σ : St} {H : Hp} {Q : VK} (h : tN C W (fLc vs fi t ft fe) σ H Q) :
    tLc (tI C W fi) (gV X.K t) (tG C RB WX0 ft) (tG C (Rp C) WX0 fe) vs σ H Q := by
  obtain ⟨G, δ, η, a, fin⟩ := h
  refine ⟨G, δ, η, a, ?_⟩
  unfold fLc at fin
  cases hf : fi δ η with
  | exc c ns l η1 => rw [hf] at fin; exact fin
  | bad => rw [hf] at fin; exact fin
  | ok ds η1 =>
    rw [hf, bind_ok] at fin
    intro J G1 H1 x1 r1 it D hD
    have a1 := a.next x1 r1
    have noD : ∀ (i : Nat) (l : L), (wipeD δ vs)[i]? = some (some l) → l.owns = true → (wipe σ vs)[i]? ≠ some (some (V.ref D)) := fun i l h1 h2 h3 => by
      obtain ⟨v, e1, e2⟩ := (wipe_at vs a1).sl i l h1
      rw [h3] at e1
      cases e1
      cases e2 with
      | val _ => cases h2
      | own m e z r => rw [hD] at e; cases e
      | oins m e n r => rw [hD] at e; cases e
    -- what remains to be made
    have E1 : ∀ {c d H'}, (fun (c : Value) (d : Option Addr) (H' : Hp) => W c d σ H') c d H' → (fun (c : Value) (d : Option Addr) (H' : Hp) => W c d σ H') c d H' := fun z => z
    refine ⟨fun i m H2 => m = ds.length - i ∧ i ≤ ds.length ∧ ∃ G2 η2 acc avs, At C G2 H2 (wipeD δ vs) (wipe σ vs) η2 ∧ Nx G1 H1 G2 H2 ∧ G2.M D ∧ D ∉ G2.ads ∧ Stab G1 H1 G2 H2 ∧ H2 D = some (.lst avs) ∧ Rps C G2 H2 acc avs ∧ acc.length ≤ i ∧
        FinN C (fun c d H' => W c d σ H') G H ((compF t ft fe (wipeD δ vs) (ds.drop i) η2).bind fun l η => .ok (acc ++ l) η) Q, ?_, ?_⟩
    · refine ⟨ds.length, by simp, Nat.zero_le _, G1.add D, η1, [], [], (wipe_at vs a1).next (Nx.add hD) (a1.he.add hD), Nx.add hD, .inr rfl, fun hm => a1.he.mh D (a1.he.adsM hm) hD, Stab.add hD, upd_same, .nil, Nat.le_refl _, ?_⟩
      have e : (compF t ft fe (wipeD δ vs) (ds.drop 0) η1).bind (fun l η => R.ok ([] ++ l) η) = compF t ft fe (wipeD δ vs) ds η1 := by
        rw [List.drop_zero]
        cases compF t ft fe (wipeD δ vs) ds η1 <;> rfl
      rw [e]
      exact fin
    · rintro i m H2 ⟨rfl, hi, G2, η2, acc, avs, a2, x2, mD, nD, s2, hL, rA, lA, fin2⟩
      obtain ⟨i1, i2⟩ := it.2 G2 H2 s2 a2.he.mh
      by_cases hlt : i < ds.length
      · refine .inr ?_
        obtain ⟨j1, j2⟩ := i2 i ds[i] (by simp [hlt])
        refine ⟨j1, fun H2 => ∃ G2 η2 acc avs, At C G2 H2 (wipeD δ vs) (wipe σ vs) η2 ∧ Nx G1 H1 G2 H2 ∧ G2.M D ∧ D ∉ G2.ads ∧ Stab G1 H1 G2 H2 ∧ H2 D = some (.lst avs) ∧ Rps C G2 H2 acc avs ∧ acc.length ≤ i + 1 ∧
            FinN C (fun c d H' => W c d σ H') G H ((compF t ft fe (wipeD δ vs) (ds.drop (i + 1)) η2).bind fun l η => .ok (acc ++ l) η) Q, fun H' z => ⟨ds.length - (i + 1), by omega, rfl, hlt, z⟩, fun x H3 y => ?_⟩
        obtain ⟨k1, k2⟩ := j2 x H3 y
        have nx3 : Nx G2 H2 G2 H3 := Nx.ext k1
        have a3 := a2.next nx3 (a2.he.ext k1)
        have hL3 := k1 _ _ hL
        have rA3 := rA.stab (nx3.stab a2.he)
        have s3 := s2.trans (nx3.stab a2.he)
        have x3 := x2.trans nx3
        rw [List.drop_eq_getElem_cons hlt, compF] at fin2
        cases q : asg t ds[i] (wipeD δ vs) with
        | none => rw [q] at fin2; exact fin2.elim
        | some δ3 =>
          rw [q] at fin2
          dsimp only at fin2
          refine gV_ok hK t _ x G2 H3 _ δ3 _ η2 _ q k2 fun σ3 _ b3 c3 => ⟨wipe_same (c3.mono hvs), ?_⟩
          have a4 := b3 a3
          -- back from the turn's slots
          have back : ∀ {G' H' η'}, Nx G2 H3 G' H' → Rh C G' H' η' → At C G' H' (wipeD δ vs) (wipe σ vs) η' := fun x r => a3.next x r
          refine ⟨G2, δ3, η2, a4, ?_⟩
          cases ht : ft δ3 η2 with
          | exc c ns l η4 => rw [ht] at fin2; exact fin2.elim
          | bad => rw [ht] at fin2; exact fin2.elim
          | ok bb η4 =>
            rw [ht, nox_ok, bind_ok] at fin2
            intro b' G4 H4 x4 r4 eb
            have eb : bb = b' := eb
            subst eb
            have mD4 := (x4.mu _ _ hL3).mpr mD
            have nD4 : D ∉ G4.ads := fun z => (x4.new D z).elim nD fun z => by rw [hL3] at z; cases z
            have hL4 := x4.keep _ _ hL3 nD
            have st4 := x4.stab a3.he
            cases bb with
            | false =>
              rw [if_neg Bool.false_ne_true] at fin2 ⊢
              exact ⟨G4, η4, acc, avs, back x4 r4, x3.trans x4, mD4, nD4, s3.trans st4, hL4, rA3.stab st4, by omega, fin2⟩
            | true =>
              rw [if_pos rfl] at fin2 ⊢
              refine ⟨G4, δ3, η4, a4.next x4 r4, ?_⟩
              cases he : fe δ3 η4 with
              | exc c ns l η5 => rw [he] at fin2; exact fin2.elim
              | bad => rw [he] at fin2; exact fin2.elim
              | ok yd η5 =>
                rw [he, nox_ok, bind_ok] at fin2
                intro yv G5 H5 x5 r5 ry
                have x45 := x4.trans x5
                have mD5 := (x45.mu _ _ hL3).mpr mD
                have nD5 : D ∉ G5.ads := fun z => (x45.new D z).elim nD fun z => by rw [hL3] at z; cases z
                have hL5 := x45.keep _ _ hL3 nD
                have st5 := x45.stab a3.he
                have a5 := back x45 r5
                have up : Stab G5 H5 G5 (upd H5 D (.lst (avs ++ [yv]))) := ⟨fun _ _ h => h, fun b o h m => ⟨by rw [upd_ne (fun e => m (by rw [e]; exact mD5))]; exact h, m⟩⟩
                refine ⟨avs, hL5, ?_, G5, η5, acc ++ [yd], avs ++ [yv], ?_, ?_, mD5, nD5, (s3.trans st5).trans up, upd_same, ((rA3.stab st5).append (.cons ry .nil)).stab up, by rw [List.length_append, List.length_singleton]; omega, ?_⟩
                · have := rA.length
                  have := it.1
                  omega
                · exact a5.temp noD mD5 nD5
                · exact (x3.trans x45).temp hD
                · have e : ((compF t ft fe (wipeD δ vs) (ds.drop (i + 1)) η5).bind fun ys η => R.ok (yd :: ys) η).bind (fun l η => R.ok (acc ++ l) η) = (compF t ft fe (wipeD δ vs) (ds.drop (i + 1)) η5).bind (fun l η => R.ok ((acc ++ [yd]) ++ l) η) := by
                    cases compF t ft fe (wipeD δ vs) (ds.drop (i + 1)) η5 <;> simp [R.bind]
                  rw [e] at fin2
                  exact fin2
      · have e : i = ds.length := by omega
        subst e
        refine .inl ⟨i1, ?_⟩
        rw [List.drop_length, compF, bind_ok, List.append_nil] at fin2
        have hz : acc.length ≤ sizeLine := Nat.le_trans lA it.1
        have r := fin2 D avs (G2.sub D) (out H2 D) ((x1.trans x2).out (x1.there D hD) mD) (a2.he.out mD nD) (rA.stab (Stab.out mD)) hz out_same
        rw [out_upd hL] at r
        exact r
variable {elt iter : Expr} {ifs : List Expr} {scope : Scope} {own : List (Str × Nat)} {pos' : Pos} {fi : F (List D)} {t : Tg} {ft : F Bool} {felt : F D}
theorem fn_lc (own : List (Str × Nat)) (hK : X.K = C.K) (hc : X.calm = true) (hN : X.N.Nodup) (hi : FI C W X tg iter fi) (ok : BlkOk X.N X.env.scope scope own)
    (hg : ∀ (s : Shared) (H : Hp) (C : Addr) (cl : List (Str × Addr)) (fp : List Addr), FG (X.blk s H scope (compEnvC scope cl C X.env) fp) tg t) (ht : ∀ (s : Shared) (H : Hp) (A : Addr) (cl : List (Str × Addr)) (fp : List Addr), FTs C (X.blk s H scope (compEnvC scope cl A X.env) fp) ifs ft)
    (he : ∀ (s : Shared) (H : Hp) (A : Addr) (cl : List (Str × Addr)) (fp : List Addr), FE C WX0 (X.blk s H scope (compEnvC scope cl A X.env) fp) elt felt) (hvs : ∀ i ∈ t.sl, i ∈ own.map (·.2) := by decide) (hs : ∀ x, foldedSetIterable iter X.env x = pure x := by intro _; rfl) :
    FN C W X (.ListComp elt [⟨tg, iter, ifs, 0⟩] scope pos) (fLc (own.map (·.2)) fi t ft felt) := PE.imp (pe_lc hc hN hi ok hg ht he hs) fun _ _ _ h => lc_of hK hvs h
/-- name = [..] on one line, the name a local: the value will not change, or it is the frame's own -/
theorem ps_lcN {i : Nat} {y : Str} {py spos : Pos} (own : List (Str × Nat)) (hK : X.K = C.K) (hc : X.calm = true) (hN : X.N.Nodup) (hy : X.N[i]? = some y) (hyl : X.env.scope.names.lookup y = some .local)
    (hsw : swapsWith (.ListComp elt [⟨tg, iter, ifs, 0⟩] scope pos) (some (.Name y py)) spos.line X.env = pure true) (hi : FI C W X tg iter fi) (ok : BlkOk X.N X.env.scope scope own)
    (hg : ∀ (s : Shared) (H : Hp) (C : Addr) (cl : List (Str × Addr)) (fp : List Addr), FG (X.blk s H scope (compEnvC scope cl C X.env) fp) tg t) (ht : ∀ (s : Shared) (H : Hp) (A : Addr) (cl : List (Str × Addr)) (fp : List Addr), FTs C (X.blk s H scope (compEnvC scope cl A X.env) fp) ifs ft)
    (he : ∀ (s : Shared) (H : Hp) (A : Addr) (cl : List (Str × Addr)) (fp : List Addr), FE C WX0 (X.blk s H scope (compEnvC scope cl A X.env) fp) elt felt) (hvs : ∀ i ∈ t.sl, i ∈ own.map (·.2) := by decide) (hs : ∀ x, foldedSetIterable iter X.env x = pure x := by intro _; rfl) :
    PS X (.Assign [.Name y py] (.ListComp elt [⟨tg, iter, ifs, 0⟩] scope pos) spos) (tAsg (tN C W (fLc (own.map (·.2)) fi t ft felt)) (gName i)) :=
  PS.imp (ps_setLc hc hN hy hyl hsw hi ok hg ht he hs) fun _ _ _ h => lc_of hK hvs h
/-- name = a new list that will not change -/
def sFrz (i : Nat) (f : F (List D)) : S := fun δ η => (f δ η).toS δ fun l η => .nx (δ.set i (some (.val (.lst l)))) η
theorem fs_frz {i : Nat} {st : Stmt} (h : PS X st (tAsg (tN C W fn) (gName i))) : FS C W X st (sFrz i fn) := PS.imp h fun Dn σ H ⟨B, G, δ, η, h, fin⟩ => by
  refine ⟨G, δ, η, h.a, ?_⟩
  unfold sFrz at fin
  cases hf : fn δ η with
  | ok l η1 =>
    rw [hf] at fin
    exact fun p vs G1 H1 x r q hz hp => fin _ _ _ (((h.next x r).next (Nx.alloc hp) (r.alloc hp)).setVal (.newLst r hp hz q))
  | exc c ns l η1 => rw [hf] at fin; exact fun b vs G1 H1 x r q1 q2 => fin b vs G1 H1 σ (h.next x r) q1 q2
  | bad => rw [hf] at fin; exact fin

/-! ### a def's promise, its call, its body -/
abbrev DF := List D → List O → R D
def spD (C : Ct) (n : Nat) (f : DF) : Sp := fun vs H Q _ => vs.length = n ∧ ∃ G ds η, Rps C G H ds vs ∧ Rh C G H η ∧ FinR C (Rp C) E0 G H (f ds η) Q
def spX (C : Ct) (n : Nat) (f : DF) : Sp := fun vs H Q E => vs.length = n ∧ ∃ G ds η, Rps C G H ds vs ∧ Rh C G H η ∧ FinR C (Rp C) E G H (f ds η) Q
def runD (N : Nat) (fb : S) : DF := fun ds η => match fb (ds.map (fun d => some (.val d)) ++ List.replicate (N - ds.length) none) η with
  | .nx _ η => .ok .non η
  | .rt d η => .ok d η
  | .exc c ns l _ η => .exc c ns l η
  | _ => .bad
theorem start_at {N : List Str} {G : Gh} {H : Hp} {ds : List D} {vs : List V} {η : List O} (r : Rps C G H ds vs) (h : Rh C G H η) : At C G H (ds.map (fun d => some (.val d)) ++ List.replicate (N.length - ds.length) none) (L2.start N vs) η := by
  have hl := r.length
  have get : ∀ {i : Nat} {l : L}, (ds.map (fun d => some (L.val d)) ++ List.replicate (N.length - ds.length) none)[i]? = some (some l) → ∃ d, ds[i]? = some d ∧ l = .val d := fun {i l} e => by
    by_cases hi : i < ds.length
    · rw [List.getElem?_append_left (by simpa using hi), List.getElem?_map] at e
      cases q : ds[i]? with
      | none => rw [q] at e; cases e
      | some d => rw [q] at e; cases e; exact ⟨d, rfl, rfl⟩
    · rw [List.getElem?_append_right (by simpa using hi), List.getElem?_replicate] at e
      split at e <;> cases e
  refine ⟨by unfold L2.start; simp [hl], fun i l e => ?_, fun i j l l' v hne e1 e2 o1 o2 _ _ => ?_, fun i l a e o => ?_, h⟩
  · obtain ⟨d, q, rfl⟩ := get e
    obtain ⟨v, q1, q2⟩ := r.get q
    refine ⟨v, ?_, .val q2⟩
    have hi := (List.getElem?_eq_some_iff.mp q1).1
    unfold L2.start
    rw [List.getElem?_append_left (by simpa using hi), List.getElem?_map, q1]
    rfl
  · obtain ⟨d, q, rfl⟩ := get e1
    cases o1
  · obtain ⟨d, q, rfl⟩ := get e
    cases o
section
variable {P : Program} {w : World} {K : PySem.W.Frag} {mg : Str → Option Value} {base : Heap}
/-- THE RULE for a def that lets no exception out -/
theorem ok_def {x qual : Str} {st : Stmt} {f : Addr} {fd : FuncData} {N ps : List Str} {k n np : Nat} {fb : S} (F : Fun K x qual st f fd) (S : FnScope N ps (defScope st)) (hC : K = C.K) (hn : N.length = n) (hnp : ps.length = np)
    (hbody : ∀ (cdv : Value) (A : Around) (outer : List Env) (s : Shared) (H : Hp), Room k (A.deeper (envOfC qual (defScope st) s.heap.objs.size f cdv)) →
      FSs C WX0 (cxOf CX0 P w K mg base N qual (defScope st) f cdv A outer s H E0).nox (defBody st) fb) : FnOk P w K mg base CX0 (k + 1) f fd ps (spD C np (runD n fb)) := by
  subst hn hnp
  refine F.ok S (fun vs H Q E h => h.1) (fun cdv A outer s H vs Q E hr h => ?_)
  obtain ⟨hl, G, ds, η, r, rh, fin⟩ := h
  have hd : ds.length = ps.length := r.length.trans hl
  refine ⟨_, hbody cdv A outer s H hr, ⟨G, H, G, H⟩, G, _, η, ⟨start_at r rh, fun i l a e o => ?_, Nx.refl, Stab.refl⟩, ?_⟩
  · exfalso
    by_cases hi : i < ds.length
    · rw [List.getElem?_append_left (by simpa using hi), List.getElem?_map] at e
      cases q : ds[i]? with
      | none => rw [q] at e; cases e
      | some d => rw [q] at e; cases e; cases o
    · rw [List.getElem?_append_right (by simpa using hi), List.getElem?_replicate] at e
      split at e <;> cases e
  · unfold runD at fin
    split at fin
    · rename_i δ' η' q
      rw [q]
      exact fun G' H' σ' h => fin _ G' H' h.n h.a.he .non
    · rename_i d η' q
      rw [q]
      exact fun v G' H' nx rh r => fin v G' H' nx rh r
    · rename_i c ns l δ' η' q
      rw [q]
      exact fun x vs G' H' σ' h q1 q2 => fin x vs G' H' h.n h.a.he q1 q2
    · exact fin.elim
end
/-- the arguments are as many as the parameters -/
def arg (n : Nat) (f : DF) : DF := fun ds η => if ds.length = n then f ds η else .bad
def fCall (n : Nat) (f : DF) (fa : F (List D)) : F D := fun δ η => (fa δ η).bind fun ds η => (arg n f ds η).nox
theorem FinR.nox {α β : Type} {Rel : Gh → Hp → α → β → Prop} {E E' : XK} {G : Gh} {H : Hp} {r : R α} {Q : β → Hp → Prop} (h : FinR C Rel E G H r.nox Q) : FinR C Rel E' G H r Q := by
  cases r with
  | ok d η => exact h
  | exc c ns l η => exact h.elim
  | bad => exact h
variable {P : Program} {CX : CXT} {k n : Nat} {f A : Addr} {fd : FuncData} {ps : List Str} {df : DF} {x : Str} {p : Pos}
/-- a call f(e, ..) of a def that lets nothing out -/
theorem fe_call (F : FnOk X.prog X.w X.K X.mg X.base CX0 k f fd ps (spD C n df)) (hr : Room k X.A) (hm : X.mg x = some (.ref f)) (hk : PySem.W.keepIn X.K (.ref f) = true) (hb : Binds X.K fd ps [])
    (ha : FA C W X (e :: es) fs) (hg : Gl X x := by rfl) (hdb : (x == ("__debug__" : Str)) = false := by decide) (he : starEach (e :: es) X.env = (false, eval e X.env) :: starEach es X.env := by rfl) (hpl : (backTo pos (starEach es X.env)).any (·.1) = false := by rfl) :
    FE C W X (.Call (.Name x p) (e :: es) [] pos) (fCall n df fs) := by
  refine PE.imp (pe_call (E := E0) F hr hg hm hk hb .nil pass0 ha hdb he hpl) fun σ H Q ⟨G, δ, η, a, fin⟩ => ?_
  refine tG.bind (Rel2 := Rp C) a fin fun ds vs G1 H1 η1 a1 x1 r1 fin1 => ?_
  unfold arg at fin1
  split at fin1
  · rename_i hn
    rw [List.append_nil]
    exact ⟨by rw [← r1.length]; exact hn, G1, ds, η1, r1, a1.he, fin1.nox⟩
  · exact fin1.elim
end
end DL
namespace DL
open PySem L2
open PyProof.Rows (envOfC)
section
variable {X : Cx} {C : Ct} {W : WX} {pos p2 : Pos} {e a b : Expr} {es : List Expr} {fe fa fb : F D} {fs fn : F (List D)} {tg : Expr}
/-! ### isinstance with built-in classes -/
def tyN : D → Option String
  | .non => some "NoneType"
  | .bl _ => some "bool"
  | .int _ => some "int"
  | .str _ => some "str"
  | .lst _ => some "list"
  | .tup _ => some "tuple"
  | _ => none
theorem tyX {G : Gh} {H : Hp} {d : D} {v : V} {t : String} (r : Rp C G H d v) (h : tyN d = some t) : TyX C.K H v (.type t) := by
  cases r with
  | non => cases h; exact .base .non
  | bl b => cases h; exact .base (.bl b)
  | int i => cases h; exact .base (.int i)
  | str z _ => cases h; exact .base (.str z)
  | lst h1 _ _ =>
    cases h
    rcases h1 with ⟨h1 | ⟨o, h1⟩, _⟩ | h1 | ⟨o, its, n, h1, h2, _⟩
    · exact .base (.lst h1)
    · exact .base (.frz h1)
    · exact (noRd h1).elim
    · exact .kList h1 h2
  | tup h1 _ _ =>
    cases h
    rcases h1 with ⟨h1 | ⟨o, h1⟩, _⟩ | h1 | ⟨o, its, n, h1, h2, _⟩
    · exact .base (.tup h1)
    · exact .fTuple h1
    · exact (noRd h1).elim
    · exact .kTuple h1 h2
  | ins _ _ _ _ => cases h
  | exn _ _ _ _ => cases h
  | obj _ => cases h
def isD (T : String) (d : D) : Option D := match tyN d with
  | some t => (kitB t T).map .bl
  | none => none
def isD2 (T T2 : String) (d : D) : Option D := match tyN d with
  | some t => match kitB t T, kitB t T2 with
    | some a, some b => some (.bl (a || b))
    | _, _ => none
  | none => none
theorem fe_is {p q : Pos} {T : Str} {TS : String} (hK : X.K = C.K) (hm : X.mg "isinstance" = none) (hmT : X.mg T = none) (ha : FE C W X e fe) (hg : Gl X "isinstance" := by rfl) (hgT : Gl X T := by rfl) (hvT : bootBuiltins T = some (.type TS) := by decide +kernel)
    (hn : T ≠ "__name__" := by decide) (hdb : (T == ("__debug__" : Str)) = false := by decide)
    (hs : starEach [e, .Name T q] X.env = (false, eval e X.env) :: starEach [.Name T q] X.env := by rfl) (hpl : (backTo pos (starEach [.Name T q] X.env)).any (·.1) = false := by rfl)
    (hs2 : starEach [.Name T q] X.env = (false, eval (.Name T q) X.env) :: starEach [] X.env := by rfl) : FE C W X (.Call (.Name "isinstance" p) [e, .Name T q] [] pos) (fCall1 (isD TS) fe) := by
  refine PE.imp (pe_callB call_isi hg hm (by decide +kernel) (pa_cons ha (pa_cons (pe_bltn (v := .ty TS) hgT hmT hvT rfl hn hdb) pa_nil hs2) hs) (by decide) (by decide) hs hpl) fun σ H Q ⟨G, δ, η, at0, fin⟩ => ?_
  refine tG.bind (Rel2 := Rp C) at0 fin fun d v G1 H1 η1 a1 x1 r1 fin1 => ?_
  unfold isD at fin1
  split at fin1
  · rename_i t ht
    cases hk : kitB t TS with
    | none => rw [hk] at fin1; exact fin1.elim
    | some b =>
      rw [hk] at fin1
      have ty := tyX r1 ht
      rw [← hK] at ty
      exact ⟨v, .ty TS, _, _, b, rfl, .ty TS, ty, kit_ty hk, fin1 _ G1 H1 Nx.refl a1.he (.bl b)⟩
  · exact fin1.elim
theorem fe_is2 {p q q2 tp : Pos} {kk : Nat} {T T2 : Str} {TS TS2 : String} (hK : X.K = C.K) (hm : X.mg "isinstance" = none) (hmT : X.mg T = none) (hmT2 : X.mg T2 = none) (ha : FE C W X e fe) (hg : Gl X "isinstance" := by rfl) (hgT : Gl X T := by rfl) (hgT2 : Gl X T2 := by rfl) (hvT : bootBuiltins T = some (.type TS) := by decide +kernel) (hvT2 : bootBuiltins T2 = some (.type TS2) := by decide +kernel)
    (hn : T ≠ "__name__" := by decide) (hdb : (T == ("__debug__" : Str)) = false := by decide) (hn2 : T2 ≠ "__name__" := by decide) (hdb2 : (T2 == ("__debug__" : Str)) = false := by decide)
    (hs : starEach [e, .Tuple [.Name T q, .Name T2 q2] kk tp] X.env = (false, eval e X.env) :: starEach [.Tuple [.Name T q, .Name T2 q2] kk tp] X.env := by rfl) (hpl : (backTo pos (starEach [.Tuple [.Name T q, .Name T2 q2] kk tp] X.env)).any (·.1) = false := by rfl)
    (hs2 : starEach [.Tuple [.Name T q, .Name T2 q2] kk tp] X.env = (false, eval (.Tuple [.Name T q, .Name T2 q2] kk tp) X.env) :: starEach [] X.env := by rfl)
    (hs3 : starEach [.Name T q, .Name T2 q2] X.env = (false, eval (.Name T q) X.env) :: starEach [.Name T2 q2] X.env := by rfl) (hs4 : starEach [.Name T2 q2] X.env = (false, eval (.Name T2 q2) X.env) :: starEach [] X.env := by rfl) :
    FE C W X (.Call (.Name "isinstance" p) [e, .Tuple [.Name T q, .Name T2 q2] kk tp] [] pos) (fCall1 (isD2 TS TS2) fe) := by
  refine PE.imp (pe_callB call_isiT hg hm (by decide +kernel) (pa_cons ha (pa_cons (pe_tup (pa_cons (pe_bltn (v := .ty TS) hgT hmT hvT rfl hn hdb) (pa_cons (pe_bltn (v := .ty TS2) hgT2 hmT2 hvT2 rfl hn2 hdb2) pa_nil hs4) hs3)) pa_nil hs2) hs) (by decide) (by decide) hs hpl) fun σ H Q ⟨G, δ, η, at0, fin⟩ => ?_
  refine tG.bind (Rel2 := Rp C) at0 fin fun d v G1 H1 η1 a1 x1 r1 fin1 => ?_
  refine ⟨by rw [sizeLine_eq]; simp, fun tpl htp => ?_⟩
  unfold isD2 at fin1
  split at fin1
  · rename_i t ht
    split at fin1
    · rename_i ka kb hka hkb
      have ty := tyX (r1.stab ((Nx.alloc (o := .tup [.ty TS, .ty TS2]) htp).stab a1.he)) ht
      rw [← hK] at ty
      refine ⟨v, tpl, _, _, _, ka || kb, rfl, upd_same, .cons (.ty TS) (.cons (.ty TS2) .nil), ty, ?_, fin1 _ G1 _ (Nx.alloc htp) (a1.he.alloc htp) (.bl _)⟩
      refine kitAny_cons (kit_ty hka) (fun h => kitAny_cons (kit_ty hkb) (fun h2 => ?_) fun h2 => ?_) fun h => ?_
      · rw [h, h2]; exact kitAny_nil
      · rw [h2]; simp
      · rw [h]; rfl
    · exact fin1.elim
  · exact fin1.elim
end
end DL
namespace DL
open PySem L2
/-! ### data as the library knows it -/
mutual
def toPy : D → PyData
  | .non => .none
  | .bl b => .bool b
  | .int i => .int i
  | .str x => .str x
  | .lst l => .list (toPys l)
  | .tup l => .tuple (toPys l)
  | .ins _ _ _ => .none
  | .obj _ => .none
  | .exn _ _ _ => .none
def toPys : List D → List PyData
  | [] => []
  | d :: l => toPy d :: toPys l
end
mutual
/-- data alone: no instances; at most n deep -/
def pureD : Nat → D → Bool
  | _, .non => true
  | _, .bl _ => true
  | _, .int _ => true
  | _, .str _ => true
  | 0, .lst _ => false
  | 0, .tup _ => false
  | n + 1, .lst l => pureDs n l
  | n + 1, .tup l => pureDs n l
  | _, .ins _ _ _ => false
  | _, .obj _ => false
  | _, .exn _ _ _ => false
def pureDs : Nat → List D → Bool
  | _, [] => true
  | n, d :: l => pureD n d && pureDs n l
end
section
variable {C : Ct} {G : Gh} {H : Hp}
mutual
theorem dp_of {K : PySem.W.Frag} (hK : K = C.K) : ∀ {n : Nat} {d : D} {v : V}, Rp C G H d v → pureD n d = true → Dp K H v (toPy d) ∧ (toPy d).canLay0 = true ∧ (toPy d).depth ≤ n
  | n, _, _, .non, _ => by
    rw [toPy]; exact ⟨.non, rfl, Nat.zero_le _⟩
  | n, _, _, .bl b, _ => by rw [toPy]; exact ⟨.bl b, rfl, Nat.zero_le _⟩
  | n, _, _, .int i, _ => by rw [toPy]; exact ⟨.int i, rfl, Nat.zero_le _⟩
  | n, _, _, .str x h, _ => by rw [toPy]; exact ⟨.str x, by simpa [PyData.canLay0] using h, Nat.zero_le _⟩
  | 0, _, _, .lst h z r, p => by simp [pureD] at p
  | 0, _, _, .tup h z r, p => by simp [pureD] at p
  | n + 1, _, _, .lst h z r, p => by
    rw [pureD] at p
    obtain ⟨h1, h2, h3⟩ := dps_of hK r p
    rw [toPy]
    refine ⟨.lst (by rw [hK]; exact h.sq) h1, by simpa [PyData.canLay0] using h2, ?_⟩
    simp only [PyData.depth]
    omega
  | n + 1, _, _, .tup h z r, p => by
    rw [pureD] at p
    obtain ⟨h1, h2, h3⟩ := dps_of hK r p
    rw [toPy]
    refine ⟨.tup (by rw [hK]; exact h.sq) h1, by simpa [PyData.canLay0] using h2, ?_⟩
    simp only [PyData.depth]
    omega
  | n, _, _, .ins _ _ _ _, p => by cases n <;> simp [pureD] at p
  | n, _, _, .obj _, p => by cases n <;> simp [pureD] at p
  | n, _, _, .exn _ _ _ _, p => by cases n <;> simp [pureD] at p
theorem dps_of {K : PySem.W.Frag} (hK : K = C.K) : ∀ {n : Nat} {l : List D} {vs : List V}, Rps C G H l vs → pureDs n l = true → DpAll K H vs (toPys l) ∧ PyData.canLayAll0 (toPys l) = true ∧ PyData.depthAll (toPys l) ≤ n
  | n, _, _, .nil, _ => by rw [toPys]; exact ⟨.nil, rfl, Nat.zero_le _⟩
  | n, _, _, .cons r q, p => by
    rw [pureDs, Bool.and_eq_true] at p
    obtain ⟨h1, h2, h3⟩ := dp_of hK r p.1
    obtain ⟨g1, g2, g3⟩ := dps_of hK q p.2
    rw [toPys]
    refine ⟨.cons h1 g1, by simp [PyData.canLayAll0, h2, g2], ?_⟩
    simp only [PyData.depthAll]
    omega
end
theorem dp_u {K : PySem.W.Frag} (hK : K = C.K) {n : Nat} {d : D} {v : V} (r : Rpu C G H d v) (p : pureD n d = true) : Dp K H v (toPy d) ∧ (toPy d).canLay0 = true ∧ (toPy d).depth ≤ n := by
  rcases r with r | ⟨a, vs, l, rfl, rfl, h, r, _⟩
  · exact dp_of hK r p
  · cases n with
    | zero => simp [pureD] at p
    | succ n =>
      rw [pureD] at p
      obtain ⟨h1, h2, h3⟩ := dps_of hK r p
      rw [toPy]
      refine ⟨.lst (SqL.of h) h1, by simpa [PyData.canLay0] using h2, ?_⟩
      simp only [PyData.depth]
      omega
end
def eqvD (d e : D) : Bool := PyData.eqv (toPy d) (toPy e)
def okq (d : D) : Bool := pureD 20 d
def eqD (d e : D) : Option D := if okq d = true ∧ okq e = true then some (.bl (eqvD d e)) else none
def neD (d e : D) : Option D := if okq d = true ∧ okq e = true then some (.bl (!eqvD d e)) else none
section
variable {X : Cx} {C : Ct} {W : WX} {pos p2 : Pos} {e a b : Expr} {es : List Expr} {fe fa fb : F D} {fs fn : F (List D)} {tg : Expr}
theorem shaped_of {d : PyData} (h : d.canLay0 = true) (z : d.depth ≤ 20) : SeqAt.shaped d = true := by
  unfold SeqAt.shaped
  rw [h, Bool.true_and, decide_eq_true_eq]
  omega
theorem o_eq (hK : X.K = C.K) (hu : X.A.units + 64 < cLine) : OpR X (compareOp .Eq) (rD C eqD) := opD (op_eqD hu) fun x y H Q ⟨G, η, d, e, hr, h1, h2, q⟩ => by
  unfold eqD at q
  split at q
  · rename_i h
    obtain ⟨a1, a2, a3⟩ := dp_u hK h1 h.1
    obtain ⟨b1, b2, b3⟩ := dp_u hK h2 h.2
    exact ⟨_, _, a1, b1, shaped_of a2 a3, shaped_of b2 b3, q.same hr (.bl _)⟩
  · exact q.elim
theorem o_ne (hK : X.K = C.K) (hu : X.A.units + 64 < cLine) : OpR X (compareOp .NotEq) (rD C neD) := opD (op_neD hu) fun x y H Q ⟨G, η, d, e, hr, h1, h2, q⟩ => by
  unfold neD at q
  split at q
  · rename_i h
    obtain ⟨a1, a2, a3⟩ := dp_u hK h1 h.1
    obtain ⟨b1, b2, b3⟩ := dp_u hK h2 h.2
    exact ⟨_, _, a1, b1, shaped_of a2 a3, shaped_of b2 b3, q.same hr (.bl _)⟩
  · exact q.elim
/-! ### in -/
open Classical in
/-- what an item's value says of being equal to data e -/
noncomputable def eqTo (h : Heap) (e : PyData) (u : Value) : Bool := if z : ∃ d, (∃ as, Reads h u d as) ∧ d.canLay0 = true then PyData.eqv z.choose e else false
theorem eqTo_of {h : Heap} {e d : PyData} {u : Value} {as : List Addr} (r : Reads h u d as) (c : d.canLay0 = true) : eqTo h e u = PyData.eqv d e := by
  unfold eqTo
  have z : ∃ d, (∃ as, Reads h u d as) ∧ d.canLay0 = true := ⟨d, ⟨as, r⟩, c⟩
  rw [dif_pos z]
  obtain ⟨⟨bs, r2⟩, c2⟩ := z.choose_spec
  rw [SeqAt.Reads.unique _ _ _ _ _ c2 r2 r]
def inL (d : D) (l : List D) : Bool := l.any fun y => eqvD y d
def inD (d e : D) : Option D := match e with
  | .lst l => if okq d = true ∧ pureDs 20 l = true then some (.bl (inL d l)) else none
  | .tup l => if okq d = true ∧ pureDs 20 l = true then some (.bl (inL d l)) else none
  | .str j => match d with
    | .str i => some (.bl (!(Builtin.Str.occurrences j i 0 j.length 1).isEmpty))
    | _ => none
  | _ => none
def notInD (d e : D) : Option D := (inD d e).bind fun r => match r with
  | .bl b => some (.bl (!b))
  | _ => none
theorem items_eq {pins : List (Addr × Obj)} {σ : L2.St} {H : Hp} {s : Shared} {G : Gh} {pd : PyData} {v : Value} {as : List Addr} (hK : X.K = C.K) (hu : X.A.units + 64 < cLine) (I : Inv X pins σ H s) (hv : Reads s.heap v pd as) (cl : pd.canLay0 = true) (dz : pd.depth ≤ 20) :
    ∀ {l : List D} {vs : List V} {us : List Value}, Rps C G H l vs → pureDs 20 l = true → Vals vs us → (∀ w ∈ us, SeqAt.EqAt X.A.in1 s w v (eqTo s.heap pd w)) ∧ us.any (eqTo s.heap pd) = l.any fun y => PyData.eqv (toPy y) pd
  | [], _, _, .nil, _, .nil => ⟨fun w hw => (List.not_mem_nil hw).elim, rfl⟩
  | d :: l, _, _, .cons r q, p, .cons rv rvs => by
    rw [pureDs, Bool.and_eq_true] at p
    obtain ⟨i1, i2⟩ := items_eq hK hu I hv cl dz q p.2 rvs
    obtain ⟨h1, h2, h3⟩ := dp_of hK r p.1
    obtain ⟨bs, h4⟩ := Dp.reads I _ _ _ h1 rv
    have e1 := eqTo_of (e := pd) h4 h2
    refine ⟨fun w hw => ?_, by rw [List.any_cons, List.any_cons, i2, e1]⟩
    rcases List.mem_cons.mp hw with rfl | hw
    · rw [e1]
      refine SeqAt.eqAt_reads _ _ _ _ _ _ _ _ h4 hv h2 cl ?_
      have : X.A.in1.units = X.A.units + 1 := rfl
      omega
    · exact i1 w hw
theorem o_in (hK : X.K = C.K) (hu : X.A.units + 64 < cLine) : OpR X (compareOp .In) (rD C inD) := fun pins s σ H x y v u Q I rx ry ⟨G, η, d, e, hr, h1, h2, q⟩ => by
  unfold inD at q
  split at q
  · split at q
    · rename_i l h
      obtain ⟨a, vs, rfl, hs, hrs⟩ := h2.lst
      rw [← hK] at hs
      cases ry
      obtain ⟨its, rv, pl, hz⟩ := I.list hs
      obtain ⟨a1, a2, a3⟩ := dp_u hK h1 h.1
      obtain ⟨as, hv⟩ := Dp.reads I _ _ _ a1 rx
      obtain ⟨i1, i2⟩ := items_eq hK hu I hv a2 a3 hrs h.2 rv
      refine SeqAt.in_listAt _ pl.isList (fun w hw => i1 w (by simpa using hw)) ⟨.bl (inL d l), H, I, ?_, q.same hr (.bl _)⟩
      show Value.bool _ = Value.bool _
      rw [← Array.any_toList, i2]; rfl
    · exact q.elim
  · split at q
    · rename_i l h
      obtain ⟨a, vs, rfl, hs, hrs⟩ := h2.tup
      rw [← hK] at hs
      cases ry
      obtain ⟨its, rv, pl, hz⟩ := I.tuple hs
      obtain ⟨a1, a2, a3⟩ := dp_u hK h1 h.1
      obtain ⟨as, hv⟩ := Dp.reads I _ _ _ a1 rx
      obtain ⟨i1, i2⟩ := items_eq hK hu I hv a2 a3 hrs h.2 rv
      refine SeqAt.in_tupleAt _ pl (fun w hw => i1 w (by simpa using hw)) ⟨.bl (inL d l), H, I, ?_, q.same hr (.bl _)⟩
      show Value.bool _ = Value.bool _
      rw [← Array.any_toList, i2]; rfl
    · exact q.elim
  · split at q
    · exact op_in_str pins s σ H x y v u Q I rx ry ⟨_, _, h1.str, h2.str, q.same hr (.bl _)⟩
    · exact q.elim
  · exact q.elim
theorem o_notIn (hK : X.K = C.K) (hu : X.A.units + 64 < cLine) : OpR X (compareOp .NotIn) (rD C notInD) := fun pins s σ H x y v u Q I rx ry ⟨G, η, d, e, hr, h1, h2, q⟩ => by
  unfold notInD inD at q
  split at q
  · split at q
    · rename_i l h
      obtain ⟨a, vs, rfl, hs, hrs⟩ := h2.lst
      rw [← hK] at hs
      cases ry
      obtain ⟨its, rv, pl, hz⟩ := I.list hs
      obtain ⟨a1, a2, a3⟩ := dp_u hK h1 h.1
      obtain ⟨as, hv⟩ := Dp.reads I _ _ _ a1 rx
      obtain ⟨i1, i2⟩ := items_eq hK hu I hv a2 a3 hrs h.2 rv
      refine SeqAt.notIn_listAt _ pl.isList (fun w hw => i1 w (by simpa using hw)) ⟨.bl (!inL d l), H, I, ?_, Gives.same (r := .bl (!inL d l)) q hr (.bl _)⟩
      show Value.bool _ = Value.bool _
      rw [← Array.any_toList, i2]; rfl
    · exact q.elim
  · split at q
    · rename_i l h
      obtain ⟨a, vs, rfl, hs, hrs⟩ := h2.tup
      rw [← hK] at hs
      cases ry
      obtain ⟨its, rv, pl, hz⟩ := I.tuple hs
      obtain ⟨a1, a2, a3⟩ := dp_u hK h1 h.1
      obtain ⟨as, hv⟩ := Dp.reads I _ _ _ a1 rx
      obtain ⟨i1, i2⟩ := items_eq hK hu I hv a2 a3 hrs h.2 rv
      refine SeqAt.notIn_tupleAt _ pl (fun w hw => i1 w (by simpa using hw)) ⟨.bl (!inL d l), H, I, ?_, Gives.same (r := .bl (!inL d l)) q hr (.bl _)⟩
      show Value.bool _ = Value.bool _
      rw [← Array.any_toList, i2]; rfl
    · exact q.elim
  · split at q
    · exact op_notin_str pins s σ H x y v u Q I rx ry ⟨_, _, h1.str, h2.str, Gives.same (r := .bl (!_)) q hr (.bl _)⟩
    · exact q.elim
  · exact q.elim
/-! ### any walk over a list, a tuple, a text -/
def walkD : D → Option (List D)
  | .lst l => some l
  | .tup l => some l
  | .str z => if z.length ≤ sizeLine then some (signsD z) else none
  | _ => none
def fiA (fa : F D) : F (List D) := fun δ η => (fa δ η).bind fun d η => lift (walkD d) η
theorem fi_any (hK : X.K = C.K) (he : FE C W X e fe) : FI C W X tg e (fiA fe) := ⟨fun pins s σ H R I ⟨G, δ, η, a, fin⟩ => by
  unfold fiA at fin
  cases hf : fe δ η with
  | bad => rw [hf] at fin; exact fin.elim
  | exc c ns l η1 => exact (fi_lst (tg := tg) hK he).run pins s σ H R I ⟨G, δ, η, a, by unfold fiL; rw [hf] at fin ⊢; exact fin⟩
  | ok d η1 =>
    rw [hf, bind_ok] at fin
    cases d with
    | lst l => exact (fi_lst (tg := tg) hK he).run pins s σ H R I ⟨G, δ, η, a, by unfold fiL; rw [hf]; exact fin⟩
    | tup l => exact (fi_tup (tg := tg) hK he).run pins s σ H R I ⟨G, δ, η, a, by unfold fiT; rw [hf]; exact fin⟩
    | str z => exact (fi_str (tg := tg) he).run pins s σ H R I ⟨G, δ, η, a, by
        unfold fiS
        rw [hf, bind_ok]
        unfold walkD at fin
        dsimp only at fin ⊢
        by_cases hz : z.length ≤ sizeLine
        · rw [if_pos hz] at fin; simp only [hz, if_true]; exact fin
        · rw [if_neg hz] at fin; exact fin.elim⟩
    | _ => exact fin.elim⟩
end
end DL
namespace DL
open PySem L2
section
variable {X : Cx} {C : Ct} {W : WX} {pos p2 : Pos} {e a b : Expr} {es : List Expr} {fe fa fb : F D} {fs fn : F (List D)} {tg : Expr}
/-! ### calls with keywords -/
/-- the values by their places -/
def pick {α : Type} (ix : List Nat) (l : List α) : List α := ix.filterMap fun i => l[i]?
theorem pick_vals {vs : List V} {us : List Value} (r : Vals vs us) : ∀ ix : List Nat, Vals (pick ix vs) (pick ix us)
  | [] => .nil
  | i :: ix => by
    have ih := pick_vals r ix
    unfold pick at ih ⊢
    rw [List.filterMap_cons, List.filterMap_cons]
    cases h : vs[i]? with
    | none => rw [r.none_of h]; exact ih
    | some v =>
      obtain ⟨u, hu, q⟩ := r.get h
      rw [hu]
      exact .cons q ih
theorem pick_rps {G : Gh} {H : Hp} {ds : List D} {vs : List V} (r : Rps C G H ds vs) : ∀ ix : List Nat, Rps C G H (pick ix ds) (pick ix vs)
  | [] => .nil
  | i :: ix => by
    have ih := pick_rps r ix
    unfold pick at ih ⊢
    rw [List.filterMap_cons, List.filterMap_cons]
    cases h : ds[i]? with
    | none =>
      have : vs[i]? = none := List.getElem?_eq_none (by rw [← r.length]; exact List.getElem?_eq_none_iff.mp h)
      rw [this]; exact ih
    | some d =>
      obtain ⟨u, hu, q⟩ := r.get h
      rw [hu]
      exact .cons q ih
abbrev FK (C : Ct) (W : WX) (X : Cx) (kws : List Keyword) (f : F (List D)) : Prop := PK X kws (tG C (Rps C) W f)
theorem PK.imp {X : Cx} {e : List Keyword} {t t' : TA} (h : PK X e t) (i : ∀ σ H Q, t' σ H Q → t σ H Q) : PK X e t' := ⟨fun pos pins s σ H Q I q => h.run pos pins s σ H Q I (i _ _ _ q)⟩
variable {kws : List Keyword} {fk : F (List D)} {nm : Option Str} {kpos : Pos}
theorem fk_nil : FK C W X [] fNil := PK.imp pk_nil fun σ H Q ⟨G, δ, η, a, fin⟩ => fin [] G H Nx.refl a.he .nil
theorem fk_cons (ha : FE C W X e fe) (hr : FK C W X kws fk) : FK C W X (⟨nm, e, kpos⟩ :: kws) (fCons fe fk) := by
  refine PK.imp (pk_cons ha hr) fun σ H Q ⟨G, δ, η, at0, fin⟩ => ?_
  refine tG.bind (Rel2 := Rps C) at0 fin fun d v G1 H1 η1 a1 x1 r1 fin1 => ?_
  refine tG.bind (Rel2 := Rps C) a1 fin1 fun ds vs G2 H2 η2 a2 x2 r2 fin2 => ?_
  exact fin2 _ G2 H2 Nx.refl a2.he (.cons (r1.stab (x2.stab a1.he)) r2)
/-- how keywords bind: the places of the parameters' values in positional ++ keyword values -/
structure KB (K : PySem.W.Frag) (fd : FuncData) (ps : List Str) (n : Nat) (ks : List Str) (ix : List Nat) : Prop where
  to : ∀ (s : Shared) (us ws : List Value), K.In s.heap → us.length = n → ws.length = ks.length → BindsTo s fd ⟨us, ks.zip ws⟩ (ps.zip (pick ix (us ++ ws)))
theorem KB.kbn {K : PySem.W.Frag} {fd : FuncData} {ps ks : List Str} {n : Nat} {ix : List Nat} (h : KB K fd ps n ks ix) : KBn K fd ps n ks (fun us ws => pick ix (us ++ ws)) (fun us ws => pick ix (us ++ ws)) := ⟨h.to, fun r q => pick_vals (r.append q) ix⟩
variable {P : Program} {k n np nk : Nat} {f : Addr} {fd : FuncData} {ps ks : List Str} {df : DF} {x : Str} {p : Pos} {ix : List Nat}
/-- C(..) with keywords and no positional argument -/
theorem pe_callN0 {CX : CXT} {sp : Sp} {E : XK} {tk : TA} {g : List Value → List Value → List Value} {gV : List V → List V → List V} (F : FnOk X.prog X.w X.K X.mg X.base CX k f fd ps sp) (hr : Room k X.A) (hg : Gl X x) (hm : X.mg x = some (.ref f)) (hk : PySem.W.keepIn X.K (.ref f) = true) (hb : KBn X.K fd ps 0 ks g gV) (hx : Passes CX X E) (hkw : PK X kws tk)
    (hall : (backToKw pos (keywordEach kws X.env)).all (·.1.isSome) = true := by rfl) (hks : (backToKw pos (keywordEach kws X.env)).filterMap (·.1) = ks := by rfl) (hdb : (x == ("__debug__" : Str)) = false := by decide)
    (hpl : ((backTo pos (starEach [] X.env)).any (·.1) || (backToKw pos (keywordEach kws X.env)).any (·.1.isNone)) = false := by rfl) :
    PE X (.Call (.Name x p) [] kws pos) (tCallN 0 ks.length sp gV E tNil tk) := by
  refine ⟨fun pins s σ H Q I h => ?_⟩
  refine wpAny_Call_Name_kw (ld_glob I hg hm ?_ hdb)
  refine PySem.W.callWith_KW0 (h₀ := X.base) I.ok.mod.kin hk hall ?_ hpl
  refine thn (hkw.run pos pins s σ H _ I h) fun ws s2 ⟨zs, H2, I2, rz, l1, l2, q2⟩ => ⟨I2.kIn, ?_⟩
  rw [hks]
  exact run_fnN (us := []) F hr hb hx I2 .nil rz rfl l2 q2
def fCallK (np nk n : Nat) (f : DF) (ix : List Nat) (fa fk : F (List D)) : F D := fun δ η => (fa δ η).bind fun ds η => (fk δ η).bind fun es η => if ds.length = np ∧ es.length = nk then (arg n f (pick ix (ds ++ es)) η).nox else .bad
theorem fe_callK (F : FnOk X.prog X.w X.K X.mg X.base CX0 k f fd ps (spD C n df)) (hr : Room k X.A) (hm : X.mg x = some (.ref f)) (hk : PySem.W.keepIn X.K (.ref f) = true) (hb : KB X.K fd ps np ks ix) (hnk : ks.length = nk)
    (ha : FA C W X (e :: es) fs) (hkw : FK C W X kws fk) (hg : Gl X x := by rfl) (hall : (backToKw pos (keywordEach kws X.env)).all (·.1.isSome) = true := by rfl) (hks : (backToKw pos (keywordEach kws X.env)).filterMap (·.1) = ks := by rfl)
    (hdb : (x == ("__debug__" : Str)) = false := by decide) (he : starEach (e :: es) X.env = (false, eval e X.env) :: starEach es X.env := by rfl)
    (hpl : ((backTo pos (starEach (e :: es) X.env)).any (·.1) || (backToKw pos (keywordEach kws X.env)).any (·.1.isNone)) = false := by rfl) :
    FE C W X (.Call (.Name x p) (e :: es) kws pos) (fCallK np nk n df ix fs fk) := by
  subst hnk
  refine PE.imp (pe_callN (E := E0) F hr hg hm hk hb.kbn pass0 ha hkw hall hks hdb he hpl) fun σ H Q ⟨G, δ, η, a, fin⟩ => ?_
  refine tG.bind (Rel2 := Rp C) a fin fun ds vs G1 H1 η1 a1 x1 r1 fin1 => ?_
  refine tG.bind (Rel2 := Rp C) a1 fin1 fun es ws G2 H2 η2 a2 x2 r2 fin2 => ?_
  split at fin2
  · rename_i hz
    have r := pick_rps ((r1.stab (x2.stab a1.he)).append r2) ix
    unfold arg at fin2
    split at fin2
    · rename_i hn
      exact ⟨by rw [← r1.length]; exact hz.1, by rw [← r2.length]; exact hz.2, by rw [← r.length]; exact hn, G2, _, η2, r, a2.he, fin2.nox⟩
    · exact fin2.elim
  · exact fin2.elim
theorem fe_callK0 (F : FnOk X.prog X.w X.K X.mg X.base CX0 k f fd ps (spD C n df)) (hr : Room k X.A) (hm : X.mg x = some (.ref f)) (hk : PySem.W.keepIn X.K (.ref f) = true) (hb : KB X.K fd ps 0 ks ix) (hnk : ks.length = nk)
    (hkw : FK C W X kws fk) (hg : Gl X x := by rfl) (hall : (backToKw pos (keywordEach kws X.env)).all (·.1.isSome) = true := by rfl) (hks : (backToKw pos (keywordEach kws X.env)).filterMap (·.1) = ks := by rfl)
    (hdb : (x == ("__debug__" : Str)) = false := by decide)
    (hpl : ((backTo pos (starEach [] X.env)).any (·.1) || (backToKw pos (keywordEach kws X.env)).any (·.1.isNone)) = false := by rfl) :
    FE C W X (.Call (.Name x p) [] kws pos) (fCallK 0 nk n df ix fNil fk) := by
  subst hnk
  refine PE.imp (pe_callN0 (E := E0) F hr hg hm hk hb.kbn pass0 hkw hall hks hdb hpl) fun σ H Q ⟨G, δ, η, a, fin⟩ => ?_
  unfold fCallK fNil at fin
  rw [bind_ok] at fin
  refine tG.bind (Rel2 := Rp C) a fin fun es ws G2 H2 η2 a2 x2 r2 fin2 => ?_
  split at fin2
  · rename_i hz
    have r := pick_rps r2 ix
    unfold arg at fin2
    split at fin2
    · rename_i hn
      exact ⟨rfl, by rw [← r2.length]; exact hz.2, by simp only [List.nil_append] at hn ⊢; rw [← r.length]; exact hn, G2, _, η2, r, a2.he, fin2.nox⟩
    · exact fin2.elim
  · exact fin2.elim
/-- a call without arguments -/
theorem fe_call0 (F : FnOk X.prog X.w X.K X.mg X.base CX0 k f fd ps (spD C n df)) (hr : Room k X.A) (hm : X.mg x = some (.ref f)) (hk : PySem.W.keepIn X.K (.ref f) = true) (hb : Binds X.K fd ps [])
    (hg : Gl X x := by rfl) (hdb : (x == ("__debug__" : Str)) = false := by decide) : FE C W X (.Call (.Name x p) [] [] pos) (fCall n df fNil) := by
  refine PE.imp (pe_call0 (E := E0) F hr hg hm hk hb .nil pass0 hdb) fun σ H Q ⟨G, δ, η, a, fin⟩ => ?_
  unfold fCall fNil arg at fin
  rw [bind_ok] at fin
  split at fin
  · rename_i hn
    exact ⟨hn, G, [], η, .nil, a.he, fin.nox⟩
  · exact fin.elim
/-! ### a, b = e1, e2 -/
def sPar (i j : Nat) (fa fb : F D) : S := fun δ η => (fa δ η).toS δ fun d η => (fb δ η).toS δ fun e η => .nx ((δ.set i (some (.val d))).set j (some (.val e))) η
theorem fs_par {i j : Nat} {st : Stmt} (h : PS X st (tPar i j (tCons (tG C (Rp C) W fa) (tCons (tG C (Rp C) W fb) tNil)))) : FS C W X st (sPar i j fa fb) := PS.imp h fun Dn σ H ⟨B, G, δ, η, h, fin⟩ => by
  refine tG.bindS h fin fun d v G1 H1 η1 h1 x1 r1 fin1 => ?_
  refine tG.bindS h1 fin1 fun e w G2 H2 η2 h2 x2 r2 fin2 => ?_
  exact ⟨v, w, rfl, fin2 G2 H2 _ ((h2.setVal (r1.stab (x2.stab h1.a.he))).setVal r2)⟩
end
end DL
namespace DL
open PySem L2
section
variable {X : Cx} {C : Ct} {W : WX} {pos p2 : Pos} {e a b : Expr} {es : List Expr} {fe fa fb : F D} {fs fn : F (List D)} {tg : Expr}
/-- name = e -/
def sSet (i : Nat) (f : F D) : S := fun δ η => (f δ η).toS δ fun d η => .nx (δ.set i (some (.val d))) η
theorem fs_set {i : Nat} {st : Stmt} (h : PS X st (tAsg (tG C (Rp C) W fe) (gName i))) : FS C W X st (sSet i fe) := PS.imp h fun Dn σ H ⟨B, G, δ, η, h, fin⟩ =>
  tG.bindS h fin fun d v G1 H1 η1 h1 x1 r1 fin1 => fin1 G1 H1 _ (h1.setVal r1)
def fNeg (fa : F D) : F D := fun δ η => (fa δ η).bind fun d η => match d with
  | .int i => .ok (.int (-i)) η
  | _ => .bad
theorem fe_neg (ha : FE C W X a fa) : FE C W X (.UnaryOp .USub a pos) (fNeg fa) := PE.imp (pe_un un_neg ha) fun σ H Q ⟨G, δ, η, at0, fin⟩ => by
  refine tG.bind (Rel2 := Rp C) at0 fin fun d v G1 H1 η1 a1 x1 r1 fin1 => ?_
  cases r1 with
  | int i => exact ⟨i, rfl, fin1 _ G1 H1 Nx.refl a1.he (.int _)⟩
  | _ => exact fin1.elim
/-! ### a new list as an object of the store -/
def Gh.push (G : Gh) (p : Addr) : Gh := ⟨G.ads ++ [p], fun a => G.M a ∨ a = p⟩
theorem Nx.push {G : Gh} {H : Hp} {p : Addr} {o : HO} (hp : H p = none) : Nx G H (G.push p) (upd H p o) := by
  refine ⟨fun n a h => ?_, fun a u h _ => by rw [upd_ne (ne_of_none h hp)]; exact h, fun a u h => ⟨fun z => z.elim (fun z => z) fun e => ?_, .inl⟩, fun a h => ?_, fun a h => ?_⟩
  · show (G.ads ++ [p])[n]? = some a
    rw [List.getElem?_append_left (List.getElem?_eq_some_iff.mp h).1]; exact h
  · subst e; rw [hp] at h; cases h
  · rcases List.mem_append.mp h with z | z
    · exact .inl z
    · rw [List.mem_singleton] at z; subst z; exact .inr hp
  · by_cases e : a = p
    · subst e; exact hp
    · rw [upd_ne e] at h; exact h
theorem Rh.push {G : Gh} {H : Hp} {η : List O} {p : Addr} {o : HO} {o' : O} (r : Rh C G H η) (hp : H p = none) (q : Ro C (G.push p) (upd H p o) o' p) : Rh C (G.push p) (upd H p o) (η ++ [o']) := by
  have np : p ∉ G.ads := fun hm => r.mh p (r.adsM hm) hp
  have x : Nx G H (G.push p) (upd H p o) := Nx.push hp
  refine ⟨by show (G.ads ++ [p]).length = _; simp [r.len], ?_, fun n u a h1 h2 => ?_, fun a m => ?_⟩
  · show (G.ads ++ [p]).Nodup
    rw [List.nodup_append]
    refine ⟨r.nd, by simp, fun a ha b hb => ?_⟩
    rw [List.mem_singleton] at hb
    subst hb
    exact fun e => np (e ▸ ha)
  · have h2 : (G.ads ++ [p])[n]? = some a := h2
    by_cases hn : n < η.length
    · rw [List.getElem?_append_left hn] at h1
      rw [List.getElem?_append_left (by rw [r.len]; exact hn)] at h2
      obtain ⟨m, z⟩ := r.ob n u a h1 h2
      refine ⟨.inl m, z.stab (x.stab r) fun w hw => ?_⟩
      rw [upd_ne (ne_of_none hw hp)]; exact hw
    · rw [List.getElem?_append_right (by omega)] at h1
      rw [List.getElem?_append_right (by rw [r.len]; omega), r.len] at h2
      have hz : n - η.length = 0 := by
        have := (List.getElem?_eq_some_iff.mp h1).1
        simp at this
        omega
      rw [hz] at h1 h2
      cases h1
      cases h2
      exact ⟨.inr rfl, q⟩
  · rcases m with m | rfl
    · exact fun z => r.mh a m (x.there a z)
    · rw [upd_same]; exact fun z => by cases z
def fNewO (f : F (List D)) : F D := fun δ η => (f δ η).bind fun l η => .ok (.obj η.length) (η ++ [.lst l])
theorem fe_newO (h : FN C W X e fn) : FE C W X e (fNewO fn) := PE.imp h fun σ H Q ⟨G, δ, η, a, fin⟩ => by
  refine ⟨G, δ, η, a, ?_⟩
  unfold fNewO at fin
  cases hf : fn δ η with
  | ok l η1 =>
    rw [hf, bind_ok] at fin
    intro p vs G1 H1 x r q hz hp
    have y : Nx G1 H1 (G1.push p) (upd H1 p (.lst vs)) := Nx.push hp
    refine fin (.ref p) (G1.push p) _ (x.trans y) (r.push hp (.lst upd_same hz (q.stab (y.stab r)))) (.obj ?_)
    show (G1.ads ++ [p])[η1.length]? = some p
    rw [← r.len]; simp
  | exc c ns l η1 => rw [hf] at fin; exact fin
  | bad => rw [hf] at fin; exact fin
/-! ### a def that hands nothing: the bottom of a recursion -/
theorem ok_bot {P : Program} {w : World} {K : PySem.W.Frag} {mg : Str → Option Value} {base : Heap} {f : Addr} {fd : FuncData} {ps : List Str} {k : Nat} : FnOk P w K mg base CX0 k f fd ps (spD C ps.length fun _ _ => .bad) :=
  ⟨fun _ _ _ _ h => h.1, fun _ _ _ _ _ _ _ _ _ _ _ _ _ hs => by obtain ⟨_, _, _, _, _, _, z⟩ := hs; exact z.elim⟩
end
end DL
namespace DL
open PySem L2
/-! ### the built-ins' names -/
theorem bt_len : bootBuiltins "len" = some (.builtin "len") := by decide +kernel
theorem bt_all : bootBuiltins "all" = some (.builtin "all") := by decide +kernel
theorem bt_any : bootBuiltins "any" = some (.builtin "any") := by decide +kernel
theorem bt_isinstance : bootBuiltins "isinstance" = some (.builtin "isinstance") := by decide +kernel
theorem bt_sorted : bootBuiltins "sorted" = some (.builtin "sorted") := by decide +kernel
theorem bt_max : bootBuiltins "max" = some (.builtin "max") := by decide +kernel
theorem bt_min : bootBuiltins "min" = some (.builtin "min") := by decide +kernel
theorem bt_sum : bootBuiltins "sum" = some (.builtin "sum") := by decide +kernel
theorem bt_repr : bootBuiltins "repr" = some (.builtin "repr") := by decide +kernel
theorem bt_abs : bootBuiltins "abs" = some (.builtin "abs") := by decide +kernel
theorem bt_int : bootBuiltins "int" = some (.type "int") := by decide +kernel
theorem bt_list : bootBuiltins "list" = some (.type "list") := by decide +kernel
theorem bt_tuple : bootBuiltins "tuple" = some (.type "tuple") := by decide +kernel
theorem bt_str : bootBuiltins "str" = some (.type "str") := by decide +kernel
theorem bt_bool : bootBuiltins "bool" = some (.type "bool") := by decide +kernel
theorem bt_range : bootBuiltins "range" = some (.type "range") := by decide +kernel
theorem bt_enumerate : bootBuiltins "enumerate" = some (.type "enumerate") := by decide +kernel
theorem bt_zip : bootBuiltins "zip" = some (.type "zip") := by decide +kernel
theorem bt_set : bootBuiltins "set" = some (.type "set") := by decide +kernel
theorem bt_dict : bootBuiltins "dict" = some (.type "dict") := by decide +kernel
/-! ### the law's own start: an empty store, the script -/
theorem rps_ints {C : Ct} {G : Gh} {H : Hp} : ∀ ns : List Int, Rps C G H (ns.map D.int) (ns.map V.int)
  | [] => .nil
  | n :: ns => .cons (.int n) (rps_ints ns)
theorem law_sp {K : PySem.W.Frag} {cl : Nat → Addr} {m : DF} {H : Hp} {a : Addr} {ns : List Int} (t : ∀ ns : List Int, ns.length ≤ 63 → ∃ η, m [.lst (ns.map .int)] [] = .ok (.bl true) η) (hl : ns.length ≤ 63) (ho : Only H) (hS : SqL K H a (ns.map V.int)) :
    spD ⟨K, cl, fun _ => 0, none⟩ 1 m [.ref a] H (fun v _ => v = .bl true) fun _ _ _ => False := by
  obtain ⟨η, e⟩ := t ns hl
  refine ⟨rfl, ⟨[], fun _ => False⟩, [.lst (ns.map .int)], [], .cons (.lst ?_ ?_ (rps_ints ns)) .nil, ⟨rfl, List.nodup_nil, fun n o b h => by simp at h, fun _ h => h.elim⟩, ?_⟩
  · rcases hS with h | h
    · exact .inl ⟨h, fun z => z⟩
    · exact .inr (.inr h)
  · rw [List.length_map, sizeLine_eq]; omega
  · rw [e]
    intro v G' H' _ _ r
    cases r
    rfl
end DL
namespace DL
open PySem L2
/-! ### what is never reached -/
def fBad : F D := fun _ _ => .bad
def sBad : S := fun _ _ => .bad
section
variable {X : Cx} {C : Ct} {W : WX} {pos p2 : Pos} {e a b : Expr} {es : List Expr} {fe fa fb fo : F D} {fs fn fk : F (List D)} {tg : Expr}
theorem fe_bad {e : Expr} : FE C W X e fBad := ⟨fun pins s σ H Q I ⟨G, δ, η, a, fin⟩ => fin.elim⟩
theorem fs_bad {st : Stmt} : FS C W X st sBad := ⟨fun pins s σ H Dn I ⟨B, G, δ, η, h, fin⟩ => fin.elim⟩
/-! ### fields of instances -/
def locB (f : Str) : List Str → Nat → Bool
  | [], _ => false
  | g :: _, 0 => f == g
  | g :: ns, i + 1 => !(f == g) && locB f ns i
theorem loc_lookup {f : Str} : ∀ {ns : List Str} {i : Nat} {vs : List V}, locB f ns i = true → (ns.zip vs).lookup f = vs[i]?
  | [], _, _, h => by cases h
  | g :: ns, i, [], h => by simp
  | g :: ns, 0, v :: vs, h => by
    have h : (f == g) = true := h
    rw [List.zip_cons_cons, List.lookup, h]; rfl
  | g :: ns, i + 1, v :: vs, h => by
    rw [locB, Bool.and_eq_true] at h
    have h1 : (f == g) = false := by simpa using h.1
    rw [List.zip_cons_cons, List.lookup, h1]
    exact loc_lookup h.2
theorem loc_lt {f : Str} : ∀ {ns : List Str} {i : Nat}, locB f ns i = true → i < ns.length
  | [], _, h => by cases h
  | g :: ns, 0, h => Nat.zero_lt_succ _
  | g :: ns, i + 1, h => by
    rw [locB, Bool.and_eq_true] at h
    exact Nat.succ_lt_succ (loc_lt h.2)
theorem not_lookup {f : Str} : ∀ {ns : List Str} {vs : List V}, (ns.all fun g => !(f == g)) = true → (ns.zip vs).lookup f = none
  | [], _, h => by simp
  | g :: ns, [], h => by simp
  | g :: ns, v :: vs, h => by
    rw [List.all_cons, Bool.and_eq_true] at h
    have h1 : (f == g) = false := by simpa using h.1
    rw [List.zip_cons_cons, List.lookup, h1]
    exact not_lookup h.2
theorem put_new {f : Str} {v : V} : ∀ {ns : List Str} {vs : List V}, ns.length = vs.length → (ns.all fun g => !(f == g)) = true → putF f v (ns.zip vs) = (ns ++ [f]).zip (vs ++ [v])
  | [], [], _, _ => rfl
  | g :: ns, w :: vs, hl, h => by
    rw [List.all_cons, Bool.and_eq_true] at h
    have h1 : ¬ g = f := fun e => by subst e; simp at h
    show (if g = f then (g, v) :: ns.zip vs else (g, w) :: putF f v (ns.zip vs)) = _
    rw [if_neg h1, put_new (by simpa using hl) h.2]
    rfl
theorem put_old {f : Str} {v : V} : ∀ {ns : List Str} {vs : List V} {i : Nat}, ns.length = vs.length → locB f ns i = true → putF f v (ns.zip vs) = ns.zip (vs.set i v)
  | g :: ns, w :: vs, 0, hl, h => by
    have h : (f == g) = true := h
    have h1 : g = f := (eq_of_beq h).symm
    show (if g = f then (g, v) :: ns.zip vs else (g, w) :: putF f v (ns.zip vs)) = _
    rw [if_pos h1]
    rfl
  | g :: ns, w :: vs, i + 1, hl, h => by
    rw [locB, Bool.and_eq_true] at h
    have h1 : ¬ g = f := fun e => by subst e; simp at h
    show (if g = f then (g, v) :: ns.zip vs else (g, w) :: putF f v (ns.zip vs)) = _
    rw [if_neg h1, put_old (by simpa using hl) h.2]
    rfl
/-- the object of class c with all its fields NS -/
def insD (η : List O) (c : Nat) (NS : List Str) (d : D) : Option (Nat × List D) := match d with
  | .obj n => match η[n]? with
    | some (.ins c' ns l) => if c' = c ∧ ns = NS then some (n, l) else none
    | _ => none
  | _ => none
theorem insD_at {G : Gh} {H : Hp} {η : List O} {c : Nat} {NS : List Str} {d : D} {n : Nat} {l : List D} {v : V} (h : insD η c NS d = some (n, l)) (r : Rp C G H d v) (rh : Rh C G H η) :
    ∃ p dx vs, v = .ref p ∧ d = .obj n ∧ G.ads[n]? = some p ∧ η[n]? = some (.ins c NS l) ∧ H p = some (.ins (C.cl c) dx (NS.zip vs)) ∧ NS.length = vs.length ∧ Rps C G H l vs := by
  unfold insD at h
  cases d with
  | obj m =>
    dsimp only at h
    cases q : η[m]? with
    | none => rw [q] at h; cases h
    | some o =>
      rw [q] at h
      cases o with
      | lst _ => cases h
      | tbl _ => cases h
      | ins c' ns l' =>
        dsimp only at h
        split at h
        · rename_i hh
          obtain ⟨rfl, rfl⟩ := hh
          cases h
          cases r with
          | @obj _ p ho =>
            obtain ⟨m, z⟩ := rh.ob _ _ _ q ho
            cases z with
            | @ins _ dx _ _ vs _ e hl rs => exact ⟨p, dx, vs, rfl, rfl, ho, q, e, hl, rs⟩
        · cases h
  | _ => cases h
def fFld (c : Nat) (NS : List Str) (i : Nat) (fo : F D) : F D := fun δ η => (fo δ η).bind fun d η => match insD η c NS d with
  | some (_, l) => match l[i]? with
    | some x => .ok x η
    | none => .bad
  | none => .bad
theorem fe_fld {c : Nat} {NS : List Str} {i : Nat} {f : Str} (hK : X.K = C.K) (ho : FE C W X e fo) (hc : Cls X.K (C.cl c)) (hn : NoAttr X.K (C.cl c) f) (hloc : locB f NS i = true)
    (hb : attributeBase e f X.env (eval e X.env) = eval e X.env := by rfl) : FE C W X (.Attribute e f pos) (fFld c NS i fo) := by
  refine PE.imp (pe_fld ho hb) fun σ H Q ⟨G, δ, η, at0, fin⟩ => ?_
  refine tG.bind (Rel2 := Rp C) at0 fin fun d v G1 H1 η1 a1 x1 r1 fin1 => ?_
  cases q : insD η1 c NS d with
  | none => rw [q] at fin1; exact fin1.elim
  | some nl =>
    obtain ⟨n, l⟩ := nl
    rw [q] at fin1
    obtain ⟨p, dx, vs, rfl, rfl, hp, hq, he, hl, rs⟩ := insD_at q r1 a1.he
    dsimp only at fin1
    cases hx : l[i]? with
    | none => rw [hx] at fin1; exact fin1.elim
    | some x =>
      rw [hx] at fin1
      obtain ⟨w, hw, rw_⟩ := rs.get hx
      exact ⟨p, _, dx, _, w, rfl, he, hc, hn, (loc_lookup hloc).trans hw, fin1 _ G1 H1 Nx.refl a1.he rw_⟩
/-- o.f = e, a field more -/
def sFldN (c : Nat) (NS NS' : List Str) (fe fo : F D) : S := fun δ η => (fe δ η).toS δ fun d η => (fo δ η).toS δ fun o η => match insD η c NS o with
  | some (n, l) => .nx δ (η.set n (.ins c NS' (l ++ [d])))
  | none => .bad
theorem sFldUnused : True := trivial
theorem fs_fldN {st : Stmt} {c : Nat} {NS NS' : List Str} {f : Str} (h : PS X st (sFld X.K (tG C (Rp C) W fo) (tG C (Rp C) W fe) f)) (hc : Cls X.K (C.cl c)) (hn : NoAttr X.K (C.cl c) f) (hnot : (NS.all fun g => !(f == g)) = true) (hNS : NS' = NS ++ [f]) (hz : NS.length < 1000) :
    FS C W X st (sFldN c NS NS' fe fo) := PS.imp h fun Dn σ H ⟨B, G, δ, η, h, fin⟩ => by
  refine tG.bindS h fin fun d v G1 H1 η1 h1 x1 r1 fin1 => ?_
  refine tG.bindS h1 fin1 fun o w G2 H2 η2 h2 x2 r2 fin2 => ?_
  cases q : insD η2 c NS o with
  | none => rw [q] at fin2; exact fin2.elim
  | some nl =>
    obtain ⟨n, l⟩ := nl
    rw [q] at fin2
    obtain ⟨p, dx, vs, rfl, rfl, hp, hq, he, hl, rs⟩ := insD_at q r2 h2.a.he
    refine ⟨p, _, dx, _, rfl, he, hc, hn, by rw [List.length_zip, ← hl, Nat.min_self]; exact hz, ?_⟩
    rw [put_new hl hnot, ← hNS]
    have nx : Nx G2 H2 G2 (upd H2 p (.ins (C.cl c) dx (NS'.zip (vs ++ [v])))) := Nx.chObj hp (by rw [he]; exact fun z => by cases z)
    have st := nx.stab h2.a.he
    refine fin2 G2 _ σ (h2.next nx (h2.a.he.chObj hp (.ins upd_same (by rw [hNS, List.length_append, List.length_append, hl]; rfl) ((rs.stab st).append (.cons ((r1.stab (x2.stab h1.a.he)).stab st) .nil)))))
/-- o.f = e, a field that is there -/
def sFldO (c : Nat) (NS : List Str) (i : Nat) (fe fo : F D) : S := fun δ η => (fe δ η).toS δ fun d η => (fo δ η).toS δ fun o η => match insD η c NS o with
  | some (n, l) => .nx δ (η.set n (.ins c NS (l.set i d)))
  | none => .bad
theorem fs_fldO {st : Stmt} {c : Nat} {NS : List Str} {i : Nat} {f : Str} (h : PS X st (sFld X.K (tG C (Rp C) W fo) (tG C (Rp C) W fe) f)) (hc : Cls X.K (C.cl c)) (hn : NoAttr X.K (C.cl c) f) (hloc : locB f NS i = true) (hz : NS.length < 1000) :
    FS C W X st (sFldO c NS i fe fo) := PS.imp h fun Dn σ H ⟨B, G, δ, η, h, fin⟩ => by
  refine tG.bindS h fin fun d v G1 H1 η1 h1 x1 r1 fin1 => ?_
  refine tG.bindS h1 fin1 fun o w G2 H2 η2 h2 x2 r2 fin2 => ?_
  cases q : insD η2 c NS o with
  | none => rw [q] at fin2; exact fin2.elim
  | some nl =>
    obtain ⟨n, l⟩ := nl
    rw [q] at fin2
    obtain ⟨p, dx, vs, rfl, rfl, hp, hq, he, hl, rs⟩ := insD_at q r2 h2.a.he
    refine ⟨p, _, dx, _, rfl, he, hc, hn, by rw [List.length_zip, ← hl, Nat.min_self]; exact hz, ?_⟩
    rw [put_old hl hloc]
    have nx : Nx G2 H2 G2 (upd H2 p (.ins (C.cl c) dx (NS.zip (vs.set i v)))) := Nx.chObj hp (by rw [he]; exact fun z => by cases z)
    have st := nx.stab h2.a.he
    refine fin2 G2 _ σ (h2.next nx (h2.a.he.chObj hp (.ins upd_same (by rw [List.length_set]; exact hl) ((rs.set (r1.stab (x2.stab h1.a.he)) i).stab st))))
/-! ### methods -/
variable {P : Program} {k n np nk : Nat} {g A : Addr} {fd : FuncData} {ps ks : List Str} {df : DF} {x : Str} {p : Pos} {ix : List Nat}

/-- a call's values by their places: the written ones, the keywords', the defaults -/
def argK (np nk n : Nat) (df : DF) (ix : List Nat) (dv ds es : List D) : List O → R D := fun η => if ds.length = np ∧ es.length = nk then (arg n df (pick ix (ds ++ es ++ dv)) η).nox else .bad
/-- how a def binds -/
structure KD (K : PySem.W.Frag) (fd : FuncData) (ps : List Str) (np : Nat) (ks : List Str) (ix : List Nat) (dv : List D) (g : List Value → List Value → List Value) (gV : List V → List V → List V) : Prop where
  b : KBn K fd ps np ks g gV
  r : ∀ {C : Ct} {G : Gh} {H : Hp} {ds es : List D} {vs zs : List V}, C.K = K → Rps C G H ds vs → Rps C G H es zs → Rps C G H (pick ix (ds ++ es ++ dv)) (gV vs zs)
abbrev KDx (K : PySem.W.Frag) (fd : FuncData) (ps : List Str) (np : Nat) (ks : List Str) (ix : List Nat) (dv : List D) : Prop := ∃ g gV, KD K fd ps np ks ix dv g gV
theorem KB.kd {K : PySem.W.Frag} {fd : FuncData} {ps ks : List Str} {n : Nat} {ix : List Nat} (h : KB K fd ps n ks ix) : KDx K fd ps n ks ix [] := ⟨_, _, h.kbn, fun _ r1 r2 => by rw [List.append_nil]; exact pick_rps (r1.append r2) ix⟩
theorem argK_run {K : PySem.W.Frag} {fd : FuncData} {dv ds es : List D} {g : List Value → List Value → List Value} {gV : List V → List V → List V} {G : Gh} {H : Hp} {η : List O} {E' : XK} {vs zs : List V} {Q : VK} (hK : C.K = K) (kd : KD K fd ps np ks ix dv g gV) (hnk : ks.length = nk) (r1 : Rps C G H ds vs) (r2 : Rps C G H es zs) (rh : Rh C G H η)
    (fin : FinR C (Rp C) E' G H (argK np nk n df ix dv ds es η) Q) : vs.length = np ∧ zs.length = ks.length ∧ spD C n df (gV vs zs) H Q E0 := by
  unfold argK at fin
  split at fin
  · rename_i hz
    have r := kd.r hK r1 r2
    unfold arg at fin
    split at fin
    · rename_i hn
      exact ⟨by rw [← r1.length]; exact hz.1, by rw [← r2.length, hnk]; exact hz.2, by rw [← r.length]; exact hn, G, _, η, r, rh, fin.nox⟩
    · exact fin.elim
  · exact fin.elim
def fMeth (c : Nat) (NS : List Str) (np nk n : Nat) (df : DF) (ix : List Nat) (dv : List D) (fo : F D) (fs fk : F (List D)) : F D := fun δ η => (fo δ η).bind fun d η => match insD η c NS d with
  | some _ => (fs δ η).bind fun ds η => (fk δ η).bind fun es η => argK np nk n df ix dv (d :: ds) es η
  | none => .bad
def tMethN (Cc : Addr) (m : Str) (np nk : Nat) (sp : Sp) (gV : List V → List V → List V) (E : XK) (ta : TE) (t tk : TA) : TE := fun σ H Q => ta σ H fun x H1 => ∃ a dx fs, x = .ref a ∧ H1 a = some (.ins Cc dx fs) ∧ fs.lookup m = none ∧
  t σ H1 fun vs H2 => tk σ H2 fun zs H3 => (x :: vs).length = np ∧ zs.length = nk ∧ sp (gV (x :: vs) zs) H3 Q E
section
variable {CX : CXT} {sp : Sp} {E : XK} {ta : TE} {t tk : TA} {g2 : List Value → List Value → List Value} {gV : List V → List V → List V} {Cc : Addr} {m : Str} {apos : Pos} {kws : List Keyword} {pl : Sem Bool}
theorem pe_methN (he : PE X a ta) (hc : Cls X.K Cc) (hm : Meth X.K Cc m g) (F : FnOk X.prog X.w X.K X.mg X.base CX k g fd ps sp) (hr : Room k X.A) (hb : KBn X.K fd ps np ks g2 gV) (hx : Passes CX X E) (ha : PA X (e :: es) t) (hkw : PK X kws tk)
    (hall : (backToKw pos (keywordEach kws X.env)).all (·.1.isSome) = true := by rfl) (hks : (backToKw pos (keywordEach kws X.env)).filterMap (·.1) = ks := by rfl)
    (hst : starEach (e :: es) X.env = (false, eval e X.env) :: starEach es X.env := by rfl)
    (hpl : ((backTo pos (starEach (e :: es) X.env)).any (·.1) || (backToKw pos (keywordEach kws X.env)).any (·.1.isNone)) = false := by rfl)
    (ht : eval (.Call (.Attribute a m apos) (e :: es) kws pos) X.env = (do
      let ov ← eval a X.env
      standAt apos.atName
      let (f, first) ← holding [ov] (getMethod ov m pl)
      callWith pos f first (backTo pos (starEach (e :: es) X.env)) (backToKw pos (keywordEach kws X.env))) := by rfl) :
    PE X (.Call (.Attribute a m apos) (e :: es) kws pos) (tMethN Cc m np ks.length sp gV E ta t tk) := by
  refine ⟨fun pins s σ H Q I h => ?_⟩
  refine PySem.W.methodCall_KW (pl := pl) (thn (he.run pins s σ H _ I h) fun u s1 ⟨x, H1, I1, rx, a, dx, fs, ex, ea, l, q⟩ => ?_) ht
  subst ex
  obtain rfl : u = Value.ref a := rx
  refine getmeth_ok I1 ea hc hm l ?_
  refine PySem.W.callWith_KW (first := [.ref a]) (h₀ := X.base) I.ok.mod.kin hm.kp hall (thn (ha.run pos pins s1 σ H1 _ I1 q) fun us s2 ⟨vs, H2, I2, r, q2⟩ => ?_) hpl hst
  refine thn (hkw.run pos pins s2 σ H2 _ I2 q2) fun ws s3 ⟨zs, H3, I3, rz, l1, l2, q3⟩ => ⟨I3.kIn, ?_⟩
  rw [hks]
  exact run_fnN (us := .ref a :: us) (vs := .ref a :: vs) F hr hb hx I3 (.cons rfl r) rz l1 l2 q3
theorem pe_methN0 (he : PE X a ta) (hc : Cls X.K Cc) (hm : Meth X.K Cc m g) (F : FnOk X.prog X.w X.K X.mg X.base CX k g fd ps sp) (hr : Room k X.A) (hb : KBn X.K fd ps np ks g2 gV) (hx : Passes CX X E) (hkw : PK X kws tk)
    (hall : (backToKw pos (keywordEach kws X.env)).all (·.1.isSome) = true := by rfl) (hks : (backToKw pos (keywordEach kws X.env)).filterMap (·.1) = ks := by rfl)
    (hpl : ((backTo pos (starEach [] X.env)).any (·.1) || (backToKw pos (keywordEach kws X.env)).any (·.1.isNone)) = false := by rfl)
    (ht : eval (.Call (.Attribute a m apos) [] kws pos) X.env = (do
      let ov ← eval a X.env
      standAt apos.atName
      let (f, first) ← holding [ov] (getMethod ov m pl)
      callWith pos f first (backTo pos (starEach [] X.env)) (backToKw pos (keywordEach kws X.env))) := by rfl) :
    PE X (.Call (.Attribute a m apos) [] kws pos) (tMethN Cc m np ks.length sp gV E ta tNil tk) := by
  refine ⟨fun pins s σ H Q I h => ?_⟩
  refine PySem.W.methodCall_KW (pl := pl) (thn (he.run pins s σ H _ I h) fun u s1 ⟨x, H1, I1, rx, a, dx, fs, ex, ea, l, q⟩ => ?_) ht
  subst ex
  obtain rfl : u = Value.ref a := rx
  refine getmeth_ok I1 ea hc hm l ?_
  refine PySem.W.callWith_KW0 (first := [.ref a]) (h₀ := X.base) I.ok.mod.kin hm.kp hall ?_ hpl
  refine thn (hkw.run pos pins s1 σ H1 _ I1 q) fun ws s3 ⟨zs, H3, I3, rz, l1, l2, q3⟩ => ⟨I3.kIn, ?_⟩
  rw [hks]
  exact run_fnN (us := [.ref a]) (vs := [.ref a]) F hr hb hx I3 (.cons rfl .nil) rz l1 l2 q3
end
section
variable {c : Nat} {NS : List Str} {m : Str} {pl : Sem Bool} {apos : Pos} {kws : List Keyword} {dv : List D}
theorem fe_methN (hK : X.K = C.K) (F : FnOk X.prog X.w X.K X.mg X.base CX0 k g fd ps (spD C n df)) (hr : Room k X.A) (hc : Cls X.K (C.cl c)) (hm : Meth X.K (C.cl c) m g) (hb : KDx X.K fd ps np ks ix dv) (hnk : ks.length = nk) (hnot : (NS.all fun g => !(m == g)) = true)
    (ho : FE C W X a fo) (ha : FA C W X (e :: es) fs) (hkw : FK C W X kws fk)
    (hall : (backToKw pos (keywordEach kws X.env)).all (·.1.isSome) = true := by rfl) (hks : (backToKw pos (keywordEach kws X.env)).filterMap (·.1) = ks := by rfl)
    (hst : starEach (e :: es) X.env = (false, eval e X.env) :: starEach es X.env := by rfl)
    (hpl : ((backTo pos (starEach (e :: es) X.env)).any (·.1) || (backToKw pos (keywordEach kws X.env)).any (·.1.isNone)) = false := by rfl)
    (ht : eval (.Call (.Attribute a m apos) (e :: es) kws pos) X.env = (do
      let ov ← eval a X.env
      standAt apos.atName
      let (f, first) ← holding [ov] (getMethod ov m pl)
      callWith pos f first (backTo pos (starEach (e :: es) X.env)) (backToKw pos (keywordEach kws X.env))) := by rfl) :
    FE C W X (.Call (.Attribute a m apos) (e :: es) kws pos) (fMeth c NS np nk n df ix dv fo fs fk) := by
  obtain ⟨g2, gV, kd⟩ := hb
  refine PE.imp (pe_methN (pl := pl) (E := E0) ho hc hm F hr kd.b pass0 ha hkw hall hks hst hpl ht) fun σ H Q ⟨G, δ, η, a0, fin⟩ => ?_
  refine tG.bind (Rel2 := Rp C) a0 fin fun d v G1 H1 η1 a1 x1 r1 fin1 => ?_
  cases q : insD η1 c NS d with
  | none => rw [q] at fin1; exact fin1.elim
  | some nl =>
    obtain ⟨i, l⟩ := nl
    rw [q] at fin1
    obtain ⟨p, dx, vs, rfl, rfl, hp, hq, he, hl, rs⟩ := insD_at q r1 a1.he
    refine ⟨p, dx, _, rfl, he, not_lookup hnot, ?_⟩
    refine tG.bind (Rel2 := Rp C) a1 fin1 fun ds ws G2 H2 η2 a2 x2 r2 fin2 => ?_
    refine tG.bind (Rel2 := Rp C) a2 fin2 fun es zs G3 H3 η3 a3 x3 r3 fin3 => ?_
    exact argK_run hK.symm kd hnk (.cons ((r1.stab (x2.stab a1.he)).stab (x3.stab a2.he)) (r2.stab (x3.stab a2.he))) r3 a3.he fin3
theorem fe_methN0 (hK : X.K = C.K) (F : FnOk X.prog X.w X.K X.mg X.base CX0 k g fd ps (spD C n df)) (hr : Room k X.A) (hc : Cls X.K (C.cl c)) (hm : Meth X.K (C.cl c) m g) (hb : KDx X.K fd ps np ks ix dv) (hnk : ks.length = nk) (hnot : (NS.all fun g => !(m == g)) = true)
    (ho : FE C W X a fo) (hkw : FK C W X kws fk)
    (hall : (backToKw pos (keywordEach kws X.env)).all (·.1.isSome) = true := by rfl) (hks : (backToKw pos (keywordEach kws X.env)).filterMap (·.1) = ks := by rfl)
    (hpl : ((backTo pos (starEach [] X.env)).any (·.1) || (backToKw pos (keywordEach kws X.env)).any (·.1.isNone)) = false := by rfl)
    (ht : eval (.Call (.Attribute a m apos) [] kws pos) X.env = (do
      let ov ← eval a X.env
      standAt apos.atName
      let (f, first) ← holding [ov] (getMethod ov m pl)
      callWith pos f first (backTo pos (starEach [] X.env)) (backToKw pos (keywordEach kws X.env))) := by rfl) :
    FE C W X (.Call (.Attribute a m apos) [] kws pos) (fMeth c NS np nk n df ix dv fo fNil fk) := by
  obtain ⟨g2, gV, kd⟩ := hb
  refine PE.imp (pe_methN0 (pl := pl) (E := E0) ho hc hm F hr kd.b pass0 hkw hall hks hpl ht) fun σ H Q ⟨G, δ, η, a0, fin⟩ => ?_
  refine tG.bind (Rel2 := Rp C) a0 fin fun d v G1 H1 η1 a1 x1 r1 fin1 => ?_
  cases q : insD η1 c NS d with
  | none => rw [q] at fin1; exact fin1.elim
  | some nl =>
    obtain ⟨i, l⟩ := nl
    rw [q] at fin1
    obtain ⟨p, dx, vs, rfl, rfl, hp, hq, he, hl, rs⟩ := insD_at q r1 a1.he
    refine ⟨p, dx, _, rfl, he, not_lookup hnot, ?_⟩
    unfold fNil at fin1
    simp only [bind_ok] at fin1
    refine tG.bind (Rel2 := Rp C) a1 fin1 fun es zs G3 H3 η3 a3 x3 r3 fin3 => ?_
    exact argK_run hK.symm kd hnk (.cons (r1.stab (x3.stab a1.he)) .nil) r3 a3.he fin3
/-! ### new instances -/
def fNewI (c np nk n : Nat) (df : DF) (ix : List Nat) (dv : List D) (fs fk : F (List D)) : F D := fun δ η => (fs δ η).bind fun ds η => (fk δ η).bind fun es η' => (argK np nk n df ix dv (.obj η'.length :: ds) es (η' ++ [.ins c [] []])).bind fun z η2 => match z with
  | .non => .ok (.obj η'.length) η2
  | _ => .bad
theorem new_run {c : Nat} {K : PySem.W.Frag} {g2 : List Value → List Value → List Value} {gV : List V → List V → List V} {G : Gh} {H : Hp} {η : List O} {E' : XK} {ds es : List D} {vs zs : List V} {Q : VK} (hK : C.K = K) (kd : KD K fd ps np ks ix dv g2 gV) (hnk : ks.length = nk) (r1 : Rps C G H ds vs) (r2 : Rps C G H es zs) (rh : Rh C G H η)
    (fin : FinR C (Rp C) E' G H ((argK np nk n df ix dv (.obj η.length :: ds) es (η ++ [.ins c [] []])).bind fun z η2 => match z with | .non => .ok (.obj η.length) η2 | _ => .bad) Q) {x dx : Addr} (hx : H x = none) (hdx : H dx = none) (ne : dx ≠ x) :
    (V.ref x :: vs).length = np ∧ zs.length = ks.length ∧ spD C n df (gV (.ref x :: vs) zs) (upd (upd H dx (.own x)) x (.ins (C.cl c) dx [])) (fun v H2 => v = .non ∧ Q (.ref x) H2) E0 := by
  have y0 : Nx G H G (upd H dx (.own x)) := by
    refine ⟨fun _ _ h => h, fun a o h _ => by rw [upd_ne (ne_of_none h hdx)]; exact h, fun _ _ _ => Iff.rfl, fun _ h => .inl h, fun a h => ?_⟩
    by_cases e : a = dx
    · subst e; exact hdx
    · rw [upd_ne e] at h; exact h
  have rh0 : Rh C G (upd H dx (.own x)) η := by
    have st := y0.stab rh
    refine ⟨rh.len, rh.nd, fun i o a h1 h2 => ?_, fun a m => fun z => rh.mh a m (y0.there a z)⟩
    obtain ⟨m, q⟩ := rh.ob i o a h1 h2
    refine ⟨m, q.stab st fun w hw => ?_⟩
    rw [upd_ne (ne_of_none hw hdx)]; exact hw
  have hx0 : (upd H dx (.own x)) x = none := by rw [upd_ne (Ne.symm ne)]; exact hx
  have y1 : Nx G (upd H dx (.own x)) (G.push x) (upd (upd H dx (.own x)) x (.ins (C.cl c) dx [])) := Nx.push hx0
  have rh1 : Rh C (G.push x) (upd (upd H dx (.own x)) x (.ins (C.cl c) dx [])) (η ++ [.ins c [] []]) := rh0.push hx0 (.ins (vs := []) (by rw [upd_same]; rfl) rfl .nil)
  have y := y0.trans y1
  have st := y.stab rh
  have hob : (G.push x).ads[η.length]? = some x := by
    show (G.ads ++ [x])[η.length]? = some x
    rw [← rh.len]; simp
  refine argK_run (E' := E') (Q := fun v H2 => v = .non ∧ Q (.ref x) H2) hK kd hnk (.cons (.obj hob) (r1.stab st)) (r2.stab st) rh1 ?_
  cases hz : argK np nk n df ix dv (.obj η.length :: ds) es (η ++ [.ins c [] []]) with
  | bad => rw [hz] at fin; exact fin.elim
  | exc c' ns l η2 => rw [hz] at fin; exact fun xx ws G' H' nx q1 q2 q3 => fin xx ws G' H' (y.trans nx) q1 q2 q3
  | ok z η2 =>
    rw [hz, bind_ok] at fin
    cases z with
    | non =>
      intro v G' H' nx q1 q2
      cases q2
      exact ⟨rfl, fin (.ref x) G' H' (y.trans nx) q1 (.obj (nx.ads _ _ hob))⟩
    | _ => exact fin.elim
theorem fe_new {c : Nat} (hK : X.K = C.K) (M : Mk X.K (C.cl c) g) (F : FnOk X.prog X.w X.K X.mg X.base CX0 k g fd ps (spD C n df)) (hr : Room (k + 1) X.A) (hm : X.mg x = some (.ref (C.cl c))) (hb : KDx X.K fd ps (np + 1) ks ix dv) (hnk : ks.length = nk)
    (ha : FA C W X (e :: es) fs) (hkw : FK C W X kws fk) (hg : Gl X x := by rfl)
    (hall : (backToKw pos (keywordEach kws X.env)).all (·.1.isSome) = true := by rfl) (hks : (backToKw pos (keywordEach kws X.env)).filterMap (·.1) = ks := by rfl) (hdb : (x == ("__debug__" : Str)) = false := by decide)
    (he : starEach (e :: es) X.env = (false, eval e X.env) :: starEach es X.env := by rfl) (hpl : ((backTo pos (starEach (e :: es) X.env)).any (·.1) || (backToKw pos (keywordEach kws X.env)).any (·.1.isNone)) = false := by rfl) :
    FE C W X (.Call (.Name x p) (e :: es) kws pos) (fNewI c (np + 1) nk n df ix dv fs fk) := by
  obtain ⟨g2, gV, kd⟩ := hb
  refine PE.imp (pe_makeK (E := E0) M F hr hg hm kd.b pass0 ha hkw hall hks hdb he hpl) fun σ H Q ⟨G, δ, η, a0, fin⟩ => ?_
  refine tG.bind (Rel2 := Rp C) a0 fin fun ds vs G1 H1 η1 a1 x1 r1 fin1 => ?_
  refine tG.bind (Rel2 := Rp C) a1 fin1 fun es zs G2 H2 η2 a2 x2 r2 fin2 => ?_
  have r1' := r1.stab (x2.stab a1.he)
  have key := fun {x dx : Addr} (hx : H2 x = none) (hdx : H2 dx = none) (ne : dx ≠ x) => new_run hK.symm kd hnk r1' r2 a2.he fin2 hx hdx ne
  have ln : (D.obj η2.length :: ds).length = np + 1 ∧ es.length = nk := by
    refine Classical.byContradiction fun hh => ?_
    unfold argK at fin2
    rw [if_neg hh] at fin2
    exact fin2.elim
  exact ⟨by rw [← r1.length]; simpa using ln.1, by rw [← r2.length, hnk]; exact ln.2, fun x dx hx hdx ne => (key hx hdx ne).2.2⟩
theorem fe_new0 {c : Nat} (hK : X.K = C.K) (M : Mk X.K (C.cl c) g) (F : FnOk X.prog X.w X.K X.mg X.base CX0 k g fd ps (spD C n df)) (hr : Room (k + 1) X.A) (hm : X.mg x = some (.ref (C.cl c))) (hb : KDx X.K fd ps 1 ks ix dv) (hnk : ks.length = nk)
    (hkw : FK C W X kws fk) (hg : Gl X x := by rfl)
    (hall : (backToKw pos (keywordEach kws X.env)).all (·.1.isSome) = true := by rfl) (hks : (backToKw pos (keywordEach kws X.env)).filterMap (·.1) = ks := by rfl) (hdb : (x == ("__debug__" : Str)) = false := by decide)
    (hpl : ((backTo pos (starEach [] X.env)).any (·.1) || (backToKw pos (keywordEach kws X.env)).any (·.1.isNone)) = false := by rfl) :
    FE C W X (.Call (.Name x p) [] kws pos) (fNewI c 1 nk n df ix dv fNil fk) := by
  obtain ⟨g2, gV, kd⟩ := hb
  refine PE.imp (pe_makeK0 (E := E0) M F hr hg hm kd.b pass0 hkw hall hks hdb hpl) fun σ H Q ⟨G, δ, η, a1, fin1⟩ => ?_
  unfold fNewI fNil at fin1
  rw [bind_ok] at fin1
  refine tG.bind (Rel2 := Rp C) a1 fin1 fun es zs G2 H2 η2 a2 x2 r2 fin2 => ?_
  have key := fun {x dx : Addr} (hx : H2 x = none) (hdx : H2 dx = none) (ne : dx ≠ x) => new_run hK.symm kd hnk .nil r2 a2.he fin2 hx hdx ne
  have ln : (D.obj η2.length :: ([] : List D)).length = 1 ∧ es.length = nk := by
    refine Classical.byContradiction fun hh => ?_
    unfold argK at fin2
    rw [if_neg hh] at fin2
    exact fin2.elim
  exact ⟨rfl, by rw [← r2.length, hnk]; exact ln.2, fun x dx hx hdx ne => (key hx hdx ne).2.2⟩
end
end
end DL
namespace DL
open PySem L2
section
variable {X : Cx} {C : Ct} {W : WX} {pos p2 : Pos} {e a b : Expr} {es : List Expr} {fe fa fb fo : F D} {fs fn fk : F (List D)} {tg : Expr}
variable {P : Program} {k n np nk : Nat} {g A : Addr} {fd : FuncData} {ps ks : List Str} {df : DF} {x : Str} {p : Pos} {ix : List Nat}
/-- an object of class c -/
def insC (η : List O) (c : Nat) (d : D) : Bool := match d with
  | .obj n => match η[n]? with
    | some (.ins c' _ _) => decide (c' = c)
    | _ => false
  | _ => false
theorem insC_at {G : Gh} {H : Hp} {η : List O} {c : Nat} {d : D} {v : V} (h : insC η c d = true) (r : Rp C G H d v) (rh : Rh C G H η) : ∃ p dx fs, v = .ref p ∧ H p = some (.ins (C.cl c) dx fs) := by
  unfold insC at h
  cases d with
  | obj m =>
    dsimp only at h
    cases q : η[m]? with
    | none => rw [q] at h; cases h
    | some o =>
      rw [q] at h
      cases o with
      | lst _ => cases h
      | tbl _ => cases h
      | ins c' ns l' =>
        have h : c' = c := of_decide_eq_true h
        subst h
        cases r with
        | @obj _ p ho =>
          obtain ⟨m, z⟩ := rh.ob _ _ _ q ho
          cases z with
          | @ins _ dx _ _ vs _ e hl rs => exact ⟨p, dx, _, rfl, e⟩
  | _ => cases h
/-- a call of a def from within a kit's own step -/
theorem call_fn {pins : List (Addr × Obj)} {σ : St} {H : Hp} {s : Shared} {Q : VK} {us : List Value} {vs : List V} {A : Around} (F : FnOk X.prog X.w X.K X.mg X.base CX0 k g fd ps (spD C n df)) (hr : Room k A) (e0 : Env0 X.prog X.w X.K X.mg X.base A X.stack s H) (hb : Binds X.K fd ps [])
    (I : Inv X pins σ H s) (r : Vals vs us) (h : spD C n df vs H Q E0) : wpAny (model X.prog X.w) A (call (.ref g) us) (EP X pins σ Q) X.xe s := by
  have hl := F.len _ _ _ _ h
  refine wpAny_call (codeAny_mono (F.run A X.stack s H ⟨us, []⟩ us vs Q E0 hr e0 (by
    have := hb s us I.kIn (by rw [List.append_nil, ← r.length]; exact hl)
    simpa using this) r h) fun r s' hq => ?_)
  cases r with
  | error e => exact pass0 (X := X) pins σ H s e s' I hq
  | ok fl =>
    cases fl with
    | ret w => exact I.after hq
    | next => exact False.elim hq
    | brk => exact False.elim hq
    | cont => exact False.elim hq
def fProp (c n : Nat) (df : DF) (fo : F D) : F D := fun δ η => (fo δ η).bind fun d η => if insC η c d = true then (arg n df [d] η).nox else .bad
theorem arg_run {G : Gh} {H : Hp} {η : List O} {E' : XK} {ds : List D} {vs : List V} {Q : VK} (r1 : Rps C G H ds vs) (rh : Rh C G H η) (fin : FinR C (Rp C) E' G H (arg n df ds η).nox Q) : spD C n df vs H Q E0 := by
  unfold arg at fin
  split at fin
  · rename_i hn
    exact ⟨by rw [← r1.length]; exact hn, G, _, η, r1, rh, fin.nox⟩
  · exact fin.elim
theorem fe_prop {c : Nat} {f : Str} {pp : Addr} (F : FnOk X.prog X.w X.K X.mg X.base CX0 k g fd ps (spD C n df)) (hr : Room (k + 1) X.A) (hc : Cls X.K (C.cl c)) (hp : PropOf X.K (C.cl c) f pp g) (hb : Binds X.K fd ps [])
    (ho : FE C W X e fo) (hx : Passes CX0 X.nox E0) (hab : attributeBase e f X.env (eval e X.env) = eval e X.env := by rfl) : FE C W X (.Attribute e f pos) (fProp c n df fo) := by
  refine PE.imp (pe_prop (E := E0) ho hc hp F hr hb .nil hx hab) fun σ H Q ⟨G, δ, η, a0, fin⟩ => ?_
  refine tG.bind (Rel2 := Rp C) a0 fin fun d v G1 H1 η1 a1 x1 r1 fin1 => ?_
  split at fin1
  · rename_i q
    obtain ⟨p, dx, fs, rfl, he⟩ := insC_at q r1 a1.he
    exact ⟨p, dx, fs, rfl, he, arg_run (.cons r1 .nil) a1.he fin1⟩
  · exact fin1.elim
/-! ### x in o, an object with __contains__ -/
def rInM (C : Ct) (Cc : Addr) (n : Nat) (df : DF) (neg : Bool) : R2 := fun x y H Q => ∃ p dx fs, y = .ref p ∧ H p = some (.ins Cc dx fs) ∧ spD C n df [.ref p, x] H (fun v H' => ∃ b, v = .bl b ∧ Q (.bl (neg != b)) H') E0
theorem truthy_bool {M : Model} {A : Around} {E : Value → Shared → Prop} {s : Shared} {b : Bool} {Q : Bool → Shared → Prop} (h : Q b s) : wpAny M A (truthy (.bool b)) Q E s := by
  unfold truthy
  exact wpAny_pure h
theorem o_inM {Cc : Addr} (F : FnOk X.prog X.w X.K X.mg X.base CX0 k g fd ps (spD C n df)) (hr : Room k X.A) (hs : PySem.W.findIn X.K (.ref Cc) "__contains__" = some (some (.ref g))) (hf : PySem.W.isFn X.K (.ref g) = true) (hb : Binds X.K fd ps []) :
    OpR X (compareOp .In) (rInM C Cc n df false) := by
  intro pins s σ H x y v u Q I rx ry hq
  obtain ⟨p, dx, fs, rfl, hp, hq⟩ := hq
  cases ry
  obtain ⟨mA, J, _⟩ := ins_get I.hok hp
  obtain ⟨od, J, _⟩ := J.look
  obtain ⟨m, hF⟩ := I.fr
  refine PySem.W.in_K hF I.ok.mod.kin J hs hf ?_
  refine wpAny_mono (call_fn F hr I.env0 hb I (vs := [V.ref p, x]) (.cons rfl (.cons rx .nil)) hq) (fun r s' z => ?_) fun _ _ z => z
  obtain ⟨v', H', I', rv, b, rfl, hQ⟩ := z
  obtain rfl : r = Value.bool b := rv
  exact truthy_bool ⟨.bl b, H', I', rfl, by simpa using hQ⟩
theorem o_notInM {Cc : Addr} (F : FnOk X.prog X.w X.K X.mg X.base CX0 k g fd ps (spD C n df)) (hr : Room k X.A) (hs : PySem.W.findIn X.K (.ref Cc) "__contains__" = some (some (.ref g))) (hf : PySem.W.isFn X.K (.ref g) = true) (hb : Binds X.K fd ps []) :
    OpR X (compareOp .NotIn) (rInM C Cc n df true) := by
  intro pins s σ H x y v u Q I rx ry hq
  obtain ⟨p, dx, fs, rfl, hp, hq⟩ := hq
  cases ry
  obtain ⟨mA, J, _⟩ := ins_get I.hok hp
  obtain ⟨od, J, _⟩ := J.look
  obtain ⟨m, hF⟩ := I.fr
  refine PySem.W.notIn_K hF I.ok.mod.kin J hs hf ?_
  refine wpAny_mono (call_fn F hr I.env0 hb I (vs := [V.ref p, x]) (.cons rfl (.cons rx .nil)) hq) (fun r s' z => ?_) fun _ _ z => z
  obtain ⟨v', H', I', rv, b, rfl, hQ⟩ := z
  obtain rfl : r = Value.bool b := rv
  exact truthy_bool ⟨.bl (!b), H', I', rfl, by simpa using hQ⟩
def fInM (c n : Nat) (df : DF) (neg : Bool) (fa fb : F D) : F D := fun δ η => (fa δ η).bind fun d η => (fb δ η).bind fun o η => if insC η c o = true then ((arg n df [o, d] η).nox).bind fun z η => (match z with | .bl b => .ok (.bl (neg != b)) η | _ => .bad) else .bad
theorem FinR.bindQ {G : Gh} {H : Hp} {E E' : XK} {r : R D} {kf : D → List O → R D} {Q Q' : VK} (h : FinR C (Rp C) E G H (r.nox.bind kf) Q) (i : ∀ z η v G' H', Nx G H G' H' → Rh C G' H' η → Rp C G' H' z v → FinR C (Rp C) E G' H' (kf z η) Q → Q' v H') : FinR C (Rp C) E' G H r.nox Q' := by
  cases r with
  | ok d η => exact fun v G' H' x q1 q2 => i d η v G' H' x q1 q2 (FinR.next h x)
  | exc c ns l η => exact h.elim
  | bad => exact h.elim
theorem fe_inM {c : Nat} {neg : Bool} {op : CmpOp} (ho : OpR X (compareOp op) (rInM C (C.cl c) n df neg)) (ha : FE C W X a fa) (hb : FE C W X b fb) (hm : behindInMarks op b = false := by rfl) : FE C W X (.Compare a [op] [b] pos) (fInM c n df neg fa fb) := by
  refine PE.imp (pe_cmpR ho ha hb hm) fun σ H Q ⟨G, δ, η, a0, fin⟩ => ?_
  refine tG.bind (Rel2 := Rp C) a0 fin fun d v G1 H1 η1 a1 x1 r1 fin1 => ?_
  refine tG.bind (Rel2 := Rp C) a1 fin1 fun o w G2 H2 η2 a2 x2 r2 fin2 => ?_
  split at fin2
  · rename_i q
    obtain ⟨p, dx, fs, rfl, he⟩ := insC_at q r2 a2.he
    refine ⟨p, dx, fs, rfl, he, arg_run (.cons r2 (.cons (r1.stab (x2.stab a1.he)) .nil)) a2.he (E' := fun c d H' => W c d σ H') (FinR.bindQ fin2 fun z η3 v3 G3 H3 x3 h3 r3 fin3 => ?_)⟩
    cases r3 with
    | bl b => exact ⟨b, rfl, fin3 _ G3 H3 Nx.refl h3 (.bl _)⟩
    | _ => exact fin3.elim
  · exact fin2.elim
/-! ### o.f += e -/
def sFldA (c : Nat) (NS : List Str) (i : Nat) (fo fe : F D) : S := fun δ η => (fo δ η).toS δ fun o η => match insD η c NS o with
  | some (_, l) => match l[i]? with
    | some (.int x) => (fe δ η).toS δ fun d η => match insD η c NS o, d with
      | some (n, l), .int y => .nx δ (η.set n (.ins c NS (l.set i (.int (x + y)))))
      | _, _ => .bad
    | _ => .bad
  | none => .bad
theorem fs_fldA {st : Stmt} {c : Nat} {NS : List Str} {i : Nat} {f : Str} (h : PS X st (sFldAug X.K (tG C (Rp C) W fo) (tG C (Rp C) W fe) rAdd f)) (hc : Cls X.K (C.cl c)) (hn : NoAttr X.K (C.cl c) f) (hloc : locB f NS i = true) (hz : NS.length < 1000) :
    FS C W X st (sFldA c NS i fo fe) := PS.imp h fun Dn σ H ⟨B, G, δ, η, h, fin⟩ => by
  refine tG.bindS h fin fun o w G1 H1 η1 h1 x1 r1 fin1 => ?_
  cases q : insD η1 c NS o with
  | none => rw [q] at fin1; exact fin1.elim
  | some nl =>
    obtain ⟨n, l⟩ := nl
    rw [q] at fin1
    obtain ⟨p, dx, vs, rfl, rfl, hp, hq, he, hl, rs⟩ := insD_at q r1 h1.a.he
    dsimp only at fin1
    split at fin1
    · rename_i x hx
      obtain ⟨v, hv, rv⟩ := rs.get hx
      cases rv
      refine ⟨p, _, dx, _, _, rfl, he, hc, hn, (loc_lookup hloc).trans hv, ?_⟩
      refine tG.bindS h1 fin1 fun d u G2 H2 η2 h2 x2 r2 fin2 => ?_
      split at fin2
      · rename_i m l2 y hm
        cases r2
        obtain ⟨p', dx', vs', e1, e2, hp', hq', he', hl', rs'⟩ := insD_at (v := .ref p) hm (r1.stab (x2.stab h1.a.he)) h2.a.he
        cases e1
        cases e2
        refine ⟨_, _, rfl, rfl, dx', _, he', by rw [List.length_zip, ← hl', Nat.min_self]; exact hz, ?_⟩
        rw [put_old hl' hloc]
        have nx : Nx G2 H2 G2 (upd H2 p (.ins (C.cl c) dx' (NS.zip (vs'.set i (.int (x + y)))))) := Nx.chObj hp' (by rw [he']; exact fun z => by cases z)
        have st := nx.stab h2.a.he
        exact fin2 G2 _ σ (h2.next nx (h2.a.he.chObj hp' (.ins upd_same (by rw [List.length_set]; exact hl') ((rs'.set (.int _) i).stab st))))
      · exact fin2.elim
    · exact fin1.elim
/-! ### a constant of a class -/
theorem fe_cval {c : Str} {f : Str} {Ca : Addr} {mc : Value} {i : Int} {t : Tok} (hg : Gl X c) (hm : X.mg c = some (.ref Ca)) (hr : ClX.CRead X.K Ca mc) (hv : ClX.CVal X.K Ca mc f (.int i) (.int i t)) (hdb : (c == ("__debug__" : Str)) = false := by decide)
    (hb : attributeBase (.Name c p) f X.env (eval (.Name c p) X.env) = eval (.Name c p) X.env := by rfl) : FE C W X (.Attribute (.Name c p) f pos) (fC (.int i)) := by
  refine PE.imp (ClX.pe_cval (pe_glob (v := .ref Ca) hg hm rfl hdb) hb) fun σ H Q ⟨G, δ, η, a0, fin⟩ => ?_
  exact ⟨Ca, mc, _, _, rfl, hr, hv, fin _ G H Nx.refl a0.he (.int _)⟩
end
end DL
namespace DL
open PySem PySem.Spec PyProof.Rows L2
/-! ### len(set(texts)) -/
/-- how many of the first i are new -/
def cnt (xs : List Str) : Nat → Nat
  | 0 => 0
  | i + 1 => if (xs.take i).any (· == xs.getD i Str.empty) then cnt xs i else cnt xs i + 1
theorem cnt_le (xs : List Str) : ∀ i, cnt xs i ≤ i
  | 0 => Nat.le_refl 0
  | i + 1 => by
    have := cnt_le xs i
    rw [cnt]
    split
    · exact Nat.le_succ_of_le this
    · exact Nat.succ_le_succ this
theorem any_step (xs : List Str) {i : Nat} (hi : i < xs.length) (y : Str) : ((xs.take i).any (· == y) || decide (y = xs.getD i Str.empty)) = (xs.take (i + 1)).any (· == y) := by
  have e : xs.take (i + 1) = xs.take i ++ [xs.getD i Str.empty] := by
    rw [List.take_add_one, List.getD_eq_getElem?_getD, List.getElem?_eq_getElem hi]; rfl
  rw [e, List.any_append]
  congr 1
  rw [List.any_cons, List.any_nil, Bool.or_false, Bool.eq_iff_iff, decide_eq_true_eq, beq_iff_eq]
  exact eq_comm
section
variable {prog : Program} {w : World} {A : Around} {R : Result → Shared → Prop} {It : Addr} {fp wr : List Addr} {Gs : Array GenState → Array GenState → Prop} {n : Nat} {P : Nat → Value → Prop} {St : Nat → Shared → Prop}
theorem set_walk (Wk : WalksS prog w A.in1 It fp wr Gs n P St) (S : Addr) (nS : S ∉ fp) (xs : List Str) (hl : xs.length = n) (hb : n + 1 < scanBound) (hv : ∀ i v, P i v → ∃ t, v = .str (xs.getD i Str.empty) t) (left : Nat) :
    ∀ (i : Nat) (s : Shared), i + left = n → St i s → s.heap.SetOf (PySem.strKind prog w) S (fun y => (xs.take i).any (· == y)) (cnt xs i) →
      (∀ s2, Moved (S :: wr) Gs s s2 → s2.heap.SetOf (PySem.strKind prog w) S (fun y => (xs.take n).any (· == y)) (cnt xs n) → R (.ok (.ret .none)) s2) → codeAny (model prog w) A (.builtin "set.update.loop" ⟨[.ref S, .ref It], []⟩) R s := by
  have nW : S ∉ wr := fun z => nS (Wk.sub _ z)
  have moved : ∀ {i m : Nat} {s s2 : Shared}, Moved wr Gs s s2 → s.heap.SetOf (PySem.strKind prog w) S (fun y => (xs.take i).any (· == y)) m → s2.heap.SetOf (PySem.strKind prog w) S (fun y => (xs.take i).any (· == y)) m := fun hm ⟨o, es, ep, t, ho, rest⟩ => ⟨o, es, ep, t, hm.heap S _ nW ho, rest⟩
  have wide : ∀ {s s2 : Shared}, Moved wr Gs s s2 → Moved (S :: wr) Gs s s2 := fun hm => hm.mono fun b z => List.mem_cons_of_mem _ z
  induction left with
  | zero =>
    intro i s hi hs hS hR
    cases hi
    refine codeAny_builtin F.entry_set_update_loop ?_
    rw [Around.under_plainId F.plain_set_update_loop _]
    exact wpAny_bind (Wk.done s _ _ hs fun s2 hm => wpAny_pure (hR s2 (wide hm) (moved hm hS)))
  | succ left ih =>
    intro i s hi hs hS hR
    have hlt : i < n := by omega
    refine codeAny_builtin F.entry_set_update_loop ?_
    rw [Around.under_plainId F.plain_set_update_loop _]
    refine wpAny_bind (Wk.item i s _ _ hlt hs fun v s2 hP hs2 hm => ?_)
    obtain ⟨t, rfl⟩ := hv i v hP
    have hS2 := moved hm hS
    show wpAny _ A.in1 (holding [Value.str (xs.getD i Str.empty) t] (setAdd S (.str (xs.getD i Str.empty) t)) >>= _) _ _ s2
    refine wpAny_bind (wpAny_holding ?_)
    unfold setAdd
    refine wpAny_holding (wpAny_bind ((PySem.strKind prog w).pyHash (k := xs.getD i Str.empty) (strKind_is _ _ _ _) ?_))
    have room : cnt xs i + 1 < scanBound := by have := cnt_le xs i; omega
    refine wpAny_setAddHashed_of (knd := PySem.strKind prog w) (s := { s2 with toks := s2.toks + 1 }) (strKind_is _ _ _ _) rfl hS2 room fun h3 sb hS3 => ?_
    have hS4 : h3.SetOf (PySem.strKind prog w) S (fun y => (xs.take (i + 1)).any (· == y)) (cnt xs (i + 1)) := SetOf_congr hS3 (fun y => any_step xs (by omega) y) rfl
    refine wpAny_pure ⟨plainId_quiet F.plain_set_update_loop _, ih (i + 1) _ (by omega) (Wk.frame _ s2 _ _ hs2 (Nat.le_succ _) fun b hb o z => ?_) hS4 fun s5 hm5 hS5 => hR s5 (Moved.trans Wk.gtrans ((wide hm).then_heap (Nat.le_succ _) fun b o hb z => ?_) hm5) hS5⟩
    · exact (sb.2 b fun q => nS (q ▸ hb)).trans z
    · exact (sb.2 b fun q => hb (q ▸ List.mem_cons_self)).trans z
end

/-- the empty set, just made -/
def emptySet (led : Bool) : Obj := { cls := .type "set", dict := none, data := .set #[] 0 (.fresh 0 0 led) }
/-- what set(..) has made -/
def SetMade (prog : Program) (w : World) (s : Shared) (xs : List Str) (n : Nat) (h2 : Heap) : Prop := h2.SetOf (PySem.strKind prog w) s.heap.objs.size (fun y => (xs.take n).any (· == y)) (cnt xs n) ∧ ∀ b o, b < s.heap.objs.size → s.heap.get? b = some o → h2.get? b = some o
section
variable {prog : Program} {w : World} {A : Around} {E : Value → Shared → Prop} {s : Shared} {l : Addr} {items : Array Value} {xs : List Str}

/-- .. and how its __init__ ends -/
def Filled (prog : Program) (w : World) (s : Shared) (xs : List Str) (n : Nat) (v : Value) (s2 : Shared) : Prop := v = .none ∧ ∃ h2 tk, s2 = { s with heap := h2, toks := tk } ∧ SetMade prog w s xs n h2
set_option maxHeartbeats 3200000 in
/-- the fresh set takes the list's texts in -/
theorem set_fill {led : Bool} (hh : A.in1.handled = none) (hl : s.heap.IsList l items) (hi : StrsAre items.toList xs) (hb : xs.length + 1 < scanBound) :
    wpAny (model prog w) A (Builtin.«set.__init__» ⟨[.ref s.heap.objs.size, .ref l], []⟩) (fun f s2 => ∃ v, f = .done (.ret v) ∧ Filled prog w s xs items.size v s2) E { s with heap := s.heap.push (emptySet led) } := by
  obtain ⟨⟨cls, dict, data, slots⟩, at1, hcls, m, hdata⟩ := id hl
  cases hcls
  cases hdata
  have lts : l < s.heap.objs.size := Heap.lt_size at1
  have at0 : (s.heap.push (emptySet led)).get? s.heap.objs.size = some (emptySet led) := Heap.get?_push_size _ rfl
  have at2 : (s.heap.push (emptySet led)).get? l = some { cls := .type "list", dict := dict, data := .seq items m, slots := slots } := Heap.get?_push_of_some _ at1
  have isl : (s.heap.push (emptySet led)).IsList l items := ⟨_, at2, rfl, m, rfl⟩
  have nos := PySem.F.sub_list_set
  have nof := PySem.F.sub_list_frozenset
  have nod : (Value.type "list" == Value.type "dict") = false := by decide
  unfold Builtin.«set.__init__» noKeywords Builtin.Frozenset.updateFrom
  generalize hPI : pyIter = PI
  wp_walk
  subst hPI
  refine wpAny_pyIter_list isl (wpAny_bind (wpAny_runValue ?_))
  have sz1 : (s.heap.push (emptySet led)).objs.size = s.heap.objs.size + 1 := Heap.size_push _ _
  have apart : l ≠ (s.heap.push (emptySet led)).objs.size := by rw [sz1]; exact Nat.ne_of_lt (Nat.lt_succ_of_lt lts)
  have nS : s.heap.objs.size ∉ [(s.heap.push (emptySet led)).objs.size, l] := by
    rw [sz1]
    intro z
    rcases List.mem_cons.mp z with z | z
    · exact Nat.ne_of_lt (Nat.lt_succ_self _) z
    · exact Nat.ne_of_gt lts (List.mem_singleton.mp z)
  have len : xs.length = items.size := (StrsAre.len_eq hi).symm.trans Array.length_toList
  have vals : ∀ (i : Nat) (v : Value), items[i]? = some v → ∃ t, v = .str (xs.getD i Str.empty) t := fun i v hv => SS.strs_at hi i v ((Array.getElem?_toList).trans hv)
  refine set_walk ((Walks.list (by simpa using hh) _ l apart items).toS) s.heap.objs.size nS xs len (by omega) vals items.size 0 _ (Nat.zero_add _) ⟨⟨_, Heap.get?_push_size _ rfl, rfl, rfl⟩, isl.push _⟩ ?_ fun s2 hm hS => ?_
  · refine SetOf_congr ((setObjOf_fresh (knd := PySem.strKind prog w) led).setOf (Heap.get?_push_of_some _ at0) (by unfold scanBound; decide)) (fun _ => rfl) rfl
  · obtain ⟨h2, g2, d2, t2, o2⟩ := s2
    obtain rfl : g2 = s.gens := hm.gens
    obtain rfl : d2 = s.drawn := hm.drawn
    obtain rfl : o2 = s.os := hm.os
    refine wpAny_pure (wpAny_pure ⟨_, rfl, rfl, h2, t2, rfl, hS, fun b o hlt e => hm.heap b o ?_ (Heap.get?_push_of_some _ (Heap.get?_push_of_some _ e))⟩)
    intro z
    rcases List.mem_cons.mp z with z | z
    · exact Nat.ne_of_lt hlt z
    · have := List.mem_singleton.mp z
      rw [sz1] at this
      exact Nat.ne_of_lt (Nat.lt_succ_of_lt hlt) this
theorem set_made {Q : Value → Shared → Prop} (hh : A.handled = none) (hl : s.heap.IsList l items) (hi : StrsAre items.toList xs) (hb : xs.length + 1 < scanBound)
    (h : ∀ h2 tk, SetMade prog w s xs items.size h2 → Q (.ref s.heap.objs.size) { s with heap := h2, toks := tk }) : wpAny (model prog w) A (call (.type "set") [.ref l]) Q E s := by
  obtain ⟨_, _, hmro⟩ := PySem.F.called_set.mro
  have made := PySem.F.called_set.made
  have isub := PySem.F.called_set.sub
  have noType := PySem.F.called_set.notType
  have creates := PySem.F.called_set.canCreate
  have checked := PySem.F.typeCall_set_1 (.ref l)
  refine wpAny_call (codeAny_of_tree ?_)
  show wpAny _ _ (callAny (.type "set") _) _ _ _
  refine wpAny_pure ⟨Code.quiet_builtin _ (by decide +kernel), codeAny_builtin PySem.F.entry_type_call ?_⟩
  rw [Around.under_plain (weight_type_call_type "set" [.ref l] []) rfl]
  repeat (any_goals (first | assumption | wp_step))
  refine codeAny_mono (code_set_new_1 (.ref l) (E := E) (Q₁ := fun v s1 => ∃ led : Bool, v = .ref s.heap.objs.size ∧ s1 = { s with heap := s.heap.push (emptySet led) }) fun led => ⟨led, rfl, rfl⟩) fun r s1 hr => ?_
  match r, hr with
  | .error e, hr => exact hr
  | .ok (.next), hr => exact hr.elim
  | .ok (.brk), hr => exact hr.elim
  | .ok (.cont), hr => exact hr.elim
  | .ok (.ret v), hr =>
    obtain ⟨led, rfl, rfl⟩ := hr
    have at0 : (s.heap.push (emptySet led)).get? s.heap.objs.size = some (emptySet led) := Heap.get?_push_size _ rfl
    have ty : Shared.TypeIs { s with heap := s.heap.push (emptySet led) } (.ref s.heap.objs.size) "set" := ⟨_, at0, rfl⟩
    have hli := PySem.F.called_set.init.lookup
    have hbi := PySem.F.called_set.init.bind (.ref s.heap.objs.size)
    repeat (any_goals (first | assumption | wp_step))
    refine codeAny_mono (codeAny_call_builtin (R := wants (Filled prog w s xs items.size) E) PySem.F.called_set.init.plain PySem.F.entry_set_init (check_set_init_1 ty ?_)) fun r2 s2 hr2 => ?_
    · refine wpAny_mono (set_fill (A := A.in1.in1) (by simpa using hh) hl hi hb) (fun f s2 ⟨v, e1, e2⟩ => ?_) fun _ _ z => z
      subst e1
      exact e2
    · match r2, hr2 with
      | .error e, hr2 => exact hr2
      | .ok (.next), hr2 => exact hr2.elim
      | .ok (.brk), hr2 => exact hr2.elim
      | .ok (.cont), hr2 => exact hr2.elim
      | .ok (.ret v), hr2 =>
        obtain ⟨rfl, h2, tk, rfl, hm⟩ := hr2
        repeat (any_goals (first | assumption | wp_step))
        exact h _ _ hm
set_option maxHeartbeats 3200000 in
/-- the fresh set takes the list's texts in -/
theorem set_fillT {led : Bool} (hh : A.in1.handled = none) (hl : s.heap.IsTuple l items) (hi : StrsAre items.toList xs) (hb : xs.length + 1 < scanBound) :
    wpAny (model prog w) A (Builtin.«set.__init__» ⟨[.ref s.heap.objs.size, .ref l], []⟩) (fun f s2 => ∃ v, f = .done (.ret v) ∧ Filled prog w s xs items.size v s2) E { s with heap := s.heap.push (emptySet led) } := by
  obtain ⟨⟨cls, dict, data, slots⟩, at1, hcls, m, hdata⟩ := id hl
  cases hcls
  cases hdata
  have lts : l < s.heap.objs.size := Heap.lt_size at1
  have at0 : (s.heap.push (emptySet led)).get? s.heap.objs.size = some (emptySet led) := Heap.get?_push_size _ rfl
  have at2 : (s.heap.push (emptySet led)).get? l = some { cls := .type "tuple", dict := dict, data := .seq items m, slots := slots } := Heap.get?_push_of_some _ at1
  have isl : (s.heap.push (emptySet led)).IsTuple l items := ⟨_, at2, rfl, m, rfl⟩
  have nos := PySem.F.sub_tuple_set
  have nof := PySem.F.sub_tuple_frozenset
  have nod : (Value.type "tuple" == Value.type "dict") = false := by decide
  unfold Builtin.«set.__init__» noKeywords Builtin.Frozenset.updateFrom
  generalize hPI : pyIter = PI
  wp_walk
  subst hPI
  refine wpAny_pyIter_tuple isl (wpAny_bind (wpAny_runValue ?_))
  have sz1 : (s.heap.push (emptySet led)).objs.size = s.heap.objs.size + 1 := Heap.size_push _ _
  have apart : l ≠ (s.heap.push (emptySet led)).objs.size := by rw [sz1]; exact Nat.ne_of_lt (Nat.lt_succ_of_lt lts)
  have nS : s.heap.objs.size ∉ [(s.heap.push (emptySet led)).objs.size, l] := by
    rw [sz1]
    intro z
    rcases List.mem_cons.mp z with z | z
    · exact Nat.ne_of_lt (Nat.lt_succ_self _) z
    · exact Nat.ne_of_gt lts (List.mem_singleton.mp z)
  have len : xs.length = items.size := (StrsAre.len_eq hi).symm.trans Array.length_toList
  have vals : ∀ (i : Nat) (v : Value), items[i]? = some v → ∃ t, v = .str (xs.getD i Str.empty) t := fun i v hv => SS.strs_at hi i v ((Array.getElem?_toList).trans hv)
  refine set_walk ((Walks.tuple (by simpa using hh) _ l apart items).toS) s.heap.objs.size nS xs len (by omega) vals items.size 0 _ (Nat.zero_add _) ⟨⟨_, Heap.get?_push_size _ rfl, rfl, rfl⟩, isl.push _⟩ ?_ fun s2 hm hS => ?_
  · refine SetOf_congr ((setObjOf_fresh (knd := PySem.strKind prog w) led).setOf (Heap.get?_push_of_some _ at0) (by unfold scanBound; decide)) (fun _ => rfl) rfl
  · obtain ⟨h2, g2, d2, t2, o2⟩ := s2
    obtain rfl : g2 = s.gens := hm.gens
    obtain rfl : d2 = s.drawn := hm.drawn
    obtain rfl : o2 = s.os := hm.os
    refine wpAny_pure (wpAny_pure ⟨_, rfl, rfl, h2, t2, rfl, hS, fun b o hlt e => hm.heap b o ?_ (Heap.get?_push_of_some _ (Heap.get?_push_of_some _ e))⟩)
    intro z
    rcases List.mem_cons.mp z with z | z
    · exact Nat.ne_of_lt hlt z
    · have := List.mem_singleton.mp z
      rw [sz1] at this
      exact Nat.ne_of_lt (Nat.lt_succ_of_lt hlt) this
theorem set_madeT {Q : Value → Shared → Prop} (hh : A.handled = none) (hl : s.heap.IsTuple l items) (hi : StrsAre items.toList xs) (hb : xs.length + 1 < scanBound)
    (h : ∀ h2 tk, SetMade prog w s xs items.size h2 → Q (.ref s.heap.objs.size) { s with heap := h2, toks := tk }) : wpAny (model prog w) A (call (.type "set") [.ref l]) Q E s := by
  obtain ⟨_, _, hmro⟩ := PySem.F.called_set.mro
  have made := PySem.F.called_set.made
  have isub := PySem.F.called_set.sub
  have noType := PySem.F.called_set.notType
  have creates := PySem.F.called_set.canCreate
  have checked := PySem.F.typeCall_set_1 (.ref l)
  refine wpAny_call (codeAny_of_tree ?_)
  show wpAny _ _ (callAny (.type "set") _) _ _ _
  refine wpAny_pure ⟨Code.quiet_builtin _ (by decide +kernel), codeAny_builtin PySem.F.entry_type_call ?_⟩
  rw [Around.under_plain (weight_type_call_type "set" [.ref l] []) rfl]
  repeat (any_goals (first | assumption | wp_step))
  refine codeAny_mono (code_set_new_1 (.ref l) (E := E) (Q₁ := fun v s1 => ∃ led : Bool, v = .ref s.heap.objs.size ∧ s1 = { s with heap := s.heap.push (emptySet led) }) fun led => ⟨led, rfl, rfl⟩) fun r s1 hr => ?_
  match r, hr with
  | .error e, hr => exact hr
  | .ok (.next), hr => exact hr.elim
  | .ok (.brk), hr => exact hr.elim
  | .ok (.cont), hr => exact hr.elim
  | .ok (.ret v), hr =>
    obtain ⟨led, rfl, rfl⟩ := hr
    have at0 : (s.heap.push (emptySet led)).get? s.heap.objs.size = some (emptySet led) := Heap.get?_push_size _ rfl
    have ty : Shared.TypeIs { s with heap := s.heap.push (emptySet led) } (.ref s.heap.objs.size) "set" := ⟨_, at0, rfl⟩
    have hli := PySem.F.called_set.init.lookup
    have hbi := PySem.F.called_set.init.bind (.ref s.heap.objs.size)
    repeat (any_goals (first | assumption | wp_step))
    refine codeAny_mono (codeAny_call_builtin (R := wants (Filled prog w s xs items.size) E) PySem.F.called_set.init.plain PySem.F.entry_set_init (check_set_init_1 ty ?_)) fun r2 s2 hr2 => ?_
    · refine wpAny_mono (set_fillT (A := A.in1.in1) (by simpa using hh) hl hi hb) (fun f s2 ⟨v, e1, e2⟩ => ?_) fun _ _ z => z
      subst e1
      exact e2
    · match r2, hr2 with
      | .error e, hr2 => exact hr2
      | .ok (.next), hr2 => exact hr2.elim
      | .ok (.brk), hr2 => exact hr2.elim
      | .ok (.cont), hr2 => exact hr2.elim
      | .ok (.ret v), hr2 =>
        obtain ⟨rfl, h2, tk, rfl, hm⟩ := hr2
        repeat (any_goals (first | assumption | wp_step))
        exact h _ _ hm
end

section
variable {X : Cx} {C : Ct} {W : WX} {e a : Expr} {fa : F D} {ta : TE} {p p2 q pos : Pos}
def tLenSetS (K : PySem.W.Frag) (ta : TE) : TE := fun σ H Q => ta σ H fun x H1 => ∃ l, ∃ xs : List Str, x = .ref l ∧ (SqL K H1 l (xs.map V.str) ∨ SqT K H1 l (xs.map V.str)) ∧ xs.length ≤ 1000 ∧ Q (.int (cnt xs xs.length : Nat)) H1
theorem pe_lenSetS (hc : X.calm = true) (hg : Gl X "len") (hm : X.mg "len" = none) (hg2 : Gl X "set") (hm2 : X.mg "set" = none) (ha : PE X a ta)
    (na : starEach [a] X.env = (false, eval a X.env) :: starEach [] X.env := by rfl) : PE X (.Call (.Name "len" p) [.Call (.Name "set" p2) [a] [] q] [] pos) (tLenSetS X.K ta) := by
  refine ⟨fun pins s σ H Q I h => Call_ (ld_blt I hg hm boot_len (callWith_builtin1 (args_cons (Call_ (ld_blt I hg2 hm2 boot_set (callWith_type1 (args_cons (thn (ha.run pins s σ H _ I h) fun v s1 ⟨x, H1, I1, r1, l, xs, ex, hq, hz, q1⟩ => args_nil ?_) na) na rfl))) rfl) rfl rfl))⟩
  subst ex
  cases r1
  have madeA : ∀ (A : Around) (Q : Value → Shared → Prop), A.handled = none → (∀ h2 tk, SetMade X.prog X.w s1 xs xs.length h2 → Q (.ref s1.heap.objs.size) { s1 with heap := h2, toks := tk }) → wpAny (model X.prog X.w) A (call (.type "set") [.ref l]) Q X.xe s1 := fun A Q hd k => by
    rcases hq with hq | hq
    · obtain ⟨its, r, pl, _⟩ := I1.list hq
      have len : its.toArray.size = xs.length := by rw [List.size_toArray, ← r.length, List.length_map]
      exact set_made (xs := xs) hd pl.isList (by simpa using strsAre_of r) (by unfold scanBound; omega) fun h2 tk z => k h2 tk (by rw [len] at z; exact z)
    · obtain ⟨its, r, pl, _⟩ := I1.tuple hq
      have len : its.toArray.size = xs.length := by rw [List.size_toArray, ← r.length, List.length_map]
      exact set_madeT (xs := xs) hd pl (by simpa using strsAre_of r) (by unfold scanBound; omega) fun h2 tk z => k h2 tk (by rw [len] at z; exact z)
  refine madeA _ _ (I1.ok.hd hc) fun h2 tk ⟨hS, hk⟩ => args_nil ?_
  obtain ⟨o, es, ep, t, ho, hex, hd, _, _, _, hf, hn⟩ := hS
  have le := cnt_le xs xs.length
  have I2 : Inv X pins σ H1 { s1 with heap := h2, toks := tk } := I1.kept fun b o z => hk b o (Heap.lt_size z) z
  exact call_len_set ho hex hd hf (by rw [hn]; omega) ⟨.int (cnt xs xs.length : Nat), H1, I2.tok _, ⟨_, by rw [hn]⟩, q1⟩
def fLenSet (fa : F D) : F D := fun δ η => (fa δ η).bind fun d η => match d with
  | .lst l => match strsOf l with
    | some xs => if xs.length ≤ 1000 then .ok (.int (cnt xs xs.length : Nat)) η else .bad
    | none => .bad
  | .tup l => match strsOf l with
    | some xs => if xs.length ≤ 1000 then .ok (.int (cnt xs xs.length : Nat)) η else .bad
    | none => .bad
  | _ => .bad
theorem fe_lenSet (hK : X.K = C.K) (hc : X.calm = true) (hm : X.mg "len" = none) (hm2 : X.mg "set" = none) (ha : FE C W X a fa) (hg : Gl X "len" := by rfl) (hg2 : Gl X "set" := by rfl)
    (na : starEach [a] X.env = (false, eval a X.env) :: starEach [] X.env := by rfl) : FE C W X (.Call (.Name "len" p) [.Call (.Name "set" p2) [a] [] q] [] pos) (fLenSet fa) := by
  refine PE.imp (pe_lenSetS hc hg hm hg2 hm2 ha na) fun σ H Q ⟨G, δ, η, a0, fin⟩ => ?_
  refine tG.bind (Rel2 := Rp C) a0 fin fun d v G1 H1 η1 a1 x1 r1 fin1 => ?_
  cases r1 with
  | @lst a vs l h z r =>
    dsimp only at fin1
    cases hs : strsOf l with
    | none => rw [hs] at fin1; exact fin1.elim
    | some xs =>
      rw [hs] at fin1
      dsimp only at fin1
      split at fin1
      · rename_i hz
        have e := strsOf_r r hs
        have h2 := h.sq
        rw [← hK, e] at h2
        exact ⟨_, xs, rfl, .inl h2, hz, fin1 _ G1 H1 Nx.refl a1.he (.int _)⟩
      · exact fin1.elim
  | @tup a vs l h z r =>
    dsimp only at fin1
    cases hs : strsOf l with
    | none => rw [hs] at fin1; exact fin1.elim
    | some xs =>
      rw [hs] at fin1
      dsimp only at fin1
      split at fin1
      · rename_i hz
        have e := strsOf_r r hs
        have h2 := h.sq
        rw [← hK, e] at h2
        exact ⟨_, xs, rfl, .inr h2, hz, fin1 _ G1 H1 Nx.refl a1.he (.int _)⟩
      · exact fin1.elim
  | _ => exact fin1.elim
end
end DL
namespace DL
open PySem L2
section
variable {X : Cx} {C : Ct} {W : WX} {pos p2 p : Pos} {e a b : Expr} {es : List Expr} {fe fa fb fo : F D} {fs fn fr : F (List D)} {tg : Expr}
/-! ### [.., *e, ..] -/
def fStar (fa : F D) (fr : F (List D)) : F (List D) := fun δ η => (fa δ η).bind fun d η => match d with
  | .lst l => (fr δ η).bind fun ds η => .ok (l ++ ds) η
  | .tup l => (fr δ η).bind fun ds η => .ok (l ++ ds) η
  | _ => .bad
theorem fa_star (hK : X.K = C.K) (ha : FE C W X e fe) (hr : FA C W X es fs) (hs : starEach (.Starred e p :: es) X.env = (true, eval e X.env) :: starEach es X.env := by rfl) : FA C W X (.Starred e p :: es) (fStar fe fs) := by
  refine PA.imp (StX.pa_star ha hr hs) fun σ H Q ⟨G, δ, η, a0, fin⟩ => ?_
  refine tG.bind (Rel2 := Rps C) a0 fin fun d v G1 H1 η1 a1 x1 r1 fin1 => ?_
  cases r1 with
  | @lst q vs l h z r =>
    have h2 := h.sq
    rw [← hK] at h2
    refine ⟨q, vs, rfl, .inr h2, ?_⟩
    refine tG.bind (Rel2 := Rps C) a1 fin1 fun ds ws G2 H2 η2 a2 x2 r2 fin2 => ?_
    exact fin2 _ G2 H2 Nx.refl a2.he ((r.stab (x2.stab a1.he)).append r2)
  | @tup q vs l h z r =>
    have h2 := h.sq
    rw [← hK] at h2
    refine ⟨q, vs, rfl, .inl h2, ?_⟩
    refine tG.bind (Rel2 := Rps C) a1 fin1 fun ds ws G2 H2 η2 a2 x2 r2 fin2 => ?_
    exact fin2 _ G2 H2 Nx.refl a2.he ((r.stab (x2.stab a1.he)).append r2)
  | _ => exact fin1.elim
/-! ### methods that change a list -/
structure MutOk (C : Ct) (r : V → List V → Hp → VK → Prop) (mu : List D → List D → Option (List D)) : Prop where
  to : ∀ {G : Gh} {H : Hp} {l ds l2 : List D} {vs ws : List V} {q : Addr} {Q : VK}, mu l ds = some l2 → Rps C G H l vs → Rps C G H ds ws → H q = some (.lst vs) → (∀ vs2, Rps C G H l2 vs2 → l2.length ≤ sizeLine → Q .non (upd H q (.lst vs2))) → r (.ref q) ws H Q
def muApp : List D → List D → Option (List D)
  | l, [d] => if l.length < sizeLine then some (l ++ [d]) else none
  | _, _ => none
theorem mu_app : MutOk C rAppend muApp := ⟨fun {G H l ds l2 vs ws q Q} h r s e k => by
  unfold muApp at h
  split at h
  · split at h
    · rename_i d hz
      cases h
      cases s with
      | cons s1 s2 =>
        cases s2
        exact ⟨q, vs, _, rfl, rfl, e, by rw [← r.length]; exact hz, k _ (r.append (.cons s1 .nil)) (by rw [List.length_append]; exact hz)⟩
    · cases h
  · cases h⟩
abbrev rInsert : V → List V → Hp → VK → Prop := fun x vs H Q => ∃ (l : Addr) (xs : List V) (i : Int) (y : V), x = .ref l ∧ vs = [.int i, y] ∧ H l = some (.lst xs) ∧ xs.length < sizeLine ∧ 0 ≤ i ∧ i < 2 ^ 63 ∧
    Q .non (upd H l (.lst (xs.take i.toNat ++ [y] ++ xs.drop i.toNat)))
def muIns : List D → List D → Option (List D)
  | l, [.int i, d] => if l.length < sizeLine ∧ 0 ≤ i ∧ i < 2 ^ 63 then some (l.take i.toNat ++ [d] ++ l.drop i.toNat) else none
  | _, _ => none
theorem mu_ins : MutOk C rInsert muIns := ⟨fun {G H l ds l2 vs ws q Q} h r s e k => by
  unfold muIns at h
  split at h
  · split at h
    · rename_i i d hz
      cases h
      cases s with
      | cons s1 s2 =>
        cases s1
        cases s2 with
        | cons s3 s4 =>
          cases s4
          have hl := hz.1
          refine ⟨q, vs, i, _, rfl, rfl, e, by rw [← r.length]; exact hz.1, hz.2.1, hz.2.2, k _ (((r.take i.toNat).append (.cons s3 .nil)).append (r.drop i.toNat)) ?_⟩
          simp only [List.length_append, List.length_take, List.length_drop, List.length_cons, List.length_nil]
          omega
    · cases h
  · cases h⟩
def muClr : List D → List D → Option (List D)
  | _, [] => some []
  | _, _ => none
theorem mu_clr : MutOk C rClear muClr := ⟨fun {G H l ds l2 vs ws q Q} h r s e k => by
  unfold muClr at h
  split at h
  · cases h
    cases s
    exact ⟨q, vs, rfl, rfl, e, k [] .nil (Nat.zero_le _)⟩
  · cases h⟩
def sMut (i : Nat) (mu : List D → List D → Option (List D)) (fs : F (List D)) : S := fun δ η => match δ[i]? with
  | some (some (.own l)) => (fs δ η).toS δ fun ds η => match mu l ds with
    | some l2 => .nx (δ.set i (some (.own l2))) η
    | none => .bad
  | _ => .bad
theorem fs_mut {r : V → List V → Hp → VK → Prop} {mu : List D → List D → Option (List D)} (i : Nat) (hmu : MutOk C r mu) (h : PE X e (tBM X.K "list" r (tVar i) (tG C (Rps C) W fs))) (hsw : swapsWith e none pos.line X.env = pure false := by rfl) : FS C W X (.Expr e pos) (sMut i mu fs) := by
  refine PS.imp (ps_expr h hsw) fun Dn σ H ⟨B, G, δ, η, h, fin⟩ => ?_
  unfold sMut at fin
  split at fin
  · rename_i l hl
    obtain ⟨v, h1, h2⟩ := h.a.sl i _ hl
    cases h2 with
    | @own q vs _ m ee zz r =>
      refine ⟨_, h1, .inl ⟨rfl, vs, SqL.of ee⟩, ?_⟩
      refine tG.bindS h fin fun d v G1 H1 η1 h1' x1 r1 fin1 => ?_
      split at fin1
      · rename_i l2 hm
        have st := x1.stab h.a.he
        have e1 := x1.keep _ _ ee (h.a.nad i _ _ hl rfl h1)
        have m1 := (x1.mu _ _ ee).mpr m
        refine hmu.to hm (r.stab st) r1 e1 fun vs2 r2 hz => fin1 _ _ _ (h1'.chOwn hl h1 m1 e1 hz r2)
      · exact fin1.elim
  · exact fin.elim
theorem fs_mut0 {r : V → List V → Hp → VK → Prop} {mu : List D → List D → Option (List D)} (i : Nat) (hmu : MutOk C r mu) (h : PE X e (tBM0 X.K "list" r (tVar i))) (hsw : swapsWith e none pos.line X.env = pure false := by rfl) : FS C W X (.Expr e pos) (sMut i mu fNil) := by
  refine PS.imp (ps_expr h hsw) fun Dn σ H ⟨B, G, δ, η, h, fin⟩ => ?_
  unfold sMut at fin
  split at fin
  · rename_i l hl
    obtain ⟨v, h1, h2⟩ := h.a.sl i _ hl
    cases h2 with
    | @own q vs _ m ee zz r =>
      refine ⟨_, h1, .inl ⟨rfl, vs, SqL.of ee⟩, ?_⟩
      unfold fNil at fin
      rw [toS_ok] at fin
      split at fin
      · rename_i l2 hm
        exact hmu.to hm r .nil ee fun vs2 r2 hz => fin _ _ _ (h.chOwn hl h1 m ee hz r2)
      · exact fin.elim
  · exact fin.elim
/-- .. of the store -/
def sMutO (mu : List D → List D → Option (List D)) (fo : F D) (fs : F (List D)) : S := fun δ η => (fo δ η).toS δ fun d η => match d with
  | .obj n => match η[n]? with
    | some (.lst _) => (fs δ η).toS δ fun ds η => match η[n]? with
      | some (.lst l) => match mu l ds with
        | some l2 => .nx δ (η.set n (.lst l2))
        | none => .bad
      | _ => .bad
    | _ => .bad
  | _ => .bad
theorem fs_mutO {r : V → List V → Hp → VK → Prop} {mu : List D → List D → Option (List D)} (hmu : MutOk C r mu) (h : PE X e (tBM X.K "list" r (tG C (Rp C) W fo) (tG C (Rps C) W fs))) (hsw : swapsWith e none pos.line X.env = pure false := by rfl) : FS C W X (.Expr e pos) (sMutO mu fo fs) := by
  refine PS.imp (ps_expr h hsw) fun Dn σ H ⟨B, G, δ, η, h, fin⟩ => ?_
  refine tG.bindS h fin fun d v G1 H1 η1 h1 x1 r1 fin1 => ?_
  split at fin1
  · rename_i n
    split at fin1
    · rename_i l0 hl0
      cases r1 with
      | @obj _ q ho =>
        obtain ⟨m, z⟩ := h1.a.he.ob n _ _ hl0 ho
        cases z with
        | @lst _ vs0 _ e0 z0 rs0 =>
          refine ⟨.inl ⟨rfl, vs0, SqL.of e0⟩, ?_⟩
          refine tG.bindS h1 fin1 fun ds ws G2 H2 η2 h2 x2 r2 fin2 => ?_
          have ho2 := x2.ads _ _ ho
          split at fin2
          · rename_i l hl
            split at fin2
            · rename_i l2 hm
              obtain ⟨m, z⟩ := h2.a.he.ob n _ _ hl ho2
              cases z with
              | @lst _ vs _ ee zz rs =>
                refine hmu.to hm rs r2 ee fun vs2 r3 hz => ?_
                have nx : Nx G2 H2 G2 (upd H2 q (.lst vs2)) := Nx.chObj ho2 (by rw [ee]; exact fun z => by cases z)
                exact fin2 G2 _ σ (h2.next nx (h2.a.he.chObj ho2 (.lst upd_same hz (r3.stab (nx.stab h2.a.he)))))
            · exact fin2.elim
          · exact fin2.elim
    · exact fin1.elim
  · exact fin1.elim
theorem fs_mutO0 {r : V → List V → Hp → VK → Prop} {mu : List D → List D → Option (List D)} (hmu : MutOk C r mu) (h : PE X e (tBM0 X.K "list" r (tG C (Rp C) W fo))) (hsw : swapsWith e none pos.line X.env = pure false := by rfl) : FS C W X (.Expr e pos) (sMutO mu fo fNil) := by
  refine PS.imp (ps_expr h hsw) fun Dn σ H ⟨B, G, δ, η, h, fin⟩ => ?_
  refine tG.bindS h fin fun d v G1 H1 η1 h1 x1 r1 fin1 => ?_
  split at fin1
  · rename_i n
    split at fin1
    · rename_i l0 hl0
      cases r1 with
      | @obj _ q ho =>
        obtain ⟨m, z⟩ := h1.a.he.ob n _ _ hl0 ho
        cases z with
        | @lst _ vs _ ee z0 rs =>
          refine ⟨.inl ⟨rfl, vs, SqL.of ee⟩, ?_⟩
          unfold fNil at fin1
          rw [toS_ok] at fin1
          rw [hl0] at fin1
          dsimp only at fin1
          split at fin1
          · rename_i l2 hm
            refine hmu.to hm rs .nil ee fun vs2 r3 hz => ?_
            have nx : Nx G1 H1 G1 (upd H1 q (.lst vs2)) := Nx.chObj ho (by rw [ee]; exact fun z => by cases z)
            exact fin1 G1 _ σ (h1.next nx (h1.a.he.chObj ho (.lst upd_same hz (r3.stab (nx.stab h1.a.he)))))
          · exact fin1.elim
    · exact fin1.elim
  · exact fin1.elim
/-! ### a, b = e, [..]: the second the frame's own list -/
def sParN (i j : Nat) (fa : F D) (fn : F (List D)) : S := fun δ η => (fa δ η).toS δ fun d η => (fn δ η).toS δ fun l η => .nx ((δ.set i (some (.val d))).set j (some (.own l))) η
theorem fs_parN {i j : Nat} {st : Stmt} (h : PS X st (tPar i j (tCons (tG C (Rp C) W fa) (tCons (tN C W fn) tNil)))) : FS C W X st (sParN i j fa fn) := PS.imp h fun Dn σ H ⟨B, G, δ, η, h, fin⟩ => by
  refine tG.bindS h fin fun d v G1 H1 η1 h1 x1 r1 fin1 => ?_
  refine ⟨G1, δ, η1, h1.a, ?_⟩
  cases hf : fn δ η1 with
  | ok l η2 =>
    rw [hf] at fin1
    intro p vs G2 H2 x r q hz hp
    exact ⟨v, .ref p, rfl, fin1 _ _ _ (((h1.next x r).setVal (r1.stab (x.stab h1.a.he))).setOwn hp hz q)⟩
  | exc c ns l η2 => rw [hf] at fin1; exact fun b vs G2 H2 x r q1 q2 => fin1 b vs G2 H2 σ (h1.next x r) q1 q2
  | bad => rw [hf] at fin1; exact fin1
/-! ### two ways to read -/
def fAlt (f g : F D) : F D := fun δ η => match f δ η with
  | .bad => g δ η
  | r => r
theorem fe_alt (h1 : FE C W X e fa) (h2 : FE C W X e fb) : FE C W X e (fAlt fa fb) := ⟨fun pins s σ H Q I ⟨G, δ, η, a0, fin⟩ => by
  unfold fAlt at fin
  cases q : fa δ η with
  | bad => rw [q] at fin; exact h2.run pins s σ H Q I ⟨G, δ, η, a0, fin⟩
  | ok d η1 => rw [q] at fin; exact h1.run pins s σ H Q I ⟨G, δ, η, a0, by rw [q]; exact fin⟩
  | exc c ns l η1 => rw [q] at fin; exact h1.run pins s σ H Q I ⟨G, δ, η, a0, by rw [q]; exact fin⟩⟩
end
end DL
namespace DL
open PySem L2
open PyProof.Rows (envOfC)
section
variable {X : Cx} {C : Ct} {W : WX} {pos p2 p : Pos} {e a b : Expr} {es : List Expr} {fe fa fb fo : F D} {fs fn fr : F (List D)} {tg : Expr}
/-! ### a frame's own list changes no more -/
def sFz (i : Nat) (f : S) : S := fun δ η => match δ[i]? with
  | some (some (.own l)) => f (δ.set i (some (.val (.lst l)))) η
  | _ => f δ η
theorem Hold.freeze {B : Bs} {G : Gh} {H : Hp} {δ : En} {σ : St} {η : List O} {i : Nat} {l : List D} (h : Hold C B G H δ σ η) (hl : δ[i]? = some (some (.own l))) : ∃ G2, Hold C B G2 H (δ.set i (some (.val (.lst l)))) σ η := by
  obtain ⟨v, h1, h2⟩ := h.a.sl i _ hl
  cases h2 with
  | @own p vs _ m e zz r =>
    have hb := h.o i _ p hl rfl h1
    have npa := h.a.nad i _ p hl rfl h1
    have rh : Rh C (G.sub p) H η := by
      refine ⟨h.a.he.len, h.a.he.nd, fun n o a z1 z2 => ?_, fun a z => h.a.he.mh a z.1⟩
      obtain ⟨m, q⟩ := h.a.he.ob n o a z1 z2
      exact ⟨⟨m, fun e => npa (by rw [← e]; exact List.mem_of_getElem? z2)⟩, q.stab Stab.sub fun _ z => z⟩
    refine ⟨G.sub p, ⟨by rw [List.length_set]; exact h.a.len, fun j l2 hj => ?_, fun j k l2 l3 v hne e1 e2 o1 o2 s1 s2 => ?_, fun j l2 a hj ho hs => ?_, rh⟩, fun j l2 a hj ho hs => ?_, ⟨h.n.ads, h.n.keep, fun a o ha => ⟨fun z => (h.n.mu a o ha).mp z.1, fun z => ⟨(h.n.mu a o ha).mpr z, fun q => ?_⟩⟩, h.n.new, h.n.there⟩, ⟨h.s.ads, fun a o ha hm => ⟨(h.s.keep a o ha hm).1, fun z => (h.s.keep a o ha hm).2 z.1⟩⟩⟩
    · rcases getSet hj with ⟨rfl, q⟩ | ⟨hk, hj⟩
      · cases q
        exact ⟨_, h1, .val (.lst (.inl ⟨.inl e, fun z => z.2 rfl⟩) zz (r.stab Stab.sub))⟩
      · obtain ⟨w, e1, e2⟩ := h.a.sl j l2 hj
        refine ⟨w, e1, ?_⟩
        cases e2 with
        | val r2 => exact .val (r2.stab Stab.sub)
        | own m2 e2 z2 r2 => exact .own ⟨m2, fun q => h.a.un j i _ _ _ hk hj hl rfl rfl e1 (by rw [h1, q])⟩ e2 z2 (r2.stab Stab.sub)
        | oins m2 e2 n2 r2 => exact .oins ⟨m2, fun q => h.a.un j i _ _ _ hk hj hl rfl rfl e1 (by rw [h1, q])⟩ e2 n2 (r2.stab Stab.sub)
    · rcases getSet e1 with ⟨rfl, q⟩ | ⟨hk, e1⟩
      · cases q; cases o1
      · rcases getSet e2 with ⟨rfl, q⟩ | ⟨hk2, e2⟩
        · cases q; cases o2
        · exact h.a.un j k l2 l3 v hne e1 e2 o1 o2 s1 s2
    · rcases getSet hj with ⟨rfl, q⟩ | ⟨hk, hj⟩
      · cases q; cases ho
      · exact h.a.nad j l2 a hj ho hs
    · rcases getSet hj with ⟨rfl, q⟩ | ⟨hk, hj⟩
      · cases q; cases ho
      · exact h.o j l2 a hj ho hs
    · subst q; rw [hb] at ha; cases ha
theorem fss_frz {sts : List Stmt} {f : S} (i : Nat) (h : FSs C W X sts f) : FSs C W X sts (sFz i f) := PSs.imp h fun Dn σ H ⟨B, G, δ, η, h, fin⟩ => by
  unfold sFz at fin
  split at fin
  · rename_i l hl
    obtain ⟨G2, h2⟩ := h.freeze hl
    exact ⟨B, G2, _, η, h2, fin⟩
  · exact ⟨B, G, δ, η, h, fin⟩
/-! ### an object of the store, read as it stands -/
def fDr (fa : F D) : F D := fun δ η => (fa δ η).bind fun d η => match d with
  | .obj n => match η[n]? with
    | some (.lst l) => .ok (.lst l) η
    | _ => .ok d η
  | _ => .ok d η
theorem fu_dr (h : FE C W X e fe) : FU C W X e (fDr fe) := PE.imp h fun σ H Q ⟨G, δ, η, a0, fin⟩ => by
  refine tG.bind (Rel2 := Rpu C) a0 fin fun d v G1 H1 η1 a1 x1 r1 fin1 => ?_
  split at fin1
  · rename_i n
    split at fin1
    · rename_i l hl
      cases r1 with
      | @obj _ q ho =>
        obtain ⟨m, z⟩ := a1.he.ob n _ _ hl ho
        cases z with
        | @lst _ vs _ ee zz rs => exact fin1 _ G1 H1 Nx.refl a1.he (.inr ⟨q, vs, l, rfl, rfl, ee, rs, zz⟩)
    · exact fin1 _ G1 H1 Nx.refl a1.he (.inl r1)
  · exact fin1 _ G1 H1 Nx.refl a1.he (.inl r1)
end
/-! ### a def, with or without defaults -/
structure FunG (K : PySem.W.Frag) (x qual : Str) (st : Stmt) (f : Addr) (fd : FuncData) : Prop where
  ex : ∃ (oc : Value) (od : Option Addr) (dV kV doc pm : Value) (an : Option Addr) (cdv ct : Value) (osl : Array (Option Value)),
    fd = PySem.W.fnOf x qual (defArgs st) (defBody st) (defScope st) dV kV doc pm an cdv ct ∧ K.lookup f = some ⟨oc, od, .func fd, osl⟩ ∧ PySem.W.codeIn K cdv qual = true
  kp : PySem.W.keepIn K (.ref f) = true
section
variable {P : Program} {w : World} {K : PySem.W.Frag} {mg : Str → Option Value} {base : Heap} {C : Ct}
theorem FunG.mk' {x qual : Str} {st : Stmt} {f : Addr} {oc : Value} {od an : Option Addr} {osl : Array (Option Value)} {dV kV doc pm cdv ct : Value} (l : K.lookup f = some ⟨oc, od, .func (PySem.W.fnOf x qual (defArgs st) (defBody st) (defScope st) dV kV doc pm an cdv ct), osl⟩)
    (c : PySem.W.codeIn K cdv qual = true) (k : PySem.W.keepIn K (.ref f) = true) : FunG K x qual st f (PySem.W.fnOf x qual (defArgs st) (defBody st) (defScope st) dV kV doc pm an cdv ct) := ⟨⟨oc, od, dV, kV, doc, pm, an, cdv, ct, osl, rfl, l, c⟩, k⟩
/-- THE RULE for a def that lets no exception out -/
theorem ok_defG {x qual : Str} {st : Stmt} {f : Addr} {fd : FuncData} {N ps : List Str} {k n np : Nat} {fb : S} (F : FunG K x qual st f fd) (S : FnScope N ps (defScope st)) (hC : K = C.K) (hn : N.length = n) (hnp : ps.length = np)
    (hbody : ∀ (cdv : Value) (A : Around) (outer : List Env) (s : Shared) (H : Hp), Room k (A.deeper (envOfC qual (defScope st) s.heap.objs.size f cdv)) →
      FSs C WX0 (cxOf CX0 P w K mg base N qual (defScope st) f cdv A outer s H E0).nox (defBody st) fb) : FnOk P w K mg base CX0 (k + 1) f fd ps (spD C np (runD n fb)) := by
  obtain ⟨oc, od, dV, kV, doc, pm, an, cdv, ct, osl, rfl, lk, hcd⟩ := F.ex
  subst hn hnp
  refine fn_of lk hcd S (fun vs H Q E h => h.1) fun A outer s H vs Q E hr h => ?_
  obtain ⟨hl, G, ds, η, r, rh, fin⟩ := h
  have hd : ds.length = ps.length := r.length.trans hl
  refine ⟨_, (hbody cdv A outer s H hr).nox, ⟨G, H, G, H⟩, G, _, η, ⟨start_at r rh, fun i l a e o => ?_, Nx.refl, Stab.refl⟩, ?_⟩
  · exfalso
    by_cases hi : i < ds.length
    · rw [List.getElem?_append_left (by simpa using hi), List.getElem?_map] at e
      cases q : ds[i]? with
      | none => rw [q] at e; cases e
      | some d => rw [q] at e; cases e; cases o
    · rw [List.getElem?_append_right (by simpa using hi), List.getElem?_replicate] at e
      split at e <;> cases e
  · unfold runD at fin
    split at fin
    · rename_i δ' η' q
      rw [q]
      exact fun G' H' σ' h => fin _ G' H' h.n h.a.he .non
    · rename_i d η' q
      rw [q]
      exact fun v G' H' nx rh r => fin v G' H' nx rh r
    · rename_i c ns l δ' η' q
      rw [q]
      exact fun x vs G' H' σ' h q1 q2 => fin x vs G' H' h.n h.a.he q1 q2
    · exact fin.elim
/-- every parameter is given, the defaults (a tuple at T) are not asked -/
theorem kd_all {fd : FuncData} {ps ks : List Str} {np : Nat} {ix : List Nat} {T : Addr} {o : Obj} {its : Array Value} {m : Nat} (lT : K.lookup T = some o) (oT : o.data = .seq its m)
    (h : ∀ us ws : List Value, us.length = np → ws.length = ks.length → ∃ k, bindArgs fd ⟨us, ks.zip ws⟩ = seqItems? (.ref T) >>= k ∧ k (some its) = pure (ps.zip (DL.pick ix (us ++ ws)))) : KDx K fd ps np ks ix [] :=
  ⟨_, _, KBn.mk (g := fun us ws => DL.pick ix (us ++ ws)) (gV := fun us ws => DL.pick ix (us ++ ws)) (fun s us ws X l1 l2 => by
    obtain ⟨k, e1, e2⟩ := h us ws l1 l2
    refine BindsTo.of_looks fun M => ?_
    rw [e1]
    exact looks_items X lT oT (PySem.W.Looks.of_pure e2)) fun r q => pick_vals (r.append q) ix, fun _ r1 r2 => by rw [List.append_nil]; exact pick_rps (r1.append r2) ix⟩
end
end DL
namespace DL
open PySem L2
/-- law's promise, at every table of classes -/
def spL (K : PySem.W.Frag) (m : DF) : Sp := fun vs H Q E => ∀ cl : Nat → Addr, spD ⟨K, cl, fun _ => 0, none⟩ 1 m vs H Q E
theorem law_spL {K : PySem.W.Frag} {m : DF} {H : Hp} {a : Addr} {ns : List Int} (t : ∀ ns : List Int, ns.length ≤ 63 → ∃ η, m [.lst (ns.map .int)] [] = .ok (.bl true) η) (hl : ns.length ≤ 63) (ho : Only H) (hS : SqL K H a (ns.map V.int)) :
    spL K m [.ref a] H (fun v _ => v = .bl true) fun _ _ _ => False := fun cl => law_sp t hl ho hS
end DL
namespace DL
open PySem L2
section
variable {X : Cx} {C : Ct} {W : WX} {pos p2 : Pos} {e a b : Expr} {es : List Expr} {fe fa fb fc fo : F D} {fs fn : F (List D)} {tg : Expr}
/-- a slot takes as its own a list that only the ghost knows -/
theorem Hold.putOwn {B : Bs} {G : Gh} {H : Hp} {δ : En} {σ : St} {η : List O} {i : Nat} {p : Addr} {l : List D} {vs : List V} (h : Hold C B G H δ σ η) (hm : G.M p) (he : H p = some (.lst vs))
    (np : ∀ (j : Nat) (l : L), δ[j]? = some (some l) → l.owns = true → σ[j]? = some (some (V.ref p)) → False) (npa : p ∉ G.ads) (nb : B.H p = none) (hz : l.length ≤ sizeLine) (r : Rps C G H l vs) :
    Hold C B G H (δ.set i (some (.own l))) (σ.set i (some (.ref p))) η := by
  refine ⟨⟨by simp [h.a.len], fun j l' hl => ?_, fun j k l' l'' v' hne h1 h2 o1 o2 s1 s2 => ?_, fun j l' b hl o s => ?_, h.a.he⟩, fun j l' b hl o s => ?_, h.n, h.s⟩
  · rcases getSet hl with ⟨rfl, z⟩ | ⟨hj, hl'⟩
    · cases z
      have hlt : j < σ.length := by
        have := (List.getElem?_eq_some_iff.mp hl).1
        rw [List.length_set] at this
        rw [← h.a.len]; exact this
      exact ⟨_, by rw [List.getElem?_set_self hlt], .own hm he hz r⟩
    · obtain ⟨w, h1, h2⟩ := h.a.sl j l' hl'
      exact ⟨w, by rw [List.getElem?_set_ne (Ne.symm hj)]; exact h1, h2⟩
  · rcases getSet h1 with ⟨q1, y1⟩ | ⟨e1, y1⟩
    · rcases getSet h2 with ⟨q2, y2⟩ | ⟨e2, y2⟩
      · exact hne (q1.trans q2.symm)
      · subst q1
        rcases getSet s1 with ⟨_, w1⟩ | ⟨z, _⟩
        · cases w1
          rw [List.getElem?_set_ne (Ne.symm e2)] at s2
          exact np k l'' y2 o2 s2
        · exact z rfl
    · rw [List.getElem?_set_ne (Ne.symm e1)] at s1
      rcases getSet h2 with ⟨q2, y2⟩ | ⟨e2, y2⟩
      · subst q2
        rcases getSet s2 with ⟨_, w2⟩ | ⟨z, _⟩
        · cases w2
          exact np j l' y1 o1 s1
        · exact z rfl
      · rw [List.getElem?_set_ne (Ne.symm e2)] at s2
        exact h.a.un j k l' l'' v' hne y1 y2 o1 o2 s1 s2
  · rcases getSet hl with ⟨rfl, z⟩ | ⟨hj, hl'⟩
    · rcases getSet s with ⟨_, w⟩ | ⟨z, _⟩
      · cases w; exact npa
      · exact (z rfl).elim
    · rw [List.getElem?_set_ne (Ne.symm hj)] at s
      exact h.a.nad j l' b hl' o s
  · rcases getSet hl with ⟨rfl, z⟩ | ⟨hj, hl'⟩
    · rcases getSet s with ⟨_, w⟩ | ⟨z, _⟩
      · cases w; exact nb
      · exact (z rfl).elim
    · rw [List.getElem?_set_ne (Ne.symm hj)] at s
      exact h.o j l' b hl' o s
/-- a, b = [..], e: the first the frame's own list -/
def sParNV (i j : Nat) (fn : F (List D)) (fa : F D) : S := fun δ η => (fn δ η).toS δ fun l η => (fa δ η).toS δ fun d η => .nx ((δ.set i (some (.own l))).set j (some (.val d))) η
theorem fs_parNV {i j : Nat} {st : Stmt} (h : PS X st (tPar i j (tCons (tN C W fn) (tCons (tG C (Rp C) W fa) tNil)))) : FS C W X st (sParNV i j fn fa) := PS.imp h fun Dn σ H ⟨B, G, δ, η, h, fin⟩ => by
  refine ⟨G, δ, η, h.a, ?_⟩
  unfold sParNV at fin
  cases hf : fn δ η with
  | ok l η1 =>
    rw [hf, toS_ok] at fin
    intro p vs G1 H1 x r q hz hp
    have h1 := h.next x r
    have h1' : Hold C B (G1.add p) (upd H1 p (.lst vs)) δ σ η1 := h1.next (Nx.add hp) (h1.a.he.add hp)
    have npa1 : p ∉ (G1.add p).ads := fun hm => h1.a.he.mh p (h1.a.he.adsM hm) hp
    refine tG.bindS h1' fin fun d v G2 H2 η2 h2 x2 r2 fin2 => ⟨.ref p, v, rfl, fin2 G2 H2 _ (Hold.setVal (h2.putOwn ((x2.mu p _ upd_same).mpr (.inr rfl)) (x2.keep p _ upd_same npa1) (fun k lk z1 z2 z3 => ?_) (fun z => ?_) (h1.n.there p hp) hz ((q.stab (Stab.add hp)).stab (x2.stab h1'.a.he))) r2)⟩
    · obtain ⟨w, e1, e2⟩ := h1.a.sl k lk z1
      rw [z3] at e1
      cases e1
      cases e2 with
      | val _ => cases z2
      | own m e z r => rw [hp] at e; cases e
      | oins m e n r => rw [hp] at e; cases e
    · rcases x2.new p z with z | z
      · exact npa1 z
      · rw [upd_same] at z; cases z
  | exc c ns l η1 => rw [hf] at fin; exact fun b vs G2 H2 x r q1 q2 => fin b vs G2 H2 σ (h.next x r) q1 q2
  | bad => rw [hf] at fin; exact fin
/-- the same by way of a tuple (a name that an inner block reads) -/
theorem fs_asgNV {i j : Nat} {st : Stmt} (h : PS X st (tAsg (tTup (tCons (tN C W fn) (tCons (tG C (Rp C) W fa) tNil))) (gTup X.K 2 (gCons (gName i) (gCons (gName j) gNil))))) : FS C W X st (sParNV i j fn fa) := PS.imp h fun Dn σ H ⟨B, G, δ, η, h, fin⟩ => by
  refine ⟨G, δ, η, h.a, ?_⟩
  unfold sParNV at fin
  cases hf : fn δ η with
  | ok l η1 =>
    rw [hf, toS_ok] at fin
    intro p vs G1 H1 x r q hz hp
    have h1 := h.next x r
    have h1' : Hold C B (G1.add p) (upd H1 p (.lst vs)) δ σ η1 := h1.next (Nx.add hp) (h1.a.he.add hp)
    have npa1 : p ∉ (G1.add p).ads := fun hm => h1.a.he.mh p (h1.a.he.adsM hm) hp
    refine tG.bindS h1' fin fun d v G2 H2 η2 h2 x2 r2 fin2 => ⟨by rw [sizeLine_eq]; simp, fun T hT => ⟨T, [.ref p, v], rfl, SqT.of upd_same, rfl, .ref p, [v], rfl, v, [], rfl, rfl, ?_⟩⟩
    have e2 : H2 p = some (.lst vs) := x2.keep p _ upd_same npa1
    have y : Nx G2 H2 G2 (upd H2 T (.tup [.ref p, v])) := Nx.alloc hT
    have h3 := h2.next y (h2.a.he.alloc hT)
    have npa2 : p ∉ G2.ads := fun z => by
      rcases x2.new p z with z | z
      · exact npa1 z
      · rw [upd_same] at z; cases z
    refine fin2 G2 _ _ (Hold.setVal (h3.putOwn ((x2.mu p _ upd_same).mpr (.inr rfl)) (y.keep p _ e2 npa2) (fun k lk z1 z2 z3 => ?_) npa2 (h1.n.there p hp) hz (((q.stab (Stab.add hp)).stab (x2.stab h1'.a.he)).stab (y.stab h2.a.he))) (r2.stab (y.stab h2.a.he)))
    obtain ⟨w, e1, e2⟩ := h1.a.sl k lk z1
    rw [z3] at e1
    cases e1
    cases e2 with
    | val _ => cases z2
    | own m e z r => rw [hp] at e; cases e
    | oins m e n r => rw [hp] at e; cases e
  | exc c ns l η1 => rw [hf] at fin; exact fun b vs G2 H2 x r q1 q2 => fin b vs G2 H2 σ (h.next x r) q1 q2
  | bad => rw [hf] at fin; exact fin
theorem fs_asgN {i j : Nat} {st : Stmt} (h : PS X st (tAsg (tTup (tCons (tG C (Rp C) W fa) (tCons (tN C W fn) tNil))) (gTup X.K 2 (gCons (gName i) (gCons (gName j) gNil))))) : FS C W X st (sParN i j fa fn) := PS.imp h fun Dn σ H ⟨B, G, δ, η, h, fin⟩ => by
  refine tG.bindS h fin fun d v G1 H1 η1 h1 x1 r1 fin1 => ?_
  refine ⟨G1, δ, η1, h1.a, ?_⟩
  cases hf : fn δ η1 with
  | ok l η2 =>
    rw [hf] at fin1
    intro p vs G2 H2 x r q hz hp
    refine ⟨by rw [sizeLine_eq]; simp, fun T hT => ⟨T, [v, .ref p], rfl, SqT.of upd_same, rfl, v, [.ref p], rfl, .ref p, [], rfl, rfl, ?_⟩⟩
    have h2 := h1.next x r
    have h2' : Hold C B (G2.add p) (upd H2 p (.lst vs)) δ σ η2 := h2.next (Nx.add hp) (h2.a.he.add hp)
    have npa1 : p ∉ (G2.add p).ads := fun hm => h2.a.he.mh p (h2.a.he.adsM hm) hp
    have y : Nx (G2.add p) (upd H2 p (.lst vs)) (G2.add p) (upd (upd H2 p (.lst vs)) T (.tup [v, .ref p])) := Nx.alloc hT
    have h3 := (h2'.next y (h2'.a.he.alloc hT)).setVal (i := i) (((r1.stab (x.stab h1.a.he)).stab (Stab.add hp)).stab (y.stab h2'.a.he))
    refine fin1 _ _ _ (h3.putOwn (.inr rfl) (y.keep p _ upd_same npa1) (fun k lk z1 z2 z3 => ?_) npa1 (h2.n.there p hp) hz ((q.stab (Stab.add hp)).stab (y.stab h2'.a.he)))
    rcases getSet z1 with ⟨rfl, q1⟩ | ⟨hk, z1⟩
    · cases q1; cases z2
    · rw [List.getElem?_set_ne (Ne.symm hk)] at z3
      obtain ⟨w, e1, e2⟩ := h2.a.sl k lk z1
      rw [z3] at e1
      cases e1
      cases e2 with
      | val _ => cases z2
      | own m e z r => rw [hp] at e; cases e
      | oins m e n r => rw [hp] at e; cases e
  | exc c ns l η2 => rw [hf] at fin1; exact fun b vs G2 H2 x r q1 q2 => fin1 b vs G2 H2 σ (h1.next x r) q1 q2
  | bad => rw [hf] at fin1; exact fin1
/-- a, b, c = e1, e2, e3 -/
def sPar3 (i j l : Nat) (fa fb fc : F D) : S := fun δ η => (fa δ η).toS δ fun d η => (fb δ η).toS δ fun e η => (fc δ η).toS δ fun g η => .nx (((δ.set i (some (.val d))).set j (some (.val e))).set l (some (.val g))) η
theorem fs_par3 {i j l : Nat} {st : Stmt} (h : PS X st (tPar3 i j l (tCons (tG C (Rp C) W fa) (tCons (tG C (Rp C) W fb) (tCons (tG C (Rp C) W fc) tNil))))) : FS C W X st (sPar3 i j l fa fb fc) := PS.imp h fun Dn σ H ⟨B, G, δ, η, h, fin⟩ => by
  refine tG.bindS h fin fun d v G1 H1 η1 h1 x1 r1 fin1 => ?_
  refine tG.bindS h1 fin1 fun e w G2 H2 η2 h2 x2 r2 fin2 => ?_
  refine tG.bindS h2 fin2 fun g u G3 H3 η3 h3 x3 r3 fin3 => ?_
  exact ⟨v, w, u, rfl, fin3 G3 H3 _ (((h3.setVal ((r1.stab (x2.stab h1.a.he)).stab (x3.stab h2.a.he))).setVal (r2.stab (x3.stab h2.a.he))).setVal r3)⟩
end
end DL
namespace DL
open PySem L2
section
variable {X : Cx} {C : Ct} {W : WX} {pos p2 p : Pos} {e a b : Expr} {es : List Expr} {fe fa fb fo : F D} {fs fn fk : F (List D)}
variable {P : Program} {k n : Nat} {g A : Addr} {fd : FuncData} {ps ks : List Str} {df : DF} {x : Str}
/-! ### len(o), repr(o), o == q of objects of the text's own classes -/
def rLenM (C : Ct) (Cc : Addr) (n : Nat) (df : DF) : List V → Hp → VK → Prop := fun xs H Q => ∃ p dx fs, xs = [.ref p] ∧ H p = some (.ins Cc dx fs) ∧ spD C n df [.ref p] H (fun v H' => ∃ i : Int, v = .int i ∧ (0 ≤ i ∧ i < 2 ^ 63) ∧ Q (.int i) H') E0
theorem call_lenM {Cc : Addr} (F : FnOk X.prog X.w X.K X.mg X.base CX0 k g fd ps (spD C n df)) (hr : Room (k + 1) X.A) (hs : PySem.W.findIn X.K (.ref Cc) "__len__" = some (some (.ref g))) (hf : PySem.W.isFn X.K (.ref g) = true) (hb : Binds X.K fd ps []) : CallR X (.builtin "len") (rLenM C Cc n df) := by
  intro pins s σ H xs us Q I r hq
  obtain ⟨p, dx, fs, rfl, hp, hq⟩ := hq
  cases r with
  | cons r0 r1 =>
    cases r1
    cases r0
    obtain ⟨mA, J, _⟩ := ins_get I.hok hp
    obtain ⟨od, J, _⟩ := J.look
    obtain ⟨m, hF⟩ := I.fr
    refine PySem.W.len_K hF I.ok.mod.kin J hs hf ?_
    refine wpAny_mono (call_fn F hr.in1 I.env0.in1 hb I (vs := [V.ref p]) (.cons (show RelV (V.ref p) (Value.ref p) from rfl) .nil) hq) (fun u s' z => ?_) fun _ _ z => z
    obtain ⟨v', H', I', rv, i, rfl, hi, hQ⟩ := z
    obtain ⟨t, rfl⟩ := (show ∃ t, u = Value.int i t from rv)
    exact ⟨hi, .int i, H', I'.tok _, ⟨_, rfl⟩, hQ⟩
def rReprM (C : Ct) (Cc : Addr) (n : Nat) (df : DF) : List V → Hp → VK → Prop := fun xs H Q => ∃ p dx fs, xs = [.ref p] ∧ H p = some (.ins Cc dx fs) ∧ spD C n df [.ref p] H (fun v H' => ∃ z : Str, v = .str z ∧ Q (.str z) H') E0
theorem call_reprM {Cc : Addr} (F : FnOk X.prog X.w X.K X.mg X.base CX0 k g fd ps (spD C n df)) (hr : Room (k + 1) X.A) (hs : PySem.W.findIn X.K (.ref Cc) "__repr__" = some (some (.ref g))) (hf : PySem.W.isFn X.K (.ref g) = true) (hb : Binds X.K fd ps []) : CallR X (.builtin "repr") (rReprM C Cc n df) := by
  intro pins s σ H xs us Q I r hq
  obtain ⟨p, dx, fs, rfl, hp, hq⟩ := hq
  cases r with
  | cons r0 r1 =>
    cases r1
    cases r0
    obtain ⟨mA, J, _⟩ := ins_get I.hok hp
    obtain ⟨od, J, _⟩ := J.look
    obtain ⟨m, hF⟩ := I.fr
    refine PySem.W.repr_K (by have := hr.in1.un; omega) hF I.ok.mod.kin J hs hf ?_
    refine wpAny_mono (call_fn F hr.in1 I.env0.in1 hb I (vs := [V.ref p]) (.cons (show RelV (V.ref p) (Value.ref p) from rfl) .nil) hq) (fun u s' z => ?_) fun _ _ z => z
    obtain ⟨v', H', I', rv, z, rfl, hQ⟩ := z
    obtain ⟨t, rfl⟩ := (show ∃ t, u = Value.str z t from rv)
    exact ⟨.str z, H', I', ⟨_, rfl⟩, hQ⟩
def fLenM (c n : Nat) (df : DF) (fa : F D) : F D := fun δ η => (fa δ η).bind fun o η => if insC η c o = true then ((arg n df [o] η).nox).bind fun z η => (match z with | .int i => if 0 ≤ i ∧ i < 2 ^ 63 then .ok (.int i) η else .bad | _ => .bad) else .bad
def fReprM (c n : Nat) (df : DF) (fa : F D) : F D := fun δ η => (fa δ η).bind fun o η => if insC η c o = true then ((arg n df [o] η).nox).bind fun z η => (match z with | .str i => .ok (.str i) η | _ => .bad) else .bad
theorem str_ok_of {G : Gh} {H : Hp} {z : Str} {v : V} (r : Rp C G H (.str z) v) : v = .str z ∧ Rp C G H (.str z) (.str z) := by
  cases r with
  | str _ h => exact ⟨rfl, .str z h⟩
theorem fe_lenM {c : Nat} (hc : CallR X (.builtin "len") (rLenM C (C.cl c) n df)) (hm : X.mg "len" = none) (ha : FE C W X e fa) (hg : Gl X "len" := by rfl)
    (hs : starEach [e] X.env = (false, eval e X.env) :: starEach [] X.env := by rfl) (hpl : (backTo pos (starEach [] X.env)).any (·.1) = false := by rfl) : FE C W X (.Call (.Name "len" p) [e] [] pos) (fLenM c n df fa) := by
  refine PE.imp (pe_callB hc hg hm PySem.boot_len (pa_cons ha pa_nil hs) (he := hs) (hpl := hpl)) fun σ H Q ⟨G, δ, η, a0, fin⟩ => ?_
  refine tG.bind (Rel2 := Rp C) a0 fin fun d v G1 H1 η1 a1 x1 r1 fin1 => ?_
  split at fin1
  · rename_i q
    obtain ⟨p, dx, fs, rfl, he⟩ := insC_at q r1 a1.he
    refine ⟨p, dx, fs, rfl, he, arg_run (.cons r1 .nil) a1.he (E' := fun c d H' => W c d σ H') (FinR.bindQ fin1 fun z η3 v3 G3 H3 x3 h3 r3 fin3 => ?_)⟩
    cases r3 with
    | int i =>
      dsimp only at fin3
      split at fin3
      · rename_i hi; exact ⟨i, rfl, hi, fin3 _ G3 H3 Nx.refl h3 (.int _)⟩
      · exact fin3.elim
    | _ => exact fin3.elim
  · exact fin1.elim
theorem fe_reprM {c : Nat} (hc : CallR X (.builtin "repr") (rReprM C (C.cl c) n df)) (hm : X.mg "repr" = none) (ha : FE C W X e fa) (hv : bootBuiltins "repr" = some (.builtin "repr")) (hg : Gl X "repr" := by rfl)
    (hs : starEach [e] X.env = (false, eval e X.env) :: starEach [] X.env := by rfl) (hpl : (backTo pos (starEach [] X.env)).any (·.1) = false := by rfl) : FE C W X (.Call (.Name "repr" p) [e] [] pos) (fReprM c n df fa) := by
  refine PE.imp (pe_callB hc hg hm hv (pa_cons ha pa_nil hs) (he := hs) (hpl := hpl)) fun σ H Q ⟨G, δ, η, a0, fin⟩ => ?_
  refine tG.bind (Rel2 := Rp C) a0 fin fun d v G1 H1 η1 a1 x1 r1 fin1 => ?_
  split at fin1
  · rename_i q
    obtain ⟨p, dx, fs, rfl, he⟩ := insC_at q r1 a1.he
    refine ⟨p, dx, fs, rfl, he, arg_run (.cons r1 .nil) a1.he (E' := fun c d H' => W c d σ H') (FinR.bindQ fin1 fun z η3 v3 G3 H3 x3 h3 r3 fin3 => ?_)⟩
    cases z with
    | str z =>
      obtain ⟨rfl, r4⟩ := str_ok_of r3
      exact ⟨z, rfl, fin3 _ G3 H3 Nx.refl h3 r4⟩
    | _ => exact fin3.elim
  · exact fin1.elim
end
end DL
namespace DL
open PySem L2
section
variable {X : Cx} {C : Ct} {W : WX} {pos p2 p : Pos} {e a b : Expr} {es : List Expr} {fe fa fb fo : F D} {fs fn fk : F (List D)}
/-! ### texts of numbers, f-strings -/
def intTx (i : Int) : Option D := if i.natAbs.log2 < 1920 ∧ PySem.PyData.strOk (toString i) = true then some (.str (toString i)) else none
def fmtD : D → Option D
  | .str y => if y.length ≤ sizeLine then some (.str y) else none
  | .int i => intTx i
  | _ => none
theorem fe_fmt (he : FE C W X e fe) : FE C W X (.FormattedValue e (-1) none pos) (fCall1 fmtD fe) := PE.imp (pe_fmt he) fun σ H Q ⟨G, δ, η, a0, fin⟩ => by
  refine tG.bind (Rel2 := Rp C) a0 fin fun d v G1 H1 η1 a1 x1 r1 fin1 => ?_
  cases r1 with
  | str y hy =>
    dsimp only [fmtD] at fin1
    split at fin1
    · rename_i hz; exact .inl ⟨y, rfl, hz, fin1 _ G1 H1 Nx.refl a1.he (.str y hy)⟩
    · exact fin1.elim
  | int i =>
    dsimp only [fmtD] at fin1
    unfold intTx at fin1
    split at fin1
    · rename_i hz; exact .inr ⟨i, rfl, hz.1, fin1 _ G1 H1 Nx.refl a1.he (.str _ hz.2)⟩
    · exact fin1.elim
  | _ => exact fin1.elim
def jsF : List (F D) → Str → F D
  | [], acc => fun δ η => .ok (.str acc) η
  | f :: fs, acc => fun δ η => (f δ η).bind fun d η => match d with
    | .str y => if (acc ++ y).length ≤ sizeLine then jsF fs (acc ++ y) δ η else .bad
    | _ => .bad
inductive FJ (C : Ct) (W : WX) (X : Cx) : List Expr → List (F D) → Prop
  | nil : FJ C W X [] []
  | cons {e : Expr} {f : F D} {es : List Expr} {fs : List (F D)} : FE C W X e f → FJ C W X es fs → FJ C W X (e :: es) (f :: fs)
theorem FJ.pj {fs : List (F D)} (h : FJ C W X es fs) : PJ X es (fs.map (tG C (Rp C) W)) := by
  induction h with
  | nil => exact .nil
  | cons h _ ih => exact .cons h ih
theorem js_of : ∀ {fs : List (F D)} {acc : Str} {σ : St} {H : Hp} {Q : VK} {G : Gh} {δ : En} {η : List O}, At C G H δ σ η → PySem.PyData.strOk acc = true → FinR C (Rp C) (fun c d H' => W c d σ H') G H (jsF fs acc δ η) Q → tJs (fs.map (tG C (Rp C) W)) acc σ H fun out H1 => Q (.str out) H1
  | [], acc, σ, H, Q, G, δ, η, a0, ok, fin => fin _ G H Nx.refl a0.he (.str acc ok)
  | f :: fs, acc, σ, H, Q, G, δ, η, a0, ok, fin => by
    show tG C (Rp C) W f σ H _
    refine tG.bind (Rel2 := Rp C) (Q2 := Q) (k := fun d η => match d with
      | .str y => if (acc ++ y).length ≤ sizeLine then jsF fs (acc ++ y) δ η else .bad
      | _ => .bad) a0 fin fun d v G1 H1 η1 a1 x1 r1 fin1 => ?_
    cases r1 with
    | str y hy =>
      dsimp only at fin1
      split at fin1
      · rename_i hz; exact ⟨y, rfl, hz, js_of a1 (ok_app ok hy) fin1⟩
      · exact fin1.elim
    | _ => exact fin1.elim
theorem fe_joined {v1 v2 : Expr} {rest : List Expr} {fs : List (F D)} (h : FJ C W X (v1 :: v2 :: rest) fs) : FE C W X (.JoinedStr (v1 :: v2 :: rest) pos) (jsF fs Str.empty) := PE.imp (pe_joined h.pj) fun σ H Q ⟨G, δ, η, a0, fin⟩ => js_of a0 (by decide +kernel) fin
def strC : D → Option D
  | .int i => intTx i
  | .str y => some (.str y)
  | _ => none
theorem c_str : CallR X (.type "str") (rC1 C strC) := fun pins s σ H xs us Q I r ⟨G, η, d, v, e, hr, h1, q⟩ => by
  unfold strC at q
  split at q
  · unfold intTx at q
    split at q
    · rename_i i hz
      exact call_str_int pins s σ H xs us Q I r ⟨i, by rw [e, h1.int], hz.1, q.same hr (.str _ hz.2)⟩
    · exact q.elim
  · exact SkE.call_str_str pins s σ H xs us Q I r ⟨_, by rw [e, h1.str], q.same hr (.str _ h1.strOk)⟩
  · exact q.elim
end
end DL
namespace DL
open PySem L2
section
variable {X : Cx} {C : Ct} {W : WX} {pos p2 p : Pos} {e a b : Expr} {es : List Expr} {fe fa fb fo : F D} {fs fn fk : F (List D)}
variable {P : Program} {k n : Nat} {g A : Addr} {fd : FuncData} {ps ks : List Str} {df : DF} {x : Str}
/-! ### o == q, both of one class of the text's own, by its __eq__ -/
def rEqM (C : Ct) (Cc : Addr) (n : Nat) (df : DF) : R2 := fun x y H Q => ∃ p dx fs q dy gs, x = .ref p ∧ y = .ref q ∧ H p = some (.ins Cc dx fs) ∧ H q = some (.ins Cc dy gs) ∧ spD C n df [.ref p, .ref q] H (fun v H' => ∃ b, v = .bl b ∧ Q (.bl b) H') E0
theorem o_eqM {Cc : Addr} (F : FnOk X.prog X.w X.K X.mg X.base CX0 k g fd ps (spD C n df)) (hr : Room k X.A) (hs : PySem.W.findIn X.K (.ref Cc) "__eq__" = some (some (.ref g))) (hf : PySem.W.isFn X.K (.ref g) = true) (hb : Binds X.K fd ps []) :
    OpR X (compareOp .Eq) (rEqM C Cc n df) := by
  intro pins s σ H x y v u Q I rx ry hq
  obtain ⟨p, dx, fs, q, dy, gs, rfl, rfl, hp, hp', hq⟩ := hq
  cases rx
  cases ry
  obtain ⟨mA, J, _⟩ := ins_get I.hok hp
  obtain ⟨mB, J', _⟩ := ins_get I.hok hp'
  obtain ⟨od, J, _⟩ := J.look
  obtain ⟨od', J', _⟩ := J'.look
  obtain ⟨m, hF⟩ := I.fr
  refine PySem.W.cmp_K (op := .Eq) (tb := .ref Cc) hr.units0 hF I.ok.mod.kin J J'.type (by simp [PySem.W.notFirst]) hs hf ?_
  refine wpAny_mono (call_fn F hr I.env0 hb I (vs := [V.ref p, V.ref q]) (.cons rfl (.cons rfl .nil)) hq) (fun r s' z => ?_) fun _ _ z => z
  obtain ⟨v', H', I', rv, b, rfl, hQ⟩ := z
  obtain rfl : r = Value.bool b := rv
  exact ⟨.bl b, H', I', rfl, hQ⟩
def fEqM (c n : Nat) (df : DF) (fa fb : F D) : F D := fun δ η => (fa δ η).bind fun d η => (fb δ η).bind fun o η => if insC η c d = true ∧ insC η c o = true then ((arg n df [d, o] η).nox).bind fun z η => (match z with | .bl b => .ok (.bl b) η | _ => .bad) else .bad
theorem fe_eqM {c : Nat} {op : CmpOp} (ho : OpR X (compareOp op) (rEqM C (C.cl c) n df)) (ha : FE C W X a fa) (hb : FE C W X b fb) (hm : behindInMarks op b = false := by rfl) : FE C W X (.Compare a [op] [b] pos) (fEqM c n df fa fb) := by
  refine PE.imp (pe_cmpR ho ha hb hm) fun σ H Q ⟨G, δ, η, a0, fin⟩ => ?_
  refine tG.bind (Rel2 := Rp C) a0 fin fun d v G1 H1 η1 a1 x1 r1 fin1 => ?_
  refine tG.bind (Rel2 := Rp C) a1 fin1 fun o w G2 H2 η2 a2 x2 r2 fin2 => ?_
  split at fin2
  · rename_i q
    have r1' := r1.stab (x2.stab a1.he)
    obtain ⟨p, dx, fs, rfl, he⟩ := insC_at q.1 r1' a2.he
    obtain ⟨p', dx', fs', rfl, he'⟩ := insC_at q.2 r2 a2.he
    refine ⟨p, dx, fs, p', dx', fs', rfl, rfl, he, he', arg_run (.cons r1' (.cons r2 .nil)) a2.he (E' := fun c d H' => W c d σ H') (FinR.bindQ fin2 fun z η3 v3 G3 H3 x3 h3 r3 fin3 => ?_)⟩
    cases r3 with
    | bl b => exact ⟨b, rfl, fin3 _ G3 H3 Nx.refl h3 (.bl _)⟩
    | _ => exact fin3.elim
  · exact fin2.elim
/-! ### isinstance(o, Own), o of that class -/
def fIsC (c : Nat) (fa : F D) : F D := fun δ η => (fa δ η).bind fun d η => if insC η c d = true then .ok (.bl true) η else .bad
theorem fe_isC {c : Nat} {T : Str} {q : Pos} (ic : C8.InsC X.K (C.cl c)) (hm : X.mg "isinstance" = none) (hmT : X.mg T = some (.ref (C.cl c))) (ha : FE C W X e fa) (hg : Gl X "isinstance" := by rfl) (hgT : Gl X T := by rfl)
    (hdb : (T == ("__debug__" : Str)) = false := by decide)
    (hs : starEach [e, .Name T q] X.env = (false, eval e X.env) :: starEach [.Name T q] X.env := by rfl) (hpl : (backTo pos (starEach [.Name T q] X.env)).any (·.1) = false := by rfl)
    (hs2 : starEach [.Name T q] X.env = (false, eval (.Name T q) X.env) :: starEach [] X.env := by rfl) : FE C W X (.Call (.Name "isinstance" p) [e, .Name T q] [] pos) (fIsC c fa) := by
  refine PE.imp (pe_callB (C8.call_isC ic) hg hm (by decide +kernel) (pa_cons ha (pa_cons (pe_glob (v := .ref (C.cl c)) hgT hmT rfl hdb) pa_nil hs2) hs) (by decide) (by decide) hs hpl) fun σ H Q ⟨G, δ, η, at0, fin⟩ => ?_
  refine tG.bind (Rel2 := Rp C) at0 fin fun d v G1 H1 η1 a1 x1 r1 fin1 => ?_
  split at fin1
  · rename_i z
    obtain ⟨p', dx, fs, rfl, he⟩ := insC_at z r1 a1.he
    exact ⟨p', dx, fs, rfl, he, fin1 _ G1 H1 Nx.refl a1.he (.bl _)⟩
  · exact fin1.elim
end
end DL
namespace DL
open PySem PySem.Spec PyProof.Rows L2
/-! ### sorted(set(ints)) -/
section
variable {prog : Program} {w : World} {A : Around} {E : Value → Shared → Prop} {s : Shared} {l : Addr} {items : Array Value} {ns : List Int}
/-- what set(..) of ints has made -/
def MadeI (w : World) (s : Shared) (ns : List Int) (h2 : Heap) : Prop := (∃ c, SetR w h2 s.heap.objs.size (fun j => decide (j ∈ ns)) c ∧ c ≤ ns.length) ∧ ∀ b o, b < s.heap.objs.size → s.heap.get? b = some o → h2.get? b = some o
def FilledI (w : World) (s : Shared) (ns : List Int) (v : Value) (s2 : Shared) : Prop := v = .none ∧ ∃ h2 tk, s2 = { s with heap := h2, toks := tk } ∧ MadeI w s ns h2
set_option maxHeartbeats 3200000 in
/-- the fresh set takes the list's ints in -/
theorem set_fillI (hh : A.in1.handled = none) (hl : s.heap.IsList l items) (hi : IntsAre items.toList ns) (hb : ns.length + 1 < scanBound) :
    wpAny (model prog w) A (Builtin.«set.__init__» ⟨[.ref s.heap.objs.size, .ref l], []⟩) (fun f s2 => ∃ v, f = .done (.ret v) ∧ FilledI w s ns v s2) E { s with heap := s.heap.push (emptySet (!w.params.followText "set-order")) } := by
  obtain ⟨⟨cls, dict, data, slots⟩, at1, hcls, m, hdata⟩ := id hl
  cases hcls
  cases hdata
  have lts : l < s.heap.objs.size := Heap.lt_size at1
  generalize hled : (!w.params.followText "set-order") = led
  have at0 : (s.heap.push (emptySet led)).get? s.heap.objs.size = some (emptySet led) := Heap.get?_push_size _ rfl
  have at2 : (s.heap.push (emptySet led)).get? l = some { cls := .type "list", dict := dict, data := .seq items m, slots := slots } := Heap.get?_push_of_some _ at1
  have isl : (s.heap.push (emptySet led)).IsList l items := ⟨_, at2, rfl, m, rfl⟩
  have nos := PySem.F.sub_list_set
  have nof := PySem.F.sub_list_frozenset
  have nod : (Value.type "list" == Value.type "dict") = false := by decide
  unfold Builtin.«set.__init__» noKeywords Builtin.Frozenset.updateFrom
  generalize hPI : pyIter = PI
  wp_walk
  subst hPI
  refine wpAny_pyIter_list isl (wpAny_bind (wpAny_runValue ?_))
  have sz1 : (s.heap.push (emptySet led)).objs.size = s.heap.objs.size + 1 := Heap.size_push _ _
  have apart : l ≠ (s.heap.push (emptySet led)).objs.size := by rw [sz1]; exact Nat.ne_of_lt (Nat.lt_succ_of_lt lts)
  have nS : s.heap.objs.size ∉ [(s.heap.push (emptySet led)).objs.size, l] := by
    rw [sz1]
    intro z
    rcases List.mem_cons.mp z with z | z
    · exact Nat.ne_of_lt (Nat.lt_succ_self _) z
    · exact Nat.ne_of_gt lts (List.mem_singleton.mp z)
  have len : items.size = ns.length := by rw [← IntsAre.length hi, Array.length_toList]
  have vals : ∀ (i : Nat) (v : Value), items[i]? = some v → ∃ k t, ns[i]? = some k ∧ v = .int k t := fun i v hv => by
    have lt : i < ns.length := len ▸ (Array.getElem?_eq_some_iff.mp hv).1
    obtain ⟨t, e⟩ := IntsAre.int_at hi i v (Array.getElem?_toList.trans hv)
    exact ⟨ns[i], t, List.getElem?_eq_getElem lt, by rw [e, List.getD_eq_getElem?_getD, List.getElem?_eq_getElem lt]; rfl⟩
  refine set_update_ints ((Walks.list (by simpa using hh) _ l apart items).toS) s.heap.objs.size nS ns len hb vals items.size 0 _ rfl (Nat.zero_le _) ⟨⟨_, Heap.get?_push_size _ rfl, rfl, rfl⟩, isl.push _⟩ ⟨0, Nat.le_refl 0, setR_new_at (by rw [hled]; exact Heap.get?_push_of_some _ at0)⟩ fun s2 c hm hc hS => ?_
  obtain ⟨h2, g2, d2, t2, o2⟩ := s2
  obtain rfl : g2 = s.gens := hm.gens
  obtain rfl : d2 = s.drawn := hm.drawn
  obtain rfl : o2 = s.os := hm.os
  refine wpAny_pure (wpAny_pure ⟨_, rfl, rfl, h2, t2, rfl, ⟨c, hS, len ▸ hc⟩, fun b o hlt e => hm.heap b o ?_ (Heap.get?_push_of_some _ (Heap.get?_push_of_some _ e))⟩)
  intro z
  rcases List.mem_cons.mp z with z | z
  · exact Nat.ne_of_lt hlt z
  · have := List.mem_singleton.mp z
    rw [sz1] at this
    exact Nat.ne_of_lt (Nat.lt_succ_of_lt hlt) this
theorem set_madeI {Q : Value → Shared → Prop} (hh : A.handled = none) (hl : s.heap.IsList l items) (hi : IntsAre items.toList ns) (hb : ns.length + 1 < scanBound)
    (h : ∀ h2 tk, MadeI w s ns h2 → Q (.ref s.heap.objs.size) { s with heap := h2, toks := tk }) : wpAny (model prog w) A (call (.type "set") [.ref l]) Q E s := by
  obtain ⟨_, _, hmro⟩ := PySem.F.called_set.mro
  have made := PySem.F.called_set.made
  have isub := PySem.F.called_set.sub
  have noType := PySem.F.called_set.notType
  have creates := PySem.F.called_set.canCreate
  have checked := PySem.F.typeCall_set_1 (.ref l)
  refine wpAny_call (codeAny_of_tree ?_)
  show wpAny _ _ (callAny (.type "set") _) _ _ _
  refine wpAny_pure ⟨Code.quiet_builtin _ (by decide +kernel), codeAny_builtin PySem.F.entry_type_call ?_⟩
  rw [Around.under_plain (weight_type_call_type "set" [.ref l] []) rfl]
  repeat (any_goals (first | assumption | wp_step))
  refine codeAny_mono (code_set_led1 (.ref l) (E := E) (Q₁ := fun v s1 => v = .ref s.heap.objs.size ∧ s1 = { s with heap := s.heap.push (emptySet (!w.params.followText "set-order")) }) ⟨rfl, rfl⟩) fun r s1 hr => ?_
  match r, hr with
  | .error e, hr => exact hr
  | .ok (.next), hr => exact hr.elim
  | .ok (.brk), hr => exact hr.elim
  | .ok (.cont), hr => exact hr.elim
  | .ok (.ret v), hr =>
    obtain ⟨rfl, rfl⟩ := hr
    have at0 : (s.heap.push (emptySet (!w.params.followText "set-order"))).get? s.heap.objs.size = some (emptySet (!w.params.followText "set-order")) := Heap.get?_push_size _ rfl
    have ty : Shared.TypeIs { s with heap := s.heap.push (emptySet (!w.params.followText "set-order")) } (.ref s.heap.objs.size) "set" := ⟨_, at0, rfl⟩
    have hli := PySem.F.called_set.init.lookup
    have hbi := PySem.F.called_set.init.bind (.ref s.heap.objs.size)
    repeat (any_goals (first | assumption | wp_step))
    refine codeAny_mono (codeAny_call_builtin (R := wants (FilledI w s ns) E) PySem.F.called_set.init.plain PySem.F.entry_set_init (check_set_init_1 ty ?_)) fun r2 s2 hr2 => ?_
    · refine wpAny_mono (set_fillI (A := A.in1.in1) (by simpa using hh) hl hi hb) (fun f s2 ⟨v, e1, e2⟩ => ?_) fun _ _ z => z
      subst e1
      exact e2
    · match r2, hr2 with
      | .error e, hr2 => exact hr2
      | .ok (.next), hr2 => exact hr2.elim
      | .ok (.brk), hr2 => exact hr2.elim
      | .ok (.cont), hr2 => exact hr2.elim
      | .ok (.ret v), hr2 =>
        obtain ⟨rfl, h2, tk, rfl, hm⟩ := hr2
        repeat (any_goals (first | assumption | wp_step))
        exact h _ _ hm
set_option maxHeartbeats 3200000 in
/-- the fresh set takes the list's ints in -/
theorem set_fillIT (hh : A.in1.handled = none) (hl : s.heap.IsTuple l items) (hi : IntsAre items.toList ns) (hb : ns.length + 1 < scanBound) :
    wpAny (model prog w) A (Builtin.«set.__init__» ⟨[.ref s.heap.objs.size, .ref l], []⟩) (fun f s2 => ∃ v, f = .done (.ret v) ∧ FilledI w s ns v s2) E { s with heap := s.heap.push (emptySet (!w.params.followText "set-order")) } := by
  obtain ⟨⟨cls, dict, data, slots⟩, at1, hcls, m, hdata⟩ := id hl
  cases hcls
  cases hdata
  have lts : l < s.heap.objs.size := Heap.lt_size at1
  generalize hled : (!w.params.followText "set-order") = led
  have at0 : (s.heap.push (emptySet led)).get? s.heap.objs.size = some (emptySet led) := Heap.get?_push_size _ rfl
  have at2 : (s.heap.push (emptySet led)).get? l = some { cls := .type "tuple", dict := dict, data := .seq items m, slots := slots } := Heap.get?_push_of_some _ at1
  have isl : (s.heap.push (emptySet led)).IsTuple l items := ⟨_, at2, rfl, m, rfl⟩
  have nos := PySem.F.sub_tuple_set
  have nof := PySem.F.sub_tuple_frozenset
  have nod : (Value.type "tuple" == Value.type "dict") = false := by decide
  unfold Builtin.«set.__init__» noKeywords Builtin.Frozenset.updateFrom
  generalize hPI : pyIter = PI
  wp_walk
  subst hPI
  refine wpAny_pyIter_tuple isl (wpAny_bind (wpAny_runValue ?_))
  have sz1 : (s.heap.push (emptySet led)).objs.size = s.heap.objs.size + 1 := Heap.size_push _ _
  have apart : l ≠ (s.heap.push (emptySet led)).objs.size := by rw [sz1]; exact Nat.ne_of_lt (Nat.lt_succ_of_lt lts)
  have nS : s.heap.objs.size ∉ [(s.heap.push (emptySet led)).objs.size, l] := by
    rw [sz1]
    intro z
    rcases List.mem_cons.mp z with z | z
    · exact Nat.ne_of_lt (Nat.lt_succ_self _) z
    · exact Nat.ne_of_gt lts (List.mem_singleton.mp z)
  have len : items.size = ns.length := by rw [← IntsAre.length hi, Array.length_toList]
  have vals : ∀ (i : Nat) (v : Value), items[i]? = some v → ∃ k t, ns[i]? = some k ∧ v = .int k t := fun i v hv => by
    have lt : i < ns.length := len ▸ (Array.getElem?_eq_some_iff.mp hv).1
    obtain ⟨t, e⟩ := IntsAre.int_at hi i v (Array.getElem?_toList.trans hv)
    exact ⟨ns[i], t, List.getElem?_eq_getElem lt, by rw [e, List.getD_eq_getElem?_getD, List.getElem?_eq_getElem lt]; rfl⟩
  refine set_update_ints ((Walks.tuple (by simpa using hh) _ l apart items).toS) s.heap.objs.size nS ns len hb vals items.size 0 _ rfl (Nat.zero_le _) ⟨⟨_, Heap.get?_push_size _ rfl, rfl, rfl⟩, isl.push _⟩ ⟨0, Nat.le_refl 0, setR_new_at (by rw [hled]; exact Heap.get?_push_of_some _ at0)⟩ fun s2 c hm hc hS => ?_
  obtain ⟨h2, g2, d2, t2, o2⟩ := s2
  obtain rfl : g2 = s.gens := hm.gens
  obtain rfl : d2 = s.drawn := hm.drawn
  obtain rfl : o2 = s.os := hm.os
  refine wpAny_pure (wpAny_pure ⟨_, rfl, rfl, h2, t2, rfl, ⟨c, hS, len ▸ hc⟩, fun b o hlt e => hm.heap b o ?_ (Heap.get?_push_of_some _ (Heap.get?_push_of_some _ e))⟩)
  intro z
  rcases List.mem_cons.mp z with z | z
  · exact Nat.ne_of_lt hlt z
  · have := List.mem_singleton.mp z
    rw [sz1] at this
    exact Nat.ne_of_lt (Nat.lt_succ_of_lt hlt) this
theorem set_madeIT {Q : Value → Shared → Prop} (hh : A.handled = none) (hl : s.heap.IsTuple l items) (hi : IntsAre items.toList ns) (hb : ns.length + 1 < scanBound)
    (h : ∀ h2 tk, MadeI w s ns h2 → Q (.ref s.heap.objs.size) { s with heap := h2, toks := tk }) : wpAny (model prog w) A (call (.type "set") [.ref l]) Q E s := by
  obtain ⟨_, _, hmro⟩ := PySem.F.called_set.mro
  have made := PySem.F.called_set.made
  have isub := PySem.F.called_set.sub
  have noType := PySem.F.called_set.notType
  have creates := PySem.F.called_set.canCreate
  have checked := PySem.F.typeCall_set_1 (.ref l)
  refine wpAny_call (codeAny_of_tree ?_)
  show wpAny _ _ (callAny (.type "set") _) _ _ _
  refine wpAny_pure ⟨Code.quiet_builtin _ (by decide +kernel), codeAny_builtin PySem.F.entry_type_call ?_⟩
  rw [Around.under_plain (weight_type_call_type "set" [.ref l] []) rfl]
  repeat (any_goals (first | assumption | wp_step))
  refine codeAny_mono (code_set_led1 (.ref l) (E := E) (Q₁ := fun v s1 => v = .ref s.heap.objs.size ∧ s1 = { s with heap := s.heap.push (emptySet (!w.params.followText "set-order")) }) ⟨rfl, rfl⟩) fun r s1 hr => ?_
  match r, hr with
  | .error e, hr => exact hr
  | .ok (.next), hr => exact hr.elim
  | .ok (.brk), hr => exact hr.elim
  | .ok (.cont), hr => exact hr.elim
  | .ok (.ret v), hr =>
    obtain ⟨rfl, rfl⟩ := hr
    have at0 : (s.heap.push (emptySet (!w.params.followText "set-order"))).get? s.heap.objs.size = some (emptySet (!w.params.followText "set-order")) := Heap.get?_push_size _ rfl
    have ty : Shared.TypeIs { s with heap := s.heap.push (emptySet (!w.params.followText "set-order")) } (.ref s.heap.objs.size) "set" := ⟨_, at0, rfl⟩
    have hli := PySem.F.called_set.init.lookup
    have hbi := PySem.F.called_set.init.bind (.ref s.heap.objs.size)
    repeat (any_goals (first | assumption | wp_step))
    refine codeAny_mono (codeAny_call_builtin (R := wants (FilledI w s ns) E) PySem.F.called_set.init.plain PySem.F.entry_set_init (check_set_init_1 ty ?_)) fun r2 s2 hr2 => ?_
    · refine wpAny_mono (set_fillIT (A := A.in1.in1) (by simpa using hh) hl hi hb) (fun f s2 ⟨v, e1, e2⟩ => ?_) fun _ _ z => z
      subst e1
      exact e2
    · match r2, hr2 with
      | .error e, hr2 => exact hr2
      | .ok (.next), hr2 => exact hr2.elim
      | .ok (.brk), hr2 => exact hr2.elim
      | .ok (.cont), hr2 => exact hr2.elim
      | .ok (.ret v), hr2 =>
        obtain ⟨rfl, h2, tk, rfl, hm⟩ := hr2
        repeat (any_goals (first | assumption | wp_step))
        exact h _ _ hm
end
end DL
namespace DL
open PySem PySem.Spec PyProof.Rows L2
/-- k put into a rising list, once -/
def insU (k : Int) : List Int → List Int
  | [] => [k]
  | x :: l => if k < x then k :: x :: l else if k = x then x :: l else x :: insU k l
/-- the members, rising, each once -/
def sortU (ns : List Int) : List Int := ns.foldr insU []
theorem insU_mem (k j : Int) : ∀ l : List Int, j ∈ insU k l ↔ j = k ∨ j ∈ l
  | [] => by simp [insU]
  | x :: l => by
    unfold insU
    split
    · simp
    · split
      · rename_i h; subst h; simp
      · rw [List.mem_cons, insU_mem k j l, List.mem_cons]
        constructor
        · rintro (h | h | h) <;> simp [h]
        · rintro (h | h | h) <;> simp [h]
theorem insU_up (k : Int) : ∀ l : List Int, l.Pairwise (· < ·) → (insU k l).Pairwise (· < ·)
  | [], _ => by simp [insU]
  | x :: l, h => by
    obtain ⟨h1, h2⟩ := List.pairwise_cons.mp h
    unfold insU
    split
    · rename_i hk
      refine List.pairwise_cons.mpr ⟨fun y hy => ?_, h⟩
      rcases List.mem_cons.mp hy with e | e
      · rw [e]; exact hk
      · have := h1 y e; omega
    · split
      · exact h
      · refine List.pairwise_cons.mpr ⟨fun y hy => ?_, insU_up k l h2⟩
        rcases (insU_mem k y l).mp hy with e | e
        · rw [e]; omega
        · exact h1 y e
theorem sortU_up : ∀ ns : List Int, (sortU ns).Pairwise (· < ·)
  | [] => List.Pairwise.nil
  | k :: l => insU_up k _ (sortU_up l)
theorem sortU_mem (j : Int) : ∀ ns : List Int, j ∈ sortU ns ↔ j ∈ ns
  | [] => Iff.rfl
  | k :: l => by
    show j ∈ insU k (sortU l) ↔ _
    rw [insU_mem, sortU_mem j l, List.mem_cons]
theorem up_unique : ∀ {a b : List Int}, a.Pairwise (· < ·) → b.Pairwise (· < ·) → (∀ k, k ∈ a ↔ k ∈ b) → a = b
  | [], [], _, _, _ => rfl
  | [], y :: b, _, _, h => by have := (h y).mpr List.mem_cons_self; cases this
  | x :: a, [], _, _, h => by have := (h x).mp List.mem_cons_self; cases this
  | x :: a, y :: b, ha, hb, h => by
    obtain ⟨a1, a2⟩ := List.pairwise_cons.mp ha
    obtain ⟨b1, b2⟩ := List.pairwise_cons.mp hb
    have e : x = y := by
      rcases List.mem_cons.mp ((h x).mp List.mem_cons_self) with p | p
      · exact p
      · rcases List.mem_cons.mp ((h y).mpr List.mem_cons_self) with q | q
        · exact q.symm
        · have := a1 y q; have := b1 x p; omega
    subst e
    rw [up_unique a2 b2 fun k => ⟨fun q => ?_, fun q => ?_⟩]
    · rcases List.mem_cons.mp ((h k).mp (List.mem_cons_of_mem _ q)) with z | z
      · have := a1 k q; omega
      · exact z
    · rcases List.mem_cons.mp ((h k).mpr (List.mem_cons_of_mem _ q)) with z | z
      · have := b1 k q; omega
      · exact z
section
variable {X : Cx} {C : Ct} {W : WX} {e a : Expr} {fa : F D} {ta : TE} {p p2 q pos : Pos}
def tSortSet (K : PySem.W.Frag) (ta : TE) : TE := fun σ H Q => ta σ H fun x H1 => ∃ l, ∃ ns : List Int, x = .ref l ∧ (SqL K H1 l (ns.map V.int) ∨ SqT K H1 l (ns.map V.int)) ∧ ns.length < 64 ∧ ∀ p, H1 p = none → Q (.ref p) (upd H1 p (.lst ((sortU ns).map V.int)))
theorem pe_sortSet (hc : X.calm = true) (hg : Gl X "sorted") (hm : X.mg "sorted" = none) (hg2 : Gl X "set") (hm2 : X.mg "set" = none) (hb : bootBuiltins "sorted" = some (.builtin "sorted")) (ha : PE X a ta)
    (na : starEach [a] X.env = (false, eval a X.env) :: starEach [] X.env := by rfl) : PE X (.Call (.Name "sorted" p) [.Call (.Name "set" p2) [a] [] q] [] pos) (tSortSet X.K ta) := by
  refine ⟨fun pins s σ H Q I h => Call_ (ld_blt I hg hm hb (callWith_builtin1 (args_cons (Call_ (ld_blt I hg2 hm2 boot_set (callWith_type1 (args_cons (thn (ha.run pins s σ H _ I h) fun v s1 ⟨x, H1, I1, r1, l, ns, ex, hq, hz, q1⟩ => args_nil ?_) na) na rfl))) rfl) rfl rfl))⟩
  subst ex
  cases r1
  have madeA : ∀ (A : Around) (Q : Value → Shared → Prop), A.handled = none → (∀ h2 tk, MadeI X.w s1 ns h2 → Q (.ref s1.heap.objs.size) { s1 with heap := h2, toks := tk }) → wpAny (model X.prog X.w) A (call (.type "set") [.ref l]) Q X.xe s1 := fun A Q hd k => by
    rcases hq with hq | hq
    · obtain ⟨its, r, pl, _⟩ := I1.list hq
      exact set_madeI (ns := ns) hd pl.isList (by simpa using r.ints) (by unfold scanBound; omega) k
    · obtain ⟨its, r, pl, _⟩ := I1.tuple hq
      exact set_madeIT (ns := ns) hd pl (by simpa using r.ints) (by unfold scanBound; omega) k
  refine madeA _ _ (I1.ok.hd hc) fun h2 tk ⟨⟨c, hS, hcl⟩, hk⟩ => args_nil ?_
  have I2 : Inv X pins σ H1 { s1 with heap := h2, toks := tk } := I1.kept fun b o z => hk b o (Heap.lt_size z) z
  have hS2 : SetR X.w ({ s1 with heap := h2, toks := tk } : Shared).heap s1.heap.objs.size (fun j => decide (j ∈ ns)) c := hS
  show wpAny (model X.prog X.w) _ (call (.builtin "sorted") [.ref s1.heap.objs.size]) _ _ ({ s1 with heap := h2, toks := tk } : Shared)
  generalize ({ s1 with heap := h2, toks := tk } : Shared) = s2 at I2 hS2 ⊢
  refine sorted_set hS2 (I2.ok.hd hc) (by omega) fun s' p out cc ms k g o hp hg hi hs hmm hl => ?_
  have em : ms = sortU ns := up_unique hs (sortU_up ns) fun j => by rw [hmm j, sortU_mem, decide_eq_true_eq]
  subst em
  have hlen : ((sortU ns).map V.int).length ≤ sizeLine := by rw [List.length_map, hl, sizeLine_eq]; omega
  have hn : H1 p = none := I2.hok.fresh hp
  have J : Inv X pins σ (upd H1 p (.lst ((sortU ns).map V.int))) { s2 with heap := s'.heap, gens := s'.gens, drawn := s'.drawn, toks := s'.toks } :=
    I2.call (ch := []) (Un.laid k hp hn) (I2.hok.laid k hp ⟨hlen, out.toList, cc, vals_of_ints hi, hg⟩) (by rw [g]; exact I2.bare) (fun _ z => nomatch z)
  have e : s' = { s2 with heap := s'.heap, gens := s'.gens, drawn := s'.drawn, toks := s'.toks } := by
    cases s'
    cases s2
    cases o
    rfl
  rw [e]
  exact ⟨.ref p, _, J, rfl, q1 p hn⟩
def numsOf : List D → Option (List Int)
  | [] => some []
  | .int b :: r => (numsOf r).map (b :: ·)
  | _ => none
theorem numsOf_r {G : Gh} {H : Hp} : ∀ {l : List D} {vs : List V} {bs : List Int}, Rps C G H l vs → numsOf l = some bs → vs = bs.map V.int
  | [], _, _, .nil, h => by cases h; rfl
  | d :: l, _, bs, .cons r q, h => by
    cases r with
    | int b =>
      have h : (numsOf l).map (b :: ·) = some bs := h
      cases hl : numsOf l with
      | none => rw [hl] at h; cases h
      | some cs =>
        rw [hl] at h
        cases h
        rw [numsOf_r q hl]
        rfl
    | _ => cases h
theorem rps_numsN {G : Gh} {H : Hp} : ∀ ns : List Int, Rps C G H (ns.map D.int) (ns.map V.int)
  | [] => .nil
  | k :: l => .cons (.int k) (rps_numsN l)
def fSortSet (fa : F D) : F (List D) := fun δ η => (fa δ η).bind fun d η => match d with
  | .lst l => match numsOf l with
    | some ns => if ns.length < 64 ∧ (sortU ns).length ≤ sizeLine then .ok ((sortU ns).map .int) η else .bad
    | none => .bad
  | .tup l => match numsOf l with
    | some ns => if ns.length < 64 ∧ (sortU ns).length ≤ sizeLine then .ok ((sortU ns).map .int) η else .bad
    | none => .bad
  | _ => .bad
theorem fn_sortSet (hK : X.K = C.K) (hc : X.calm = true) (hm : X.mg "sorted" = none) (hm2 : X.mg "set" = none) (hb : bootBuiltins "sorted" = some (.builtin "sorted")) (ha : FE C W X a fa) (hg : Gl X "sorted" := by rfl) (hg2 : Gl X "set" := by rfl)
    (na : starEach [a] X.env = (false, eval a X.env) :: starEach [] X.env := by rfl) : FN C W X (.Call (.Name "sorted" p) [.Call (.Name "set" p2) [a] [] q] [] pos) (fSortSet fa) := by
  refine PE.imp (pe_sortSet hc hg hm hg2 hm2 hb ha na) fun σ H Q ⟨G, δ, η, a0, fin⟩ => ?_
  refine tN.bind (Rel := Rp C) a0 fin fun d v G1 H1 η1 a1 x1 r1 fin1 => ?_
  cases r1 with
  | @lst a vs l h z r =>
    dsimp only at fin1
    cases hs : numsOf l with
    | none => rw [hs] at fin1; exact fin1.elim
    | some ns =>
      rw [hs] at fin1
      dsimp only at fin1
      split at fin1
      · rename_i hz
        have e := numsOf_r r hs
        have h2 := h.sq
        rw [← hK, e] at h2
        exact ⟨_, ns, rfl, .inl h2, hz.1, fun p hp => FinN.of Nx.refl fin1 a1.he (rps_numsN (sortU ns)) (by rw [List.length_map]; exact hz.2) hp⟩
      · exact fin1.elim
  | @tup a vs l h z r =>
    dsimp only at fin1
    cases hs : numsOf l with
    | none => rw [hs] at fin1; exact fin1.elim
    | some ns =>
      rw [hs] at fin1
      dsimp only at fin1
      split at fin1
      · rename_i hz
        have e := numsOf_r r hs
        have h2 := h.sq
        rw [← hK, e] at h2
        exact ⟨_, ns, rfl, .inr h2, hz.1, fun p hp => FinN.of Nx.refl fin1 a1.he (rps_numsN (sortU ns)) (by rw [List.length_map]; exact hz.2) hp⟩
      · exact fin1.elim
  | _ => exact fin1.elim
end
end DL
namespace DL
open PySem L2
/-! ### min, max, sum of a list of ints -/
def intsOf : List D → Option (List Int)
  | [] => some []
  | .int b :: r => (intsOf r).map (b :: ·)
  | _ => none
section
variable {X : Cx} {C : Ct} {W : WX}
theorem intsOf_r {G : Gh} {H : Hp} : ∀ {l : List D} {vs : List V} {bs : List Int}, Rps C G H l vs → intsOf l = some bs → vs = bs.map V.int
  | [], _, _, .nil, h => by cases h; rfl
  | d :: l, _, bs, .cons r q, h => by
    cases r with
    | int b =>
      have h : (intsOf l).map (b :: ·) = some bs := h
      cases hl : intsOf l with
      | none => rw [hl] at h; cases h
      | some cs => rw [hl] at h; cases h; rw [intsOf_r q hl]; rfl
    | _ => cases h
@[simp] theorem intsOf_map (ns : List Int) : intsOf (ns.map .int) = some ns := by
  induction ns with
  | nil => rfl
  | cons n ns ih => show (intsOf (ns.map .int)).map (n :: ·) = _; rw [ih]; rfl
def minOf (n : Int) (l : List Int) : Int := l.foldl min n
def maxOf (n : Int) (l : List Int) : Int := l.foldl max n
theorem minOf_mem : ∀ (l : List Int) (n : Int), minOf n l ∈ n :: l ∧ ∀ y ∈ n :: l, minOf n l ≤ y
  | [], n => ⟨by simp [minOf], by simp [minOf]⟩
  | m :: l, n => by
    obtain ⟨h1, h2⟩ := minOf_mem l (min n m)
    have e : minOf n (m :: l) = minOf (min n m) l := rfl
    rw [e]
    have h3 := h2 (min n m) (by simp)
    refine ⟨?_, fun y hy => ?_⟩
    · rcases List.mem_cons.mp h1 with z | z
      · rw [z]
        rcases Int.le_total n m with q | q
        · rw [Int.min_eq_left q]; simp
        · rw [Int.min_eq_right q]; simp
      · simp [z]
    · rcases List.mem_cons.mp hy with rfl | hy
      · exact Int.le_trans h3 (Int.min_le_left y m)
      · rcases List.mem_cons.mp hy with rfl | hy
        · exact Int.le_trans h3 (Int.min_le_right n y)
        · exact h2 y (by simp [hy])
theorem maxOf_mem : ∀ (l : List Int) (n : Int), maxOf n l ∈ n :: l ∧ ∀ y ∈ n :: l, y ≤ maxOf n l
  | [], n => ⟨by simp [maxOf], by simp [maxOf]⟩
  | m :: l, n => by
    obtain ⟨h1, h2⟩ := maxOf_mem l (max n m)
    have e : maxOf n (m :: l) = maxOf (max n m) l := rfl
    rw [e]
    have h3 := h2 (max n m) (by simp)
    refine ⟨?_, fun y hy => ?_⟩
    · rcases List.mem_cons.mp h1 with z | z
      · rw [z]
        rcases Int.le_total n m with q | q
        · rw [Int.max_eq_right q]; simp
        · rw [Int.max_eq_left q]; simp
      · simp [z]
    · rcases List.mem_cons.mp hy with rfl | hy
      · exact Int.le_trans (Int.le_max_left y m) h3
      · rcases List.mem_cons.mp hy with rfl | hy
        · exact Int.le_trans (Int.le_max_right n y) h3
        · exact h2 y (by simp [hy])
def minC : D → Option D
  | .lst l => match intsOf l with
    | some (n :: r) => some (.int (minOf n r))
    | _ => none
  | _ => none
def maxC : D → Option D
  | .lst l => match intsOf l with
    | some (n :: r) => some (.int (maxOf n r))
    | _ => none
  | _ => none
def sumC : D → Option D
  | .lst l => (intsOf l).map fun ns => .int ns.sum
  | _ => none
theorem c_min (hK : X.K = C.K) (hc : X.calm = true) : CallR X (.builtin "min") (rC1 C minC) := fun pins s σ H xs us Q I r ⟨G, η, d, v, e, hr, h1, q⟩ => by
  refine cr_min hc pins s σ H xs us Q I r ?_
  unfold minC at q
  split at q
  · obtain ⟨a, vs, rfl, hq, hrs⟩ := h1.lst
    rw [← hK] at hq
    split at q
    · rename_i l n r hb
      rw [intsOf_r hrs hb] at hq
      refine ⟨a, n :: r, e, hq, by simp, fun m hm hy => ?_⟩
      obtain ⟨z1, z2⟩ := minOf_mem r n
      rw [show m = minOf n r from Int.le_antisymm (hy _ z1) (z2 m hm)]
      exact q.same hr (.int _)
    · exact q.elim
  · exact q.elim
theorem c_max (hK : X.K = C.K) (hc : X.calm = true) : CallR X (.builtin "max") (rC1 C maxC) := fun pins s σ H xs us Q I r ⟨G, η, d, v, e, hr, h1, q⟩ => by
  refine cr_max hc pins s σ H xs us Q I r ?_
  unfold maxC at q
  split at q
  · obtain ⟨a, vs, rfl, hq, hrs⟩ := h1.lst
    rw [← hK] at hq
    split at q
    · rename_i l n r hb
      rw [intsOf_r hrs hb] at hq
      refine ⟨a, n :: r, e, hq, by simp, fun m hm hy => ?_⟩
      obtain ⟨z1, z2⟩ := maxOf_mem r n
      rw [show m = maxOf n r from Int.le_antisymm (z2 m hm) (hy _ z1)]
      exact q.same hr (.int _)
    · exact q.elim
  · exact q.elim
theorem c_sum (hK : X.K = C.K) (hc : X.calm = true) : CallR X (.builtin "sum") (rC1 C sumC) := fun pins s σ H xs us Q I r ⟨G, η, d, v, e, hr, h1, q⟩ => by
  refine cr_sum hc pins s σ H xs us Q I r ?_
  unfold sumC at q
  split at q
  · obtain ⟨a, vs, rfl, hq, hrs⟩ := h1.lst
    rw [← hK] at hq
    rename_i l
    cases hb : intsOf l with
    | none => rw [hb] at q; exact q.elim
    | some bs =>
      rw [hb] at q
      rw [intsOf_r hrs hb] at hq
      exact ⟨a, bs, e, hq, q.same hr (.int _)⟩
  · exact q.elim
theorem all_nil {p : Nat → Prop} : ∀ c ∈ ([] : List Nat), p c := fun _ h => nomatch h
theorem all_cons {p : Nat → Prop} {a : Nat} {l : List Nat} (h : p a) (r : ∀ c ∈ l, p c) : ∀ c ∈ a :: l, p c := fun c hc => by
  rcases List.mem_cons.mp hc with rfl | hc
  · exact h
  · exact r c hc
end
end DL
/-! own exceptions whose __init__ says super().__init__('..'), then stores its fields -/
namespace DX
open PySem PySem.W PySem.Calls PyProof.Rows PySem.HandSPX
/-- what the written part says of an own exception class at C, its __init__ at fI (its class cell at cc), over the built-in B -/
structure ExK (K : Frag) (C fI cc : Addr) (B newId initId : String) (bmB : List Value) : Prop where
  exi : excInitIn K C bmB newId = true
  exo : excOver K C bmB = true
  ini : findIn K (.ref C) "__init__" = some (some (.ref fI))
  fn : isFn K (.ref fI) = true
  sup : ks_superIn K C C "__init__" = some (some (.builtin initId))
  sB : subIn K (.ref C) (.type B) = some true
  mC : mroIn K C (.ref C) = some true
  any : nsIn K cStatics "thirdparty.any" = some none
  noS : nsIn K mainGlobals "super" = some none
  cell : ∃ cl cld csl, K.lookup cc = some ⟨cl, cld, .cell (some (.ref C)), csl⟩
  sa : findIn K (.ref C) "__setattr__" = some (some (.builtin "object.__setattr__"))
  hd : hasDictIn K C = true
  kC : keepIn K (.ref C) = true
  exC : subIn K (.ref C) (.type "BaseException") = some true
  tyC : typeIn K (.ref C) = some (.type "type")
structure ExB (B newId initId : String) (bmB : List Value) : Prop where
  FB : ExcBaseFacts B newId initId bmB
  KF : KxsFacts B initId
  SF : StoreFacts B bmB "object.__setattr__" "object"
theorem exB_Value : ExB "ValueError" "ValueError.__new__" "ValueError.__init__" [.type "ValueError", .type "Exception", .type "BaseException", .type "object"] := ⟨PySem.F.excBase_ValueError, kxs_ValueError, PySem.F.store_ValueError⟩
theorem exB_Lookup : ExB "LookupError" "LookupError.__new__" "LookupError.__init__" [.type "LookupError", .type "Exception", .type "BaseException", .type "object"] := ⟨PySem.F.excBase_LookupError, kxs_LookupError, PySem.F.store_LookupError⟩
theorem exB_Index : ExB "IndexError" "IndexError.__new__" "IndexError.__init__" [.type "IndexError", .type "LookupError", .type "Exception", .type "BaseException", .type "object"] := ⟨PySem.F.excBase_IndexError, kxs_IndexError, PySem.F.store_IndexError⟩

section
variable {prog : Program} {w : World} {A : Around} {s : Shared} {K : Frag} {E : Value → Shared → Prop} {C fI cc : Addr} {B newId initId : String} {bmB : List Value}
/-- the bound built-in __init__ at u, called -/
theorem mw_call {u x t0 : Addr} {rest : List Value} {Q : Value → Shared → Prop} (b : ExB B newId initId bmB) (T : ExK K C fI cc B newId initId bmB) (X : K.In s.heap) (hu : s.heap.get? u = some (kxs_mw initId x)) (hx : s.heap.get? x = some (excObj C t0 none .none)) (hz : rest.length ≤ sizeLine)
    (h : ∀ h' t1, (∀ c o, c ≠ x → s.heap.get? c = some o → h'.get? c = some o) → h'.get? x = some (excObj C t1 none .none) → Q .none { s with heap := h' }) : wpAny (model prog w) A (call (.ref u) rest) Q E s := by
  obtain ⟨nm, N', qn, bs, bm, hdct, sn, sub, ab, col, dd, k0, k1, k2, k3, k5, hC, hT⟩ := excInit_of X T.exi
  obtain ⟨hh, g, d, tk, os⟩ := s
  refine wpAny_call (codeAny_of_tree ?_)
  show wpAny _ A.in1 (callAny (.ref u) ⟨rest, []⟩) _ _ _
  simp only [callAny]
  refine wpAny_bind (wpAny_load hu ?_)
  have hb : (Value.type "method-wrapper" == Value.type "method" || Value.type "method-wrapper" == Value.type "builtin_function_or_method" || Value.type "method-wrapper" == Value.type "method-wrapper") = true := by decide
  simp only [kxs_mw, hb, if_true]
  refine KFB.if_so (by decide) ?_
  refine wpAny_bind (check_bound_init b.FB.toExcCallFacts hC hx rfl ?_)
  refine wpAny_bind (wpAny_pure (wpAny_pure ?_))
  refine ⟨plainId_quiet b.FB.init.plain _, codeAny_builtin b.FB.initEntry ?_⟩
  exact exc_init_tree (cls := .ref C) (t0 := t0) (dv := none) (c2 := .none) (c3 := .none) (b4 := .bool false) hx hz fun h' k1 e1 _ => h h' _ k1 e1
/-- super().__init__('..') -/
theorem sup_stmt {qual file msg : Str} {scope : Scope} {L cda : Addr} {fd : FuncData} {oc ccl : Value} {od cdd : Option Addr} {osl ccs : Array (Option Value)} {ar : Arg} {vs : Array Value} {tf : Tok} {body : List Stmt} {p0 p1 p2 p3 p4 p5 : Pos} {j : Nat} {m mg mb : Str → Option Value} {x t0 : Addr} {Q : Flow → Shared → Prop} {pl : Sem Bool}
    (b : ExB B newId initId bmB) (T : ExK K C fI cc B newId initId bmB) (X : K.In s.heap) (hx : s.heap.get? x = some (excObj C t0 none .none)) (hn : s.heap.Ns L m) (hv : m ar.arg = some (.ref x))
    (hf : K.lookup fI = some ⟨oc, od, .func fd, osl⟩) (hp : (fd.params.posonlyargs ++ fd.params.args).head? = some ar) (hcode : K.lookup cda = some ⟨ccl, cdd, .fields vs, ccs⟩) (hvs : vs[2]? = some (.str file tf)) (hfile : ((prog.main.file : Str) == file) = true)
    (hks : scope.names.lookup ("super" : Str) = some .globalImplicit) (hkc : scope.names.lookup ("__class__" : Str) = some .free) (hka : scope.names.lookup ar.arg = some .local) (hk : scope.kind = .function) (htop : (prog.main.scope.names.lookup ("super" : Str)).isSome = false)
    (gg : s.heap.Ns mainGlobals mg) (gm : mg "super" = none) (gb : s.heap.Ns builtinsNs mb) (gs : mb "super" = some (.type "super"))
    (h : ∀ h' t1 tk, (∀ c o, c ≠ x → s.heap.get? c = some o → h'.get? c = some o) → h'.get? x = some (excObj C t1 none .none) → Q .next { s with heap := h', toks := tk })
    (he : eval (.Call (.Attribute (.Call (.Name "super" p0) [] [] p1) "__init__" p2) [.Constant (.str msg) j p3] [] p4) (ksEnv qual scope L fI (.ref cda) cc) = (do
      let ov ← attributeBase (.Call (.Name "super" p0) [] [] p1) "__init__" (ksEnv qual scope L fI (.ref cda) cc) (eval (.Call (.Name "super" p0) [] [] p1) (ksEnv qual scope L fI (.ref cda) cc))
      standAt p2.atName
      let (f, first) ← holding [ov] (getMethod ov "__init__" pl)
      callWith p4 f first (backTo p4 (starEach [.Constant (.str msg) j p3] (ksEnv qual scope L fI (.ref cda) cc))) [])) :
    _root_.PySem.wpAt (model prog w) A (.func body (ksEnv qual scope L fI (.ref cda) cc)) (exec (.Expr (.Call (.Attribute (.Call (.Name "super" p0) [] [] p1) "__init__" p2) [.Constant (.str msg) j p3] [] p4) p5) (ksEnv qual scope L fI (.ref cda) cc)) Q E s := by
  obtain ⟨hh, g, d, t, os⟩ := s
  obtain ⟨cl, cld, csl, hcell⟩ := T.cell
  obtain ⟨nm, N', qn, bs, bm, hdct, sn, sub, ab, col, dd, k0, k1, k2, k3, k5, hC, hT⟩ := excInit_of X T.exi
  have hint : interactive (ksEnv qual scope L fI (.ref cda) cc) = false := by
    unfold interactive
    show (scope.kind == .module && _) = false
    rw [hk]; rfl
  refine ks_wpAt_Expr_any (ks_wpAt_MethodCall (pl := pl) ?_ he) hint
  refine ks_wpAt_super_base (env := ksEnv qual scope L fI (.ref cda) cc) hks hkc rfl rfl (X _ _ hf) rfl hp rfl (X _ _ hcode) rfl hvs hfile htop ?_
  refine ks_loadName_global hk hks (loadGlobal_builtin (env := ksEnv qual scope L fI (.ref cda) cc) gg gm gb gs ⟨rfl, ?_⟩)
  refine wpAny_loadName_free hk hkc rfl ⟨_, X _ _ hcell, rfl⟩ ?_
  refine wpAny_loadName_local hk hka hn hv ?_
  refine ks_wpAny_isType_cls hC rfl ⟨rfl, ?_⟩
  refine ks_wpAny_call_super hC rfl hx rfl (fun c e => by cases e) (looks_mroIn X T.mC) (fun h1 e1 k1 => ?_)
  have X1 : K.In h1 := X.keeps k1
  have hx1 := k1 _ _ hx
  have I1 : InstAt h1 x (excObj C t0 none .none) C none := ⟨hx1, rfl, rfl, trivial⟩
  have hsup := T.sup
  cases hc : clsIn K C with
  | none => unfold ks_superIn at hsup; rw [hc] at hsup; cases hsup
  | some cd =>
    unfold ks_superIn at hsup
    rw [hc] at hsup
    refine kxs_getMethod b.KF e1 (looks_opaque X1 T.any) (l₀ := cd.mro) (fun A Q E s k q => wpAny_bind ((looks_clsIn X1 hc) A _ E s k (wpAny_pure q))) rfl X1 hsup (I1.type.andThen (looks_subIn X1 T.sB)) (ks_ne X1 I1 hc) rfl ?_
    have hu : (h1.push (kxs_mw initId x)).get? h1.objs.size = some (kxs_mw initId x) := Heap.get?_push_size _ rfl
    refine kxs_callWith (i := initId) (x := x) rfl (evalArgs_plain ?_)
    refine Calls.spliced_cons ?_
    show wpAny _ _ (eval (.Constant (.str msg) j p3) (ksEnv qual scope L fI (.ref cda) cc)) _ _ _
    refine wpAny_Constant_str ?_
    refine Calls.spliced_nil ⟨hu, ?_⟩
    refine mw_call b T (X1.keeps fun c o e => Heap.get?_push_of_some _ e) hu (Heap.get?_push_of_some _ hx1) (by rw [sizeLine_eq]; simp) fun h' t1 k2 e2 => ?_
    exact h h' t1 _ (fun c o hc e => k2 c o hc (Heap.get?_push_of_some _ (k1 c o e))) e2
/-- self.name = v: the exception has no dict yet -/
theorem set_new {name : Str} {v : Value} {x t0 : Addr} {Q : Unit → Shared → Prop} (b : ExB B newId initId bmB) (T : ExK K C fI cc B newId initId bmB) (X : K.In s.heap) (hx : s.heap.get? x = some (excObj C t0 none .none)) (ht : takerIn K C name = some none)
    (h : ∀ h' dx tk, (∀ c o, c ≠ x → s.heap.get? c = some o → h'.get? c = some o) → s.heap.objs.size ≤ dx → dx ≠ x → h'.get? x = some (excObj C t0 (some dx) .none) → h'.Ns1 dx (fun y => if y = name then some v else none) → Q () { s with heap := h', toks := tk }) :
    wpAny (model prog w) A (setAttr (.ref x) name v) Q E s := by
  obtain ⟨cd, hc, hd'⟩ := any_some T.hd
  have hxs : x ≠ s.heap.objs.size := Nat.ne_of_lt (Heap.lt_size hx)
  refine set_plain (od := none) X ⟨hx, rfl, rfl, trivial⟩ T.sa ?_
  refine osa_openX (s := { s with toks := s.toks + 1 }) (od := none) b.SF X ⟨hx, rfl, rfl, trivial⟩ T.exo ht fun _ => ?_
  refine wpAny_bind (wpAny_pure (wpAny_bind (instanceDict_exc hx (looks_clsIn X hc) hd' ?_)))
  show wpAny _ _ (Builtin.ObjectAttr.storeInDict s.heap.objs.size (.str name s.toks) name v) _ _ _
  have old : ∀ {c : Addr} {o : Obj}, s.heap.get? c = some o → c ≠ s.heap.objs.size := fun e => Nat.ne_of_lt (Heap.lt_size e)
  refine store_in_new ⟨_, #[], _, (Heap.get?_update_ne _ _ _ _ hxs.symm).trans (Heap.get?_push_at rfl rfl), rfl, fun e he => absurd he (by simp), fun _ => rfl⟩ fun h' tk' hn' hs => ?_
  have hx1 : (s.heap.push (dictOf [] 0)).get? x = some (excObj C t0 none .none) := Heap.get?_push_of_some _ hx
  refine h h' s.heap.objs.size tk' (fun c o hc ho => ?_) (Nat.le_refl _) hxs.symm ?_ hn'
  · exact (hs.2 c (old ho)).trans ((Heap.get?_update_ne _ _ _ _ hc).trans (Heap.get?_push_of_some _ ho))
  · exact (hs.2 x hxs).trans (Heap.get?_update_self _ hx1 rfl)
/-- self.name = v: one field more -/
theorem set_more {name : Str} {v : Value} {x t0 dx : Addr} {m0 : Str → Option Value} {nl : List Str} {Q : Unit → Shared → Prop} (b : ExB B newId initId bmB) (T : ExK K C fI cc B newId initId bmB) (X : K.In s.heap) (hx : s.heap.get? x = some (excObj C t0 (some dx) .none)) (ht : takerIn K C name = some none)
    (hn : s.heap.Ns1 dx m0) (hw : Within m0 nl) (hz : nl.length ≤ 1000)
    (h : ∀ h' tk, (∀ c o, c ≠ dx → s.heap.get? c = some o → h'.get? c = some o) → h'.Ns1 dx (fun y => if y = name then some v else m0 y) → Q () { s with heap := h', toks := tk }) :
    wpAny (model prog w) A (setAttr (.ref x) name v) Q E s := by
  obtain ⟨cd, hc, hd'⟩ := any_some T.hd
  obtain ⟨oD, _, _, hoD, _, _⟩ := hn.count hw
  obtain ⟨hp, g, d, t, os⟩ := s
  refine set_plain (od := some oD) X ⟨hx, rfl, rfl, hoD⟩ T.sa ?_
  refine osa_openX (s := ⟨hp, g, d, t + 1, os⟩) (od := some oD) b.SF X ⟨hx, rfl, rfl, hoD⟩ T.exo ht fun _ => ?_
  refine wpAny_bind (wpAny_pure (wpAny_bind (wpAny_bind (wpAny_loadPart hx (wpAny_bind ((looks_clsIn X hc).at ?_))))))
  rw [hd']
  refine wpAny_pure (a := some dx) ?_
  exact OEX.store_in_old hn hw hz fun h' tk' hn' hs => h h' tk' (fun c o hc ho => (hs.2 c hc).trans ho) hn'
end
end DX
namespace DX
open PySem PySem.W PySem.Calls PyProof.Rows PySem.HandSPX
/-- the def of __init__ in the written part -/
structure ExF (prog : Program) (K : Frag) (fI cc cda : Addr) (qual : Str) (params : Arguments) (body : List Stmt) (scope : Scope) : Prop where
  lk : ∃ oc od kV doc pm an ct osl, K.lookup fI = some ⟨oc, od, .func (ksFn "__init__" qual params body scope .none kV doc pm an (.ref cda) ct cc), osl⟩
  cd : codeIn K (.ref cda) qual = true
  code : ∃ (ccl : Value) (cdd : Option Addr) (vs : Array Value) (ccs : Array (Option Value)) (file : Str) (tf : Tok), K.lookup cda = some ⟨ccl, cdd, .fields vs, ccs⟩ ∧ vs[2]? = some (.str file tf) ∧ ((prog.main.file : Str) == file) = true
  top : (prog.main.scope.names.lookup ("super" : Str)).isSome = false
/-- its names -/
structure ExS (scope : Scope) (ps : List Str) : Prop where
  kind : scope.kind = .function
  co : scope.isCoroutine = false
  gen : scope.isGenerator = false
  cell : ∀ x ∈ scope.names, x.2 ≠ .cell
  par : ∀ p ∈ ps, scope.names.lookup p = some .local
  sup : scope.names.lookup ("super" : Str) = some .globalImplicit
  cls : scope.names.lookup ("__class__" : Str) = some .free
/-- the module's facts in a state -/
structure Gb (h : Heap) : Prop where
  gg : ∃ mg : Str → Option Value, h.Ns mainGlobals mg ∧ mg "super" = none
  gb : ∃ mb : Str → Option Value, h.Ns builtinsNs mb ∧ mb "super" = some (.type "super")
/-- the line of the call super().__init__('..') -/
def LineOk (qual msg : Str) (scope : Scope) (fI cc cda : Addr) (p0 p1 p2 p3 p4 : Pos) (j : Nat) : Prop := ∀ L : Addr, ∃ pl : Sem Bool, eval (.Call (.Attribute (.Call (.Name "super" p0) [] [] p1) "__init__" p2) [.Constant (.str msg) j p3] [] p4) (ksEnv qual scope L fI (.ref cda) cc) = (do
      let ov ← attributeBase (.Call (.Name "super" p0) [] [] p1) "__init__" (ksEnv qual scope L fI (.ref cda) cc) (eval (.Call (.Name "super" p0) [] [] p1) (ksEnv qual scope L fI (.ref cda) cc))
      standAt p2.atName
      let (f, first) ← holding [ov] (getMethod ov "__init__" pl)
      callWith p4 f first (backTo p4 (starEach [.Constant (.str msg) j p3] (ksEnv qual scope L fI (.ref cda) cc))) [])
/-- what __init__ leaves of a fresh exception at x -/
structure InitEnd (h h' : Heap) (x C dx t1 : Addr) (m : Str → Option Value) : Prop where
  keep : ∀ b o, b ≠ x → h.get? b = some o → h'.get? b = some o
  obj : h'.get? x = some (excObj C t1 (some dx) .none)
  dbig : h.objs.size ≤ dx
  dne : dx ≠ x
  ns : h'.Ns1 dx m
section
variable {prog : Program} {w : World} {A : Around} {s : Shared} {K : Frag} {E : Value → Shared → Prop} {C fI cc cda : Addr} {B newId initId : String} {bmB : List Value} {R : Result → Shared → Prop}
variable {qual nm f : Str} {params : Arguments} {body : List Stmt} {scope : Scope} {p0 p1 p2 p3 p4 p5 q1 q2 q3 q4 r1 r2 r3 r4 : Pos} {j j2 : Nat} {ar : Arg}
theorem kept_but {h h' : Heap} {x : Addr} (X : K.In h) (hx : K.lookup x = none) (k : ∀ b o, b ≠ x → h.get? b = some o → h'.get? b = some o) : K.In h' := fun a o e => k a o (fun z => by rw [z, hx] at e; cases e) (X a o e)
/-- with one field -/
theorem exc_init1 {x t0 : Addr} {v : Value} (b : ExB B newId initId bmB) (T : ExK K C fI cc B newId initId bmB) (F : ExF prog K fI cc cda qual params body scope) (S : ExS scope ["self", f])
    (hb : body = [.Expr (.Call (.Attribute (.Call (.Name "super" p0) [] [] p1) "__init__" p2) [.Constant (.str nm) j p3] [] p4) p5, .Assign [.Attribute (.Name "self" q1) f q2] (.Name f q3) q4, .Assign [.Attribute (.Name "self" r1) "code" r2] (.Constant (.str nm) j2 r3) r4])
    (hp : (params.posonlyargs ++ params.args).head? = some ar) (ha : ar.arg = "self") (line : LineOk qual nm scope fI cc cda p0 p1 p2 p3 p4 j) (hf : f ≠ "self") (hfc : f ≠ "code") (hfd : (f == ("__debug__" : Str)) = false) (tf : takerIn K C f = some none) (tc : takerIn K C "code" = some none)
    (bd : ∀ (kV doc pm : Value) (an : Option Addr) (ct u w : Value), bindArgs (ksFn "__init__" qual params body scope .none kV doc pm an (.ref cda) ct cc) ⟨[u, w], []⟩ = pure [(("self" : Str), u), (f, w)])
    (X : K.In s.heap) (G : Gb s.heap) (hlim : s.heap.NoLimit) (hx : s.heap.get? x = some (excObj C t0 none .none)) (hnx : K.lookup x = none) (hgx : x ≠ mainGlobals) (hbx : x ≠ builtinsNs) (hroom : A.depth < recursionLimit)
    (hq : ∀ h' tk dx t1 tk', InitEnd s.heap h' x C dx t1 (fun y => if y = "code" then some (.str nm tk') else if y = f then some v else none) → R (.ok (.ret .none)) { s with heap := h', toks := tk }) :
    codeAny (model prog w) A (.call (.ref fI) ⟨[.ref x, v], []⟩) R s := by
  obtain ⟨oc, od, kV, doc, pm, an, ct, osl, lk⟩ := F.lk
  obtain ⟨ccl, cdd, vs, ccs, file, tfl, hcode, hvs, hfile⟩ := F.code
  have pS := S.par "self" (by simp)
  have pF := S.par f (by simp)
  refine ks_codeAny_call_defAt (fd := ksFn "__init__" qual params body scope .none kV doc pm an (.ref cda) ct cc) (body := body) (binds := [(("self" : Str), .ref x), (f, v)]) hroom (X _ _ lk) rfl hlim (codeRec_of X F.cd) rfl (.of_eq (bd _ _ _ _ _ _ _)) S.cell
    (fun y hy => by
      rcases List.mem_cons.mp hy with rfl | hy
      · exact pS
      · rcases List.mem_cons.mp hy with rfl | hy
        · exact pF
        · cases hy) (fun h1 hn k1 => ?_) S.co S.gen S.kind
  obtain ⟨hh, g, d, t, os⟩ := s
  show _root_.PySem.wpAt (model prog w) (A.deeper (ksEnv qual scope hh.objs.size fI (.ref cda) cc)) (.func body (ksEnv qual scope hh.objs.size fI (.ref cda) cc)) (execs body (ksEnv qual scope hh.objs.size fI (.ref cda) cc)) _ _ _
  rw [show execs body (ksEnv qual scope hh.objs.size fI (.ref cda) cc) = execs _ _ from by rw [hb]]
  have hxL : x ≠ hh.objs.size := Nat.ne_of_lt (Heap.lt_size hx)
  obtain ⟨⟨mg, g1, g2⟩, mb, b1, b2⟩ := G
  obtain ⟨pl, he⟩ := line hh.objs.size
  have mS : (fun y => ([(("self" : Str), Value.ref x), (f, v)] : List (Str × Value)).reverse.lookup y) "self" = some (.ref x) := by
    have e : (("self" : Str) == f) = false := by simpa using Ne.symm hf
    simp [List.lookup, e]
  have mF : (fun y => ([(("self" : Str), Value.ref x), (f, v)] : List (Str × Value)).reverse.lookup y) f = some v := by simp [List.lookup]
  refine ks_wpAt_execs_cons ?_
  refine sup_stmt (s := ⟨h1, g, d, t + 2, os⟩) b T (X.keeps k1) (k1 _ _ hx) hn (by rw [ha]; exact mS) lk hp hcode hvs hfile S.sup S.cls (by rw [ha]; exact pS) S.kind F.top (g1.keeps k1) g2 (b1.keeps k1) b2 (fun h2 t1 tk k2 e2 => ?_) he
  have nsk : ∀ {h h' : Heap} {m : Str → Option Value}, h.Ns hh.objs.size m → (∀ c o, c ≠ x → h.get? c = some o → h'.get? c = some o) → h'.Ns hh.objs.size m := fun ⟨o, es, ep, e1, e2⟩ k => ⟨o, es, ep, k _ _ hxL.symm e1, e2⟩
  have n2 := nsk hn k2
  have k12 : ∀ c o, c ≠ x → hh.get? c = some o → h2.get? c = some o := fun c o hc e => k2 c o hc (k1 c o e)
  refine wpAt_of_wpAny (wpAny_execs_cons (plainObj_wpAny_Assign_Attribute ?_))
  refine wpAny_Name (wpAny_loadName_local S.kind pF n2 mF ?_) hfd
  refine wpAny_Name (wpAny_loadName_local S.kind pS n2 mS ?_) (by decide)
  refine set_new b T (kept_but X hnx k12) e2 tf fun h3 dx tk3 k3 dbig dne e3 ns3 => ?_
  have n3 := nsk n2 k3
  have k13 : ∀ c o, c ≠ x → hh.get? c = some o → h3.get? c = some o := fun c o hc e => k3 c o hc (k12 c o hc e)
  have sz : hh.objs.size < h2.objs.size := n2.lt
  have dL : dx ≠ hh.objs.size := Nat.ne_of_gt (Nat.lt_of_lt_of_le sz dbig)
  refine wpAny_execs_cons (plainObj_wpAny_Assign_Attribute ?_)
  refine wpAny_Constant_str ?_
  refine wpAny_Name (wpAny_loadName_local S.kind pS n3 mS ?_) (by decide)
  refine set_more b T (kept_but X hnx k13) e3 tc ns3 (Within.cons f v Within.nil) (by simp) fun h4 tk4 k4 ns4 => ?_
  refine wpAny_execs_nil (hq h4 tk4 dx t1 _ ⟨fun c o hc e => k4 c o (fun z => ?_) (k13 c o hc e), k4 _ _ (Ne.symm dne) e3, Nat.le_of_lt (Nat.lt_of_lt_of_le sz dbig), dne, ns4⟩)
  rw [z] at e
  exact absurd (Heap.lt_size e) (Nat.not_lt.mpr (Nat.le_of_lt (Nat.lt_of_lt_of_le sz dbig)))
/-- without one -/
theorem exc_init0 {x t0 : Addr} (b : ExB B newId initId bmB) (T : ExK K C fI cc B newId initId bmB) (F : ExF prog K fI cc cda qual params body scope) (S : ExS scope ["self"])
    (hb : body = [.Expr (.Call (.Attribute (.Call (.Name "super" p0) [] [] p1) "__init__" p2) [.Constant (.str nm) j p3] [] p4) p5, .Assign [.Attribute (.Name "self" r1) "code" r2] (.Constant (.str nm) j2 r3) r4])
    (hp : (params.posonlyargs ++ params.args).head? = some ar) (ha : ar.arg = "self") (line : LineOk qual nm scope fI cc cda p0 p1 p2 p3 p4 j) (tc : takerIn K C "code" = some none)
    (bd : ∀ (kV doc pm : Value) (an : Option Addr) (ct u : Value), bindArgs (ksFn "__init__" qual params body scope .none kV doc pm an (.ref cda) ct cc) ⟨[u], []⟩ = pure [(("self" : Str), u)])
    (X : K.In s.heap) (G : Gb s.heap) (hlim : s.heap.NoLimit) (hx : s.heap.get? x = some (excObj C t0 none .none)) (hnx : K.lookup x = none) (hroom : A.depth < recursionLimit)
    (hq : ∀ h' tk dx t1 tk', InitEnd s.heap h' x C dx t1 (fun y => if y = "code" then some (.str nm tk') else none) → R (.ok (.ret .none)) { s with heap := h', toks := tk }) :
    codeAny (model prog w) A (.call (.ref fI) ⟨[.ref x], []⟩) R s := by
  obtain ⟨oc, od, kV, doc, pm, an, ct, osl, lk⟩ := F.lk
  obtain ⟨ccl, cdd, vs, ccs, file, tfl, hcode, hvs, hfile⟩ := F.code
  have pS := S.par "self" (by simp)
  refine ks_codeAny_call_defAt (fd := ksFn "__init__" qual params body scope .none kV doc pm an (.ref cda) ct cc) (body := body) (binds := [(("self" : Str), .ref x)]) hroom (X _ _ lk) rfl hlim (codeRec_of X F.cd) rfl (.of_eq (bd _ _ _ _ _ _)) S.cell
    (fun y hy => by
      rcases List.mem_cons.mp hy with rfl | hy
      · exact pS
      · cases hy) (fun h1 hn k1 => ?_) S.co S.gen S.kind
  obtain ⟨hh, g, d, t, os⟩ := s
  show _root_.PySem.wpAt (model prog w) (A.deeper (ksEnv qual scope hh.objs.size fI (.ref cda) cc)) (.func body (ksEnv qual scope hh.objs.size fI (.ref cda) cc)) (execs body (ksEnv qual scope hh.objs.size fI (.ref cda) cc)) _ _ _
  rw [show execs body (ksEnv qual scope hh.objs.size fI (.ref cda) cc) = execs _ _ from by rw [hb]]
  have hxL : x ≠ hh.objs.size := Nat.ne_of_lt (Heap.lt_size hx)
  obtain ⟨⟨mg, g1, g2⟩, mb, b1, b2⟩ := G
  obtain ⟨pl, he⟩ := line hh.objs.size
  have mS : (fun y => ([(("self" : Str), Value.ref x)] : List (Str × Value)).reverse.lookup y) "self" = some (.ref x) := by simp [List.lookup]
  refine ks_wpAt_execs_cons ?_
  refine sup_stmt (s := ⟨h1, g, d, t + 1, os⟩) b T (X.keeps k1) (k1 _ _ hx) hn (by rw [ha]; exact mS) lk hp hcode hvs hfile S.sup S.cls (by rw [ha]; exact pS) S.kind F.top (g1.keeps k1) g2 (b1.keeps k1) b2 (fun h2 t1 tk k2 e2 => ?_) he
  have nsk : ∀ {h h' : Heap} {m : Str → Option Value}, h.Ns hh.objs.size m → (∀ c o, c ≠ x → h.get? c = some o → h'.get? c = some o) → h'.Ns hh.objs.size m := fun ⟨o, es, ep, e1, e2⟩ k => ⟨o, es, ep, k _ _ hxL.symm e1, e2⟩
  have n2 := nsk hn k2
  have k12 : ∀ c o, c ≠ x → hh.get? c = some o → h2.get? c = some o := fun c o hc e => k2 c o hc (k1 c o e)
  have sz : hh.objs.size < h2.objs.size := n2.lt
  refine wpAt_of_wpAny (wpAny_execs_cons (plainObj_wpAny_Assign_Attribute ?_))
  refine wpAny_Constant_str ?_
  refine wpAny_Name (wpAny_loadName_local S.kind pS n2 mS ?_) (by decide)
  refine set_new b T (kept_but X hnx k12) e2 tc fun h3 dx tk3 k3 dbig dne e3 ns3 => ?_
  exact wpAny_execs_nil (hq h3 tk3 dx t1 _ ⟨fun c o hc e => k3 c o hc (k12 c o hc e), e3, Nat.le_of_lt (Nat.lt_of_lt_of_le sz dbig), dne, ns3⟩)
end
end DX
namespace DX
open PySem PySem.W PySem.Calls PyProof.Rows PySem.HandSPX
/-- __init__ runs: it stores the fields that Pm tells of -/
def IniOk (prog : Program) (w : World) (K : Frag) (C fI : Addr) (us : List Value) (Pm : (Str → Option Value) → Prop) : Prop := ∀ (A : Around) (s : Shared) (R : Result → Shared → Prop) (x t0 : Addr),
  K.In s.heap → Gb s.heap → s.heap.NoLimit → s.heap.get? x = some (excObj C t0 none .none) → K.lookup x = none → A.depth < recursionLimit →
  (∀ h' tk dx t1 m, InitEnd s.heap h' x C dx t1 m → Pm m → R (.ok (.ret .none)) { s with heap := h', toks := tk }) → codeAny (model prog w) A (.call (.ref fI) ⟨.ref x :: us, []⟩) R s
/-- a made one -/
structure OwnMade (h h' : Heap) (e C d : Addr) (Pm : (Str → Option Value) → Prop) : Prop where
  keep : ∀ b o, h.get? b = some o → h'.get? b = some o
  new : h.objs.size ≤ e
  obj : ∃ oe vs, h'.get? e = some oe ∧ oe.cls = .ref C ∧ oe.dict = some d ∧ oe.data = .fields vs ∧ vs[1]? = some .none
  dbig : h.objs.size ≤ d
  dne : d ≠ e
  ns : ∃ m, h'.Ns1 d m ∧ Pm m
theorem Gb.keeps {h h' : Heap} (G : Gb h) (k : ∀ b o, h.get? b = some o → h'.get? b = some o) : Gb h' := by
  obtain ⟨⟨mg, g1, g2⟩, mb, b1, b2⟩ := G
  exact ⟨⟨mg, g1.keeps k, g2⟩, mb, b1.keeps k, b2⟩
section
variable {prog : Program} {w : World} {A : Around} {s : Shared} {K : Frag} {C fI cc : Addr} {B newId initId : String} {bmB : List Value} {R : Result → Shared → Prop}
theorem exc_made {us : List Value} {Pm : (Str → Option Value) → Prop} (b : ExB B newId initId bmB) (T : ExK K C fI cc B newId initId bmB) (I : IniOk prog w K C fI us Pm) (X : K.In s.heap) (G : Gb s.heap) (hlim : s.heap.NoLimit) (hz : us.length ≤ sizeLine) (hroom : A.depth + 1 < recursionLimit)
    (hq : ∀ h' tk e d, OwnMade s.heap h' e C d Pm → R (.ok (.ret (.ref e))) { s with heap := h', toks := tk }) : codeAny (model prog w) A (.call (.ref C) ⟨us, []⟩) R s := by
  obtain ⟨nm, N', qn, bs, bm, hdct, sn, sub, ab, col, dd, k0, k1, k2, k3, k5, hC, hT⟩ := excInit_of X T.exi
  obtain ⟨oI, hoI, hcI⟩ : ∃ oI, s.heap.get? fI = some oI ∧ oI.cls = .type "function" := by
    obtain ⟨o, ho, hc⟩ := Option.map_eq_some_iff.mp (show (K.lookup fI).map (·.cls) = some (.type "function") from beq_iff_eq.mp T.fn)
    exact ⟨o, X _ _ ho, hc⟩
  obtain ⟨hp, g, dr, tk, os⟩ := s
  have hsz : ((hp.push (kdv_tup us)).push (excO C hp.objs.size)).objs.size = hp.objs.size + 2 := by rw [Heap.size_push, Heap.size_push]
  have kk : ∀ b o, hp.get? b = some o → ((hp.push (kdv_tup us)).push (excO C hp.objs.size)).get? b = some o := fun b o e => Heap.get?_push_of_some _ (Heap.get?_push_of_some _ e)
  have hget : ((hp.push (kdv_tup us)).push (excO C hp.objs.size)).get? (hp.objs.size + 1) = some (excO C hp.objs.size) := by heap_get
  have hnx : K.lookup (hp.objs.size + 1) = none := by
    cases e : K.lookup (hp.objs.size + 1) with
    | none => rfl
    | some o => exact absurd (Nat.lt_of_succ_lt (Heap.lt_size (X _ _ e))) (Nat.lt_irrefl _)
  refine HandSPX.call_own b.FB hT hC (looks_findIn X T.ini) (fun self => exc_bind hoI hcI self) hz ?_
  refine I _ ⟨(hp.push (kdv_tup us)).push (excO C hp.objs.size), g, dr, tk, os⟩ _ (hp.objs.size + 1) hp.objs.size (X.keeps kk) (G.keeps kk) (hlim.keeps kk) hget hnx ?_ fun h' tk' dx t1 m ⟨k', hx, dn, dne, hns⟩ hm => ?_
  · rw [L2.make_depth]; exact hroom
  · have old : ∀ b o, hp.get? b = some o → h'.get? b = some o := fun b o e => k' b o (Nat.ne_of_lt (Nat.lt_succ_of_lt (Heap.lt_size e))) (kk b o e)
    have z : hp.objs.size + 2 ≤ dx := by
      rw [← hsz]; exact dn
    exact ⟨rfl, hq h' tk' (hp.objs.size + 1) dx ⟨old, Nat.le_succ _, ⟨_, _, hx, rfl, rfl, rfl, rfl⟩, by show hp.objs.size ≤ dx; omega, dne, m, hns, hm⟩⟩
end
end DX
namespace L2
open PySem PySem.Spec PyProof.Rows DX
/-- the fields as V's -/
def MRel (fs : List (Str × V)) (m : Str → Option Value) : Prop := ∀ f, RelO (fs.lookup f) (m f)
/-- C(es): the arguments, then for any new dict the wish -/
def tMkX (C : Addr) (n : Nat) (fs : List V → List (Str × V)) (ta : TA) : St → Hp → XK → Prop := fun σ H Q => ta σ H fun vs H1 => vs.length = n ∧ ∀ d, H1 d = none → Q (.ref C) (some d) (upd H1 d (.xd (fs vs)))
section
variable {X : Cx} {C fI cc : Addr} {B newId initId : String} {bmB : List Value} {k n : Nat} {x : Str} {p pos : Pos} {a : Expr} {ta : TA} {fs : List V → List (Str × V)} {pins : List (Addr × Obj)} {σ : St} {H : Hp} {s : Shared} {Q : XK}
theorem exc_fin {us : List Value} {vs : List V} (b : ExB B newId initId bmB) (T : ExK X.K C fI cc B newId initId bmB) (hS : X.mg "super" = none) (Ini : IniOk X.prog X.w X.K C fI us (MRel (fs vs))) (hr : Room k X.A) (I : Inv X pins σ H s) (hz : us.length ≤ sizeLine)
    (q : ∀ d, H d = none → Q (.ref C) (some d) (upd H d (.xd (fs vs)))) : wpAny (model X.prog X.w) X.A (call (.ref C) us) (MkP X pins σ Q) X.xe s := by
  have hlim := I.nolimit
  have G : Gb s.heap := by
    obtain ⟨mb, h1, h2⟩ := I.mod.blt
    exact ⟨⟨X.mg, I.mod.glob.keeps I.bk, hS⟩, mb, h1.keeps I.bk, (h2 "super" (by decide)).trans (by first | boot_by_name | rfl | kernel_rfl)⟩
  obtain ⟨hp, g, dr, tk, os⟩ := s
  refine wpAny_call (exc_made b T Ini I.kIn G hlim hz (by have := hr.dp; omega) fun h' tk' e d M => ?_)
  show MkP X pins σ Q (.ref e) ⟨h', g, dr, tk', os⟩
  obtain ⟨oe, fv, hoe, hc, hd, hdat, h1⟩ := M.obj
  obtain ⟨m, hns, hm⟩ := M.ns
  obtain ⟨G', g1, g2⟩ := restrict h' fun b => decide (b ≠ e)
  have gk : ∀ b, b ≠ e → G'.get? b = h'.get? b := fun b hb => g1 b (decide_eq_true hb)
  have ge : G'.get? e = none := g2 e (by simp)
  have old : ∀ b o, hp.get? b = some o → G'.get? b = some o := fun b o q => (gk b (Nat.ne_of_lt (Nat.lt_of_lt_of_le (Heap.lt_size q) M.new))).trans (M.keep b o q)
  have ob : ObjOk X.prog X.w (upd H d (.xd (fs vs))) G' d (.xd (fs vs)) := ⟨m, hns.at (fun o q => (gk d M.dne).trans q), hm⟩
  have J : Inv X pins σ (upd H d (.xd (fs vs))) ⟨G', g, dr, tk', os⟩ := I.laid (t' := tk') old M.dbig ob
  refine ⟨e, oe, fv, ⟨G', g, dr, tk', os⟩, _, .ref C, some d, rfl, J, fun b o q => ?_, ge, hoe, ⟨hc, hd⟩, hdat, h1, ?_, rfl, I.bare, raises_own T.exC T.tyC, q d (I.hok.fresh M.dbig)⟩
  · by_cases hb : b = e
    · have q' : G'.get? b = some o := q
      rw [hb, ge] at q'; cases q'
    · exact (gk b hb).symm.trans q
  · rw [upd_ne (Ne.symm M.dne)]
    exact I.hok.fresh M.new
theorem pmk_ex1 (b : ExB B newId initId bmB) (T : ExK X.K C fI cc B newId initId bmB) (hS : X.mg "super" = none) (Ini : ∀ (vs : List V) (us : List Value), Vals vs us → vs.length = 1 → IniOk X.prog X.w X.K C fI us (MRel (fs vs))) (hr : Room k X.A) (ha : PA X [a] ta) (hm : X.mg x = some (.ref C)) (hg : Gl X x) (hdb : (x == ("__debug__" : Str)) = false)
    (he : starEach (a :: []) X.env = (false, eval a X.env) :: starEach [] X.env := by rfl) (hpl : (backTo pos (starEach [] X.env)).any (·.1) = false := by rfl) :
    PMk X (.Call (.Name x p) [a] [] pos) (tMkX C 1 fs ta) := by
  intro pins s σ H Q I h
  refine wpAny_Call_Name_kw (ld_glob I hg hm ?_ hdb)
  refine PySem.W.callWith_K (h₀ := X.base) I.ok.mod.kin T.kC (thn (ha.run pos pins s σ H _ I h) fun us s1 ⟨vs, H1, I1, r1, hl, q1⟩ => ⟨I1.kIn, ?_⟩) he hpl
  show wpAny _ _ (call (.ref C) us) _ _ _
  exact exc_fin b T hS (Ini vs us r1 hl) hr I1 (by rw [← r1.length, hl, sizeLine_eq]; omega) q1
theorem pmk_ex0 (b : ExB B newId initId bmB) (T : ExK X.K C fI cc B newId initId bmB) (hS : X.mg "super" = none) (Ini : IniOk X.prog X.w X.K C fI [] (MRel (fs []))) (hr : Room k X.A) (hm : X.mg x = some (.ref C)) (hg : Gl X x) (hdb : (x == ("__debug__" : Str)) = false)
    (hpl : (backTo pos (starEach [] X.env)).any (·.1) = false := by rfl) : PMk X (.Call (.Name x p) [] [] pos) (tMkX C 0 fs tNil) := by
  intro pins s σ H Q I h
  refine wpAny_Call_Name_kw (ld_glob I hg hm ?_ hdb)
  obtain ⟨_, q1⟩ := h
  exact PySem.W.callWith_K0 I.kIn T.kC (exc_fin (us := []) (vs := []) b T hS Ini hr I (by simp) q1)
end
/-! ### the two forms of __init__ -/
section
open PySem.W
variable {prog : Program} {w : World} {K : Frag} {C fI cc cda : Addr} {B newId initId : String} {bmB : List Value}
variable {qual nm f : Str} {params : Arguments} {body : List Stmt} {scope : Scope} {p0 p1 p2 p3 p4 p5 q1 q2 q3 q4 r1 r2 r3 r4 : Pos} {j j2 : Nat} {ar : Arg}
theorem ini_one {v : V} {u : Value} (rv : RelV v u) (b : ExB B newId initId bmB) (T : ExK K C fI cc B newId initId bmB) (F : ExF prog K fI cc cda qual params body scope) (S : ExS scope ["self", f])
    (hb : body = [.Expr (.Call (.Attribute (.Call (.Name "super" p0) [] [] p1) "__init__" p2) [.Constant (.str nm) j p3] [] p4) p5, .Assign [.Attribute (.Name "self" q1) f q2] (.Name f q3) q4, .Assign [.Attribute (.Name "self" r1) "code" r2] (.Constant (.str nm) j2 r3) r4])
    (hp : (params.posonlyargs ++ params.args).head? = some ar) (ha : ar.arg = "self") (line : LineOk qual nm scope fI cc cda p0 p1 p2 p3 p4 j) (hf : f ≠ "self") (hfc : f ≠ "code") (hfd : (f == ("__debug__" : Str)) = false) (tf : takerIn K C f = some none) (tc : takerIn K C "code" = some none)
    (bd : ∀ (kV doc pm : Value) (an : Option Addr) (ct u w : Value), bindArgs (ksFn "__init__" qual params body scope .none kV doc pm an (.ref cda) ct cc) ⟨[u, w], []⟩ = pure [(("self" : Str), u), (f, w)]) : IniOk prog w K C fI [u] (MRel [(f, v), ("code", .str nm)]) := by
  intro A s R x t0 X G hlim hx hnx hroom hq
  have gx : ∀ {L : Addr} {m : Str → Option Value}, s.heap.Ns L m → x ≠ L := fun ⟨o, es, ep, e1, e2⟩ z => by
    rw [z, e1] at hx
    cases hx
    obtain ⟨e3, _⟩ := e2
    cases e3
  obtain ⟨mg, g1, g2⟩ := id G.gg
  obtain ⟨mb, b1, b2⟩ := id G.gb
  refine exc_init1 b T F S hb hp ha line hf hfc hfd tf tc bd X G hlim hx hnx (gx g1) (gx b1) hroom fun h' tk dx t1 tk' ie => hq h' tk dx t1 _ ie fun y => ?_
  by_cases h1 : y = "code"
  · subst h1
    have e : (("code" : Str) == f) = false := by simpa using Ne.symm hfc
    rw [if_pos rfl]
    have l : List.lookup ("code" : Str) [(f, v), ("code", V.str nm)] = some (V.str nm) := by simp [List.lookup, e]
    rw [l]
    exact ⟨tk', rfl⟩
  · rw [if_neg h1]
    by_cases h2 : y = f
    · subst h2
      rw [if_pos rfl]
      have l : List.lookup y [(y, v), ("code", V.str nm)] = some v := by simp [List.lookup]
      rw [l]
      exact rv
    · rw [if_neg h2]
      have e1 : (y == f) = false := by simpa using h2
      have e2 : (y == ("code" : Str)) = false := by simpa using h1
      have l : List.lookup y [(f, v), ("code", V.str nm)] = none := by simp [List.lookup, e1, e2]
      rw [l]
      trivial
theorem ini_none (b : ExB B newId initId bmB) (T : ExK K C fI cc B newId initId bmB) (F : ExF prog K fI cc cda qual params body scope) (S : ExS scope ["self"])
    (hb : body = [.Expr (.Call (.Attribute (.Call (.Name "super" p0) [] [] p1) "__init__" p2) [.Constant (.str nm) j p3] [] p4) p5, .Assign [.Attribute (.Name "self" r1) "code" r2] (.Constant (.str nm) j2 r3) r4])
    (hp : (params.posonlyargs ++ params.args).head? = some ar) (ha : ar.arg = "self") (line : LineOk qual nm scope fI cc cda p0 p1 p2 p3 p4 j) (tc : takerIn K C "code" = some none)
    (bd : ∀ (kV doc pm : Value) (an : Option Addr) (ct u : Value), bindArgs (ksFn "__init__" qual params body scope .none kV doc pm an (.ref cda) ct cc) ⟨[u], []⟩ = pure [(("self" : Str), u)]) : IniOk prog w K C fI [] (MRel [("code", .str nm)]) := by
  intro A s R x t0 X G hlim hx hnx hroom hq
  refine exc_init0 b T F S hb hp ha line tc bd X G hlim hx hnx hroom fun h' tk dx t1 tk' ie => hq h' tk dx t1 _ ie fun y => ?_
  by_cases h1 : y = "code"
  · subst h1
    rw [if_pos rfl]
    exact ⟨tk', rfl⟩
  · rw [if_neg h1]
    have e2 : (y == ("code" : Str)) = false := by simpa using h1
    have l : List.lookup y [("code", V.str nm)] = none := by simp [List.lookup, e2]
    rw [l]
    trivial
end
end L2
namespace DL
open PySem L2
open PyProof.Rows (envOfC)
/-- what is wanted of an exception, whatever the slots -/
abbrev WK (E : XK) : WX := fun c d _ H => E c d H
/-- an own exception class C of the name x whose __init__ takes f -/
structure ExR (prog : Program) (K : PySem.W.Frag) (mg : Str → Option Value) (C : Addr) (x : Str) (fs : List Str) : Prop where
  g : mg x = some (.ref C)
  sup : mg "super" = none
  ini : ∃ fI cc B newId initId bmB, DX.ExB B newId initId bmB ∧ DX.ExK K C fI cc B newId initId bmB ∧ ∀ (w : World) (vs : List V) (us : List Value), Vals vs us → vs.length = fs.length → DX.IniOk prog w K C fI us (MRel ((fs ++ [("code" : Str)]).zip (vs ++ [V.str x])))
section
variable {X : Cx} {C : Ct} {W : WX} {E : XK} {pos p2 p pos2 : Pos} {e a b : Expr} {es : List Expr} {fe fa fb fo : F D} {fs fn fk : F (List D)} {x : Str}
def Rp1 (C : Ct) (G : Gh) (H : Hp) (d : D) (vs : List V) : Prop := ∃ v, vs = [v] ∧ Rp C G H d v
theorem fa1e (ha : FE C W X e fe) (hs : starEach [e] X.env = [(false, eval e X.env)] := by rfl) : PA X [e] (tG C (Rp1 C) W fe) := by
  refine PA.imp (pa_cons ha pa_nil hs) fun σ H Q ⟨G, δ, η, at0, fin⟩ => ?_
  have e1 : (fe δ η).bind (fun d η => R.ok d η) = fe δ η := by cases fe δ η <;> rfl
  rw [← e1] at fin
  refine tG.bind (Rel2 := Rp1 C) at0 fin fun d v G1 H1 η1 a1 x1 r1 fin1 => ?_
  exact fin1 _ G1 H1 Nx.refl a1.he ⟨v, rfl, r1⟩
/-! ### raise -/
def sRaise1 (c : Nat) (f x : Str) (fe : F D) : S := fun δ η => (fe δ η).toS δ fun d η => .exc c [f, "code"] [d, .str x] δ η
def sRaise0 (c : Nat) (x : Str) : S := fun δ η => .exc c ["code"] [.str x] δ η
theorem fs_raise1 {c k : Nat} {f : Str} (hc : X.calm = true) (tk : Takes X W) (T : ExR X.prog X.K X.mg (C.cl c) x [f]) (hr : Room k X.A) (ha : FE C W X a fe) (hok : PySem.PyData.strOk x = true := by decide +kernel) (hg : Gl X x := by rfl) (hdb : (x == ("__debug__" : Str)) = false := by decide)
    (he : starEach (a :: []) X.env = (false, eval a X.env) :: starEach [] X.env := by rfl) (hpl : (backTo pos (starEach [] X.env)).any (·.1) = false := by rfl) :
    FS C W X (.Raise (some (.Call (.Name x p) [a] [] pos)) none pos2) (sRaise1 c f x fe) := by
  obtain ⟨fI, cc, B, newId, initId, bmB, b, T', ini⟩ := T.ini
  refine PS.imp (ps_raise hc tk (pmk_ex1 (fs := fun vs => ([f] ++ [("code" : Str)]).zip (vs ++ [V.str x])) b T' T.sup (fun vs us r hl => ini X.w vs us r hl) hr (fa1e ha he) T.g hg hdb he hpl)) fun Dn σ H ⟨B', G, δ, η, h, fin⟩ => ?_
  refine tG.bindS h fin fun d v G1 H1 η1 h1 x1 r1 fin1 => ?_
  obtain ⟨w, rfl, r1⟩ := r1
  refine ⟨rfl, fun dd hd => ?_⟩
  have st := (Nx.alloc (o := .xd (([f] ++ [("code" : Str)]).zip ([w] ++ [V.str x]))) hd).stab h1.a.he
  exact fin1 dd [w, .str x] G1 _ σ (h1.next (Nx.alloc hd) (h1.a.he.alloc hd)) ⟨upd_same, h1.a.he.fresh hd⟩ (.cons (r1.stab st) (.cons (.str x hok) .nil))
theorem fs_raise0 {c k : Nat} (hc : X.calm = true) (tk : Takes X W) (T : ExR X.prog X.K X.mg (C.cl c) x []) (hr : Room k X.A) (hok : PySem.PyData.strOk x = true := by decide +kernel) (hg : Gl X x := by rfl) (hdb : (x == ("__debug__" : Str)) = false := by decide)
    (hpl : (backTo pos (starEach [] X.env)).any (·.1) = false := by rfl) : FS C W X (.Raise (some (.Call (.Name x p) [] [] pos)) none pos2) (sRaise0 c x) := by
  obtain ⟨fI, cc, B, newId, initId, bmB, b, T', ini⟩ := T.ini
  refine PS.imp (ps_raise hc tk (pmk_ex0 (fs := fun vs => (([] : List Str) ++ [("code" : Str)]).zip (vs ++ [V.str x])) b T' T.sup (ini X.w [] [] .nil rfl) hr T.g hg hdb hpl)) fun Dn σ H ⟨B', G, δ, η, h, fin⟩ => ?_
  refine ⟨rfl, fun dd hd => ?_⟩
  exact fin dd [.str x] G _ σ (h.next (Nx.alloc hd) (h.a.he.alloc hd)) ⟨upd_same, h.a.he.fresh hd⟩ (.cons (.str x hok) .nil)
end
/-! ### a def that may let an exception out -/
section
variable {P : Program} {w : World} {K : PySem.W.Frag} {mg : Str → Option Value} {base : Heap} {C : Ct}
theorem ok_defX {x qual : Str} {st : Stmt} {f : Addr} {fd : FuncData} {N ps : List Str} {k n np : Nat} {fb : S} (F : FunG K x qual st f fd) (S : FnScope N ps (defScope st)) (hC : K = C.K) (hn : N.length = n) (hnp : ps.length = np)
    (hbody : ∀ (cdv : Value) (A : Around) (outer : List Env) (s : Shared) (H : Hp) (E : XK), Room k (A.deeper (envOfC qual (defScope st) s.heap.objs.size f cdv)) → Takes (cxOf (L2.CX P w) P w K mg base N qual (defScope st) f cdv A outer s H E) (WK E) →
      FSs C (WK E) (cxOf (L2.CX P w) P w K mg base N qual (defScope st) f cdv A outer s H E) (defBody st) fb) : FnOk P w K mg base (L2.CX P w) (k + 1) f fd ps (spX C np (runD n fb)) := by
  obtain ⟨oc, od, dV, kV, doc, pm, an, cdv, ct, osl, rfl, lk, hcd⟩ := F.ex
  subst hn hnp
  refine fn_of lk hcd S (fun vs H Q E h => h.1) fun A outer s H vs Q E hr h => ?_
  obtain ⟨hl, G, ds, η, r, rh, fin⟩ := h
  have hd : ds.length = ps.length := r.length.trans hl
  refine ⟨_, hbody cdv A outer s H E hr (takes_of rfl rfl rfl rfl), ⟨G, H, G, H⟩, G, _, η, ⟨start_at r rh, fun i l a e o => ?_, Nx.refl, Stab.refl⟩, ?_⟩
  · exfalso
    by_cases hi : i < ds.length
    · rw [List.getElem?_append_left (by simpa using hi), List.getElem?_map] at e
      cases q : ds[i]? with
      | none => rw [q] at e; cases e
      | some d => rw [q] at e; cases e; cases o
    · rw [List.getElem?_append_right (by simpa using hi), List.getElem?_replicate] at e
      split at e <;> cases e
  · unfold runD at fin
    split at fin
    · rename_i δ' η' q
      rw [q]
      exact fun G' H' σ' h => fin _ G' H' h.n h.a.he .non
    · rename_i d η' q
      rw [q]
      exact fun v G' H' nx rh r => fin v G' H' nx rh r
    · rename_i c ns l δ' η' q
      rw [q]
      exact fun x vs G' H' σ' h q1 q2 => fin x vs G' H' h.n h.a.he q1 q2
    · exact fin.elim
/-- .. called where nothing may come out -/
theorem ok_calm {f : Addr} {fd : FuncData} {ps : List Str} {k n : Nat} {m : DF} (F : FnOk P w K mg base (L2.CX P w) k f fd ps (spX C n m)) : FnOk P w K mg base CX0 k f fd ps (spD C n m) := by
  refine ⟨fun vs H Q E h => F.len vs H Q E0 h, fun A outer s H args us vs Q E hr e0 hb r h => ?_⟩
  refine codeAny_mono (F.run A outer s H args us vs Q E0 hr e0 hb r h) fun z s' hq => ?_
  cases z with
  | error e =>
    obtain ⟨_, _, _, _, _, _, _, _, _, _, _, _, hE⟩ := hq
    exact hE.elim
  | ok fl => cases fl <;> exact hq
end
end DL
namespace DL
open PySem L2
section
variable {X : Cx} {C : Ct} {E : XK} {pos p2 p : Pos} {e a b : Expr} {es : List Expr} {fe fa fb fo : F D} {fs fn fk : F (List D)} {tg : Expr} {x : Str}
variable {P : Program} {k n np nk : Nat} {g f A : Addr} {fd : FuncData} {ps ks : List Str} {df : DF} {ix : List Nat} {kws : List Keyword} {c : Nat} {NS : List Str} {m : Str} {pl : Sem Bool} {apos : Pos} {dv : List D}
def fCallX (n : Nat) (f : DF) (fa : F (List D)) : F D := fun δ η => (fa δ η).bind fun ds η => (arg n f ds η)
def fCallKX (np nk n : Nat) (f : DF) (ix : List Nat) (fa fk : F (List D)) : F D := fun δ η => (fa δ η).bind fun ds η => (fk δ η).bind fun es η => if ds.length = np ∧ es.length = nk then (arg n f (pick ix (ds ++ es)) η) else .bad
def argKX (np nk n : Nat) (df : DF) (ix : List Nat) (dv ds es : List D) : List O → R D := fun η => if ds.length = np ∧ es.length = nk then (arg n df (pick ix (ds ++ es ++ dv)) η) else .bad
def fMethX (c : Nat) (NS : List Str) (np nk n : Nat) (df : DF) (ix : List Nat) (dv : List D) (fo : F D) (fs fk : F (List D)) : F D := fun δ η => (fo δ η).bind fun d η => match insD η c NS d with
  | some _ => (fs δ η).bind fun ds η => (fk δ η).bind fun es η => argKX np nk n df ix dv (d :: ds) es η
  | none => .bad
def fNewIX (c np nk n : Nat) (df : DF) (ix : List Nat) (dv : List D) (fs fk : F (List D)) : F D := fun δ η => (fs δ η).bind fun ds η => (fk δ η).bind fun es η' => (argKX np nk n df ix dv (.obj η'.length :: ds) es (η' ++ [.ins c [] []])).bind fun z η2 => match z with
  | .non => .ok (.obj η'.length) η2
  | _ => .bad
theorem argK_runX {K : PySem.W.Frag} {fd : FuncData} {dv ds es : List D} {g : List Value → List Value → List Value} {gV : List V → List V → List V} {G : Gh} {H : Hp} {η : List O} {E' : XK} {vs zs : List V} {Q : VK} (hK : C.K = K) (kd : KD K fd ps np ks ix dv g gV) (hnk : ks.length = nk) (r1 : Rps C G H ds vs) (r2 : Rps C G H es zs) (rh : Rh C G H η)
    (fin : FinR C (Rp C) E' G H (argKX np nk n df ix dv ds es η) Q) : vs.length = np ∧ zs.length = ks.length ∧ spX C n df (gV vs zs) H Q E' := by
  unfold argKX at fin
  split at fin
  · rename_i hz
    have r := kd.r hK r1 r2
    unfold arg at fin
    split at fin
    · rename_i hn
      exact ⟨by rw [← r1.length]; exact hz.1, by rw [← r2.length, hnk]; exact hz.2, by rw [← r.length]; exact hn, G, _, η, r, rh, fin⟩
    · exact fin.elim
  · exact fin.elim
theorem new_runX {c : Nat} {K : PySem.W.Frag} {g2 : List Value → List Value → List Value} {gV : List V → List V → List V} {G : Gh} {H : Hp} {η : List O} {E' : XK} {ds es : List D} {vs zs : List V} {Q : VK} (hK : C.K = K) (kd : KD K fd ps np ks ix dv g2 gV) (hnk : ks.length = nk) (r1 : Rps C G H ds vs) (r2 : Rps C G H es zs) (rh : Rh C G H η)
    (fin : FinR C (Rp C) E' G H ((argKX np nk n df ix dv (.obj η.length :: ds) es (η ++ [.ins c [] []])).bind fun z η2 => match z with | .non => .ok (.obj η.length) η2 | _ => .bad) Q) {x dx : Addr} (hx : H x = none) (hdx : H dx = none) (ne : dx ≠ x) :
    (V.ref x :: vs).length = np ∧ zs.length = ks.length ∧ spX C n df (gV (.ref x :: vs) zs) (upd (upd H dx (.own x)) x (.ins (C.cl c) dx [])) (fun v H2 => v = .non ∧ Q (.ref x) H2) E' := by
  have y0 : Nx G H G (upd H dx (.own x)) := by
    refine ⟨fun _ _ h => h, fun a o h _ => by rw [upd_ne (ne_of_none h hdx)]; exact h, fun _ _ _ => Iff.rfl, fun _ h => .inl h, fun a h => ?_⟩
    by_cases e : a = dx
    · subst e; exact hdx
    · rw [upd_ne e] at h; exact h
  have rh0 : Rh C G (upd H dx (.own x)) η := by
    have st := y0.stab rh
    refine ⟨rh.len, rh.nd, fun i o a h1 h2 => ?_, fun a m => fun z => rh.mh a m (y0.there a z)⟩
    obtain ⟨m, q⟩ := rh.ob i o a h1 h2
    refine ⟨m, q.stab st fun w hw => ?_⟩
    rw [upd_ne (ne_of_none hw hdx)]; exact hw
  have hx0 : (upd H dx (.own x)) x = none := by rw [upd_ne (Ne.symm ne)]; exact hx
  have y1 : Nx G (upd H dx (.own x)) (G.push x) (upd (upd H dx (.own x)) x (.ins (C.cl c) dx [])) := Nx.push hx0
  have rh1 : Rh C (G.push x) (upd (upd H dx (.own x)) x (.ins (C.cl c) dx [])) (η ++ [.ins c [] []]) := rh0.push hx0 (.ins (vs := []) (by rw [upd_same]; rfl) rfl .nil)
  have y := y0.trans y1
  have st := y.stab rh
  have hob : (G.push x).ads[η.length]? = some x := by
    show (G.ads ++ [x])[η.length]? = some x
    rw [← rh.len]; simp
  refine argK_runX (E' := E') (Q := fun v H2 => v = .non ∧ Q (.ref x) H2) hK kd hnk (.cons (.obj hob) (r1.stab st)) (r2.stab st) rh1 ?_
  cases hz : argKX np nk n df ix dv (.obj η.length :: ds) es (η ++ [.ins c [] []]) with
  | bad => rw [hz] at fin; exact fin.elim
  | exc c' ns l η2 => rw [hz] at fin; exact fun xx ws G' H' nx q1 q2 q3 => fin xx ws G' H' (y.trans nx) q1 q2 q3
  | ok z η2 =>
    rw [hz, bind_ok] at fin
    cases z with
    | non =>
      intro v G' H' nx q1 q2
      cases q2
      exact ⟨rfl, fin (.ref x) G' H' (y.trans nx) q1 (.obj (nx.ads _ _ hob))⟩
    | _ => exact fin.elim
theorem fe_callX (tk : Takes X (WK E)) (F : FnOk X.prog X.w X.K X.mg X.base (L2.CX X.prog X.w) k f fd ps (spX C n df)) (hr : Room k X.A) (hm : X.mg x = some (.ref f)) (hk : PySem.W.keepIn X.K (.ref f) = true) (hb : Binds X.K fd ps [])
    (ha : FA C (WK E) X (e :: es) fs) (hg : Gl X x := by rfl) (hdb : (x == ("__debug__" : Str)) = false := by decide) (he : starEach (e :: es) X.env = (false, eval e X.env) :: starEach es X.env := by rfl) (hpl : (backTo pos (starEach es X.env)).any (·.1) = false := by rfl) :
    FE C (WK E) X (.Call (.Name x p) (e :: es) [] pos) (fCallX n df fs) := by
  refine PE.imp (pe_call (E := E) F hr hg hm hk hb .nil (passes_call tk fun _ _ _ _ z => z) ha hdb he hpl) fun σ H Q ⟨G, δ, η, a, fin⟩ => ?_
  refine tG.bind (Rel2 := Rp C) a fin fun ds vs G1 H1 η1 a1 x1 r1 fin1 => ?_
  unfold arg at fin1
  split at fin1
  · rename_i hn
    rw [List.append_nil]
    exact ⟨by rw [← r1.length]; exact hn, G1, ds, η1, r1, a1.he, fin1⟩
  · exact fin1.elim
theorem fe_call0X (tk : Takes X (WK E)) (F : FnOk X.prog X.w X.K X.mg X.base (L2.CX X.prog X.w) k f fd ps (spX C n df)) (hr : Room k X.A) (hm : X.mg x = some (.ref f)) (hk : PySem.W.keepIn X.K (.ref f) = true) (hb : Binds X.K fd ps [])
    (hg : Gl X x := by rfl) (hdb : (x == ("__debug__" : Str)) = false := by decide) : FE C (WK E) X (.Call (.Name x p) [] [] pos) (fCallX n df fNil) := by
  refine PE.imp (pe_call0 (E := E) F hr hg hm hk hb .nil (passes_call tk fun _ _ _ _ z => z) hdb) fun σ H Q ⟨G, δ, η, a, fin⟩ => ?_
  unfold fCallX fNil arg at fin
  rw [bind_ok] at fin
  split at fin
  · rename_i hn
    exact ⟨hn, G, [], η, .nil, a.he, fin⟩
  · exact fin.elim
theorem fe_callKX (tk : Takes X (WK E)) (F : FnOk X.prog X.w X.K X.mg X.base (L2.CX X.prog X.w) k f fd ps (spX C n df)) (hr : Room k X.A) (hm : X.mg x = some (.ref f)) (hk : PySem.W.keepIn X.K (.ref f) = true) (hb : KB X.K fd ps np ks ix) (hnk : ks.length = nk)
    (ha : FA C (WK E) X (e :: es) fs) (hkw : FK C (WK E) X kws fk) (hg : Gl X x := by rfl) (hall : (backToKw pos (keywordEach kws X.env)).all (·.1.isSome) = true := by rfl) (hks : (backToKw pos (keywordEach kws X.env)).filterMap (·.1) = ks := by rfl)
    (hdb : (x == ("__debug__" : Str)) = false := by decide) (he : starEach (e :: es) X.env = (false, eval e X.env) :: starEach es X.env := by rfl)
    (hpl : ((backTo pos (starEach (e :: es) X.env)).any (·.1) || (backToKw pos (keywordEach kws X.env)).any (·.1.isNone)) = false := by rfl) :
    FE C (WK E) X (.Call (.Name x p) (e :: es) kws pos) (fCallKX np nk n df ix fs fk) := by
  subst hnk
  refine PE.imp (pe_callN (E := E) F hr hg hm hk hb.kbn (passes_call tk fun _ _ _ _ z => z) ha hkw hall hks hdb he hpl) fun σ H Q ⟨G, δ, η, a, fin⟩ => ?_
  refine tG.bind (Rel2 := Rp C) a fin fun ds vs G1 H1 η1 a1 x1 r1 fin1 => ?_
  refine tG.bind (Rel2 := Rp C) a1 fin1 fun es ws G2 H2 η2 a2 x2 r2 fin2 => ?_
  split at fin2
  · rename_i hz
    have r := pick_rps ((r1.stab (x2.stab a1.he)).append r2) ix
    unfold arg at fin2
    split at fin2
    · rename_i hn
      exact ⟨by rw [← r1.length]; exact hz.1, by rw [← r2.length]; exact hz.2, by rw [← r.length]; exact hn, G2, _, η2, r, a2.he, fin2⟩
    · exact fin2.elim
  · exact fin2.elim
theorem fe_callK0X (tk : Takes X (WK E)) (F : FnOk X.prog X.w X.K X.mg X.base (L2.CX X.prog X.w) k f fd ps (spX C n df)) (hr : Room k X.A) (hm : X.mg x = some (.ref f)) (hk : PySem.W.keepIn X.K (.ref f) = true) (hb : KB X.K fd ps 0 ks ix) (hnk : ks.length = nk)
    (hkw : FK C (WK E) X kws fk) (hg : Gl X x := by rfl) (hall : (backToKw pos (keywordEach kws X.env)).all (·.1.isSome) = true := by rfl) (hks : (backToKw pos (keywordEach kws X.env)).filterMap (·.1) = ks := by rfl)
    (hdb : (x == ("__debug__" : Str)) = false := by decide)
    (hpl : ((backTo pos (starEach [] X.env)).any (·.1) || (backToKw pos (keywordEach kws X.env)).any (·.1.isNone)) = false := by rfl) :
    FE C (WK E) X (.Call (.Name x p) [] kws pos) (fCallKX 0 nk n df ix fNil fk) := by
  subst hnk
  refine PE.imp (pe_callN0 (E := E) F hr hg hm hk hb.kbn (passes_call tk fun _ _ _ _ z => z) hkw hall hks hdb hpl) fun σ H Q ⟨G, δ, η, a, fin⟩ => ?_
  unfold fCallKX fNil at fin
  rw [bind_ok] at fin
  refine tG.bind (Rel2 := Rp C) a fin fun es ws G2 H2 η2 a2 x2 r2 fin2 => ?_
  split at fin2
  · rename_i hz
    have r := pick_rps r2 ix
    unfold arg at fin2
    split at fin2
    · rename_i hn
      exact ⟨rfl, by rw [← r2.length]; exact hz.2, by simp only [List.nil_append] at hn ⊢; rw [← r.length]; exact hn, G2, _, η2, r, a2.he, fin2⟩
    · exact fin2.elim
  · exact fin2.elim
theorem fe_methNX (hK : X.K = C.K) (tk : Takes X (WK E)) (F : FnOk X.prog X.w X.K X.mg X.base (L2.CX X.prog X.w) k g fd ps (spX C n df)) (hr : Room k X.A) (hc : Cls X.K (C.cl c)) (hm : Meth X.K (C.cl c) m g) (hb : KDx X.K fd ps np ks ix dv) (hnk : ks.length = nk) (hnot : (NS.all fun g => !(m == g)) = true)
    (ho : FE C (WK E) X a fo) (ha : FA C (WK E) X (e :: es) fs) (hkw : FK C (WK E) X kws fk)
    (hall : (backToKw pos (keywordEach kws X.env)).all (·.1.isSome) = true := by rfl) (hks : (backToKw pos (keywordEach kws X.env)).filterMap (·.1) = ks := by rfl)
    (hst : starEach (e :: es) X.env = (false, eval e X.env) :: starEach es X.env := by rfl)
    (hpl : ((backTo pos (starEach (e :: es) X.env)).any (·.1) || (backToKw pos (keywordEach kws X.env)).any (·.1.isNone)) = false := by rfl)
    (ht : eval (.Call (.Attribute a m apos) (e :: es) kws pos) X.env = (do
      let ov ← eval a X.env
      standAt apos.atName
      let (f, first) ← holding [ov] (getMethod ov m pl)
      callWith pos f first (backTo pos (starEach (e :: es) X.env)) (backToKw pos (keywordEach kws X.env))) := by rfl) :
    FE C (WK E) X (.Call (.Attribute a m apos) (e :: es) kws pos) (fMethX c NS np nk n df ix dv fo fs fk) := by
  obtain ⟨g2, gV, kd⟩ := hb
  refine PE.imp (pe_methN (pl := pl) (E := E) ho hc hm F hr kd.b (passes_call tk fun _ _ _ _ z => z) ha hkw hall hks hst hpl ht) fun σ H Q ⟨G, δ, η, a0, fin⟩ => ?_
  refine tG.bind (Rel2 := Rp C) a0 fin fun d v G1 H1 η1 a1 x1 r1 fin1 => ?_
  cases q : insD η1 c NS d with
  | none => rw [q] at fin1; exact fin1.elim
  | some nl =>
    obtain ⟨i, l⟩ := nl
    rw [q] at fin1
    obtain ⟨p, dx, vs, rfl, rfl, hp, hq, he, hl, rs⟩ := insD_at q r1 a1.he
    refine ⟨p, dx, _, rfl, he, not_lookup hnot, ?_⟩
    refine tG.bind (Rel2 := Rp C) a1 fin1 fun ds ws G2 H2 η2 a2 x2 r2 fin2 => ?_
    refine tG.bind (Rel2 := Rp C) a2 fin2 fun es zs G3 H3 η3 a3 x3 r3 fin3 => ?_
    exact argK_runX hK.symm kd hnk (.cons ((r1.stab (x2.stab a1.he)).stab (x3.stab a2.he)) (r2.stab (x3.stab a2.he))) r3 a3.he fin3
theorem fe_methN0X (hK : X.K = C.K) (tk : Takes X (WK E)) (F : FnOk X.prog X.w X.K X.mg X.base (L2.CX X.prog X.w) k g fd ps (spX C n df)) (hr : Room k X.A) (hc : Cls X.K (C.cl c)) (hm : Meth X.K (C.cl c) m g) (hb : KDx X.K fd ps np ks ix dv) (hnk : ks.length = nk) (hnot : (NS.all fun g => !(m == g)) = true)
    (ho : FE C (WK E) X a fo) (hkw : FK C (WK E) X kws fk)
    (hall : (backToKw pos (keywordEach kws X.env)).all (·.1.isSome) = true := by rfl) (hks : (backToKw pos (keywordEach kws X.env)).filterMap (·.1) = ks := by rfl)
    (hpl : ((backTo pos (starEach [] X.env)).any (·.1) || (backToKw pos (keywordEach kws X.env)).any (·.1.isNone)) = false := by rfl)
    (ht : eval (.Call (.Attribute a m apos) [] kws pos) X.env = (do
      let ov ← eval a X.env
      standAt apos.atName
      let (f, first) ← holding [ov] (getMethod ov m pl)
      callWith pos f first (backTo pos (starEach [] X.env)) (backToKw pos (keywordEach kws X.env))) := by rfl) :
    FE C (WK E) X (.Call (.Attribute a m apos) [] kws pos) (fMethX c NS np nk n df ix dv fo fNil fk) := by
  obtain ⟨g2, gV, kd⟩ := hb
  refine PE.imp (pe_methN0 (pl := pl) (E := E) ho hc hm F hr kd.b (passes_call tk fun _ _ _ _ z => z) hkw hall hks hpl ht) fun σ H Q ⟨G, δ, η, a0, fin⟩ => ?_
  refine tG.bind (Rel2 := Rp C) a0 fin fun d v G1 H1 η1 a1 x1 r1 fin1 => ?_
  cases q : insD η1 c NS d with
  | none => rw [q] at fin1; exact fin1.elim
  | some nl =>
    obtain ⟨i, l⟩ := nl
    rw [q] at fin1
    obtain ⟨p, dx, vs, rfl, rfl, hp, hq, he, hl, rs⟩ := insD_at q r1 a1.he
    refine ⟨p, dx, _, rfl, he, not_lookup hnot, ?_⟩
    unfold fNil at fin1
    simp only [bind_ok] at fin1
    refine tG.bind (Rel2 := Rp C) a1 fin1 fun es zs G3 H3 η3 a3 x3 r3 fin3 => ?_
    exact argK_runX hK.symm kd hnk (.cons (r1.stab (x3.stab a1.he)) .nil) r3 a3.he fin3
theorem fe_newX {c : Nat} (hK : X.K = C.K) (M : Mk X.K (C.cl c) g) (tk : Takes X (WK E)) (F : FnOk X.prog X.w X.K X.mg X.base (L2.CX X.prog X.w) k g fd ps (spX C n df)) (hr : Room (k + 1) X.A) (hm : X.mg x = some (.ref (C.cl c))) (hb : KDx X.K fd ps (np + 1) ks ix dv) (hnk : ks.length = nk)
    (ha : FA C (WK E) X (e :: es) fs) (hkw : FK C (WK E) X kws fk) (hg : Gl X x := by rfl)
    (hall : (backToKw pos (keywordEach kws X.env)).all (·.1.isSome) = true := by rfl) (hks : (backToKw pos (keywordEach kws X.env)).filterMap (·.1) = ks := by rfl) (hdb : (x == ("__debug__" : Str)) = false := by decide)
    (he : starEach (e :: es) X.env = (false, eval e X.env) :: starEach es X.env := by rfl) (hpl : ((backTo pos (starEach (e :: es) X.env)).any (·.1) || (backToKw pos (keywordEach kws X.env)).any (·.1.isNone)) = false := by rfl) :
    FE C (WK E) X (.Call (.Name x p) (e :: es) kws pos) (fNewIX c (np + 1) nk n df ix dv fs fk) := by
  obtain ⟨g2, gV, kd⟩ := hb
  refine PE.imp (pe_makeK (E := E) M F hr hg hm kd.b (passes_call tk fun _ _ _ _ z => z) ha hkw hall hks hdb he hpl) fun σ H Q ⟨G, δ, η, a0, fin⟩ => ?_
  refine tG.bind (Rel2 := Rp C) a0 fin fun ds vs G1 H1 η1 a1 x1 r1 fin1 => ?_
  refine tG.bind (Rel2 := Rp C) a1 fin1 fun es zs G2 H2 η2 a2 x2 r2 fin2 => ?_
  have r1' := r1.stab (x2.stab a1.he)
  have key := fun {x dx : Addr} (hx : H2 x = none) (hdx : H2 dx = none) (ne : dx ≠ x) => new_runX hK.symm kd hnk r1' r2 a2.he fin2 hx hdx ne
  have ln : (D.obj η2.length :: ds).length = np + 1 ∧ es.length = nk := by
    refine Classical.byContradiction fun hh => ?_
    unfold argKX at fin2
    rw [if_neg hh] at fin2
    exact fin2.elim
  exact ⟨by rw [← r1.length]; simpa using ln.1, by rw [← r2.length, hnk]; exact ln.2, fun x dx hx hdx ne => (key hx hdx ne).2.2⟩
theorem fe_new0X {c : Nat} (hK : X.K = C.K) (M : Mk X.K (C.cl c) g) (tk : Takes X (WK E)) (F : FnOk X.prog X.w X.K X.mg X.base (L2.CX X.prog X.w) k g fd ps (spX C n df)) (hr : Room (k + 1) X.A) (hm : X.mg x = some (.ref (C.cl c))) (hb : KDx X.K fd ps 1 ks ix dv) (hnk : ks.length = nk)
    (hkw : FK C (WK E) X kws fk) (hg : Gl X x := by rfl)
    (hall : (backToKw pos (keywordEach kws X.env)).all (·.1.isSome) = true := by rfl) (hks : (backToKw pos (keywordEach kws X.env)).filterMap (·.1) = ks := by rfl) (hdb : (x == ("__debug__" : Str)) = false := by decide)
    (hpl : ((backTo pos (starEach [] X.env)).any (·.1) || (backToKw pos (keywordEach kws X.env)).any (·.1.isNone)) = false := by rfl) :
    FE C (WK E) X (.Call (.Name x p) [] kws pos) (fNewIX c 1 nk n df ix dv fNil fk) := by
  obtain ⟨g2, gV, kd⟩ := hb
  refine PE.imp (pe_makeK0 (E := E) M F hr hg hm kd.b (passes_call tk fun _ _ _ _ z => z) hkw hall hks hdb hpl) fun σ H Q ⟨G, δ, η, a1, fin1⟩ => ?_
  unfold fNewIX fNil at fin1
  rw [bind_ok] at fin1
  refine tG.bind (Rel2 := Rp C) a1 fin1 fun es zs G2 H2 η2 a2 x2 r2 fin2 => ?_
  have key := fun {x dx : Addr} (hx : H2 x = none) (hdx : H2 dx = none) (ne : dx ≠ x) => new_runX hK.symm kd hnk .nil r2 a2.he fin2 hx hdx ne
  have ln : (D.obj η2.length :: ([] : List D)).length = 1 ∧ es.length = nk := by
    refine Classical.byContradiction fun hh => ?_
    unfold argKX at fin2
    rw [if_neg hh] at fin2
    exact fin2.elim
  exact ⟨rfl, by rw [← r2.length, hnk]; exact ln.2, fun x dx hx hdx ne => (key hx hdx ne).2.2⟩
end
end DL
/-! a lambda without parameters, made and handed to a def: the heap behind it told exactly -/
namespace DL
open PySem PySem.Spec PyProof.Rows L2 LamX
/-- a table whose code objects all bear the name q -/
def TabQ (H : Hp) (P : Addr) (q : Str) (ps : Array Value) : Prop := H P = some (.tbl ps) ∧ TriplesOk ps.toList ∧ ∀ (pos : Pos) (cv : Value), codeAmong pos ps.toList = some cv → ∃ c, cv = .ref c ∧ H c = some (CodeO c q)
/-- behind the making: as before, or one code object more -/
def LamH (H H1 : Hp) (P c' : Addr) (q : Str) (ps : Array Value) : Prop := H1 = H ∨ ∃ ps', H c' = none ∧ H1 = upd (upd H P (.tbl ps')) c' (CodeO c' q) ∧ TriplesOk ps'.toList ∧ ∀ (pos : Pos) (cv : Value), codeAmong pos ps'.toList = some cv → codeAmong pos ps.toList = some cv ∨ cv = .ref c'
section
variable {X : Cx} {pins : List (Addr × Obj)} {σ : L2.St} {H : Hp} {s : Shared}
theorem lam_mk {c P : Addr} {q : Str} {ps : Array Value} {params : Arguments} {body : Expr} {scope : Scope} {pos : Pos} {E Q : Value → Shared → Prop} (I : Inv X pins σ H s) (TB : TabB X.base X.mg c P) (hcode : X.env.code = .ref c) (hq : X.env.qual ++ "<lambda>" = q) (tab : TabQ H P q ps)
    (hdef : defaultsOf params X.env = ([], [])) (hfree : ∀ y ∈ scope.names, y.2 = .free → ∃ c, X.env.cells.lookup y.1 = some c)
    (h : ∀ (f c' : Addr) (pm ctv : Value) (H1 : Hp) (s' : Shared), Inv X pins σ H1 s' → LamH H H1 P c' q ps → s'.heap.get? f = some (PySem.W.kla_obj "<lambda>" q params body scope (cloFrom X.env.cells scope.names []) pm c' ctv) → H1 f = none → f ∉ frs X.stack → H1 c' = some (CodeO c' q) → Q (.ref f) s') :
    wpAny (model X.prog X.w) X.A (eval (.Lambda params body scope pos) X.env) Q E s := by
  subst hq
  obtain ⟨hP, ht, hA⟩ := tab
  refine PySem.W.kla_eval hdef ?_
  have hbm : s.heap.BuiltinsAt X.mg P := TB.bm.keeps I.bk
  have oP : s.heap.get? P = some { cls := .none, data := .fields ps } := I.hok P _ hP
  have apart : ∀ f, s.heap.objs.size ≤ f → f ∉ frs X.stack := fun f hf hm => (List.mem_cons.mp (I.stkSub _ hm)).elim (fun e => absurd (Nat.lt_of_lt_of_le (e ▸ I.lt) hf) (Nat.lt_irrefl _)) fun e => I.nofs hf e
  cases hc : codeAmong pos ps.toList with
  | some cv =>
    obtain ⟨c', rfl, hco⟩ := hA pos cv hc
    refine PySem.W.kla_makeFunctionHit (mg := X.mg) (c := c) (P := P) (ps := ps) (closure_ok hfree) I.ok.glob (I.mod.glob.keeps I.bk) hcode (TB.code.keeps I.bk) oP ht hc hbm fun ctv h' tk keep le => ?_
    refine h h'.objs.size c' _ ctv H _ (I.kept fun b o e => Heap.get?_push_of_some _ (keep b o e)) (.inl rfl) (Heap.get?_push_size _ rfl) (I.hok.fresh le) (apart _ le) hco
  | none =>
    refine PySem.W.kla_makeFunction (mg := X.mg) (c := c) (P := P) (ps := ps) (closure_ok hfree) I.ok.glob (I.mod.glob.keeps I.bk) hcode (TB.code.keeps I.bk) oP ht hc TB.gP hbm fun c' ctv h' tk keep ge lt rec tb => ?_
    obtain ⟨_, oc, vs, tq, e2, hoc, hd, hv⟩ := rec
    cases e2
    have le : s.heap.objs.size ≤ h'.objs.size := Nat.le_trans ge (Nat.le_of_lt lt)
    have nC : H c' = none := I.hok.fresh ge
    have J := inv_table (t' := tk) (more := #[rawInt pos.line, rawInt pos.col, .ref c']) (h' := h'.push (PySem.W.kla_obj "<lambda>" (X.env.qual ++ "<lambda>") params body scope (cloFrom X.env.cells scope.names []) ((X.mg "__name__").getD .none) c' ctv)) I hP (fun b o hb e => Heap.get?_push_of_some _ (keep b o hb e)) (Heap.get?_push_of_some _ tb) ge ⟨oc, vs, tq, Heap.get?_push_of_some _ hoc, hd, hv⟩
    have eL : (ps ++ #[rawInt pos.line, rawInt pos.col, .ref c']).toList = ps.toList ++ [rawInt pos.line, rawInt pos.col, .ref c'] := by simp
    have fresh : upd (upd H P (.tbl (ps ++ #[rawInt pos.line, rawInt pos.col, .ref c']))) c' (CodeO c' (X.env.qual ++ "<lambda>")) h'.objs.size = none := by
      rw [upd_ne (Nat.ne_of_gt lt), upd_ne (Nat.ne_of_gt (Nat.lt_of_lt_of_le (Heap.lt_size oP) le))]
      exact I.hok.fresh le
    refine h h'.objs.size c' _ ctv _ _ J (.inr ⟨_, nC, rfl, by rw [eL]; exact PySem.TriplesOk_snoc _ _ _ _ ht, fun p' cv z => ?_⟩) (Heap.get?_push_size _ rfl) fresh (apart _ le) upd_same
    rw [eL] at z
    exact among_app _ ht z
/-- a reading that follows its wish -/
def Mono (tl : XK → Hp → VK → Prop) : Prop := ∀ (E : XK) (H : Hp) (Q Q' : VK), (∀ v H', Q v H' → Q' v H') → tl E H Q → tl E H Q'
/-- the def g that calls what it got by its name a; TT: what it makes of the reading -/
def GivesM (X : Cx) (Ng : List Str) (x : Str) (sg : Scope) (g : Addr) (cdg : Value) (bg : List Stmt) (a q : Str) (TT : (XK → Hp → VK → Prop) → Hp → VK → Prop) : Prop := ∀ (f c' : Addr) (s : Shared) (H : Hp) (Q : VK) (tl : XK → Hp → VK → Prop), Mono tl →
  (∀ (W : L2.WX) (pn : List (Addr × Obj)) (xe : Value → Shared → Prop) (E : XK) (p1 p2 : Pos), Takes ((cxOf CX0 X.prog X.w X.K X.mg X.base Ng x sg g cdg X.A X.stack s H E0).tr pn xe) W → (∀ cls d σ' H', E cls d H' → W cls d σ' H') →
    PE ((cxOf CX0 X.prog X.w X.K X.mg X.base Ng x sg g cdg X.A X.stack s H E0).tr pn xe) (.Call (.Name a p1) [] [] p2) (fun τ HZ Q => τ[0]? = some (some (.ref f)) ∧ HZ c' = some (CodeO c' q) ∧ tl E HZ Q)) →
  H c' = some (CodeO c' q) → TT tl H Q → ∃ t, PSs (cxOf CX0 X.prog X.w X.K X.mg X.base Ng x sg g cdg X.A X.stack s H E0).nox bg t ∧ t { nx := fun _ H' => Q .non H', rt := Q } (L2.start Ng [.ref f]) H
/-- g(lambda: body): T, the table; TT, what g makes of the lambda -/
def tLamX (P : Addr) (q : Str) (TT : (XK → Hp → VK → Prop) → Hp → VK → Prop) (t : XK → TE) : TE := fun σ H Q => ∃ ps, TabQ H P q ps ∧ ∀ H1 c', LamH H H1 P c' q ps → TT (fun E H' Q' => t E σ H' Q') H1 Q
theorem pe_lamX {TT : (XK → Hp → VK → Prop) → Hp → VK → Prop} {x a q : Str} {g c P : Addr} {k : Nat} {pg : Arguments} {bg : List Stmt} {sg : Scope} {dV kV doc pm cdv ct oc : Value} {an od : Option Addr} {osl : Array (Option Value)} {Ng : List Str}
    {params : Arguments} {body : Expr} {scope : Scope} {t : XK → TE} {p lpos pos : Pos} (hg : Gl X x) (hm : X.mg x = some (.ref g)) (hk : PySem.W.keepIn X.K (.ref g) = true)
    (lk : X.K.lookup g = some ⟨oc, od, .func (PySem.W.fnOf x x pg bg sg dV kV doc pm an cdv ct), osl⟩) (hcg : PySem.W.codeIn X.K cdv x = true) (hb : L2.Binds X.K (PySem.W.fnOf x x pg bg sg dV kV doc pm an cdv ct) [a] []) (Sg : FnScope Ng [a] sg) (hNg : Ng[0]? = some a) (hva : Vis sg a)
    (hG : GivesM X Ng x sg g cdv bg a q TT) (mono : ∀ σ, Mono fun E H' Q' => t E σ H' Q') (TB : TabB X.base X.mg c P) (hcode : X.env.code = .ref c) (hq : X.env.qual ++ "<lambda>" = q) (hr : Room (k + 2) X.A) (L : LamS X.env.scope scope) (hdef : defaultsOf params X.env = ([], []))
    (hbind : ∀ (q : Str) (cl : List (Str × Addr)) (pm cv ctv : Value), bindArgs (PySem.W.kla_fn "<lambda>" q params body scope cl pm cv ctv) ⟨[], []⟩ = pure [])
    (hbody : ∀ (A : Around) (outer : List Env) (s : Shared) (H : Hp) (E : XK) (f c' : Addr), Room k (A.deeper (lamEnv X scope s.heap.objs.size f c')) → PE (lamCx X A outer s H E scope f c') body (t E))
    (hdb : (x == ("__debug__" : Str)) = false := by decide) (hd : (a == ("__debug__" : Str)) = false := by decide) (hcd : (a == ("__classdict__" : Str)) = false := by decide) :
    PE X (.Call (.Name x p) [.Lambda params body scope lpos] [] pos) (tLamX P q TT t) := by
  subst hq
  refine ⟨fun pins s σ H Q I ⟨ps, tab, h⟩ => ?_⟩
  refine wpAny_Call_Name_kw (ld_glob I hg hm (PySem.W.callWith_K (h₀ := X.base) I.ok.mod.kin hk ?_ (by rfl) (by rfl)) hdb)
  show wpAny _ _ (spliced ((false, eval (.Lambda params body scope lpos) X.env) :: backTo pos (starEach [] X.env))) _ _ s
  refine Calls.spliced_cons (lam_mk I TB hcode rfl tab hdef (L.has I.ok) fun f c' pm' ctv H1 s1 I1 lh hf fn fr hco => Calls.spliced_nil ⟨I1.kIn, ?_⟩)
  have rc : codeAny (model X.prog X.w) X.A (.call (.ref g) ⟨[.ref f], []⟩) (CR C8.CX0 X.stack X.prog X.w H1 s1 Q C8.E0) s1 :=
    run_ofS (N := Ng) (ps := [a]) (us := [.ref f]) (vs := [.ref f]) lk hcg Sg hr I1.env0 (hb s1 [.ref f] I1.kIn rfl) (.cons rfl .nil) rfl fun hr1 => by
      obtain ⟨t', ht', hq'⟩ := hG f c' s1 H1 Q (fun E H' Q' => t E σ H' Q') (mono σ) (fun W pn xe E p1 p2 tk hW => pe_act (i := 0) I1 L hf fn fr (hbind _ _ _ _ _) tk hW hr1 (fun A outer s H hr2 => hbody A outer s H E f c' hr2) hNg hva hd hcd) hco (h H1 c' lh)
      exact ⟨t', ht'.nox, hq'⟩
  refine wpAny_call (codeAny_mono rc fun r s2 hz => ?_)
  rcases r with e | (u | _ | _ | _) <;> first | exact I1.after hz | exact False.elim hz
end
end DL
/-! the exception that is handled: its fields, a def that gets it -/
namespace DL
open PySem PySem.Spec PyProof.Rows L2 L2H
abbrev Ct.hot (C : Ct) (p : Addr × Obj) : Ct := { C with xp := some p }
/-- what the written part says of reading f of an exception of the class at Ca -/
structure XGet (K : PySem.W.Frag) (Ca : Addr) (f : Str) : Prop where
  ga : PySem.W.findIn K (.ref Ca) "__getattribute__" = some (some (.builtin "BaseException.__getattribute__"))
  gg : PySem.W.findIn K (.ref Ca) "__getattr__" = some none
  sB : PySem.W.subIn K (.ref Ca) (.type "BaseException") = some true
  hd : PySem.W.hasDictIn K Ca = true
  no : PySem.W.findIn K (.ref Ca) f = some none
/-- the handled exception is pinned -/
def XPin (C : Ct) (X : Cx) : Prop := ∀ p, C.xp = some p → p ∈ X.pn ∧ ∃ vs, p.2.data = .fields vs
theorem xf_look {C : Ct} {G : Gh} {H : Hp} {f : Str} {x : D} : ∀ {ns : List Str} {l : List D} {vs : List V}, Rps C G H l vs → (ns.zip l).lookup f = some x → ∃ v, (ns.zip vs).lookup f = some v ∧ Rp C G H x v
  | [], _, _, _, h => by simp at h
  | n :: ns, _, _, .nil, h => by simp at h
  | n :: ns, _, _, .cons (d := d) (v := v) r q, h => by
    rw [List.zip_cons_cons, List.lookup] at h
    rw [List.zip_cons_cons, List.lookup]
    cases e : f == n with
    | true => rw [e] at h; cases h; exact ⟨v, rfl, r⟩
    | false => rw [e] at h; exact xf_look q h
def fXf (f : Str) (cs : List Nat) (fe : F D) : F D := fun δ η => (fe δ η).bind fun d η => match d with
  | .exn c ns l => if c ∈ cs then match (ns.zip l).lookup f with
    | some x => .ok x η
    | none => .bad
    else .bad
  | _ => .bad
section
variable {X : Cx} {C : Ct} {W : WX} {pos p2 p : Pos} {e a b : Expr} {es : List Expr} {fe fa fb fo : F D} {fs fn fk : F (List D)} {x : Str}
def tXf (K : PySem.W.Frag) (pn : List (Addr × Obj)) (f : Str) (te : TE) : TE := fun σ H Q => te σ H fun u H1 => ∃ (a : Addr) (oe : Obj) (Ca d : Addr) (fs : List (Str × V)) (v : V), u = .ref a ∧ (a, oe) ∈ pn ∧ (∃ vs, oe.data = .fields vs) ∧ Zc (.ref Ca) (some d) oe ∧ XGet K Ca f ∧ H1 d = some (.xd fs) ∧ fs.lookup f = some v ∧ Q v H1
theorem pe_xf {f : Str} {te : TE} (he : PE X e te) (hb : attributeBase e f X.env (eval e X.env) = eval e X.env := by rfl) : PE X (.Attribute e f pos) (tXf X.K X.pn f te) := by
  refine ⟨fun pins s σ H Q I h => attr_of hb (thn (he.run pins s σ H _ I h) fun u s1 ⟨y, H1, I1, ry, a, oe, Ca, d, fs, v, ey, hp, ⟨vs, hd⟩, hz, T, hx, hl, q⟩ => ?_)⟩
  subst ey
  obtain rfl : u = Value.ref a := ry
  obtain ⟨ha, _⟩ := I1.pin (a, oe) (List.mem_append_left _ hp)
  obtain ⟨mA, hns, hr⟩ := (show ObjOk X.prog X.w H1 s1.heap d (.xd fs) from I1.hok d _ hx)
  obtain ⟨od, ho, hl2⟩ := lookIn_ns hns
  obtain ⟨w, hw, rw'⟩ := RelO.some_of (v := v) (o := mA f) (by rw [← hl]; exact hr f)
  exact HandSPX.exc_get I1.kIn ⟨ha, hz.1, by unfold PySem.W.notCls; rw [hd] <;> rfl, by rw [hz.2]; exact ho⟩ T.ga T.gg T.sB (PySem.W.findObj_own T.hd T.no rfl (by rw [hl2, hw])) (handed_of rw') ⟨v, H1, I1.tok _, rw', q⟩
theorem fe_xf {f : Str} {cs : List Nat} (hK : X.K = C.K) (hp : XPin C X) (hx : ∀ c ∈ cs, XGet X.K (C.cl c) f) (he : FE C W X e fe) (hb : attributeBase e f X.env (eval e X.env) = eval e X.env := by rfl) : FE C W X (.Attribute e f pos) (fXf f cs fe) := by
  refine PE.imp (pe_xf he hb) fun σ H Q ⟨G, δ, η, a0, fin⟩ => ?_
  refine tG.bind (Rel2 := Rp C) a0 fin fun d v G1 H1 η1 a1 x1 r1 fin1 => ?_
  cases r1 with
  | @exn a dd oe c ns vs l e1 hz hd rs =>
    dsimp only at fin1
    split at fin1
    · rename_i hc
      cases q : (ns.zip l).lookup f with
      | none => rw [q] at fin1; exact fin1.elim
      | some y =>
        rw [q] at fin1
        obtain ⟨w, h1, h2⟩ := xf_look rs q
        obtain ⟨p1, p2⟩ := hp _ e1
        exact ⟨a, oe, C.cl c, dd, _, w, rfl, p1, p2, hz, hx c hc, hd.1, h1, fin1 _ G1 H1 Nx.refl a1.he h2⟩
    · exact fin1.elim
  | _ => exact fin1.elim
end
/-! ### a def called while an exception is handled, the exception among its arguments -/
theorem _root_.L2H.RoomH.units {k : Nat} {A : Around} (r : RoomH k A) : A.units + 64 < cLine := by have := r.un; omega
structure FnX (P : Program) (w : World) (K : PySem.W.Frag) (mg : Str → Option Value) (base : Heap) (C : Ct) (k : Nat) (f : Addr) (fd : FuncData) (ps : List Str) (n : Nat) (m : DF) : Prop where
  len : ps.length = n
  run : ∀ (A : Around) (outer : List Env) (s : Shared) (H : Hp) (args : Args) (us : List Value) (vs : List V) (Q : VK) (p : Addr × Obj), RoomH k A → PinOk outer H s p → (∃ vs, p.2.data = .fields vs) → Env0 P w K mg base A outer s H → BindsTo s fd args (ps.zip us) → Vals vs us → spD (C.hot p) n m vs H Q E0 →
    codeAny (model P w) A (.call (.ref f) args) (CR CX0 outer P w H s Q E0) s
section
variable {P : Program} {w : World} {K : PySem.W.Frag} {mg : Str → Option Value} {base : Heap} {C : Ct}
theorem ok_hot {x qual : Str} {st : Stmt} {f : Addr} {fd : FuncData} {N ps : List Str} {k n np : Nat} {fb : S} (F : FunG K x qual st f fd) (S : FnScope N ps (defScope st)) (hn : N.length = n) (hnp : ps.length = np)
    (hbody : ∀ (cdv : Value) (A : Around) (outer : List Env) (s : Shared) (H : Hp) (p : Addr × Obj), RoomH k (A.deeper (envOfC qual (defScope st) s.heap.objs.size f cdv)) → XPin (C.hot p) (cxH CX0 P w K mg base N qual (defScope st) f cdv A outer s H E0 p) →
      FSs (C.hot p) WX0 (cxH CX0 P w K mg base N qual (defScope st) f cdv A outer s H E0 p) (defBody st) fb) : FnX P w K mg base C (k + 1) f fd ps np (runD n fb) := by
  obtain ⟨oc, od, dV, kV, doc, pm, an, cdv, ct, osl, rfl, lk, hcd⟩ := F.ex
  subst hn hnp
  refine ⟨rfl, fun A outer s H args us vs Q p hr hpin hdat e0 hb r h => ?_⟩
  obtain ⟨hl, G, ds, η, rps, rh, fin⟩ := h
  have hd : ds.length = ps.length := rps.length.trans hl
  have lim : s.heap.NoLimit := e0.mod.nolimit.keeps fun b o e => (e0.bs b o e).1
  have hk : ∀ y ∈ ps.zip us, (defScope st).names.lookup y.1 = some .local ∨ ((defScope st).names.lookup y.1 = some .cell ∧ ((cellsFrom (s.heap.objs.size + 1) (defScope st).names []).lookup y.1).isSome = true) := fun ⟨y, v⟩ hy =>
    (S.par y (List.of_mem_zip hy).1).elim .inl fun q => .inr ⟨q, PySem.W.cellsFrom_some _ _ _ (.inl q)⟩
  have KX : K.In s.heap := e0.mod.kin.keeps fun b o e => (e0.bs b o e).1
  refine codeAny_call_function hr.depth (KX _ _ lk) rfl S.co S.gen rfl (PySem.W.codeRec_of KX hcd) (hb _ _ _ _ (wpAny_newFunctionEnv_cells S.kind hk fun env he s1 x => ?_))
  subst he
  refine ⟨lim.keeps x.toInCall.keep, codeAny_func ?_⟩
  have I : Inv (cxH CX0 P w K mg base N qual (defScope st) f cdv A outer s H E0 p) [] (L2.start N vs) H s1 := inv_startH S hpin e0 hl r x
  have body := hbody cdv A outer s H p (hr.deeper _) (fun p' hp' => by cases hp'; exact ⟨List.mem_cons_self, hdat⟩)
  refine wpAny_mono (body.run [] s1 (L2.start N vs) H { nx := fun _ H' => Q .non H', rt := Q } I ⟨⟨G, H, G, H⟩, G, _, η, ⟨start_at rps rh, fun i l a e o => ?_, Nx.refl, Stab.refl⟩, ?_⟩) (fun fl s2 hs => ?_) fun e s2 hs => hs
  · exfalso
    by_cases hi : i < ds.length
    · rw [List.getElem?_append_left (by simpa using hi), List.getElem?_map] at e
      cases q : ds[i]? with
      | none => rw [q] at e; cases e
      | some d => rw [q] at e; cases e; cases o
    · rw [List.getElem?_append_right (by simpa using hi), List.getElem?_replicate] at e
      split at e <;> cases e
  · unfold runD at fin
    split at fin
    · rename_i δ' η' q
      rw [q]
      exact fun G' H' σ' h => fin _ G' H' h.n h.a.he .non
    · rename_i d η' q
      rw [q]
      exact fun v G' H' nx rh r => fin v G' H' nx rh r
    · rename_i c ns l δ' η' q
      rw [q]
      exact fun x vs G' H' σ' h q1 q2 => fin x vs G' H' h.n h.a.he q1 q2
    · exact fin.elim
  · rcases fl with _ | _ | _ | u
    all_goals first
      | (obtain ⟨v, σ2, H2, J, rv, q⟩ := hs; exact ⟨v, H2, J.os, J.bare, J.base, J.hok, rv, q⟩)
      | (obtain ⟨σ2, H2, J, q⟩ := hs; exact ⟨V.non, H2, J.os, J.bare, J.base, J.hok, rfl, q⟩)
      | (obtain ⟨_, _, _, q⟩ := hs; exact False.elim q)
end
section
variable {X : Cx} {C : Ct} {W : WX} {pos p : Pos} {e : Expr} {es : List Expr} {fs : F (List D)} {x : Str} {k n : Nat} {f : Addr} {fd : FuncData} {ps : List Str} {df : DF}
theorem fe_callH {pp : Addr × Obj} (F : FnX X.prog X.w X.K X.mg X.base C k f fd ps n df) (hr : RoomH k X.A) (hpp : pp ∈ X.pn) (hdat : ∃ vs, pp.2.data = .fields vs) (hm : X.mg x = some (.ref f)) (hk : PySem.W.keepIn X.K (.ref f) = true) (hb : Binds X.K fd ps [])
    (ha : FA (C.hot pp) W X (e :: es) fs) (hg : Gl X x := by rfl) (hdb : (x == ("__debug__" : Str)) = false := by decide) (he : starEach (e :: es) X.env = (false, eval e X.env) :: starEach es X.env := by rfl) (hpl : (backTo pos (starEach es X.env)).any (·.1) = false := by rfl) :
    FE (C.hot pp) W X (.Call (.Name x p) (e :: es) [] pos) (fCall n df fs) := by
  refine ⟨fun pins s σ H Q I ⟨G, δ, η, a, fin⟩ => ?_⟩
  refine wpAny_Call_Name_kw (ld_glob I hg hm ?_ hdb)
  have rd : tG (C.hot pp) (Rps (C.hot pp)) W fs σ H (fun vs H1 => spD (C.hot pp) n df vs H1 Q E0) := by
    refine tG.bind (Rel2 := Rp (C.hot pp)) a fin fun ds vs G1 H1 η1 a1 x1 r1 fin1 => ?_
    unfold arg at fin1
    split at fin1
    · rename_i hn
      exact ⟨by rw [← r1.length]; exact hn, G1, ds, η1, r1, a1.he, fin1.nox⟩
    · exact fin1.elim
  refine PySem.W.callWith_K (h₀ := X.base) I.ok.mod.kin hk (thn (ha.run pos pins s σ H _ I rd) fun us s1 ⟨vs, H1, I1, r, q⟩ => ⟨I1.kIn, ?_⟩) he hpl
  have hl : us.length = ps.length := by rw [← r.length, F.len]; exact q.1
  have b := hb s1 us I1.kIn (by rw [List.append_nil]; exact hl)
  rw [List.append_nil] at b
  have P1 := I1.pin pp (List.mem_append_left _ hpp)
  have hpin : PinOk X.stack H1 s1 pp := ⟨P1.1, P1.2.1, fun hm => (List.mem_cons.mp (I1.stkSub pp.1 hm)).elim P1.2.2.1 P1.2.2.2.1, P1.2.2.2.2⟩
  refine wpAny_call (codeAny_mono (F.run X.A X.stack s1 H1 ⟨us, []⟩ us vs Q pp hr hpin hdat I1.env0 b r q) fun z s2 hq => ?_)
  rcases z with e | (u | _ | _ | _) <;> first | exact I1.after hq | exact False.elim hq
end
end DL
/-! try: .. except (A, B, C) as n: .. -/
namespace DL
open PySem PySem.Spec PyProof.Rows L2
/-- what the clause wishes of an exception of the body -/
def wThree (K : PySem.W.Frag) (cs : List Value) (i : Nat) (ts : Addr → Value → Option Addr → TS) (Wout : WX) (Dn : Ends) : WX := fun cls d σ H =>
  ∃ b, PySem.W.exmAny K cls cs = some b ∧ (b = true → ∀ a, H a = none → ts a cls d { nx := fun σ' H' => Dn.nx (σ'.set i none) H', rt := Dn.rt, bk := fun σ' H' => Dn.bk (σ'.set i none) H', ct := fun σ' H' => Dn.ct (σ'.set i none) H' } (σ.set i (some (.ref a))) H) ∧ (b = false → Wout cls d σ H)
theorem fly_keeps {base h h' : Heap} {l : List Env} {e : Addr} {Z : Obj → Prop} (k : ∀ b o, h.get? b = some o → h'.get? b = some o) (f : HandSPX.FlyingZ base l e Z h) : HandSPX.FlyingZ base l e Z h' := by
  obtain ⟨f1, f2, f3, oe, vs, T, oT, ts, he, hz, hd, h1, hn, ne, hT, hdT, h3⟩ := f
  exact ⟨fun b o q => k b o (f1 b o q), f2, Heap.FunFrames.of_keeps (fun b o q _ => ⟨o, k b o q, rfl⟩) f3, oe, vs, T, oT, ts, k _ _ he, hz, hd, h1, hn, ne, k _ _ hT, hdT, h3⟩
section
variable {X : Cx} {x1 x2 x3 n : Str} {c1 c2 c3 : Addr} {i : Nat} {body suite : List Stmt} {b₀ : Stmt} {n1 n2 n3 tp pos pos' : Pos} {kk : Nat} {tb : WX → TS} {ts : Addr → Value → Option Addr → TS} {Wout : WX}
theorem ps_tryThree (hs : X.stack = X.env :: X.outer) (hf : X.env.frame = some X.env.locals) (hN : X.N.Nodup) (hi : X.N[i]? = some n) (hln : X.env.kindOf n = some .local) (g1 : Gl X x1) (g2 : Gl X x2) (g3 : Gl X x3) (m1 : X.mg x1 = some (.ref c1)) (m2 : X.mg x2 = some (.ref c2)) (m3 : X.mg x3 = some (.ref c3)) (tk : Takes X Wout)
    (hb : ∀ (W : WX) (pn : List (Addr × Obj)) (xe : Value → Shared → Prop), Takes (X.tr pn xe) W → PassesOwn (model X.prog X.w) X.A X.env xe → PSs (X.tr pn xe) body (tb W))
    (hsu : ∀ (a : Addr) (oe : Obj) (cls : Value) (d : Option Addr) (pn : List (Addr × Obj)), Zc cls d oe → (∃ vs, oe.data = .fields vs) → PSs (X.suite a ((a, oe) :: pn)) (b₀ :: suite) (ts a cls d))
    (d1 : (x1 == ("__debug__" : Str)) = false := by decide) (d2 : (x2 == ("__debug__" : Str)) = false := by decide) (d3 : (x3 == ("__debug__" : Str)) = false := by decide) :
    PS X (.Try body [.ExceptHandler (some (.Tuple [.Name x1 n1, .Name x2 n2, .Name x3 n3] kk tp)) (some n) (b₀ :: suite) pos'] [] [] pos) (fun Dn σ H => tb (wThree X.K [.ref c1, .ref c2, .ref c3] i ts Wout Dn) Dn σ H) := by
  refine ⟨fun pins s σ H Dn I h => wpAny_Try_except ?_⟩
  have ok := I.ok
  have hfr : X.A.frames = some (X.env :: X.outer) := by rw [ok.frames, hs]
  have run := (hb (wThree X.K [.ref c1, .ref c2, .ref c3] i ts Wout Dn) (X.pn ++ pins) (fun e t₁ => wpAny (model X.prog X.w) X.A (noteFrame e X.env) (fun _ t₂ => wpAny (model X.prog X.w) X.A (setFlight e none) (fun _ t₃ =>
    wpAny (model X.prog X.w) X.A (handleBy e X.env [.ExceptHandler (some (.Tuple [.Name x1 n1, .Name x2 n2, .Name x3 n3] kk tp)) (some n) (b₀ :: suite) pos']) (SP X pins Dn) X.xe t₃) X.xe t₂) X.xe t₁) (fun u z xx => ?take) PassesOwn.looking).run [] s σ H Dn (I.toTry _) h
  case take =>
    obtain ⟨a, B, sI, pins2, τ, Hx, cls, d, rfl, J', nb, up, sky, na, os, ag, b, hb1, hyes, hno⟩ := xx
    have J : Inv X pins τ Hx sI := J'.ofTry ok
    rw [show (X.tr (X.pn ++ pins) _).stack = X.env :: X.outer from hs] at sky
    show wpAny (model X.prog X.w) X.A (noteFrame (.ref a) X.env) _ _ _
    refine Sky.land Zc.steady hfr hf sky fun h3 fl3 up3 => ?_
    have J3 : Inv X pins τ Hx { z with heap := h3 } := J.landed nb fl3.1 (up.trans up3) os ag
    obtain ⟨oe3, vs3, he3, hz3, hd3⟩ := fl3.there
    have off : ∀ {h : Heap} {o : Obj} {vs : Array Value}, h.FunFrames B (X.env :: X.outer) → h.get? a = some o → o.data = .fields vs → a ∉ frs (X.env :: X.outer) := fun {h o vs} ff e dd hm => by
      obtain ⟨_, o', e', hnf⟩ := ff.mem hm
      rw [e] at e'
      exact hnf _ ((Option.some.inj e') ▸ dd)
    have nfr := off fl3.2.2.1 he3 hd3
    have nL : a ≠ X.env.locals := fun q => nfr (List.mem_filterMap.mpr ⟨X.env, List.mem_cons_self, by rw [hf, q]⟩)
    have nF : a ∉ X.fs := fun hm => (List.mem_filterMap.mp hm).elim fun e he => nfr (List.mem_filterMap.mpr ⟨e, List.mem_cons_of_mem _ he.1, he.2⟩)
    have S3 := J3.suite he3 hd3 na nL nF
    refine wpAny_handleBy_cons (codeAny_handlers_test ?_) (by intro q; cases q)
    refine wpAny_Tuple_spliced (Calls.spliced_cons (ld_glob (X := X.suite a ((a, oe3) :: (X.pn ++ pins))) S3 g1 m1 (Calls.spliced_cons (ld_glob (X := X.suite a ((a, oe3) :: (X.pn ++ pins))) S3 g2 m2 (Calls.spliced_cons (ld_glob (X := X.suite a ((a, oe3) :: (X.pn ++ pins))) S3 g3 m3 (Calls.spliced_nil ⟨by rw [sizeLine_eq]; simp, ?_⟩) d3)) d2)) d1))
    have k34 : ∀ b o, h3.get? b = some o → (h3.push { cls := .type "tuple", data := .seq [Value.ref c1, .ref c2, .ref c3].toArray }).get? b = some o := fun b o q => Heap.get?_push_of_some _ q
    have LT : PySem.W.Looks (model X.prog X.w) (h3.push { cls := .type "tuple", data := .seq [Value.ref c1, .ref c2, .ref c3].toArray }) (typeOf (.ref a)) cls := fun A Q E s k q => wpAny_typeOf_ref (k _ _ (k34 _ _ he3)) (by rw [hz3.1]; exact q)
    have LM := PySem.W.exm_tup3 (M := model X.prog X.w) (J3.kIn.keeps k34) LT (Heap.get?_push_size _ rfl) hb1
    refine LM.here (s := { z with heap := h3.push { cls := .type "tuple", data := .seq [Value.ref c1, .ref c2, .ref c3].toArray } }) ?_
    have fl4 := fly_keeps k34 fl3
    have up4 : z.heap.UpToSlots (h3.push { cls := .type "tuple", data := .seq [Value.ref c1, .ref c2, .ref c3].toArray }) := up3.trans (Heap.UpToSlots.of_keeps k34)
    cases b with
    | false =>
      show wpAny _ X.A (handleBy (.ref a) X.env []) _ _ _
      refine wpAny_handleBy_nil ?_
      obtain ⟨_, _, _, oe, vs, T, oT, ts', he, hz, hd, h1, hr⟩ := id fl4
      unfold PySem.passOn
      refine wpAny_bind (wpAny_field he hd h1 ?_)
      rw [if_neg (show ¬ ((Value.ref T == Value.none) = true) from by simp)]
      have fin : wpAny (model X.prog X.w) X.A (setFlight (.ref a) X.env.frame) (fun _ t => wpAny (model X.prog X.w) X.A (throw (.ref a) : Sem Flow) (SP X pins Dn) X.xe t) X.xe { z with heap := h3.push { cls := .type "tuple", data := .seq [Value.ref c1, .ref c2, .ref c3].toArray } } := by
        rw [hf]
        exact HandSPX.setFlight_upZ fl4 fun h5 hh5 up5 => wpAny_throw (tk _ _ ⟨a, B, sI, pins, τ, Hx, cls, d, rfl, J, nb, (up.trans up4).trans up5, .inr (.inr (by rw [hs]; exact hh5)), na, os, ag, hno rfl⟩)
      first
        | exact wpAny_bind (wpAny_pure (wpAny_bind fin))
        | exact wpAny_bind fin
    | true =>
      refine codeAny_handlers_suite_as (HandSPX.lands_againZ fl4 fun h5 fl5 up5 => ?_)
      have J5 : Inv X pins τ Hx { z with heap := h5 } := J.landed nb fl5.1 ((up.trans up4).trans up5) os ag
      obtain ⟨oe5, vs5, he5, hz5, hd5⟩ := fl5.there
      have S5 := J5.suite he5 hd5 na nL nF
      refine store_ok (X := X.suite a ((a, oe5) :: (X.pn ++ pins))) (v := .ref a) S5 hN hi (.inl hln) rfl (fun s6 S6 => ?_) (.inr hln)
      refine wpAny_mono ((hsu a oe5 cls d (X.pn ++ pins) hz5 ⟨_, hd5⟩).run [] s6 _ Hx _ S6 (hyes rfl a na)) (fun f s7 hsp => ?_) (fun _ _ q => False.elim q)
      have last : ∀ {σ7 : L2.St} {H7 : Hp} {Q : Shared → Prop}, Inv (X.suite a ((a, oe5) :: (X.pn ++ pins))) [] σ7 H7 s7 → (∀ s8, Inv X pins (σ7.set i none) H7 s8 → Q s8) →
          wpAny (model X.prog X.w) X.A (do bindName X.env n .none; unbindBehindTheSuite X.env n pos') (fun _ s8 => Q s8) X.xe s7 := fun S7 hq => gone_ok (S7.unsuite ok) hN hi hln hq
      rcases f with _ | _ | _ | u
      all_goals first
        | (obtain ⟨v7, σ7, H7, S7, r7, q7⟩ := hsp; exact last S7 fun s8 J8 => ⟨_, _, _, J8, r7, q7⟩)
        | (obtain ⟨σ7, H7, S7, q7⟩ := hsp; exact last S7 fun s8 J8 => ⟨_, _, J8, q7⟩)
  refine wpAny_mono run (fun f s1 hsp => ?_) (fun _ _ q => q)
  rcases f with _ | _ | _ | u
  all_goals first
    | (obtain ⟨v, σ2, H2, J2, r, q⟩ := hsp; exact ⟨v, σ2, H2, J2.ofTry ok, r, q⟩)
    | (obtain ⟨σ2, H2, J2, q⟩ := hsp; exact wpAny_execs_nil ⟨σ2, H2, J2.ofTry ok, q⟩)
    | (obtain ⟨σ2, H2, J2, q⟩ := hsp; exact ⟨σ2, H2, J2.ofTry ok, q⟩)
end
end DL
/-! why(lambda: e): what the call returns behind an empty code, or the code of its error and what it bears -/
namespace DL
open PySem PySem.Spec PyProof.Rows L2 L2H
open PyProof.Rows (envOfC)
/-! ### data that holds in any ghost -/
section
variable {C C2 : Ct} {G G2 : Gh} {H : Hp}
theorem rd_there {a : Addr} {u : HO} (h : Rd H a u) : ∃ o, H a = some o := h.elim (fun h => ⟨_, h⟩) fun ⟨o, h⟩ => ⟨_, h⟩
mutual
theorem Rp.move (hK : C2.K = C.K) (hM : ∀ a o, H a = some o → ¬ G.M a → ¬ G2.M a) : ∀ {n : Nat} {d : D} {v : V}, pureD n d = true → Rp C G H d v → Rp C2 G2 H d v
  | _, _, _, _, .non => .non
  | _, _, _, _, .bl b => .bl b
  | _, _, _, _, .int i => .int i
  | _, _, _, _, .str x h => .str x h
  | 0, _, _, p, .lst h z r => by simp [pureD] at p
  | 0, _, _, p, .tup h z r => by simp [pureD] at p
  | n + 1, _, _, p, .lst h z r => .lst (h.elim (fun h => .inl ⟨h.1, (rd_there h.1).elim fun o e => hM _ o e h.2⟩) fun h => .inr (by rw [hK]; exact h)) z (Rps.move hK hM (by rw [pureD] at p; exact p) r)
  | n + 1, _, _, p, .tup h z r => .tup (h.elim (fun h => .inl ⟨h.1, (rd_there h.1).elim fun o e => hM _ o e h.2⟩) fun h => .inr (by rw [hK]; exact h)) z (Rps.move hK hM (by rw [pureD] at p; exact p) r)
  | n, _, _, p, .ins _ _ _ _ => by cases n <;> simp [pureD] at p
  | n, _, _, p, .obj _ => by cases n <;> simp [pureD] at p
  | n, _, _, p, .exn _ _ _ _ => by cases n <;> simp [pureD] at p
theorem Rps.move (hK : C2.K = C.K) (hM : ∀ a o, H a = some o → ¬ G.M a → ¬ G2.M a) : ∀ {n : Nat} {l : List D} {vs : List V}, pureDs n l = true → Rps C G H l vs → Rps C2 G2 H l vs
  | _, _, _, _, .nil => .nil
  | n, _, _, p, .cons r q => by
    rw [pureDs, Bool.and_eq_true] at p
    exact .cons (Rp.move hK hM p.1 r) (Rps.move hK hM p.2 q)
end
end
/-! ### the mirror -/
def hotS (d : D) : En := [none, none, some (.val d)]
def sufF (cs : List Nat) (fld : DF) : F D := fTup (fCons (fXf "code" cs (fV 2)) (fCons (fCall 1 fld (fCons (fV 2) fNil)) fNil))
def whyM (cs : List Nat) (fld : DF) (r : R D) : R D := match r with
  | .ok d η => .ok (.tup [.str "", d]) η
  | .exc c ns l η => if c ∈ cs ∧ pureDs 20 l = true then match sufF cs fld (hotS (.exn c ns l)) [] with
    | .ok v _ => if pureD 20 v = true then .ok v η else .bad
    | _ => .bad
    else .bad
  | .bad => .bad
def isTbl (η : List O) (i : Nat) (q : Str) : Bool := match η[i]? with
  | some (.tbl q') => decide (q' = q)
  | _ => false
def fWhy (i : Nat) (q : Str) (cs : List Nat) (fld : DF) (f : F D) : F D := fun δ η => if isTbl η i q = true then whyM cs fld (f δ η) else .bad
/-! ### the def that catches -/
/-- what the def makes of the lambda -/
def TTwhy (C : Ct) (hs : List Value) (fs : F D) : (XK → Hp → VK → Prop) → Hp → VK → Prop := fun tl H Q =>
  tl (fun cls d H' => PySem.W.exmAny C.K cls hs = some true ∧ ∀ a, H' a = none → ∀ oe, Zc cls d oe → (∃ vs, oe.data = .fields vs) → ∀ σ : L2.St, σ.length = 3 → σ[2]? = some (some (.ref a)) → tG (C.hot (a, oe)) (Rp (C.hot (a, oe))) WX0 fs σ H' Q)
    H fun v H' => ∀ p, H' p = none → Q (.ref p) (upd H' p (.tup [.str "", v]))
section
variable {X : Cx} {C : Ct}
theorem why_gives {k : Nat} {cs : List Nat} {fld : DF} {x q : Str} {sg : Scope} {g ff t1 t2 t3 : Addr} {cdg : Value} {fdf : FuncData} {bg : List Stmt} {a1 a2 a3 a4 a5 n1 n2 n3 tp b1 b2 b3 b4 b5 b6 b7 b8 c1 c2 c3 c4 : Pos} {kk k2 k3 j : Nat} (hK : X.K = C.K)
    (F : FnX X.prog X.w X.K X.mg X.base C k ff fdf ["_law_e"] 1 fld) (mF : X.mg "_law_field" = some (.ref ff)) (kF : PySem.W.keepIn X.K (.ref ff) = true) (bF : Binds X.K fdf ["_law_e"] []) (hr : Room (k + 1) X.A) (hx : ∀ c ∈ cs, XGet X.K (C.cl c) "code")
    (hg : bg = [.Try [.Assign [.Name "_law_told" a1] (.Call (.Name "_law_deed" a2) [] [] a3) a4] [.ExceptHandler (some (.Tuple [.Name "TellError" n1, .Name "Missing" n2, .Name "NothingLeft" n3] kk tp)) (some "_law_e") [.Return (some (.Tuple [.Attribute (.Name "_law_e" b1) "code" b2, .Call (.Name "_law_field" b3) [.Name "_law_e" b4] [] b5] k2 b6)) b7] b8] [] [] a5,
      .Return (some (.Tuple [.Constant (.str "") j c1, .Name "_law_told" c2] k3 c3)) c4])
    (l0 : sg.names.lookup ("_law_deed" : Str) = some .local) (l1 : sg.names.lookup ("_law_told" : Str) = some .local) (l2 : sg.names.lookup ("_law_e" : Str) = some .local) (lT : sg.names.lookup ("TellError" : Str) = some .globalImplicit) (lM : sg.names.lookup ("Missing" : Str) = some .globalImplicit)
    (lN : sg.names.lookup ("NothingLeft" : Str) = some .globalImplicit) (lF : sg.names.lookup ("_law_field" : Str) = some .globalImplicit) (mT : X.mg "TellError" = some (.ref t1)) (mM : X.mg "Missing" = some (.ref t2)) (mN : X.mg "NothingLeft" = some (.ref t3)) :
    GivesM X ["_law_deed", "_law_told", "_law_e"] x sg g cdg bg "_law_deed" q (TTwhy C [.ref t1, .ref t2, .ref t3] (sufF cs fld)) := by
  intro f c' s H Q tl mono act hc h
  subst hg
  have nd : (["_law_deed", "_law_told", "_law_e"] : List Str).Nodup := by decide
  let Z : Cx := (cxOf CX0 X.prog X.w X.K X.mg X.base ["_law_deed", "_law_told", "_law_e"] x sg g cdg X.A X.stack s H E0).nox
  let ts : Addr → Value → Option Addr → TS := fun a cls d Dn σ H' => ∀ oe, Zc cls d oe → (∃ vs, oe.data = .fields vs) → σ.length = 3 → tG (C.hot (a, oe)) (Rp (C.hot (a, oe))) WX0 (sufF cs fld) σ H' Dn.rt
  refine ⟨_, pss_cons (ps_tryThree (X := Z) (i := 2) (c1 := t1) (c2 := t2) (c3 := t3) (ts := ts) (Wout := fun _ _ _ _ => False)
    (tb := fun W Dn σ H' => ∃ Ech : XK, (∀ (cls : Value) (d : Option Addr) (σ' : L2.St) (H'' : Hp), Ech cls d H'' → W cls d σ' H'') ∧ σ[0]? = some (some (.ref f)) ∧ H' c' = some (LamX.CodeO c' q) ∧ tl Ech H' fun v H'' => Dn.nx (σ.set 1 (some v)) H'')
    rfl rfl nd rfl l2 lT lM lN mT mM mN LamX.takes0 (fun W pn xe tk _ => ?body) (fun a oe cls d pn hz hd => ?suite)) (pss_one (ps_ret (pe_tup (pa_cons pe_str (pa_cons (pe_var (i := 1) rfl (.inl l1)) pa_nil))))), ?_⟩
  case suite =>
    have xp : XPin (C.hot (a, oe)) (Z.suite a ((a, oe) :: pn)) := fun p hp => by cases hp; exact ⟨List.mem_cons_self, hd⟩
    have e2 : FE (C.hot (a, oe)) WX0 (Z.suite a ((a, oe) :: pn)) (.Name "_law_e" b1) (fV 2) := fe_v 2 rfl (.inl l2)
    have e3 : FE (C.hot (a, oe)) WX0 (Z.suite a ((a, oe) :: pn)) (.Name "_law_e" b4) (fV 2) := fe_v 2 rfl (.inl l2)
    have r1 := roomH_of (hr.deeper (envOfC x sg s.heap.objs.size g cdg))
    have rh : RoomH k (Z.suite a ((a, oe) :: pn)).A := ⟨r1.dp, r1.un⟩
    have suf : FE (C.hot (a, oe)) WX0 (Z.suite a ((a, oe) :: pn)) (.Tuple [.Attribute (.Name "_law_e" b1) "code" b2, .Call (.Name "_law_field" b3) [.Name "_law_e" b4] [] b5] k2 b6) (sufF cs fld) :=
      fe_tup (fa_cons (fe_xf hK xp hx e2) (fa_cons (fe_callH F rh List.mem_cons_self hd mF kF bF (fa_cons e3 fa_nil) lF) fa_nil))
    exact ⟨fun pins s' σ H' Dn I h => (pss_one (ps_ret (pos := b7) suf)).run pins s' σ H' Dn I (h oe hz hd I.len)⟩
  case body =>
    refine ⟨fun pins s' σ H' Dn I ⟨Ech, hW, h1, h2, h3⟩ => ?_⟩
    have hp := act W pn xe Ech a2 a3 tk hW
    exact (pss_one (ps_set (pos := a4) (i := 1) nd rfl (.inl l1) hp)).run pins s' σ H' Dn I ⟨h1, h2, h3⟩
  · unfold TTwhy at h
    refine ⟨_, fun cls d σ' H' ⟨hb, he⟩ => ⟨true, by rw [← hK] at hb; exact hb, fun _ a ha oe hz hd hl => he a ha oe hz hd _ hl (by rw [List.length_set] at hl; rw [List.getElem?_set_self (by omega)]), fun z => by cases z⟩, rfl, hc, mono _ _ _ _ (fun v H' hq => ?_) h⟩
    exact ⟨v, rfl, by rw [sizeLine_eq]; simp, hq⟩
end
end DL
namespace DL
open PySem PySem.Spec PyProof.Rows L2 L2H LamX
open PyProof.Rows (envOfC)
section
variable {X : Cx} {C : Ct} {W : WX}
theorem tG_mono {α β : Type} {Rel : Gh → Hp → α → β → Prop} {f : F α} {σ : L2.St} {H : Hp} {Q Q' : β → Hp → Prop} (i : ∀ v H', Q v H' → Q' v H') (h : tG C Rel W f σ H Q) : tG C Rel W f σ H Q' := by
  obtain ⟨G, δ, η, a, fin⟩ := h
  refine ⟨G, δ, η, a, ?_⟩
  cases hf : f δ η with
  | ok d η1 => rw [hf] at fin; exact fun v G1 H1 x q1 q2 => i _ _ (fin v G1 H1 x q1 q2)
  | exc c ns l η1 => rw [hf] at fin; exact fin
  | bad => rw [hf] at fin; exact fin
theorem isTbl_at {η : List O} {i : Nat} {q : Str} (h : isTbl η i q = true) : η[i]? = some (.tbl q) := by
  unfold isTbl at h
  split at h
  · rename_i q' e
    rw [e, of_decide_eq_true h]
  · cases h
/-- behind the making of a lambda all else stands -/
theorem lam_next {G : Gh} {H H1 : Hp} {η : List O} {i : Nat} {P c' : Addr} {q : Str} {ps : Array Value} (r : Rh C G H η) (hi : η[i]? = some (.tbl q)) (hP : G.ads[i]? = some P) (hps : H P = some (.tbl ps)) (lh : LamH H H1 P c' q ps) : Nx G H G H1 ∧ Rh C G H1 η := by
  rcases lh with rfl | ⟨ps', nC, rfl, t2, a2⟩
  · exact ⟨Nx.refl, r⟩
  · have mP : P ∈ G.ads := List.mem_of_getElem? hP
    have keep : ∀ a o, H a = some o → a ≠ P → upd (upd H P (.tbl ps')) c' (CodeO c' q) a = some o := fun a o e ne => by
      rw [upd_ne (ne_of_none e nC), upd_ne ne]; exact e
    have nx : Nx G H G (upd (upd H P (.tbl ps')) c' (CodeO c' q)) := by
      refine ⟨fun _ _ h => h, fun a o e m => keep a o e fun z => m (z ▸ mP), fun _ _ _ => Iff.rfl, fun _ h => .inl h, fun a e => ?_⟩
      by_cases h1 : a = c'
      · rw [h1]; exact nC
      · rw [upd_ne h1] at e
        by_cases h2 : a = P
        · rw [h2, upd_same] at e; cases e
        · rw [upd_ne h2] at e; exact e
    have st := nx.stab r
    refine ⟨nx, r.len, r.nd, fun n o a h1 h2 => ?_, fun a m z => r.mh a m (nx.there a z)⟩
    obtain ⟨m, ro⟩ := r.ob n o a h1 h2
    refine ⟨m, ?_⟩
    by_cases e : a = P
    · have en : n = i := ndIx r.nd (e ▸ h2) hP
      subst en
      rw [hi] at h1
      cases h1
      cases ro with
      | @tbl _ _ ps0 tb e0 t0 c0 =>
        rw [e, hps] at e0
        cases e0
        refine .tbl tb (by rw [e, upd_ne (ne_of_none hps nC), upd_same]) t2 fun pos cv hc => ?_
        rcases a2 pos cv hc with z | z
        · obtain ⟨b, e1, e2, e3⟩ := c0 pos cv z
          exact ⟨b, e1, (st.keep _ _ e2 e3).1, (st.keep _ _ e2 e3).2⟩
        · exact ⟨c', z, upd_same, fun z => r.mh _ z nC⟩
    · exact ro.stab st fun u hu => keep a u hu e
variable {i k : Nat} {q : Str} {cs : List Nat} {fld : DF} {fb : F D} {st : Stmt} {g c : Addr} {fdg : FuncData} {hs : List Value} {params : Arguments} {body : Expr} {scope : Scope} {p lpos pos : Pos}
theorem fe_why (hK : X.K = C.K) (F : FunG X.K "_law_why" "_law_why" st g fdg) (Sg : FnScope ["_law_deed", "_law_told", "_law_e"] ["_law_deed"] (defScope st)) (hm : X.mg "_law_why" = some (.ref g)) (bG : Binds X.K fdg ["_law_deed"] [])
    (hG : ∀ cdv : Value, GivesM X ["_law_deed", "_law_told", "_law_e"] "_law_why" (defScope st) g cdv (defBody st) "_law_deed" q (TTwhy C hs (sufF cs fld))) (hva : Vis (defScope st) "_law_deed") (hcs : ∀ c ∈ cs, PySem.W.exmAny C.K (.ref (C.cl c)) hs = some true)
    (TB : TabB X.base X.mg c (C.tb q)) (hcode : X.env.code = .ref c) (hq : X.env.qual ++ "<lambda>" = q) (hr : Room (k + 2) X.A) (L : LamS X.env.scope scope) (hdef : defaultsOf params X.env = ([], []))
    (hbind : ∀ (q : Str) (cl : List (Str × Addr)) (pm cv ctv : Value), bindArgs (PySem.W.kla_fn "<lambda>" q params body scope cl pm cv ctv) ⟨[], []⟩ = pure [])
    (hbody : ∀ (A : Around) (outer : List Env) (s : Shared) (H : Hp) (E : XK) (f c' : Addr), Room k (A.deeper (lamEnv X scope s.heap.objs.size f c')) → FE C (WK E) (lamCx X A outer s H E scope f c') body fb) (hg : Gl X "_law_why" := by rfl) :
    FE C W X (.Call (.Name "_law_why" p) [.Lambda params body scope lpos] [] pos) (fWhy i q cs fld fb) := by
  obtain ⟨oc, od, dV, kV, doc, pm, an, cdv, ct, osl, rfl, lk, hcd⟩ := F.ex
  refine PE.imp (pe_lamX (t := fun E => tG C (Rp C) (WK E) fb) hg hm F.kp lk hcd bG Sg rfl hva (hG cdv) (fun σ E H Q Q' i h => tG_mono i h) TB hcode hq hr L hdef hbind hbody) fun σ H Q ⟨G, δ, η, a, fin⟩ => ?_
  unfold fWhy at fin
  by_cases hi : isTbl η i q = true
  case neg => rw [if_neg hi] at fin; exact fin.elim
  rw [if_pos hi] at fin
  have hi := isTbl_at hi
  have hlt : i < G.ads.length := by rw [a.he.len]; exact (List.getElem?_eq_some_iff.mp hi).1
  have hP : G.ads[i]? = some G.ads[i] := by simp [hlt]
  obtain ⟨mP, ro⟩ := a.he.ob i _ _ hi hP
  generalize G.ads[i] = P at hP mP ro
  cases ro with
  | @tbl _ _ ps tb e0 t0 c0 =>
    subst tb
    refine ⟨ps, ⟨e0, t0, fun pos cv hc => (c0 pos cv hc).elim fun b z => ⟨b, z.1, z.2.1⟩⟩, fun H1 c' lh => ?_⟩
    obtain ⟨nx, rh1⟩ := lam_next a.he hi hP e0 lh
    have a1 := a.next nx rh1
    have fin1 := fin.next nx
    unfold TTwhy
    refine ⟨G, δ, η, a1, ?_⟩
    cases hf : fb δ η with
    | bad => rw [hf] at fin1; exact fin1
    | ok d η2 =>
      rw [hf] at fin1
      intro v G2 H2 x r1 r2 p np
      have z : ([.str "", d] : List D).length ≤ sizeLine := by rw [sizeLine_eq]; simp
      exact fin1 (.ref p) G2 _ (x.trans (Nx.alloc np)) (r1.alloc np) (.newTup r1 np z (.cons (.str _ (by decide +kernel)) (.cons r2 .nil)))
    | exc cc ns l η2 =>
      rw [hf] at fin1
      unfold whyM at fin1
      dsimp only at fin1
      split at fin1
      · rename_i hh
        intro x vs G2 H2 nx2 r1 hx r2
        refine ⟨hcs cc hh.1, fun b nb oe hz hd σ2 hl h2 => ?_⟩
        let G0 : Gh := ⟨[], G2.M⟩
        have rps : Rps (C.hot (b, oe)) G0 H2 l vs := Rps.move (C := C) (C2 := C.hot (b, oe)) (G := G2) (G2 := G0) rfl (fun _ _ _ z => z) hh.2 r2
        refine ⟨G0, hotS (.exn cc ns l), [], ⟨by rw [hl]; rfl, fun j lj hj => ?_, fun j j' lj lj' v hne h1 h2 o1 o2 => ?_, fun j lj a' hj ho => ?_, ⟨rfl, List.nodup_nil, fun n o a h1 h2 => by simp at h1, r1.mh⟩⟩, ?_⟩
        · match j, hj with
          | 0, hj => cases hj
          | 1, hj => cases hj
          | 2, hj =>
            cases hj
            exact ⟨_, h2, .val (.exn rfl hz hx rps)⟩
          | n + 3, hj => simp [hotS] at hj
        · match j, h1 with
          | 0, h1 => cases h1
          | 1, h1 => cases h1
          | 2, h1 => cases h1; cases o1
          | n + 3, h1 => simp [hotS] at h1
        · match j, hj with
          | 0, hj => cases hj
          | 1, hj => cases hj
          | 2, hj => cases hj; cases ho
          | n + 3, hj => simp [hotS] at hj
        · cases hs' : sufF cs fld (hotS (.exn cc ns l)) [] with
          | bad => rw [hs'] at fin1; exact fin1
          | exc _ _ _ _ => rw [hs'] at fin1; exact fin1.elim
          | ok v η3 =>
            rw [hs'] at fin1
            dsimp only at fin1
            split at fin1
            · rename_i hv
              intro w G3 H3 nx3 r3 rv
              have k : ∀ a o, H2 a = some o → H3 a = some o := fun a o e => nx3.keep a o e (fun z => nomatch (show a ∈ ([] : List Addr) from z))
              refine fin1 w G2 H3 (nx2.trans (Nx.ext k)) (r1.ext k) (Rp.move (C := C.hot (b, oe)) (C2 := C) (G := G3) (G2 := G2) rfl (fun a o e m z => ?_) hv rv)
              cases e2 : H2 a with
              | none => exact r1.mh a z e2
              | some o2 => exact m ((nx3.mu a o2 e2).mpr z)
            · exact fin1.elim
      · exact fin1.elim
end
end DL
namespace DL
open PySem PySem.Spec PyProof.Rows L2 L2H LamX
open PyProof.Rows (envOfC)
/-! ### exception classes by their texts -/
section
open PySem.W
variable {P : Program} {K : PySem.W.Frag} {mg : Str → Option Value} {C fI cc cda : Addr} {B newId initId : String} {bmB : List Value} {st : Stmt} {qual nm f : Str} {p0 p1 p2 p3 p4 p5 q1 q2 q3 q4 r1 r2 r3 r4 : Pos} {j j2 : Nat} {ar : Arg}
theorem exR1 (b : DX.ExB B newId initId bmB) (T : DX.ExK K C fI cc B newId initId bmB) (g : mg nm = some (.ref C)) (sup : mg "super" = none) (F : DX.ExF P K fI cc cda qual (defArgs st) (defBody st) (defScope st)) (S : DX.ExS (defScope st) ["self", f])
    (hb : defBody st = [.Expr (.Call (.Attribute (.Call (.Name "super" p0) [] [] p1) "__init__" p2) [.Constant (.str nm) j p3] [] p4) p5, .Assign [.Attribute (.Name "self" q1) f q2] (.Name f q3) q4, .Assign [.Attribute (.Name "self" r1) "code" r2] (.Constant (.str nm) j2 r3) r4])
    (hp : ((defArgs st).posonlyargs ++ (defArgs st).args).head? = some ar) (ha : ar.arg = "self") (line : DX.LineOk qual nm (defScope st) fI cc cda p0 p1 p2 p3 p4 j) (tf : takerIn K C f = some none) (tc : takerIn K C "code" = some none)
    (bd : ∀ (kV doc pm : Value) (an : Option Addr) (ct u w : Value), bindArgs (ksFn "__init__" qual (defArgs st) (defBody st) (defScope st) .none kV doc pm an (.ref cda) ct cc) ⟨[u, w], []⟩ = pure [(("self" : Str), u), (f, w)])
    (hf : f ≠ "self" := by decide) (hfc : f ≠ "code" := by decide) (hfd : (f == ("__debug__" : Str)) = false := by decide) : ExR P K mg C nm [f] := by
  refine ⟨g, sup, fI, cc, B, newId, initId, bmB, b, T, fun w vs us r hl => ?_⟩
  match vs, us, r, hl with
  | [v], [u], .cons rv .nil, _ => exact ini_one rv b T F S hb hp ha line hf hfc hfd tf tc bd
theorem exR0 (b : DX.ExB B newId initId bmB) (T : DX.ExK K C fI cc B newId initId bmB) (g : mg nm = some (.ref C)) (sup : mg "super" = none) (F : DX.ExF P K fI cc cda qual (defArgs st) (defBody st) (defScope st)) (S : DX.ExS (defScope st) ["self"])
    (hb : defBody st = [.Expr (.Call (.Attribute (.Call (.Name "super" p0) [] [] p1) "__init__" p2) [.Constant (.str nm) j p3] [] p4) p5, .Assign [.Attribute (.Name "self" r1) "code" r2] (.Constant (.str nm) j2 r3) r4])
    (hp : ((defArgs st).posonlyargs ++ (defArgs st).args).head? = some ar) (ha : ar.arg = "self") (line : DX.LineOk qual nm (defScope st) fI cc cda p0 p1 p2 p3 p4 j) (tc : takerIn K C "code" = some none)
    (bd : ∀ (kV doc pm : Value) (an : Option Addr) (ct u : Value), bindArgs (ksFn "__init__" qual (defArgs st) (defBody st) (defScope st) .none kV doc pm an (.ref cda) ct cc) ⟨[u], []⟩ = pure [(("self" : Str), u)]) : ExR P K mg C nm [] := by
  refine ⟨g, sup, fI, cc, B, newId, initId, bmB, b, T, fun w vs us r hl => ?_⟩
  match vs, us, r, hl with
  | [], [], .nil, _ => exact ini_none b T F S hb hp ha line tc bd
end
theorem exm3 {K : PySem.W.Frag} {cls c1 c2 c3 : Value} {b1 b2 b3 b : Bool} (h1 : PySem.W.exmOne K cls c1 = some b1) (h2 : PySem.W.exmOne K cls c2 = some b2) (h3 : PySem.W.exmOne K cls c3 = some b3) (h : (b1 || (b2 || (b3 || false))) = b) : PySem.W.exmAny K cls [c1, c2, c3] = some b := by
  subst h
  simp [PySem.W.exmAny, h1, h2, h3]
theorem tabIn_of {K : PySem.W.Frag} {x : Str} {f c P : Addr} {oc ic : Value} {od id' : Option Addr} {os' is' : Array (Option Value)} {fd : FuncData} {vs : Array Value} (a : PySem.W.nsIn K mainGlobals x = some (some (.ref f))) (l : K.lookup f = some ⟨oc, od, .func fd, os'⟩) (hc : fd.code = .ref c)
    (q : K.lookup c = some ⟨ic, id', .fields vs, is'⟩) (v : vs[11]? = some (.ref P)) : PySem.W.tabIn K x = some (c, P) := by
  unfold PySem.W.tabIn
  rw [a]
  dsimp only
  rw [l]
  dsimp only
  rw [hc]
  dsimp only
  rw [q]
  dsimp only
  rw [v]
/-! ### a def that makes lambdas: its code object is at c -/
structure FunL (K : PySem.W.Frag) (x qual : Str) (st : Stmt) (f : Addr) (fd : FuncData) (c : Addr) : Prop where
  ex : ∃ (oc : Value) (od : Option Addr) (dV kV doc pm : Value) (an : Option Addr) (ct : Value) (osl : Array (Option Value)),
    fd = PySem.W.fnOf x qual (defArgs st) (defBody st) (defScope st) dV kV doc pm an (.ref c) ct ∧ K.lookup f = some ⟨oc, od, .func fd, osl⟩ ∧ PySem.W.codeIn K (.ref c) qual = true
  kp : PySem.W.keepIn K (.ref f) = true
section
variable {P : Program} {w : World} {K : PySem.W.Frag} {mg : Str → Option Value} {base : Heap} {C : Ct}
theorem FunL.mk' {x qual : Str} {st : Stmt} {f c : Addr} {oc : Value} {od an : Option Addr} {osl : Array (Option Value)} {dV kV doc pm ct : Value} (l : K.lookup f = some ⟨oc, od, .func (PySem.W.fnOf x qual (defArgs st) (defBody st) (defScope st) dV kV doc pm an (.ref c) ct), osl⟩)
    (h : PySem.W.codeIn K (.ref c) qual = true) (k : PySem.W.keepIn K (.ref f) = true) : FunL K x qual st f (PySem.W.fnOf x qual (defArgs st) (defBody st) (defScope st) dV kV doc pm an (.ref c) ct) c := ⟨⟨oc, od, dV, kV, doc, pm, an, ct, osl, rfl, l, h⟩, k⟩
theorem ok_defGL {x qual : Str} {st : Stmt} {f c : Addr} {fd : FuncData} {N ps : List Str} {k n np : Nat} {fb : S} (F : FunL K x qual st f fd c) (S : FnScope N ps (defScope st)) (hC : K = C.K) (hn : N.length = n) (hnp : ps.length = np)
    (hbody : ∀ (A : Around) (outer : List Env) (s : Shared) (H : Hp), Room k (A.deeper (envOfC qual (defScope st) s.heap.objs.size f (.ref c))) →
      FSs C WX0 (cxOf CX0 P w K mg base N qual (defScope st) f (.ref c) A outer s H E0).nox (defBody st) fb) : FnOk P w K mg base CX0 (k + 1) f fd ps (spD C np (runD n fb)) := by
  obtain ⟨oc, od, dV, kV, doc, pm, an, ct, osl, rfl, lk, hcd⟩ := F.ex
  subst hn hnp
  refine fn_of lk hcd S (fun vs H Q E h => h.1) fun A outer s H vs Q E hr h => ?_
  obtain ⟨hl, G, ds, η, r, rh, fin⟩ := h
  have hd : ds.length = ps.length := r.length.trans hl
  refine ⟨_, (hbody A outer s H hr).nox, ⟨G, H, G, H⟩, G, _, η, ⟨start_at r rh, fun i l a e o => ?_, Nx.refl, Stab.refl⟩, ?_⟩
  · exfalso
    by_cases hi : i < ds.length
    · rw [List.getElem?_append_left (by simpa using hi), List.getElem?_map] at e
      cases q : ds[i]? with
      | none => rw [q] at e; cases e
      | some d => rw [q] at e; cases e; cases o
    · rw [List.getElem?_append_right (by simpa using hi), List.getElem?_replicate] at e
      split at e <;> cases e
  · unfold runD at fin
    split at fin
    · rename_i δ' η' q
      rw [q]
      exact fun G' H' σ' h => fin _ G' H' h.n h.a.he .non
    · rename_i d η' q
      rw [q]
      exact fun v G' H' nx rh r => fin v G' H' nx rh r
    · rename_i c ns l δ' η' q
      rw [q]
      exact fun x vs G' H' σ' h q1 q2 => fin x vs G' H' h.n h.a.he q1 q2
    · exact fin.elim
end
/-! ### the law's start, with tables -/
theorem law_spT {K : PySem.W.Frag} {cl : Nat → Addr} {tb : Str → Addr} {m : DF} {H : Hp} {a : Addr} {ns : List Int} {qs : List Str} (t : ∀ ns : List Int, ns.length ≤ 63 → ∃ η, m [.lst (ns.map .int)] (qs.map .tbl) = .ok (.bl true) η) (hl : ns.length ≤ 63) (nd : (qs.map tb).Nodup)
    (hT : ∀ q ∈ qs, H (tb q) = some (.tbl #[])) (hS : SqL K H a (ns.map V.int)) : spD ⟨K, cl, tb, none⟩ 1 m [.ref a] H (fun v _ => v = .bl true) fun _ _ _ => False := by
  obtain ⟨η, e⟩ := t ns hl
  have nT : ∀ {u : HO}, Rd H a u → (∀ ps, u ≠ .tbl ps) → a ∉ qs.map tb := fun {u} h hu hm => by
    obtain ⟨q, hq, e2⟩ := List.mem_map.mp hm
    have h2 := hT q hq
    rw [e2] at h2
    rcases h with h | ⟨o, h⟩
    · rw [h2] at h; exact hu #[] (Option.some.inj h).symm
    · rw [h2] at h; cases h
  refine ⟨rfl, ⟨qs.map tb, fun b => b ∈ qs.map tb⟩, [.lst (ns.map .int)], qs.map .tbl, .cons (.lst ?_ ?_ (rps_ints ns)) .nil, ⟨by simp, nd, fun n o b h1 h2 => ?_, fun b hb => ?_⟩, ?_⟩
  · rcases hS with h | h
    · exact .inl ⟨h, nT h fun ps z => by cases z⟩
    · exact .inr (.inr h)
  · rw [List.length_map, sizeLine_eq]; omega
  · rw [List.getElem?_map] at h1 h2
    cases q : qs[n]? with
    | none => rw [q] at h1; cases h1
    | some z =>
      rw [q] at h1 h2
      cases h1
      cases h2
      refine ⟨List.mem_map.mpr ⟨z, List.mem_of_getElem? q, rfl⟩, .tbl rfl (hT z (List.mem_of_getElem? q)) True.intro fun pos cv hc => ?_⟩
      have hc : codeAmong pos [] = some cv := hc
      simp [codeAmong] at hc
  · obtain ⟨q, hq, rfl⟩ := List.mem_map.mp hb
    rw [hT q hq]; exact fun z => by cases z
  · rw [e]
    intro v G' H' _ _ r
    cases r
    rfl
/-- law's promise, at every table of classes -/
def spT (K : PySem.W.Frag) (tb : Str → Addr) (m : DF) : Sp := fun vs H Q E => ∀ cl : Nat → Addr, spD ⟨K, cl, tb, none⟩ 1 m vs H Q E
theorem walk_T {l : PySem.W.OpenLaw} {n k : Nat} {q : Program} {loose : List Str} {XP : (Str → Option Value) → Heap → Prop} {YP : World → Heap → Prop} {d : DefRec} {K : Params → PySem.W.Frag} {CX : World → CXT} {x : Str} (hn : l.most = some n) (hn2 : n ≤ sizeLine) (hdf : d.params.defaults = []) (hr : Room k callerA)
    (hY : ∀ (w : World) (h : Heap), YP w h → (K w.params).In h) (F : ∀ (w : World) (mg mb : Str → Option Value) (mean : ExcName → Option Value) (fa : Addr) (h : Heap), (K w.params).In h → Top q (PySem.W.looseW q loose) mean mg mb h → mg d.name = some (.ref fa) → LawAtS l w (K w.params) (CX w) k n x mg fa h)
    (hCX : ∀ (w : World) (H : Hp) (s : Shared) (e : Value) (s' : Shared), CX w [] H s (fun _ _ _ => False) e s' → False) : PySem.W.WalkO q loose XP YP l.row.toRowW d [] (fun f vs => PySem.call f vs) := by
  refine Att.attach_callB hn hdf fun w s₀ s₁ mg mb fa o pm cd doc a vs ns G Y ho hd hcd hmg hobj hints hlen hbits hg => ?_
  have KX := hY w _ Y
  obtain ⟨fd, cs, sp, hT, nT, cH, hb, hsp, hF⟩ := F w mg mb _ fa _ KX G.T hmg
  exact law_callTs KX G.T.g G.T.b G.T.builtins G.T.nolimit hg hT nT cH G.T.bmain hobj hints (Nat.le_trans hlen hn2) hr hF hb (fun H hH hS => hsp H a ns hlen hbits hH hS) fun H e s' => hCX w H s₁ e s'
end DL
/-! xs[::-1] of a list and a tuple -/
namespace HT
open PySem PyProof.Rows
open PySem.SeqAt
open PySem.AutoSeq1 (wpAny_loadPart')
open PySem.MeetsSeq PySem.MeetsSeq2 PySem.MeetsSeq3
theorem fm_congr {α β : Type} {f g : α → Option β} : ∀ {l : List α}, (∀ m ∈ l, f m = g m) → l.filterMap f = l.filterMap g
  | [], _ => rfl
  | x :: l, h => by
    rw [List.filterMap_cons, List.filterMap_cons, h x List.mem_cons_self, fm_congr fun m hm => h m (List.mem_cons_of_mem _ hm)]
theorem rev_run (l : List Value) : (List.range l.length).filterMap (fun (m : Nat) => l.toArray[(((l.length : Int) - 1) + (m : Int) * (-1)).toNat]?) = l.reverse := by
  have h := pick_run l.reverse.toArray 0 l.length
  rw [List.filterMap_map] at h
  simp only [List.drop_zero] at h
  rw [List.take_of_length_le (by simp)] at h
  refine Eq.trans ?_ h
  refine fm_congr fun m hm => ?_
  have hm' := List.mem_range.mp hm
  have : (((l.length : Int) - 1) + (m : Int) * (-1)).toNat = l.length - 1 - m := by omega
  rw [this]
  simp [List.getElem?_reverse hm']
theorem revPick (its : List Value) : slicePick its.toArray none none (some (-1)) = its.reverse.toArray := by
  have e := rev_run its
  unfold slicePick
  have b : sliceBounds none none (some (-1)) its.toArray.size = ((its.length : Int) - 1, -1, -1) := by
    simp [sliceBounds]
  rw [b]
  unfold sliceRange
  have c : (if (-1 : Int) > 0 then (if ((its.length : Int) - 1) < -1 then (-1 - ((its.length : Int) - 1) + -1 - 1) / -1 else 0) else (if ((its.length : Int) - 1) > -1 then (((its.length : Int) - 1) - -1 - -1 - 1) / (-(-1)) else 0)).toNat = its.length := by
    rw [if_neg (by decide)]
    split <;> simp <;> omega
  dsimp only
  rw [c, List.filterMap_map]
  congr 1
  refine Eq.trans (fm_congr fun m hm => ?_) e
  have : (((its.length : Int) - 1) + (-1) * (m : Int)) = ((its.length : Int) - 1) + (m : Int) * (-1) := by omega
  show its.toArray[(((its.length : Int) - 1) + (-1) * (m : Int)).toNat]? = _
  rw [this]
section
variable {prog : Program} {w : World} {A : Around} {E : Value → Shared → Prop} {s : Shared}
theorem adjust_rev (n : Nat) : Builtin.Slice.sliceAdjust none none (-1) (n : Int) = ((n : Int) - 1, -1) := by
  unfold Builtin.Slice.sliceAdjust
  simp
theorem places_rev (n : Nat) : Builtin.Slice.slicePlaces ((n : Int) - 1) (-1) (-1) = n := by
  unfold Builtin.Slice.slicePlaces
  rw [if_neg (by decide)]
  split <;> simp <;> omega
theorem sliceApplied_rev {sl : Addr} {vs : Value} {n : Nat} {Q : Int × Int × Nat → Shared → Prop} (hs : s.heap.IsSliceOf sl .none .none vs) (ps : IsPart vs (some (-1)))
    (h : Q ((n : Int) - 1, -1, n) s) : wpAny (model prog w) A (Builtin.Slice.sliceApplied (.ref sl) (pure (n : Int))) Q E s := by
  obtain ⟨os, hos, hcs, hds⟩ := id hs
  unfold Builtin.Slice.sliceApplied Builtin.Slice.sliceFields
  refine wpAny_bind (wpAny_bind (wpAny_field hos hds (x := .none) rfl (wpAny_bind (wpAny_field hos hds (x := .none) rfl (wpAny_bind (wpAny_field hos hds (x := vs) rfl (wpAny_pure ?_)))))))
  refine wpAny_bind (slicePart_ ps ?_)
  show wpAny _ _ (if ((-1 : Int) == 0) = true then _ else _) _ _ s
  rw [if_neg (by decide)]
  refine wpAny_bind (slicePart_none (wpAny_bind (slicePart_none (wpAny_bind (wpAny_pure ?_)))))
  show wpAny _ _ (match Builtin.Slice.sliceAdjust none none (-1) (n : Int) with | (lo, hi) => pure (lo, (-1 : Int), Builtin.Slice.slicePlaces lo hi (-1))) _ _ s
  rw [adjust_rev n]
  show wpAny _ _ (pure ((n : Int) - 1, (-1 : Int), Builtin.Slice.slicePlaces ((n : Int) - 1) (-1) (-1))) _ _ s
  rw [places_rev]
  exact wpAny_pure h
theorem getItem_tuple_rev {t sl : Addr} {its : List Value} {vs : Value} {Q : Value → Shared → Prop} (ht : IsTup s.heap t its.toArray) (hs : s.heap.IsSliceOf sl .none .none vs) (ps : IsPart vs (some (-1)))
    (h : Q (.ref s.heap.objs.size) { s with heap := s.heap.push { cls := .type "tuple", data := .seq its.reverse.toArray } })
    (hsz : its.length ≤ sizeLine) : wpAny (model prog w) A (getItem (.ref t) (.ref sl)) Q E s := by
  have htake : sizeOk (.seq its.reverse.toArray) := by
    show its.reverse.toArray.size ≤ sizeLine
    simpa using hsz
  obtain ⟨os, hos, hcs, hds⟩ := id hs
  have hTs : s.TypeIs (.ref sl) "slice" := ⟨os, hos, hcs⟩
  unfold getItem
  try with_reducible refine wpAny_holding ?_
  first | refine wpAny_bind (wpAny_pure ?_) | skip
  refine wpAny_bind (wpAny_sequenceKey ht.typeIs (by decide) ?_)
  refine wpAny_bind (wpAny_callSpecial?_slot (name := Str.ofString "__getitem__") ht.typeIs PyProof.Rows.slot_tuple_getitem
    (wpAny_call_entry PyProof.Rows.slot_tuple_getitem ht.typeIs entry_tuple_getitem ?_ (args_tuple_getitem _ _)))
  show wpAny _ _ (Builtin.Tuple.tupleItemsOf (.ref t) >>= _) _ _ s
  refine wpAny_bind (tupleItemsOf_ ht ?_)
  refine wpAny_bind (wpAny_typeOf hTs ?_)
  rw [if_pos (by decide)]
  have hn : (its.toArray.size : Int) = (its.length : Int) := by simp
  rw [hn]
  refine wpAny_bind (sliceApplied_rev hs ps ?_)
  have hno : ¬ ((((its.length : Int) - 1) == 0 && (-1 : Int) == 1 && its.length == its.toArray.size) = true) := by
    intro q
    rw [Bool.and_eq_true, Bool.and_eq_true] at q
    have := q.1.2
    revert this
    decide
  show wpAny _ _ (if (((its.length : Int) - 1) == 0 && (-1 : Int) == 1 && its.length == its.toArray.size) = true then _ else _) _ _ s
  rw [if_neg hno, rev_run]
  first
    | exact wpAny_bind (m := Builtin.Tuple.tupleExact _) (wpAny_newObj_type (wpAny_pure ⟨_, rfl, wpAny_pure h⟩) htake)
    | exact wpAny_bind (m := Builtin.Tuple.tupleExact _) (wpAny_newObj_type (wpAny_bind (wpAny_pure (wpAny_pure ⟨_, rfl, wpAny_pure h⟩))) htake)
    | exact wpAny_bind (wpAny_bind (m := Builtin.Tuple.tupleExact _) (wpAny_newObj_type (wpAny_pure (wpAny_pure ⟨_, rfl, wpAny_pure h⟩)) htake))
    | exact wpAny_bind (wpAny_bind (m := Builtin.Tuple.tupleExact _) (wpAny_newObj_type (wpAny_pure ⟨_, rfl, wpAny_pure h⟩) htake))
end
end HT
namespace L2
open PySem PySem.Spec PyProof.Rows
section
variable {X : Cx} {e est : Expr} {te ts : TE} {pos p2 : Pos}
/-- what v[::-1] is, by values -/
def RvR (X : Cx) (r : V → Hp → VK → Prop) : Prop :=
  ∀ (pins : List (Addr × Obj)) (s : Shared) (σ : St) (H : Hp) (x : V) (v vs : Value) (sl : Addr) (Q : VK), Inv X pins σ H s → RelV x v → s.heap.IsSliceOf sl .none .none vs → IsPart vs (some (-1)) → r x H Q →
    ∃ T id, typeLookup (.type T) "__getitem__" = pure (some (.builtin id)) ∧ s.TypeIs v T ∧ wpAny (model X.prog X.w) X.A (getItem v (.ref sl)) (EP X pins σ Q) X.xe s
def rRev (K : PySem.W.Frag) : V → Hp → VK → Prop := fun x H Q => ∃ a xs, x = .ref a ∧ ((SqL K H a xs ∧ ∀ p, H p = none → Q (.ref p) (upd H p (.lst xs.reverse))) ∨ (SqT K H a xs ∧ ∀ p, H p = none → Q (.ref p) (upd H p (.tup xs.reverse))))
theorem vals_rev {xs : List V} {us : List Value} (r : Vals xs us) : Vals xs.reverse us.reverse := by
  induction r with
  | nil => exact .nil
  | cons r1 r2 ih => rw [List.reverse_cons, List.reverse_cons]; exact ih.append (.cons r1 .nil)
theorem rv_seq : RvR X (rRev X.K) := by
  intro pins s σ H x v vs sl Q I rx hs ps h
  obtain ⟨a, xs, rfl, h⟩ := h
  cases rx
  rcases h with ⟨hx, q⟩ | ⟨hx, q⟩
  · obtain ⟨its, r, ht, hz⟩ := I.list hx
    have hlen := r.length
    refine ⟨"list", _, slot_list_getitem.lookup, ht.isList.typeIs, ?_⟩
    refine wpAny_getItem_list_slice ht.isList hs .none .none ps (by simp) ?_ (by rw [List.size_toArray] <;> omega)
    rw [HT.revPick]
    refine ⟨.ref s.heap.objs.size, _, I.laid (t' := s.toks) (o := .lst xs.reverse) (fun b ob q => Heap.get?_push_of_some _ q) (Nat.le_refl _) ?_, rfl, q _ (I.hok.fresh (Nat.le_refl _))⟩
    exact ⟨by rw [List.length_reverse]; exact hz, _, 0, vals_rev r, Heap.get?_push_size _ rfl⟩
  · obtain ⟨its, r, ht, hz⟩ := I.tuple hx
    have hlen := r.length
    refine ⟨"tuple", _, PyProof.Rows.slot_tuple_getitem.lookup, ht.typeIs, ?_⟩
    refine HT.getItem_tuple_rev ht hs ps ?_ (by omega)
    refine ⟨.ref s.heap.objs.size, _, I.laid (t' := s.toks) (o := .tup xs.reverse) (fun b ob q => Heap.get?_push_of_some _ q) (Nat.le_refl _) ?_, rfl, q _ (I.hok.fresh (Nat.le_refl _))⟩
    exact ⟨by rw [List.length_reverse]; exact hz, _, vals_rev r, IsTup.new _ _⟩
/-- e[::est], est told as -1 -/
theorem pe_rev {r : V → Hp → VK → Prop} (hr : RvR X r) (he : PE X e te) (hst : PE X est ts) : PE X (.Subscript e (.Slice none none (some est) p2) pos) (fun σ H Q => te σ H fun x H1 => ts σ H1 fun k H2 => k = .int (-1) ∧ r x H2 Q) := by
  refine ⟨fun pins s σ H Q I h => ?_⟩
  refine Subscript_ (thn (he.run pins s σ H _ I h) fun v s1 ⟨x, H1, I1, r1, q1⟩ => ?_)
  refine wpAny_Slice ?_
  simp only [evalPart_none]
  refine wpAny_pure (wpAny_pure ?_)
  rw [evalPart_some]
  refine thn (hst.run pins s1 σ H1 _ I1 q1) fun k s3 ⟨kv, H3, I3, rk, ek, q3⟩ => ?_
  subst ek
  obtain ⟨t, rfl⟩ := rk
  have I4 : Inv X pins σ H3 { s3 with heap := s3.heap.push { cls := .type "slice", data := .fields #[.none, .none, .int (-1) t] } } := I3.kept (t' := s3.toks) fun b ob q => Heap.get?_push_of_some _ q
  obtain ⟨T, id, hT, ht, hg⟩ := hr pins { s3 with heap := s3.heap.push { cls := .type "slice", data := .fields #[.none, .none, .int (-1) t] } } σ H3 x v (.int (-1) t) s3.heap.objs.size Q I4 r1 (Heap.IsSliceOf.new ..) (.int _ t) q3
  show wpAny (model X.prog X.w) X.A (subscriptTail e (.Slice none none (some est) p2) v (.ref s3.heap.objs.size)) (EP X pins σ Q) X.xe { s3 with heap := s3.heap.push { cls := .type "slice", data := .fields #[.none, .none, .int (-1) t] } }
  exact tail_any (ops := [v, .ref s3.heap.objs.size]) ht hT hg (by with_unfolding_all rfl)
end
end L2
/-! xs[::-1] of a list and a tuple; an item store in an own list; a list times an int -/
namespace DL
open PySem L2
section
variable {X : Cx} {C : Ct} {W : WX} {pos p2 p : Pos} {e a b est : Expr} {es : List Expr} {fe fa fb fo : F D} {fs : F (List D)} {x : Str}
def revD : D → Option D
  | .lst l => some (.lst l.reverse)
  | .tup l => some (.tup l.reverse)
  | _ => none
def fRev (fa : F D) : F D := fun δ η => (fa δ η).bind fun d η => lift (revD d) η
theorem rps_rev {C : Ct} {G : Gh} {H : Hp} : ∀ {l : List D} {vs : List V}, Rps C G H l vs → Rps C G H l.reverse vs.reverse
  | _, _, .nil => .nil
  | _, _, .cons r1 r2 => by rw [List.reverse_cons, List.reverse_cons]; exact (rps_rev r2).append (.cons r1 .nil)
theorem fe_rev (hK : X.K = C.K) (ha : FB C W X a fa) (hs : FE C W X est (fNeg (fC (.int 1)))) : FE C W X (.Subscript a (.Slice none none (some est) p2) pos) (fRev fa) := by
  refine PE.imp (pe_rev rv_seq ha hs) fun σ H Q ⟨G, δ, η, at0, fin⟩ => ?_
  refine tG.bind (Rel2 := Rp C) at0 fin fun d v G1 H1 η1 a1 x1 r1 fin1 => ?_
  refine ⟨G1, δ, η1, a1, ?_⟩
  show FinR C (Rp C) _ G1 H1 (.ok (.int (-1)) η1) _
  intro k G2 H2 x2 h2 r2
  cases r2
  refine ⟨rfl, ?_⟩
  have g := FinR.gives a1.he fin1
  have r1' := (r1.next x2 a1.he).u
  unfold revD at g
  split at g
  · rename_i l
    obtain ⟨q, vs, ex, hq, hrs⟩ := r1'.lst
    have hz := r1'.lstZ
    rw [← hK] at hq
    refine ⟨q, vs, ex, .inl ⟨hq, fun p hp => ?_⟩⟩
    exact g _ G2 _ (x2.trans (Nx.alloc hp)) (h2.alloc hp) (.newLst h2 hp (by rw [List.length_reverse]; exact hz) (rps_rev hrs))
  · rename_i l
    obtain ⟨q, vs, ex, hq, hrs⟩ := r1'.tup
    have hz := r1'.tupZ
    rw [← hK] at hq
    refine ⟨q, vs, ex, .inr ⟨hq, fun p hp => ?_⟩⟩
    exact g _ G2 _ (x2.trans (Nx.alloc hp)) (h2.alloc hp) (.newTup h2 hp (by rw [List.length_reverse]; exact hz) (rps_rev hrs))
  · exact g.elim
/-! ### xs[i] = e, xs an own list -/
def sSetI (i : Nat) (fe fb : F D) : S := fun δ η => (fe δ η).toS δ fun d η => match δ[i]? with
  | some (some (.own l)) => (fb δ η).toS δ fun k η => match k with
    | .int j => match ixN l.length j with
      | some n => .nx (δ.set i (some (.own (l.set n d)))) η
      | none => .bad
    | _ => .bad
  | _ => .bad
theorem fs_setI {st : Stmt} (i : Nat) (h : PS X st (tAsg (tG C (Rp C) W fe) (gSub (tVar i) (tG C (Rp C) W fb) rSetL))) : FS C W X st (sSetI i fe fb) := PS.imp h fun Dn σ H ⟨B, G, δ, η, h, fin⟩ => by
  refine tG.bindS h fin fun d v G1 H1 η1 h1 x1 r1 fin1 => ?_
  split at fin1
  · rename_i l hl
    obtain ⟨w, q1, q2⟩ := h1.a.sl i _ hl
    cases q2 with
    | @own q vs _ m ee zz r =>
      refine ⟨_, q1, ?_⟩
      refine tG.bindS h1 fin1 fun k u G2 H2 η2 h2 x2 r2 fin2 => ?_
      split at fin2
      · rename_i j
        split at fin2
        · rename_i n hn
          cases r2
          have st := x2.stab h1.a.he
          have e1 := x2.keep _ _ ee (h1.a.nad i _ _ hl rfl q1)
          refine ⟨q, vs, j, n, rfl, rfl, e1, by rw [← r.length]; exact hn, ?_⟩
          exact fin2 _ _ _ (h2.chOwn hl q1 ((x2.mu _ _ ee).mpr m) e1 (by rw [List.length_set]; exact zz) ((r.stab st).set (r1.stab (x2.stab h1.a.he)) n))
        · exact fin2.elim
      · exact fin2.elim
  · exact fin1.elim
/-! ### xs * n: a new list -/
def repB (n : Nat) (k : Int) : Bool := decide (-(2 ^ 63) ≤ k) && decide (k < 2 ^ 63) && decide (n * k.toNat ≤ sizeLine)
theorem repB_of {n : Nat} {k : Int} (h : repB n k = true) : -(2 ^ 63) ≤ k ∧ k < 2 ^ 63 ∧ n * k.toNat ≤ sizeLine := by
  unfold repB at h
  rw [Bool.and_eq_true, Bool.and_eq_true] at h
  exact ⟨of_decide_eq_true h.1.1, of_decide_eq_true h.1.2, of_decide_eq_true h.2⟩
theorem rps_rep {C : Ct} {G : Gh} {H : Hp} {l : List D} {vs : List V} (r : Rps C G H l vs) : ∀ n : Nat, Rps C G H (List.replicate n l).flatten (List.replicate n vs).flatten
  | 0 => .nil
  | n + 1 => by rw [List.replicate_succ, List.replicate_succ, List.flatten_cons, List.flatten_cons]; exact r.append (rps_rep r n)
theorem rep_len {α : Type} (l : List α) : ∀ n : Nat, (List.replicate n l).flatten.length = l.length * n
  | 0 => rfl
  | n + 1 => by rw [List.replicate_succ, List.flatten_cons, List.length_append, rep_len l n, Nat.mul_succ]; omega
def fRepN (fs : F (List D)) (fb : F D) : F (List D) := fun δ η => (fs δ η).bind fun l η => (fb δ η).bind fun k η => match k with
  | .int k => if repB l.length k = true then .ok (List.replicate k.toNat l).flatten η else .bad
  | _ => .bad
theorem fn_rep (ha : FN C W X a fs) (hb : FE C W X b fb) : FN C W X (.BinOp a .Mult b pos) (fRepN fs fb) := by
  refine PE.imp (pe_op op_rep ha hb) fun σ H Q ⟨G, δ, η, at0, fin⟩ => ?_
  refine ⟨G, δ, η, at0, ?_⟩
  unfold fRepN at fin
  cases hf : fs δ η with
  | ok l η1 =>
    rw [hf] at fin
    have fin : FinN C (fun c d H' => W c d σ H') G H ((fb δ η1).bind fun k η => match k with
      | .int k => if repB l.length k = true then .ok (List.replicate k.toNat l).flatten η else .bad
      | _ => .bad) Q := fin
    intro p vs G1 H1 x r q hz hp
    have hpa : p ∉ G1.ads := fun h => r.mh p (r.adsM h) hp
    have nx := Nx.alloc (G := G1) (o := .lst vs) hp
    have a1 := at0.next (x.trans nx) (r.alloc hp)
    have fin1 : FinN C (fun c d H' => W c d σ H') G1 (upd H1 p (.lst vs)) ((fb δ η1).bind fun k η => match k with
      | .int k => if repB l.length k = true then .ok (List.replicate k.toNat l).flatten η else .bad
      | _ => .bad) Q := by
      cases hk : ((fb δ η1).bind fun k η => match k with
        | .int k => if repB l.length k = true then .ok (List.replicate k.toNat l).flatten η else .bad
        | _ => .bad) with
      | ok l2 η2 => rw [hk] at fin; exact fun p vs G2 H2 y z1 z2 z4 z3 => fin p vs G2 H2 ((x.trans nx).trans y) z1 z2 z4 z3
      | exc c ns l2 η2 => rw [hk] at fin; exact fun b vs G2 H2 y z1 z2 z3 => fin b vs G2 H2 ((x.trans nx).trans y) z1 z2 z3
      | bad => rw [hk] at fin; exact fin
    refine tN.bind (Rel := Rp C) a1 fin1 fun k v G2 H2 η2 a2 x2 r2 fin2 => ?_
    split at fin2
    · rename_i k
      split at fin2
      · rename_i hk
        cases r2
        obtain ⟨k1, k2, k3⟩ := repB_of hk
        have ee := x2.keep _ _ upd_same hpa
        have q2 := (q.stab (nx.stab r)).stab (x2.stab a1.he)
        exact ⟨p, k, vs, rfl, rfl, ee, k1, k2, by rw [← q.length]; exact k3, fun p' hp' => FinN.of Nx.refl fin2 a2.he (rps_rep q2 k.toNat) (by rw [rep_len]; exact k3) hp'⟩
      · exact fin2.elim
    · exact fin2.elim
  | exc c ns l η1 => rw [hf] at fin; exact fin
  | bad => rw [hf] at fin; exact fin
/-- .. xs an own list of the frame -/
def fRepV (i : Nat) (fb : F D) : F (List D) := fun δ η => match δ[i]? with
  | some (some (.own l)) => (fb δ η).bind fun k η => match k with
    | .int k => if repB l.length k = true then .ok (List.replicate k.toNat l).flatten η else .bad
    | _ => .bad
  | _ => .bad
theorem fn_repV (i : Nat) (ha : PE X a (tVar i)) (hb : FE C W X b fb) : FN C W X (.BinOp a .Mult b pos) (fRepV i fb) := by
  refine PE.imp (pe_op op_rep ha hb) fun σ H Q ⟨G, δ, η, at0, fin⟩ => ?_
  unfold fRepV at fin
  split at fin
  · rename_i l hl
    obtain ⟨v, h1, h2⟩ := at0.sl i _ hl
    cases h2 with
    | @own q vs _ m ee zz r =>
      refine ⟨_, h1, ?_⟩
      refine tN.bind (Rel := Rp C) at0 fin fun k v G2 H2 η2 a2 x2 r2 fin2 => ?_
      split at fin2
      · rename_i k
        split at fin2
        · rename_i hk
          cases r2
          obtain ⟨k1, k2, k3⟩ := repB_of hk
          have e2 := x2.keep _ _ ee (at0.nad i _ _ hl rfl h1)
          exact ⟨q, k, vs, rfl, rfl, e2, k1, k2, by rw [← r.length]; exact k3, fun p' hp' => FinN.of Nx.refl fin2 a2.he (rps_rep (r.stab (x2.stab at0.he)) k.toNat) (by rw [rep_len]; exact k3) hp'⟩
        · exact fin2.elim
      · exact fin2.elim
  · exact fin.elim
end
end DL
namespace DL
open PySem L2
/-! ### the data layer's functions, applied -/
section
variable {δ : En} {η : List O} {f fa fb fc : F D} {fl fh : F (Option Int)} {t u : F Bool} {g g' : D → D → Option D} {h : D → Option D} {fs fr : F (List D)} {a b : S} {i j : Nat} {d : D}
@[simp] theorem fV_a : fV i δ η = (match δ[i]? with | some (some (.val d)) => .ok d η | _ => .bad) := rfl
@[simp] theorem fVo_a : fVo i δ η = (match δ[i]? with | some (some (.own l)) => .ok (.lst l) η | _ => .bad) := rfl
@[simp] theorem fC_a : fC d δ η = .ok d η := rfl
@[simp] theorem fOp_a : fOp g fa fb δ η = (fa δ η).bind fun d η => (fb δ η).bind fun e η => lift (g d e) η := rfl
@[simp] theorem toB_a : toB f δ η = (f δ η).bind fun d η => (match d with | .bl b => .ok b η | _ => .bad) := rfl
@[simp] theorem fCh_a : fCh g g' fa fb fc δ η = (fa δ η).bind fun d η => (fb δ η).bind fun e η => (match g d e with | some (.bl true) => (fc δ η).bind fun k η => lift (g' e k) η | some (.bl false) => .ok (.bl false) η | _ => .bad) := rfl
@[simp] theorem fTru_a : fTru f δ η = (f δ η).bind fun d η => lift (truD d) η := rfl
@[simp] theorem fAndB_a : fAndB t u δ η = (t δ η).bind fun c η => if c = true then u δ η else .ok false η := rfl
@[simp] theorem fOrB_a : fOrB t u δ η = (t δ η).bind fun c η => if c = true then .ok true η else u δ η := rfl
@[simp] theorem fNotB_a : fNotB t δ η = (t δ η).bind fun c η => .ok (!c) η := rfl
@[simp] theorem fAnd_a : fAnd fa fb δ η = (fa δ η).bind fun d η => (match d with | .bl true => fb δ η | .bl false => .ok (.bl false) η | _ => .bad) := rfl
@[simp] theorem fOr_a : fOr fa fb δ η = (fa δ η).bind fun d η => (match d with | .bl true => .ok (.bl true) η | .bl false => fb δ η | _ => .bad) := rfl
@[simp] theorem fNot_a : fNot fa δ η = (fa δ η).bind fun d η => (match d with | .bl b => .ok (.bl (!b)) η | _ => .bad) := rfl
@[simp] theorem fIf_a : fIf t fa fb δ η = (t δ η).bind fun c η => if c = true then fa δ η else fb δ η := rfl
@[simp] theorem fNil_a : fNil δ η = .ok [] η := rfl
@[simp] theorem fCons_a : fCons fa fr δ η = (fa δ η).bind fun d η => (fr δ η).bind fun ds η => .ok (d :: ds) η := rfl
@[simp] theorem fTup_a : fTup fs δ η = (fs δ η).bind fun ds η => if ds.length ≤ sizeLine then .ok (.tup ds) η else .bad := rfl
@[simp] theorem fLst_a : fLst fs δ η = (fs δ η).bind fun ds η => if ds.length ≤ sizeLine then .ok (.lst ds) η else .bad := rfl
@[simp] theorem fLstN_a : fLstN fs δ η = (fs δ η).bind fun ds η => if ds.length ≤ sizeLine then .ok ds η else .bad := rfl
@[simp] theorem fIxO_a : fIxO fa fb δ η = (fa δ η).bind fun d η => (fb δ η).bind fun e η => (match d with | .obj n => (match η[n]? with | some (.lst l) => lift (ixD (.lst l) e) η | _ => .bad) | _ => .bad) := rfl
@[simp] theorem fNoP_a : fNoP δ η = .ok none η := rfl
@[simp] theorem fPt_a : fPt f δ η = (f δ η).bind fun d η => (match d with | .int i => .ok (some i) η | _ => .bad) := rfl
@[simp] theorem fSl_a : fSl fa fl fh δ η = (fa δ η).bind fun d η => (fl δ η).bind fun lo η => (fh δ η).bind fun hi η => lift (slD d lo hi) η := rfl
@[simp] theorem fCall1_a : fCall1 h fa δ η = (fa δ η).bind fun d η => lift (h d) η := rfl
@[simp] theorem fStrM_a {k : Str → D → Option D} : fStrM k fa fb δ η = (fa δ η).bind fun d η => (match d with | .str z => (fb δ η).bind fun e η => lift (k z e) η | _ => .bad) := rfl
@[simp] theorem fNeg_a : fNeg fa δ η = (fa δ η).bind fun d η => (match d with | .int i => .ok (.int (-i)) η | _ => .bad) := rfl
@[simp] theorem fFrz_a : fFrz fs δ η = (fs δ η).bind fun l η => .ok (.lst l) η := rfl
@[simp] theorem fListN_a : fListN fa δ η = (fa δ η).bind fun d η => lift (itemsD d) η := rfl
@[simp] theorem fNewO_a : fNewO fs δ η = (fs δ η).bind fun l η => .ok (.obj η.length) (η ++ [.lst l]) := rfl
@[simp] theorem fCall_a {n : Nat} {m : DF} : fCall n m fs δ η = (fs δ η).bind fun ds η => (arg n m ds η).nox := rfl
@[simp] theorem fCallK_a {np nk n : Nat} {m : DF} {ix : List Nat} : fCallK np nk n m ix fs fr δ η = (fs δ η).bind fun ds η => (fr δ η).bind fun es η => if ds.length = np ∧ es.length = nk then (arg n m (pick ix (ds ++ es)) η).nox else .bad := rfl
@[simp] theorem fLc_a {vs : List Nat} {tg : Tg} : fLc vs fs tg t fa δ η = (fs δ η).bind fun ds η => compF tg t fa (wipeD δ vs) ds η := rfl
@[simp] theorem fYes_a : fYes δ η = .ok true η := rfl
@[simp] theorem fiA_a : fiA fa δ η = (fa δ η).bind fun d η => lift (walkD d) η := rfl
@[simp] theorem fiL_a : fiL fa δ η = (fa δ η).bind fun d η => lift (lstOf d) η := rfl
@[simp] theorem fiE_a : fiE fa δ η = (fa δ η).bind fun d η => (lift (lstOf d) η).bind fun l η => .ok (enumD l) η := rfl
@[simp] theorem fiZ_a : fiZ fa fb δ η = (fa δ η).bind fun d η => (fb δ η).bind fun e η => (match d, e with | .lst l, .lst m => .ok (zipD l m) η | .tup l, .tup m => .ok (zipD l m) η | _, _ => .bad) := rfl
@[simp] theorem fiR1_a : fiR1 fa δ η = (fa δ η).bind fun d η => (match d with | .int j => if j ≤ 16777216 ∧ -16777216 ≤ j then .ok (rngD 0 j.toNat) η else .bad | _ => .bad) := rfl
@[simp] theorem sSeq_a : sSeq a b δ η = (a δ η).seq b := rfl
@[simp] theorem sRet_a : sRet f δ η = (f δ η).toS δ fun d η => .rt d η := rfl
@[simp] theorem sRetN_a : sRetN δ η = .rt .non η := rfl
@[simp] theorem sRetO_a : sRetO i δ η = (match δ[i]? with | some (some (.own l)) => .rt (.lst l) η | _ => .bad) := rfl
@[simp] theorem sIf_a : sIf t a b δ η = (t δ η).toS δ fun c η => if c = true then a δ η else b δ η := rfl
@[simp] theorem sDrop_a : sDrop f δ η = (f δ η).toS δ fun _ η => .nx δ η := rfl
@[simp] theorem sSet_a : sSet i f δ η = (f δ η).toS δ fun d η => .nx (δ.set i (some (.val d))) η := rfl
@[simp] theorem sFrz_a : sFrz i fs δ η = (fs δ η).toS δ fun l η => .nx (δ.set i (some (.val (.lst l)))) η := rfl
@[simp] theorem sOwn_a : sOwn i fs δ η = (fs δ η).toS δ fun l η => .nx (δ.set i (some (.own l))) η := rfl
@[simp] theorem sApp_a : sApp i f δ η = (match δ[i]? with | some (some (.own l)) => (f δ η).toS δ fun d η => if l.length < sizeLine then .nx (δ.set i (some (.own (l ++ [d])))) η else .bad | _ => .bad) := rfl
@[simp] theorem sAsg_a {tg : Tg} : sAsg f tg δ η = (f δ η).toS δ fun d η => (match asg tg d δ with | some δ' => .nx δ' η | none => .bad) := rfl
@[simp] theorem sPar_a : sPar i j fa fb δ η = (fa δ η).toS δ fun d η => (fb δ η).toS δ fun e η => .nx ((δ.set i (some (.val d))).set j (some (.val e))) η := rfl
@[simp] theorem sFor_a {tg : Tg} : sFor fs tg a δ η = (fs δ η).toS δ fun ds η => loopF tg a ds δ η := rfl
@[simp] theorem sSetO_a : sSetO f fa fb δ η = (f δ η).toS δ fun d η => (fa δ η).toS δ fun o η => (fb δ η).toS δ fun k η => (match o, k with | .obj n, .int i => (match η[n]? with | some (.lst l) => (match ixN l.length i with | some j => .nx δ (η.set n (.lst (l.set j d))) | none => .bad) | _ => .bad) | _, _ => .bad) := rfl
theorem run_nx {n : Nat} {b : S} {ds : List D} {δ' : En} {η' : List O} (h : b (ds.map (fun d => some (.val d)) ++ List.replicate (n - ds.length) none) η = .nx δ' η') : runD n b ds η = .ok .non η' := by unfold runD; rw [h]
theorem run_rt {n : Nat} {b : S} {ds : List D} {d : D} {η' : List O} (h : b (ds.map (fun d => some (.val d)) ++ List.replicate (n - ds.length) none) η = .rt d η') : runD n b ds η = .ok d η' := by unfold runD; rw [h]
@[simp] theorem arg_a {n : Nat} {m : DF} {ds : List D} : arg n m ds η = if ds.length = n then m ds η else .bad := rfl
@[simp] theorem asg_nm : asg (.nm i) d δ = some (δ.set i (some (.val d))) := by rw [asg]
@[simp] theorem asg_tp {ts : List Tg} {l : List D} : asg (.tp ts) (.tup l) δ = asgs ts l δ := by rw [asg]
@[simp] theorem asgs_nil : asgs [] [] δ = some δ := by rw [asgs]
@[simp] theorem asgs_cons {tg : Tg} {ts : List Tg} {l : List D} : asgs (tg :: ts) (d :: l) δ = (asg tg d δ).bind fun δ' => asgs ts l δ' := by rw [asgs]
end
/-! ### operations on known kinds -/
@[simp] theorem addD_ii {i j : Int} : addD (.int i) (.int j) = some (.int (i + j)) := rfl
@[simp] theorem subD_ii {i j : Int} : subD (.int i) (.int j) = some (.int (i - j)) := rfl
@[simp] theorem mulD_ii {i j : Int} : mulD (.int i) (.int j) = if cmulB i j = true then some (.int (i * j)) else none := rfl
@[simp] theorem modD_ii {i j : Int} : modD (.int i) (.int j) = if decide (0 < j) = true then some (.int (i % j)) else none := rfl
@[simp] theorem fdivD_ii {i j : Int} : fdivD (.int i) (.int j) = if cdivB i j = true then some (.int (i / j)) else none := rfl
@[simp] theorem powD_ii {i j : Int} : powD (.int i) (.int j) = if cpowB i j = true then some (.int (i ^ j.toNat)) else none := rfl
@[simp] theorem ltD_ii {i j : Int} : ltD (.int i) (.int j) = some (.bl (decide (i < j))) := rfl
@[simp] theorem leD_ii {i j : Int} : leD (.int i) (.int j) = some (.bl (decide (i ≤ j))) := rfl
@[simp] theorem gtD_ii {i j : Int} : gtD (.int i) (.int j) = some (.bl (decide (j < i))) := rfl
@[simp] theorem geD_ii {i j : Int} : geD (.int i) (.int j) = some (.bl (decide (j ≤ i))) := rfl
@[simp] theorem addD_ss {i j : Str} : addD (.str i) (.str j) = if i.length + j.length ≤ sizeLine then some (.str (i ++ j)) else none := rfl
@[simp] theorem addD_ll {i j : List D} : addD (.lst i) (.lst j) = if i.length + j.length ≤ sizeLine then some (.lst (i ++ j)) else none := rfl
@[simp] theorem intC_i {i : Int} : intC (.int i) = some (.int i) := rfl
@[simp] theorem lenD_l {l : List D} : lenD (.lst l) = some (.int l.length) := rfl
@[simp] theorem lenD_t {l : List D} : lenD (.tup l) = some (.int l.length) := rfl
@[simp] theorem lenD_s {z : Str} : lenD (.str z) = if z.length ≤ sizeLine then some (.int z.length) else none := rfl
@[simp] theorem ixD_l {l : List D} {i : Int} : ixD (.lst l) (.int i) = L2.atI l i := rfl
@[simp] theorem ixD_t {l : List D} {i : Int} : ixD (.tup l) (.int i) = L2.atI l i := rfl
@[simp] theorem walkD_l {l : List D} : walkD (.lst l) = some l := rfl
@[simp] theorem walkD_t {l : List D} : walkD (.tup l) = some l := rfl
@[simp] theorem walkD_s {z : Str} : walkD (.str z) = if z.length ≤ sizeLine then some (signsD z) else none := rfl
@[simp] theorem lstOf_l {l : List D} : lstOf (.lst l) = some l := rfl
@[simp] theorem itemsD_l {l : List D} : itemsD (.lst l) = some l := rfl
@[simp] theorem itemsD_t {l : List D} : itemsD (.tup l) = some l := rfl
@[simp] theorem slD_l {l : List D} {lo hi : Option Int} : slD (.lst l) lo hi = some (.lst (cutD l lo hi)) := rfl
@[simp] theorem slD_s {z : Str} {lo hi : Option Int} : slD (.str z) lo hi = if z.length ≤ sizeLine then some (.str (cutS z lo hi)) else none := rfl
@[simp] theorem truD_b {b : Bool} : truD (.bl b) = some b := rfl
@[simp] theorem truD_i {i : Int} : truD (.int i) = some (i != 0) := rfl
@[simp] theorem truD_n : truD .non = some false := rfl
@[simp] theorem truD_l {l : List D} : truD (.lst l) = some (!l.isEmpty) := rfl
@[simp] theorem truD_t {l : List D} : truD (.tup l) = some (!l.isEmpty) := rfl
@[simp] theorem isN_n {d : D} : isN d .non = some (.bl d.isNon) := rfl
@[simp] theorem notN_n {d : D} : notN d .non = some (.bl (!d.isNon)) := rfl
@[simp] theorem isNon_n : D.isNon .non = true := rfl
@[simp] theorem isNon_b {b : Bool} : D.isNon (.bl b) = false := rfl
@[simp] theorem isNon_i {b : Int} : D.isNon (.int b) = false := rfl
@[simp] theorem isNon_s {b : Str} : D.isNon (.str b) = false := rfl
@[simp] theorem isNon_l {b : List D} : D.isNon (.lst b) = false := rfl
@[simp] theorem isNon_t {b : List D} : D.isNon (.tup b) = false := rfl
/-! ### equality of kinds -/
@[simp] theorem okq_n : okq .non = true := rfl
@[simp] theorem okq_b {b : Bool} : okq (.bl b) = true := rfl
@[simp] theorem okq_i {b : Int} : okq (.int b) = true := rfl
@[simp] theorem okq_s {b : Str} : okq (.str b) = true := rfl
@[simp] theorem eqv_ii {i j : Int} : eqvD (.int i) (.int j) = decide (i = j) := by
  show PyData.eqv (.int i) (.int j) = _
  rw [PyData.eqv]; rfl
@[simp] theorem eqv_bb {i j : Bool} : eqvD (.bl i) (.bl j) = decide (i = j) := by
  show PyData.eqv (.bool i) (.bool j) = _
  rw [PyData.eqv]; cases i <;> cases j <;> rfl
@[simp] theorem eqv_ss {i j : Str} : eqvD (.str i) (.str j) = decide (i = j) := by
  show PyData.eqv (.str i) (.str j) = _
  rw [PyData.eqv]; rfl
@[simp] theorem eqD_ii {i j : Int} : eqD (.int i) (.int j) = some (.bl (decide (i = j))) := by simp [eqD]
@[simp] theorem eqD_bb {i j : Bool} : eqD (.bl i) (.bl j) = some (.bl (decide (i = j))) := by simp [eqD]
@[simp] theorem eqD_ss {i j : Str} : eqD (.str i) (.str j) = some (.bl (decide (i = j))) := by simp [eqD]
@[simp] theorem neD_ii {i j : Int} : neD (.int i) (.int j) = some (.bl (!decide (i = j))) := by simp [neD]
@[simp] theorem neD_bb {i j : Bool} : neD (.bl i) (.bl j) = some (.bl (!decide (i = j))) := by simp [neD]
@[simp] theorem neD_ss {i j : Str} : neD (.str i) (.str j) = some (.bl (!decide (i = j))) := by simp [neD]
/-! ### kinds by isinstance -/
theorem kit_all : ∀ t ∈ ["NoneType", "bool", "int", "str", "list", "tuple"], ∀ u ∈ ["list", "tuple", "str", "bool", "int"], kitB t u = some (t == u || (t == "bool" && u == "int")) := by decide +kernel
def D.ty : D → String
  | .non => "NoneType" | .bl _ => "bool" | .int _ => "int" | .str _ => "str" | .lst _ => "list" | .tup _ => "tuple" | _ => ""
def isTy (u : String) (d : D) : Bool := d.ty == u || (d.ty == "bool" && u == "int")
theorem isD_of {u : String} {d : D} (hu : u ∈ ["list", "tuple", "str", "bool", "int"]) (hd : d.ty ∈ ["NoneType", "bool", "int", "str", "list", "tuple"]) : isD u d = some (.bl (isTy u d)) := by
  have k := kit_all _ hd u hu
  have e : tyN d = some d.ty := by cases d <;> first | rfl | (exfalso; simp [D.ty] at hd)
  unfold isD
  rw [e]
  dsimp only
  rw [k]
  rfl
theorem isD2_of {u v : String} {d : D} (hu : u ∈ ["list", "tuple", "str", "bool", "int"]) (hv : v ∈ ["list", "tuple", "str", "bool", "int"]) (hd : d.ty ∈ ["NoneType", "bool", "int", "str", "list", "tuple"]) : isD2 u v d = some (.bl (isTy u d || isTy v d)) := by
  have k := kit_all _ hd u hu
  have k2 := kit_all _ hd v hv
  have e : tyN d = some d.ty := by cases d <;> first | rfl | (exfalso; simp [D.ty] at hd)
  unfold isD2
  rw [e]
  dsimp only
  rw [k, k2]
  rfl
/-! ### walks -/
theorem loop_inv {t : Tg} {b : S} (P : List D → En → List O → Prop) : ∀ {ds : List D} {δ : En} {η : List O}, P ds δ η →
    (∀ x r δ η, P (x :: r) δ η → ∃ δ1, asg t x δ = some δ1 ∧ ∃ δ2 η2, (b δ1 η = .nx δ2 η2 ∨ b δ1 η = .ct δ2 η2) ∧ P r δ2 η2) → ∃ δ' η', loopF t b ds δ η = .nx δ' η' ∧ P [] δ' η'
  | [], δ, η, h, _ => ⟨δ, η, rfl, h⟩
  | x :: r, δ, η, h, s => by
    obtain ⟨δ1, e1, δ2, η2, e2, h2⟩ := s x r δ η h
    obtain ⟨δ', η', e3, h3⟩ := loop_inv P h2 s
    refine ⟨δ', η', ?_, h3⟩
    rw [loopF, e1]
    rcases e2 with e2 | e2
    · dsimp only; rw [e2]; exact e3
    · dsimp only; rw [e2]; exact e3
theorem comp_map {t : Tg} {ft : F Bool} {fe : F D} {δw : En} {η : List O} (g : D → D) : ∀ {ds : List D}, (∀ x ∈ ds, ∃ δ1, asg t x δw = some δ1 ∧ ft δ1 η = .ok true η ∧ fe δ1 η = .ok (g x) η) → compF t ft fe δw ds η = .ok (ds.map g) η
  | [], _ => rfl
  | x :: r, h => by
    obtain ⟨δ1, e1, e2, e3⟩ := h x (List.mem_cons_self ..)
    have ih := comp_map g (ds := r) fun y hy => h y (List.mem_cons_of_mem _ hy)
    rw [compF, e1]
    simp only [e2, e3, nox_ok, bind_ok, if_true, ih, List.map_cons]
theorem comp_filter {t : Tg} {ft : F Bool} {fe : F D} {δw : En} {η : List O} (p : D → Bool) (g : D → D) : ∀ {ds : List D}, (∀ x ∈ ds, ∃ δ1, asg t x δw = some δ1 ∧ ft δ1 η = .ok (p x) η ∧ (p x = true → fe δ1 η = .ok (g x) η)) → compF t ft fe δw ds η = .ok ((ds.filter p).map g) η
  | [], _ => rfl
  | x :: r, h => by
    obtain ⟨δ1, e1, e2, e3⟩ := h x (List.mem_cons_self ..)
    have ih := comp_filter p g (ds := r) fun y hy => h y (List.mem_cons_of_mem _ hy)
    rw [compF, e1]
    cases hp : p x with
    | true => simp only [e2, e3 hp, hp, nox_ok, bind_ok, if_true, ih, List.filter_cons_of_pos hp, List.map_cons]
    | false => simp only [e2, hp, nox_ok, bind_ok, Bool.false_eq_true, if_false, ih, List.filter_cons_of_neg (by simp [hp] : ¬ p x = true)]
/-- a comprehension whose element changes the store -/
theorem comp_st {t : Tg} {ft : F Bool} {fe : F D} {δw : En} (P : List O → Prop) (Q : D → D → Prop) (hs : ∀ x η, P η → ∃ δ1, asg t x δw = some δ1 ∧ ft δ1 η = .ok true η ∧ ∃ y η', fe δ1 η = .ok y η' ∧ P η' ∧ Q x y) :
    ∀ {ds : List D} {η : List O}, P η → ∃ ys η', compF t ft fe δw ds η = .ok ys η' ∧ P η' ∧ ys.length = ds.length ∧ ∀ (i : Nat) (x y : D), ds[i]? = some x → ys[i]? = some y → Q x y
  | [], η, h => ⟨[], η, rfl, h, rfl, fun i x y h => by simp at h⟩
  | x :: r, η, h => by
    obtain ⟨δ1, e1, e2, y, η1, e3, h1, q1⟩ := hs x η h
    obtain ⟨ys, η2, e4, h2, l2, q2⟩ := comp_st P Q hs (ds := r) h1
    refine ⟨y :: ys, η2, ?_, h2, by simp [l2], fun i a b ha hb => ?_⟩
    · rw [compF, e1]
      simp only [e2, e3, e4, nox_ok, bind_ok, if_true]
    · cases i with
      | zero => cases ha; cases hb; exact q1
      | succ i => exact q2 i a b (by simpa using ha) (by simpa using hb)
end DL
namespace DL
open PySem L2
def b_law_feed : S := (sSeq (sSet 1 (fC (.int 4928)))
    (sSeq (sFor (fiA (fSl (fV 0) fNoP (fPt (fC (.int 63))))) (.nm 2) (sSet 1 (fOp modD (fCall1 intC (fOp addD (fOp addD (fOp mulD (fV 1) (fC (.int 52361))) (fOp modD (fCall1 intC (fV 2)) (fC (.int 2147483477)))) (fC (.int 41)))) (fC (.int 2147483563)))))
    (sRet (fNewO (fLstN (fCons (fFrz (fListN (fSl (fV 0) fNoP (fPt (fC (.int 63)))))) (fCons (fC (.int 0)) (fCons (fC (.int 0)) (fCons (fV 1) (fCons (fC (.int 0)) fNil))))))))))
def m_law_feed : DF := runD 3 b_law_feed
def b_law_pick : S := (sSeq (sIf (fAndB (toB (fOp ltD (fIxO (fV 0) (fC (.int 2))) (fV 1))) (toB (fOp ltD (fIxO (fV 0) (fC (.int 1))) (fCall1 lenD (fIxO (fV 0) (fC (.int 0))))))) (sSeq (sSet 2 (fOp ixD (fIxO (fV 0) (fC (.int 0))) (fIxO (fV 0) (fC (.int 1)))))
    (sSeq (sSetO (fOp addD (fIxO (fV 0) (fC (.int 1))) (fC (.int 1))) (fV 0) (fC (.int 1)))
    (sSeq (sSetO (fOp modD (fCall1 intC (fOp addD (fOp addD (fOp mulD (fIxO (fV 0) (fC (.int 3))) (fC (.int 49031))) (fOp modD (fCall1 intC (fV 2)) (fC (.int 2147483543)))) (fC (.int 29)))) (fC (.int 2147483549))) (fV 0) (fC (.int 3)))
    (sSetO (fIf (toB (fOp geD (fV 2) (fOp powD (fC (.int 10)) (fC (.int 18))))) (fV 2) (fC (.int 0))) (fV 0) (fC (.int 2)))))) SR.nx)
    (sSeq (sIf (toB (fOp geD (fIxO (fV 0) (fC (.int 2))) (fV 1))) (sSeq (sSet 3 (fOp modD (fCall1 intC (fIxO (fV 0) (fC (.int 2)))) (fV 1)))
    (sSeq (sSetO (fOp fdivD (fIxO (fV 0) (fC (.int 2))) (fV 1)) (fV 0) (fC (.int 2)))
    (sRet (fV 3)))) SR.nx)
    (sSeq (sSetO (fOp addD (fIxO (fV 0) (fC (.int 4))) (fC (.int 1))) (fV 0) (fC (.int 4)))
    (sSeq (sSet 4 (fOp modD (fCall1 intC (fOp addD (fIxO (fV 0) (fC (.int 3))) (fOp mulD (fIxO (fV 0) (fC (.int 4))) (fC (.int 7919))))) (fC (.int 2147483563))))
    (sSeq (sSet 5 (fOp mulD (fOp modD (fCall1 intC (fOp mulD (fV 4) (fV 4))) (fC (.int 2147483543))) (fOp addD (fOp modD (fCall1 intC (fV 4)) (fC (.int 39979))) (fC (.int 7)))))
    (sSeq (sSetO (fOp modD (fCall1 intC (fOp addD (fOp addD (fV 5) (fOp mulD (fC (.int 40503)) (fV 4))) (fC (.int 977)))) (fC (.int 2147483549))) (fV 0) (fC (.int 3)))
    (sRet (fOp modD (fCall1 intC (fOp addD (fOp fdivD (fIxO (fV 0) (fC (.int 3))) (fC (.int 61))) (fOp mulD (fOp modD (fCall1 intC (fIxO (fV 0) (fC (.int 3)))) (fC (.int 8971))) (fC (.int 53))))) (fV 1)))))))))
def m_law_pick : DF := runD 6 b_law_pick
def b_law_of : S := (sRet (fOp ixD (fV 1) (fCall 2 m_law_pick (fCons (fV 0) (fCons (fCall1 lenD (fV 1)) fNil)))))
def m_law_of : DF := runD 2 b_law_of
def m_law_same : Nat → DF
  | 0 => fun _ _ => .bad
  | n + 1 => runD 4 (sSeq (sIf (fTru (fCall1 (isD2 "list" "tuple") (fV 1))) (sSeq (sIf (fOrB (toB (fOp neD (fCall1 (isD "list") (fV 0)) (fCall1 (isD "list") (fV 1)))) (toB (fOp neD (fCall1 (isD "tuple") (fV 0)) (fCall1 (isD "tuple") (fV 1))))) (sRet (fC (.bl false))) SR.nx)
    (sRet (fAnd (fOp eqD (fCall1 lenD (fV 0)) (fCall1 lenD (fV 1))) (fCall1 allC (fFrz (fLc [2, 3] (fiZ (fV 0) (fV 1)) (.tp [(.nm 2), (.nm 3)]) fYes (fCall 2 (m_law_same n) (fCons (fV 2) (fCons (fV 3) fNil))))))))) SR.nx)
    (sSeq (sIf (fOrB (fTru (fCall1 (isD2 "list" "tuple") (fV 0))) (toB (fOp neD (fCall1 (isD "bool") (fV 0)) (fCall1 (isD "bool") (fV 1))))) (sRet (fC (.bl false))) SR.nx)
    (sSeq (sIf (fOrB (toB (fOp isN (fV 1) (fC .non))) (toB (fOp isN (fV 0) (fC .non)))) (sRet (fAnd (fOp isN (fV 1) (fC .non)) (fOp isN (fV 0) (fC .non)))) SR.nx)
    (sRet (fAnd (fOp eqD (fCall1 (isD "str") (fV 0)) (fCall1 (isD "str") (fV 1))) (fOp eqD (fV 0) (fV 1)))))))
def b_is_name : S := (sRet (fAnd (fCh leD leD (fC (.int 1)) (fCall1 lenD (fV 0)) (fC (.int 8))) (fCall1 allC (fFrz (fLc [1] (fiA (fV 0)) (.nm 1) fYes (fOp inD (fV 1) (fC (.str "abcdefghijklmnopqrstuvwxyz"))))))))
def m_is_name : DF := runD 2 b_is_name
end DL
namespace DL
open PySem L2
theorem atI_of {α : Type} {xs : List α} {i : Int} (h : 0 ≤ i) (h2 : i < xs.length) : L2.atI xs i = some (xs[i.toNat]'(by omega)) := by
  unfold L2.atI ixN
  rw [if_pos h, if_pos h2]
  simp
theorem run_rt2 {n : Nat} {b : S} {ds : List D} {η : List O} {d : D} {η' : List O} {δ : En} (hδ : ds.map (fun d => some (.val d)) ++ List.replicate (n - ds.length) none = δ) (h : b δ η = .rt d η') : runD n b ds η = .ok d η' := by subst hδ; exact run_rt h
theorem run_nx2 {n : Nat} {b : S} {ds : List D} {η : List O} {η' : List O} {δ δ' : En} (hδ : ds.map (fun d => some (.val d)) ++ List.replicate (n - ds.length) none = δ) (h : b δ η = .nx δ' η') : runD n b ds η = .ok .non η' := by subst hδ; exact run_nx h
def Feed (o : O) : Prop := ∃ (ns : List Int) (i c s k : Int), 0 ≤ i ∧ o = .lst [.lst (ns.map .int), .int i, .int c, .int s, .int k]
section
variable {a b c d e x : D}
theorem f5_0 : L2.atI [a, b, c, d, e] 0 = some a := rfl
theorem f5_1 : L2.atI [a, b, c, d, e] 1 = some b := rfl
theorem f5_2 : L2.atI [a, b, c, d, e] 2 = some c := rfl
theorem f5_3 : L2.atI [a, b, c, d, e] 3 = some d := rfl
theorem f5_4 : L2.atI [a, b, c, d, e] 4 = some e := rfl
theorem n5_1 : ixN 5 1 = some 1 := rfl
theorem n5_2 : ixN 5 2 = some 2 := rfl
theorem n5_3 : ixN 5 3 = some 3 := rfl
theorem n5_4 : ixN 5 4 = some 4 := rfl
end
theorem pick_ok {η : List O} {n : Nat} {o : O} {m : Int} (ho : η[n]? = some o) (hf : Feed o) (h0 : 0 < m) (h1 : m < 1073741824) :
    ∃ r o', m_law_pick [.obj n, .int m] η = .ok (.int r) (η.set n o') ∧ Feed o' ∧ 0 ≤ r ∧ r < m := by
  obtain ⟨ns, i, c, s, k, hi, rfl⟩ := hf
  have hn : n < η.length := (List.getElem?_eq_some_iff.mp ho).1
  have hs : ∀ o', (η.set n o')[n]? = some o' := fun o' => by rw [List.getElem?_set_self hn]
  clear hn
  have hp : (decide (-2 ^ 64 < (7919:Int)) && decide ((7919:Int) < 2 ^ 64)) = true := by decide
  suffices ∃ r o', b_law_pick [some (.val (.obj n)), some (.val (.int m)), none, none, none, none] η = .rt (.int r) (η.set n o') ∧ Feed o' ∧ 0 ≤ r ∧ r < m by
    obtain ⟨r, o', h, h2⟩ := this
    exact ⟨r, o', run_rt2 rfl h, h2⟩
  have fin : ∀ z : Int, 0 ≤ z % m ∧ z % m < m := fun z => ⟨Int.emod_nonneg _ (by omega), Int.emod_lt_of_pos _ h0⟩
  have hmu : ∀ x y : Int, 0 ≤ y → y < 2 ^ 64 → cmulB x y = true := fun x y h1 h2 => by
    unfold cmulB
    rw [Bool.or_eq_true]
    right
    simp only [Bool.and_eq_true, decide_eq_true_eq]
    omega
  have hmv : ∀ x y : Int, 0 ≤ x → x < 2 ^ 64 → cmulB x y = true := fun x y h1 h2 => by
    unfold cmulB
    rw [Bool.or_eq_true]
    left
    simp only [Bool.and_eq_true, decide_eq_true_eq]
    omega
  have hmm : ∀ x y : Int, cmulB x (y % 39979 + 7) = true := fun x y => hmu _ _ (by omega) (by omega)
  have hmr : ∀ x y : Int, cmulB (x % 2147483563) y = true := fun x y => hmv _ _ (by omega) (by omega)
  have h2 : ∀ x : Int, cdivB x m = true := fun x => by simp [cdivB, h0, h1]
  have h3 : ∀ x : Int, cdivB x 61 = true := fun x => by simp [cdivB]
  have h4 : ∀ x : Int, cmulB x 49031 = true := fun x => hmu _ _ (by omega) (by omega)
  have h5 : ∀ x : Int, cmulB x 7919 = true := fun x => hmu _ _ (by omega) (by omega)
  have h6 : ∀ x : Int, cmulB x 53 = true := fun x => hmu _ _ (by omega) (by omega)
  have h7 : ∀ x : Int, cmulB 40503 x = true := fun x => hmv _ _ (by omega) (by omega)
  have h8 : cpowB 10 18 = true := by decide
  by_cases hc : c < m ∧ i < ns.length
  · have ha : L2.atI (ns.map D.int) i = some (.int (ns[i.toNat]'(by omega))) := by rw [atI_of hi (by simpa using hc.2)]; simp
    have hc1 : decide (c < m) = true := by simpa using hc.1
    have hc2 : decide (i < ns.length) = true := by simpa using hc.2
    generalize ns[i.toNat]'(by omega) = v at ha
    have hi2 : 0 ≤ i + 1 := by omega
    have hz : ¬ m ≤ 0 := by omega
    by_cases hv : 1000000000000000000 ≤ v
    · by_cases hm : m ≤ v
      · skip
        generalize hx : b_law_pick _ η = x
        unfold b_law_pick at hx
        simp [ho, hs, f5_0, f5_1, f5_2, f5_3, f5_4, n5_1, n5_2, n5_3, n5_4, h0, h2, h3, h4, h5, h6, h7, h8, hmm, hmr, hc.1, hc.2, ha, hv, hm] at hx
        subst hx
        exact ⟨_, _, rfl, ⟨ns, _, _, _, _, hi2, rfl⟩, fin _⟩
      · skip
        generalize hx : b_law_pick _ η = x
        unfold b_law_pick at hx
        simp [ho, hs, f5_0, f5_1, f5_2, f5_3, f5_4, n5_1, n5_2, n5_3, n5_4, h0, h2, h3, h4, h5, h6, h7, h8, hmm, hmr, hc.1, hc.2, ha, hv, hm] at hx
        subst hx
        exact ⟨_, _, rfl, ⟨ns, _, _, _, _, hi2, rfl⟩, fin _⟩
    · skip
      generalize hx : b_law_pick _ η = x
      unfold b_law_pick at hx
      simp [ho, hs, f5_0, f5_1, f5_2, f5_3, f5_4, n5_1, n5_2, n5_3, n5_4, h0, h2, h3, h4, h5, h6, h7, h8, hmm, hmr, hc.1, hc.2, ha, hv, hz] at hx
      subst hx
      exact ⟨_, _, rfl, ⟨ns, _, _, _, _, hi2, rfl⟩, fin _⟩
  · have hf : ∀ {α : Type} (a b : α), (if c < m then (if i < ns.length then a else b) else b) = b := fun a b => by
      by_cases h1 : c < m
      · rw [if_pos h1, if_neg fun h2 => hc ⟨h1, h2⟩]
      · rw [if_neg h1]
    by_cases hm : m ≤ c
    · have h9 : ¬ c < m := by omega
      generalize hx : b_law_pick _ η = x
      unfold b_law_pick at hx
      simp [ho, hs, f5_0, f5_1, f5_2, f5_3, f5_4, n5_1, n5_2, n5_3, n5_4, h0, h2, h3, h4, h5, h6, h7, h8, hmm, hmr, hm, h9] at hx
      subst hx
      exact ⟨_, _, rfl, ⟨ns, _, _, _, _, hi, rfl⟩, fin _⟩
    · have h9 : c < m := by omega
      have h10 : ¬ i < ns.length := fun h => hc ⟨h9, h⟩
      generalize hx : b_law_pick _ η = x
      unfold b_law_pick at hx
      simp [ho, hs, f5_0, f5_1, f5_2, f5_3, f5_4, n5_1, n5_2, n5_3, n5_4, h0, h2, h3, h4, h5, h6, h7, h8, hmm, hmr, hm, h9, h10] at hx
      subst hx
      exact ⟨_, _, rfl, ⟨ns, _, _, _, _, hi, rfl⟩, fin _⟩
end DL
namespace DL
open PySem L2
theorem loop_inv2 {t : Tg} {b : S} (P : En → List O → Prop) : ∀ {ds : List D} {δ : En} {η : List O}, P δ η →
    (∀ x ∈ ds, ∀ δ η, P δ η → ∃ δ1, asg t x δ = some δ1 ∧ ∃ δ2 η2, (b δ1 η = .nx δ2 η2 ∨ b δ1 η = .ct δ2 η2) ∧ P δ2 η2) → ∃ δ' η', loopF t b ds δ η = .nx δ' η' ∧ P δ' η'
  | [], δ, η, h, _ => ⟨δ, η, rfl, h⟩
  | x :: r, δ, η, h, s => by
    obtain ⟨δ1, e1, δ2, η2, e2, h2⟩ := s x (List.mem_cons_self ..) δ η h
    obtain ⟨δ', η', e3, h3⟩ := loop_inv2 P h2 fun y hy => s y (List.mem_cons_of_mem _ hy)
    refine ⟨δ', η', ?_, h3⟩
    rw [loopF, e1]
    rcases e2 with e2 | e2
    · dsimp only; rw [e2]; exact e3
    · dsimp only; rw [e2]; exact e3
theorem of_ok {η : List O} {n : Nat} {o : O} {l : List D} (ho : η[n]? = some o) (hf : Feed o) (h0 : 0 < l.length) (h1 : l.length < 1073741824) :
    ∃ d o', m_law_of [.obj n, .lst l] η = .ok d (η.set n o') ∧ Feed o' ∧ d ∈ l := by
  obtain ⟨r, o', e, f, r0, r1⟩ := pick_ok (m := l.length) ho hf (by omega) (by omega)
  have r2 := atI_of r0 r1
  refine ⟨_, o', run_rt2 rfl ?_, f, List.getElem_mem (h := by omega) (n := r.toNat)⟩
  unfold b_law_of
  simp [e, r2]
theorem ofS_ok {η : List O} {n : Nat} {o : O} {z : Str} (ho : η[n]? = some o) (hf : Feed o) (h0 : 0 < z.length) (h1 : z.length ≤ sizeLine) :
    ∃ c o', m_law_of [.obj n, .str z] η = .ok (.str ⟨#[c]⟩) (η.set n o') ∧ Feed o' ∧ c ∈ z.cps.toList := by
  have h2 : z.length ≤ 16777216 := h1
  obtain ⟨r, o', e, f, r0, r1⟩ := pick_ok (m := z.length) ho hf (by omega) (by omega)
  have r2 := atI_of (xs := z.cps.toList) r0 (by simpa [Str.length] using r1)
  refine ⟨_, o', run_rt2 rfl ?_, f, List.getElem_mem (h := by rw [Array.length_toList]; show r.toNat < z.length; omega) (n := r.toNat)⟩
  unfold b_law_of
  simp [e, h1, ixD, r2]
theorem cut_le {ns : List Int} : ns.length ≤ 63 → cutD (ns.map D.int) none (some 63) = ns.map D.int := fun h => by
  unfold cutD
  have e1 : HT.sIx (ns.map D.int).length 0 none = 0 := rfl
  have e2 : HT.sIx (ns.map D.int).length (ns.map D.int).length (some 63) = ns.length := by
    simp [HT.sIx]; omega
  rw [e1, e2]
  have : List.take ns.length (ns.map D.int) = ns.map D.int := List.take_of_length_le (by simp)
  simp [this]
theorem feed_ok {η : List O} {ns : List Int} (h : ns.length ≤ 63) : ∃ o, m_law_feed [.lst (ns.map .int)] η = .ok (.obj η.length) (η ++ [o]) ∧ Feed o := by
  have hl : ∃ δ' η', loopF (.nm 2) (sSet 1 (fOp modD (fCall1 intC (fOp addD (fOp addD (fOp mulD (fV 1) (fC (.int 52361))) (fOp modD (fCall1 intC (fV 2)) (fC (.int 2147483477)))) (fC (.int 41)))) (fC (.int 2147483563)))) (ns.map .int) [some (.val (.lst (ns.map .int))), some (.val (.int 4928)), none] η = .nx δ' η' ∧ ∃ (s : Int) (x : Option L), η' = η ∧ δ' = [some (.val (.lst (ns.map .int))), some (.val (.int s)), x] := by
    refine loop_inv2 (P := fun δ' η' => ∃ (s : Int) (x : Option L), η' = η ∧ δ' = [some (.val (.lst (ns.map .int))), some (.val (.int s)), x]) ⟨_, _, rfl, rfl⟩ fun x hx δ η' ⟨s, y, e1, e2⟩ => ?_
    obtain ⟨v, _, rfl⟩ := List.mem_map.mp hx
    subst e1 e2
    have h4 : ∀ x : Int, cmulB x 52361 = true := fun x => by simp [cmulB]
    refine ⟨_, asg_nm, ?_⟩
    exact ⟨[_, some (.val (.int ((s * 52361 + v % 2147483477 + 41) % 2147483563))), some (.val (.int v))], η', .inl (by simp [h4]), _, _, rfl, rfl⟩
  obtain ⟨δ', η', e, s, x, rfl, rfl⟩ := hl
  refine ⟨.lst [.lst (ns.map .int), .int 0, .int 0, .int s, .int 0], run_rt2 rfl ?_, ⟨ns, 0, 0, s, 0, by omega, rfl⟩⟩
  unfold b_law_feed
  simp only [List.map_cons, List.map_nil, List.cons_append, List.nil_append]
  simp [cut_le h]
  simp [e, cut_le h, sizeLine_eq]
mutual
def samB : Nat → D → Bool
  | 0, _ => false
  | n + 1, .lst l => samL n l
  | n + 1, .tup l => samL n l
  | _ + 1, .non => true
  | _ + 1, .bl _ => true
  | _ + 1, .int _ => true
  | _ + 1, .str _ => true
  | _ + 1, _ => false
def samL : Nat → List D → Bool
  | _, [] => true
  | n, d :: l => samB n d && samL n l
end
theorem samL_mem : ∀ {n : Nat} {l : List D}, samL n l = true → ∀ d ∈ l, samB n d = true
  | n, e :: l, h, d, hd => by
    rw [samL, Bool.and_eq_true] at h
    rcases List.mem_cons.mp hd with rfl | hd
    · exact h.1
    · exact samL_mem h.2 d hd
theorem blsOf_rep : ∀ (n : Nat), blsOf (List.replicate n (.bl true)) = some (List.replicate n true)
  | 0 => rfl
  | n + 1 => by rw [List.replicate_succ, blsOf, blsOf_rep n]; rfl
theorem same_lists {n : Nat} {η : List O} : ∀ {l : List D} {δ : En}, 4 ≤ δ.length → (∀ d ∈ l, m_law_same n [d, d] η = .ok (.bl true) η) → compF (.tp [.nm 2, .nm 3]) fYes (fCall 2 (m_law_same n) (fCons (fV 2) (fCons (fV 3) fNil))) δ (zipD l l) η = .ok (List.replicate l.length (.bl true)) η
  | [], _, _, _ => rfl
  | d :: l, δ, hδ, h => by
    have ih := same_lists (l := l) hδ fun e he => h e (List.mem_cons_of_mem _ he)
    have e : zipD (d :: l) (d :: l) = .tup [d, d] :: zipD l l := rfl
    rw [e, compF]
    have g2 : ((δ.set 2 (some (.val d))).set 3 (some (.val d)))[2]? = some (some (.val d)) := by
      rw [List.getElem?_set_ne (by decide), List.getElem?_set_self (by omega)]
    have g3 : ((δ.set 2 (some (.val d))).set 3 (some (.val d)))[3]? = some (some (.val d)) := by
      rw [List.getElem?_set_self (by rw [List.length_set]; omega)]
    simp [g2, g3, h d (List.mem_cons_self ..), ih, List.replicate_succ]
theorem same_ok : ∀ {n : Nat} {d : D} {η : List O}, samB n d = true → m_law_same n [d, d] η = .ok (.bl true) η
  | 0, d, η, h => by simp [samB] at h
  | n + 1, d, η, h => by
    have hl : ∀ u ∈ ["list", "tuple", "str", "bool", "int"], isD u d = some (.bl (isTy u d)) := fun u hu => isD_of hu (by cases d <;> first | (simp [samB] at h; done) | simp [D.ty])
    have hl2 : isD2 "list" "tuple" d = some (.bl (isTy "list" d || isTy "tuple" d)) := isD2_of (by decide) (by decide) (by cases d <;> first | (simp [samB] at h; done) | simp [D.ty])
    have i1 := hl "list" (by decide)
    have i2 := hl "tuple" (by decide)
    have i3 := hl "str" (by decide)
    have i4 := hl "bool" (by decide)
    rw [m_law_same]
    refine run_rt2 rfl ?_
    cases d with
    | lst l =>
      have q := same_lists (n := n) (η := η) (l := l) (δ := [some (.val (.lst l)), some (.val (.lst l)), none, none]) (Nat.le_refl 4) fun e he => same_ok (samL_mem (by simpa [samB] using h) e he)
      simp [i1, i2, hl2, isTy, D.ty, wipeD, q, allC, blsOf_rep]
    | tup l =>
      have q := same_lists (n := n) (η := η) (l := l) (δ := [some (.val (.tup l)), some (.val (.tup l)), none, none]) (Nat.le_refl 4) fun e he => same_ok (samL_mem (by simpa [samB] using h) e he)
      simp [i1, i2, hl2, isTy, D.ty, wipeD, q, allC, blsOf_rep]
    | non => simp [i1, i2, i3, i4, hl2, isTy, D.ty]
    | bl b => simp [i1, i2, i3, i4, hl2, isTy, D.ty]
    | int b => simp [i1, i2, i3, i4, hl2, isTy, D.ty]
    | str b => simp [i1, i2, i3, i4, hl2, isTy, D.ty]
    | _ => simp [samB] at h
end DL
namespace DL
open PySem L2
/-! ### texts -/
abbrev one (c : Nat) : D := .str ⟨#[c]⟩
theorem strsOf_ones : ∀ cs : List Nat, strsOf (cs.map one) = some ((cs.map fun c => [c]).map SX.S)
  | [] => rfl
  | c :: cs => by rw [List.map_cons, strsOf, strsOf_ones cs]; rfl
theorem joinL_ones : ∀ cs : List Nat, TL.joinL [] (cs.map fun c => [c]) = cs
  | [] => rfl
  | [c] => rfl
  | c :: d :: cs => by
    have := joinL_ones (d :: cs)
    rw [List.map_cons] at this
    rw [List.map_cons, List.map_cons, TL.joinL, this]
    rfl
theorem sum_ones : ∀ cs : List Nat, ((cs.map fun c => [c]).map (·.length)).sum = cs.length
  | [] => rfl
  | c :: cs => by have := sum_ones cs; simp only [List.map_cons, List.sum_cons, List.length_cons, this] ; simp; omega
theorem joinS_ones {cs : List Nat} (h : cs.length ≤ 16777216) : joinS "" (.lst (cs.map one)) = some (.str (SX.S cs)) := by
  unfold joinS
  dsimp only
  rw [strsOf_ones]
  dsimp only
  have e : ("" : Str) = SX.S [] := rfl
  rw [SX.lens, sum_ones]
  have e2 : ("" : Str).length = 0 := rfl
  rw [e2, Nat.mul_zero, Nat.add_zero, if_pos h, e, SX.join_S, joinL_ones]
theorem ones_of {l : List D} {p : Nat → Prop} (h : ∀ d ∈ l, ∃ c, p c ∧ d = one c) : ∃ cs : List Nat, l = cs.map one ∧ ∀ c ∈ cs, p c := by
  induction l with
  | nil => exact ⟨[], rfl, by simp⟩
  | cons d l ih =>
    obtain ⟨cs, rfl, q⟩ := ih fun e he => h e (List.mem_cons_of_mem _ he)
    obtain ⟨c, hc, rfl⟩ := h d (List.mem_cons_self ..)
    refine ⟨c :: cs, rfl, fun x hx => ?_⟩
    rcases List.mem_cons.mp hx with rfl | hx
    · exact hc
    · exact q x hx
theorem cut_lo {z : Str} {k : Int} (h : 0 ≤ k) (h2 : k ≤ z.length) : cutS z none (some k) = SX.S (z.cps.toList.take k.toNat) := by
  unfold cutS
  have e1 : HT.sIx z.length 0 none = 0 := rfl
  have e2 : HT.sIx z.length z.length (some k) = k.toNat := by
    have : ¬ k < 0 := by omega
    simp [HT.sIx, this]; omega
  rw [e1, e2]
  rfl
theorem cut_hi {z : Str} {k : Int} (h : 0 ≤ k) (h2 : k ≤ z.length) : cutS z (some k) none = SX.S (z.cps.toList.drop k.toNat) := by
  unfold cutS
  have e1 : HT.sIx z.length z.length none = z.length := rfl
  have e2 : HT.sIx z.length 0 (some k) = k.toNat := by
    have : ¬ k < 0 := by omega
    simp [HT.sIx, this]; omega
  rw [e1, e2]
  have : List.take (z.length - k.toNat) (z.cps.toList.drop k.toNat) = z.cps.toList.drop k.toNat := List.take_of_length_le (by simp [Str.length])
  rw [this]
/-! ### comprehensions that pick -/
theorem comp_st2 {t : Tg} {ft : F Bool} {fe : F D} {δw : En} (P : List O → Prop) (Q : D → Prop) : ∀ {ds : List D} {η : List O}, P η → (∀ x ∈ ds, ∀ η, P η → ∃ δ1, asg t x δw = some δ1 ∧ ft δ1 η = .ok true η ∧ ∃ y η', fe δ1 η = .ok y η' ∧ P η' ∧ Q y) →
    ∃ ys η', compF t ft fe δw ds η = .ok ys η' ∧ P η' ∧ ys.length = ds.length ∧ ∀ y ∈ ys, Q y
  | [], η, h, _ => ⟨[], η, rfl, h, rfl, by simp⟩
  | x :: r, η, h, hs => by
    obtain ⟨δ1, e1, e2, y, η1, e3, h1, q1⟩ := hs x (List.mem_cons_self ..) η h
    obtain ⟨ys, η2, e4, h2, l2, q2⟩ := comp_st2 P Q (ds := r) h1 fun z hz => hs z (List.mem_cons_of_mem _ hz)
    refine ⟨y :: ys, η2, ?_, h2, by simp [l2], fun a ha => ?_⟩
    · rw [compF, e1]
      simp only [e2, e3, e4, nox_ok, bind_ok, if_true]
    · rcases List.mem_cons.mp ha with rfl | ha
      · exact q1
      · exact q2 a ha
/-! ### the feed behind some first objects -/
theorem get_fp {fp r : List O} {o : O} : (fp ++ o :: r)[fp.length]? = some o := by simp
theorem set_fp {fp r : List O} {o o' : O} : (fp ++ o :: r).set fp.length o' = fp ++ o' :: r := by simp
theorem pick0 {fp r : List O} {o : O} (hf : Feed o) (m : Int) (h0 : 0 < m) (h1 : m < 1073741824) : ∃ k o', m_law_pick [.obj fp.length, .int m] (fp ++ o :: r) = .ok (.int k) (fp ++ o' :: r) ∧ Feed o' ∧ 0 ≤ k ∧ k < m := by
  obtain ⟨k, o', e, f⟩ := pick_ok (η := fp ++ o :: r) (n := fp.length) get_fp hf h0 h1
  rw [set_fp] at e
  exact ⟨k, o', e, f⟩
theorem of0 {fp r : List O} {o : O} (hf : Feed o) (l : List D) (h0 : 0 < l.length) (h1 : l.length < 1073741824) : ∃ d o', m_law_of [.obj fp.length, .lst l] (fp ++ o :: r) = .ok d (fp ++ o' :: r) ∧ Feed o' ∧ d ∈ l := by
  obtain ⟨k, o', e, f⟩ := of_ok (η := fp ++ o :: r) (n := fp.length) get_fp hf h0 h1
  rw [set_fp] at e
  exact ⟨k, o', e, f⟩
theorem ofS0 {fp r : List O} {o : O} (hf : Feed o) (z : Str) (h0 : 0 < z.length) (h1 : z.length ≤ sizeLine) : ∃ c o', m_law_of [.obj fp.length, .str z] (fp ++ o :: r) = .ok (.str ⟨#[c]⟩) (fp ++ o' :: r) ∧ Feed o' ∧ c ∈ z.cps.toList := by
  obtain ⟨k, o', e, f⟩ := ofS_ok (η := fp ++ o :: r) (n := fp.length) get_fp hf h0 h1
  rw [set_fp] at e
  exact ⟨k, o', e, f⟩
theorem same0 {d e : D} {η : List O} (h : samB 12 d = true) (he : e = d) : m_law_same 12 [d, e] η = .ok (.bl true) η := by subst he; exact same_ok h
/-! ### names -/
def lowB (c : Nat) : Bool := !(Builtin.Str.occurrences "abcdefghijklmnopqrstuvwxyz" ⟨#[c]⟩ 0 26 1).isEmpty
def nameB (z : Str) : Bool := decide (1 ≤ z.length) && decide (z.length ≤ 8) && z.cps.toList.all lowB
theorem blsOf_map {α : Type} (f : α → Bool) : ∀ l : List α, blsOf (l.map fun x => .bl (f x)) = some (l.map f)
  | [] => rfl
  | x :: l => by rw [List.map_cons, blsOf, blsOf_map f l]; rfl
theorem low_in : ∀ c ∈ ("abcdefghijklmnopqrstuvwxyz" : Str).cps.toList, lowB c = true := by decide +kernel
theorem name_ok {z : Str} {η : List O} (hz : z.length ≤ sizeLine) : m_is_name [.str z] η = .ok (.bl (nameB z)) η := by
  refine run_rt2 rfl ?_
  unfold b_is_name
  have hc : compF (.nm 1) fYes (fOp inD (fV 1) (fC (.str "abcdefghijklmnopqrstuvwxyz"))) [some (.val (.str z)), none] (signsD z) η = .ok ((z.cps.toList.map lowB).map .bl) η := by
    have := comp_map (t := .nm 1) (ft := fYes) (fe := fOp inD (fV 1) (fC (.str "abcdefghijklmnopqrstuvwxyz"))) (δw := [some (.val (.str z)), none]) (η := η) (g := fun d => match d with | .str y => .bl (!(Builtin.Str.occurrences "abcdefghijklmnopqrstuvwxyz" y 0 26 1).isEmpty) | _ => .non) (ds := signsD z) fun x hx => by
      obtain ⟨c, _, rfl⟩ := List.mem_map.mp hx
      exact ⟨_, asg_nm, rfl, rfl⟩
    rw [this]
    unfold signsD
    rw [List.map_map, List.map_map]
    rfl
  have hb := blsOf_map lowB z.cps.toList
  have hb2 : (z.cps.toList.map lowB).map D.bl = z.cps.toList.map fun x => .bl (lowB x) := by rw [List.map_map]; rfl
  by_cases h1 : 1 ≤ z.length
  · by_cases h2 : z.length ≤ 8
    · have i1 : (1:Int) ≤ z.length := by omega
      have i2 : (z.length:Int) ≤ 8 := by omega
      simp only [hz, i1, i2, wipeD, hc, allC, nameB, hb, hb2, sRet_a, fAnd_a, fCh_a, fC_a, bind_ok, fCall1_a, fV_a, List.getElem?_cons_zero, List.map_cons, List.map_nil, List.cons_append, List.nil_append, lenD_s, if_true, lift_some, leD_ii, decide_true, h1, h2, fFrz_a, fLc_a, fiA_a, walkD_s, toS_ok, Option.map_some, Bool.true_and]
      simp [hc, hb, hb2, allC, wipeD]
    · have i1 : (1:Int) ≤ z.length := by omega
      have i2 : ¬ (z.length:Int) ≤ 8 := by omega
      simp [hz, i1, i2, h1, h2, nameB]
  · have i1 : ¬ (1:Int) ≤ z.length := by omega
    simp [hz, i1, h1, nameB]
end DL
namespace DL
open PySem L2
def b_law_mixed : S := (sSeq (sOwn 2 (fLstN fNil))
    (sSeq (sFor (fiA (fV 1)) (.nm 3) (sMut 2 muIns (fCons (fCall 2 m_law_pick (fCons (fV 0) (fCons (fOp addD (fCall1 lenD (fVo 2)) (fC (.int 1))) fNil))) (fCons (fV 3) fNil))))
    (sFz 2 (sRet (fV 2)))))
def m_law_mixed : DF := runD 4 b_law_mixed
def b_law_names : S := (sSeq (sSet 2 (fSl (fCall 2 m_law_mixed (fCons (fV 0) (fCons (fFrz (fLc [5] (fiA (fC (.str "abcdefghijklmnopqrstuvwxyz"))) (.nm 5) fYes (fV 5))) fNil))) fNoP (fPt (fV 1))))
    (sSeq (sSet 3 (fStrM joinS (fC (.str "")) (fFrz (fLc [6] (fiR1 (fCall 2 m_law_pick (fCons (fV 0) (fCons (fC (.int 8)) fNil)))) (.nm 6) fYes (fCall 2 m_law_of (fCons (fV 0) (fCons (fC (.str "abcdefghijklmnopqrstuvwxyz")) fNil)))))))
    (sSeq (sSet 4 (fCall 2 m_law_pick (fCons (fV 0) (fCons (fOp addD (fCall1 lenD (fV 3)) (fC (.int 1))) fNil))))
    (sRet (fFrz (fLc [5] (fiA (fV 2)) (.nm 5) fYes (fOp addD (fOp addD (fSl (fV 3) fNoP (fPt (fV 4))) (fV 5)) (fSl (fV 3) (fPt (fV 4)) fNoP))))))))
def m_law_names : DF := runD 7 b_law_names
def b_is_word_row : S := (sSeq (sAsg (fV 0) (.tp [(.nm 3), (.nm 4), (.nm 5)]))
    (sSeq (sIf (fOrB (fNotB (fTru (fCall 1 m_is_name (fCons (fV 3) fNil)))) (fOrB (toB (fOp inD (fV 3) (fDr (fV 2)))) (fNotB (toB (fCh leD leD (fC (.int 0)) (fV 5) (fC (.int 99))))))) (sRet (fC (.bl false))) SR.nx)
    (sSeq (sIf (fOrB (toB (fOp eqD (fCall1 lenD (fV 4)) (fC (.int 0)))) (fNotB (fTru (fCall1 allC (fFrz (fLc [6] (fiA (fV 4)) (.nm 6) fYes (fOp inD (fV 6) (fV 1)))))))) (sRet (fC (.bl false))) SR.nx)
    (sRet (fOp eqD (fLenSet (fFrz (fListN (fV 4)))) (fCall1 lenD (fV 4)))))))
def m_is_word_row : DF := runD 7 b_is_word_row
def b_Book___init__ : S := (sSeq (sIf (fNotB (toB (fCh leD leD (fC (.int 1)) (fCall1 lenD (fV 1)) (fC (.int 4))))) (sRaise1 20 "what" "WrongCount" (fC (.str "sorts"))) SR.nx)
    (sSeq (sOwn 4 (fLstN fNil))
    (sSeq (sFor (fiE (fV 1)) (.tp [(.nm 5), (.tp [(.nm 6), (.nm 7)])]) (sSeq (sIf (fOrB (fNotB (fTru (fCall 1 m_is_name (fCons (fV 6) fNil)))) (fOrB (toB (fOp inD (fV 6) (fVo 4))) (fNotB (toB (fCh leD leD (fC (.int 0)) (fV 7) (fC (.int 99))))))) (sRaise1 21 "at" "InvalidSort" (fV 5)) SR.nx)
    (sMut 4 muApp (fCons (fV 6) fNil))))
    (sFz 4 (sSeq (sIf (toB (fOp gtD (fCall1 lenD (fV 2)) (fC (.int 4)))) (sRaise1 20 "what" "WrongCount" (fC (.str "words"))) SR.nx)
    (sSeq (sSet 8 (fNewO (fLstN fNil)))
    (sSeq (sFor (fiE (fV 2)) (.tp [(.nm 5), (.nm 9)]) (sSeq (sIf (fNotB (fTru (fCall 3 m_is_word_row (fCons (fV 9) (fCons (fV 4) (fCons (fV 8) fNil)))))) (sRaise1 22 "at" "InvalidWord" (fV 5)) SR.nx)
    (sMutO muApp (fV 8) (fCons (fOp ixD (fV 9) (fC (.int 0))) fNil))))
    (sSeq (sIf (fAndB (toB (fOp notN (fV 3) (fC .non))) (fNotB (toB (fCh leD leD (fC (.int 1)) (fV 3) (fC (.int 4)))))) (sRaise1 23 "given" "InvalidMemory" (fV 3)) SR.nx)
    (sSeq (sFldN 0 [] ["sort_rows"] (fFrz (fLc [6, 7] (fiA (fV 1)) (.tp [(.nm 6), (.nm 7)]) fYes (fTup (fCons (fV 6) (fCons (fV 7) fNil))))) (fV 0))
    (sSeq (sFldN 0 ["sort_rows"] ["sort_rows", "word_rows"] (fFrz (fLc [6, 10, 7] (fiA (fV 2)) (.tp [(.nm 6), (.nm 10), (.nm 7)]) fYes (fTup (fCons (fV 6) (fCons (fCall1 tupC (fFrz (fLc [11] (fiA (fV 4)) (.nm 11) (toB (fOp inD (fV 11) (fV 10))) (fV 11)))) (fCons (fV 7) fNil)))))) (fV 0))
    (sFldN 0 ["sort_rows", "word_rows"] ["sort_rows", "word_rows", "own_memory"] (fV 3) (fV 0))))))))))))
def m_Book___init__ : DF := runD 12 b_Book___init__
def b_Book___contains__ : S := (sRet (fOp inD (fV 1) (fFrz (fLc [2] (fiA (fFld 0 ["sort_rows", "word_rows", "own_memory"] 1 (fV 0))) (.nm 2) fYes (fOp ixD (fV 2) (fC (.int 0)))))))
def m_Book___contains__ : DF := runD 3 b_Book___contains__
def b_Book_sort_names : S := (sRet (fFrz (fLc [1, 2] (fiA (fFld 0 ["sort_rows", "word_rows", "own_memory"] 0 (fV 0))) (.tp [(.nm 1), (.nm 2)]) fYes (fV 1))))
def m_Book_sort_names : DF := runD 3 b_Book_sort_names
def b_Book_memory : S := (sRet (fFld 0 ["sort_rows", "word_rows", "own_memory"] 2 (fV 0)))
def m_Book_memory : DF := runD 1 b_Book_memory
def b_Book_word_row : S := (sSeq (sFor (fiA (fFld 0 ["sort_rows", "word_rows", "own_memory"] 1 (fV 0))) (.nm 2) (sIf (toB (fOp eqD (fOp ixD (fV 2) (fC (.int 0))) (fV 1))) (sRet (fV 2)) SR.nx))
    (sRaise1 41 "name" "UnknownWord" (fV 1)))
def m_Book_word_row : DF := runD 3 b_Book_word_row
def b_is_thing : S := (sSeq (sAsg (fV 1) (.tp [(.nm 2), (.nm 3)]))
    (sRet (fAnd (fOp inD (fV 2) (fMeth 0 ["sort_rows", "word_rows", "own_memory"] 1 0 1 m_Book_sort_names [0] [] (fV 0) fNil fNil)) (fOp geD (fV 3) (fC (.int 0))))))
def m_is_thing : DF := runD 4 b_is_thing
def b_check_utterance : S := (sFor (fiE (fV 1)) (.tp [(.nm 2), (.nm 3)]) (sSeq (sSet 4 (fIf (fTru (fCall1 (isD "str") (fV 3))) (fInM 0 2 m_Book___contains__ false (fV 3) (fV 0)) (fCall 2 m_is_thing (fCons (fV 0) (fCons (fV 3) fNil)))))
    (sIf (fNotB (fTru (fV 4))) (sRaise1 26 "at" "InvalidItem" (fV 2)) SR.nx)))
def m_check_utterance : DF := runD 5 b_check_utterance
def b_aged : S := (sSeq (sIf (toB (fOp isN (fProp 0 1 m_Book_memory (fV 0)) (fC .non))) (sRet (fFrz (fLc [2, 3] (fiA (fV 1)) (.tp [(.nm 2), (.nm 3)]) fYes (fTup (fCons (fV 2) (fCons (fOp addD (fV 3) (fC (.int 1))) fNil)))))) SR.nx)
    (sRet (fFrz (fLc [2, 3] (fiA (fV 1)) (.tp [(.nm 2), (.nm 3)]) (toB (fOp ltD (fV 3) (fProp 0 1 m_Book_memory (fV 0)))) (fTup (fCons (fV 2) (fCons (fOp addD (fV 3) (fC (.int 1))) fNil)))))))
def m_aged : DF := runD 4 b_aged
def b_taken_for : S := (sSeq (sSet 3 (fOp ixD (fMethX 0 ["sort_rows", "word_rows", "own_memory"] 2 0 2 m_Book_word_row [0, 1] [] (fV 0) (fCons (fV 2) fNil) fNil) (fC (.int 1))))
    (sSeq (sFor (fiA (fV 1)) (.tp [(.nm 4), (.nm 5)]) (sIf (toB (fOp inD (fOp ixD (fV 4) (fC (.int 0))) (fV 3))) (sRet (fV 4)) SR.nx))
    (sRet (fC .non))))
def m_taken_for : DF := runD 6 b_taken_for
def b_moved_front : S := (sRet (fFrz (fLstN (fCons (fTup (fCons (fV 1) (fCons (fC (.int 0)) fNil))) (fStar (fFrz (fLc [2] (fiA (fV 0)) (.nm 2) (toB (fOp neD (fOp ixD (fV 2) (fC (.int 0))) (fV 1))) (fV 2))) fNil)))))
def m_moved_front : DF := runD 3 b_moved_front
def b_Listener___init__ : S := (sSeq (sFldN 1 [] ["own_book"] (fV 1) (fV 0))
    (sSeq (sFldN 1 ["own_book"] ["own_book", "own_kept"] (fFrz (fLstN fNil)) (fV 0))
    (sSeq (sFldN 1 ["own_book", "own_kept"] ["own_book", "own_kept", "own_heard"] (fC (.int 0)) (fV 0))
    (sSeq (sFldN 1 ["own_book", "own_kept", "own_heard"] ["own_book", "own_kept", "own_heard", "own_lost"] (fC (.int 0)) (fV 0))
    (sFldN 1 ["own_book", "own_kept", "own_heard", "own_lost"] ["own_book", "own_kept", "own_heard", "own_lost", "own_past"] (fNewO (fLstN fNil)) (fV 0))))))
def m_Listener___init__ : DF := runD 2 b_Listener___init__
def b_Listener_hear : S := (sSeq (sDrop (fCallX 2 m_check_utterance (fCons (fFld 1 ["own_book", "own_kept", "own_heard", "own_lost", "own_past"] 0 (fV 0)) (fCons (fV 1) fNil))))
    (sSeq (sMutO muApp (fFld 1 ["own_book", "own_kept", "own_heard", "own_lost", "own_past"] 4 (fV 0)) (fCons (fTup (fCons (fFld 1 ["own_book", "own_kept", "own_heard", "own_lost", "own_past"] 1 (fV 0)) (fCons (fFld 1 ["own_book", "own_kept", "own_heard", "own_lost", "own_past"] 2 (fV 0)) (fCons (fFld 1 ["own_book", "own_kept", "own_heard", "own_lost", "own_past"] 3 (fV 0)) fNil)))) fNil))
    (sSeq (sParN 2 3 (fCall 2 m_aged (fCons (fFld 1 ["own_book", "own_kept", "own_heard", "own_lost", "own_past"] 0 (fV 0)) (fCons (fFld 1 ["own_book", "own_kept", "own_heard", "own_lost", "own_past"] 1 (fV 0)) fNil))) (fLstN fNil))
    (sSeq (sFor (fiA (fV 1)) (.nm 4) (sSeq (sSet 5 (fIf (fTru (fCall1 (isD "str") (fV 4))) (fCallX 3 m_taken_for (fCons (fFld 1 ["own_book", "own_kept", "own_heard", "own_lost", "own_past"] 0 (fV 0)) (fCons (fV 2) (fCons (fV 4) fNil)))) (fTup (fCons (fOp ixD (fV 4) (fC (.int 0))) (fCons (fOp ixD (fV 4) (fC (.int 1))) fNil)))))
    (sSeq (sMut 3 muApp (fCons (fV 5) fNil))
    (sIf (toB (fOp notN (fV 5) (fC .non))) (sSet 2 (fCall 2 m_moved_front (fCons (fV 2) (fCons (fV 5) fNil)))) SR.nx))))
    (sFz 3 (sSeq (sFldO 1 ["own_book", "own_kept", "own_heard", "own_lost", "own_past"] 1 (fV 2) (fV 0))
    (sSeq (sFldA 1 ["own_book", "own_kept", "own_heard", "own_lost", "own_past"] 2 (fV 0) (fC (.int 1)))
    (sSeq (sFldA 1 ["own_book", "own_kept", "own_heard", "own_lost", "own_past"] 3 (fV 0) (fCall1 lenD (fFrz (fLc [5] (fiA (fV 3)) (.nm 5) (toB (fOp isN (fV 5) (fC .non))) (fV 5)))))
    (sRet (fV 3))))))))))
def m_Listener_hear : DF := runD 6 b_Listener_hear
def b_Listener_would_take : S := (sRet (fCallX 3 m_taken_for (fCons (fFld 1 ["own_book", "own_kept", "own_heard", "own_lost", "own_past"] 0 (fV 0)) (fCons (fCall 2 m_aged (fCons (fFld 1 ["own_book", "own_kept", "own_heard", "own_lost", "own_past"] 0 (fV 0)) (fCons (fFld 1 ["own_book", "own_kept", "own_heard", "own_lost", "own_past"] 1 (fV 0)) fNil))) (fCons (fV 1) fNil)))))
def m_Listener_would_take : DF := runD 2 b_Listener_would_take
def b_Listener_kept : S := (sRet (fFrz (fListN (fFld 1 ["own_book", "own_kept", "own_heard", "own_lost", "own_past"] 1 (fV 0)))))
def m_Listener_kept : DF := runD 1 b_Listener_kept
def b_Listener_lost : S := (sRet (fFld 1 ["own_book", "own_kept", "own_heard", "own_lost", "own_past"] 3 (fV 0)))
def m_Listener_lost : DF := runD 1 b_Listener_lost
def b_Listener_heard : S := (sRet (fFld 1 ["own_book", "own_kept", "own_heard", "own_lost", "own_past"] 2 (fV 0)))
def m_Listener_heard : DF := runD 1 b_Listener_heard
end DL
namespace DL
open PySem L2
/-! ### combinators of the class layer, applied -/
section
variable {δ : En} {η : List O} {f fa fb fo : F D} {fs fk fr : F (List D)} {a b : S} {i n c : Nat} {d : D} {df : DF} {NS NS' : List Str} {ix : List Nat} {dv : List D} {mu : List D → List D → Option (List D)}
@[simp] theorem insD_a {m : Nat} : insD η c NS (.obj m) = (match η[m]? with | some (.ins c' ns l) => if c' = c ∧ ns = NS then some (m, l) else none | _ => none) := rfl
@[simp] theorem insC_a {m : Nat} : insC η c (.obj m) = (match η[m]? with | some (.ins c' _ _) => decide (c' = c) | _ => false) := rfl
@[simp] theorem fFld_a : fFld c NS i fo δ η = (fo δ η).bind fun d η => (match insD η c NS d with | some (_, l) => (match l[i]? with | some x => .ok x η | none => .bad) | none => .bad) := rfl
@[simp] theorem sFldN_a : sFldN c NS NS' f fo δ η = (f δ η).toS δ fun d η => (fo δ η).toS δ fun o η => (match insD η c NS o with | some (n, l) => .nx δ (η.set n (.ins c NS' (l ++ [d]))) | none => .bad) := rfl
@[simp] theorem sFldO_a : sFldO c NS i f fo δ η = (f δ η).toS δ fun d η => (fo δ η).toS δ fun o η => (match insD η c NS o with | some (n, l) => .nx δ (η.set n (.ins c NS (l.set i d))) | none => .bad) := rfl
@[simp] theorem sFldA_a : sFldA c NS i fo f δ η = (fo δ η).toS δ fun o η => (match insD η c NS o with | some (_, l) => (match l[i]? with | some (.int x) => (f δ η).toS δ fun d η => (match insD η c NS o, d with | some (n, l), .int y => .nx δ (η.set n (.ins c NS (l.set i (.int (x + y))))) | _, _ => .bad) | _ => .bad) | none => .bad) := rfl
@[simp] theorem argK_a {np nk : Nat} {ds es : List D} : argK np nk n df ix dv ds es η = if ds.length = np ∧ es.length = nk then (arg n df (pick ix (ds ++ es ++ dv)) η).nox else .bad := rfl
@[simp] theorem fMeth_a {np nk : Nat} : fMeth c NS np nk n df ix dv fo fs fk δ η = (fo δ η).bind fun d η => (match insD η c NS d with | some _ => (fs δ η).bind fun ds η => (fk δ η).bind fun es η => argK np nk n df ix dv (d :: ds) es η | none => .bad) := rfl
@[simp] theorem fNewI_a {np nk : Nat} : fNewI c np nk n df ix dv fs fk δ η = (fs δ η).bind fun ds η => (fk δ η).bind fun es η' => (argK np nk n df ix dv (.obj η'.length :: ds) es (η' ++ [.ins c [] []])).bind fun z η2 => (match z with | .non => .ok (.obj η'.length) η2 | _ => .bad) := rfl
@[simp] theorem argKX_a {np nk : Nat} {ds es : List D} : argKX np nk n df ix dv ds es η = if ds.length = np ∧ es.length = nk then arg n df (pick ix (ds ++ es ++ dv)) η else .bad := rfl
@[simp] theorem fMethX_a {np nk : Nat} : fMethX c NS np nk n df ix dv fo fs fk δ η = (fo δ η).bind fun d η => (match insD η c NS d with | some _ => (fs δ η).bind fun ds η => (fk δ η).bind fun es η => argKX np nk n df ix dv (d :: ds) es η | none => .bad) := rfl
@[simp] theorem fNewIX_a {np nk : Nat} : fNewIX c np nk n df ix dv fs fk δ η = (fs δ η).bind fun ds η => (fk δ η).bind fun es η' => (argKX np nk n df ix dv (.obj η'.length :: ds) es (η' ++ [.ins c [] []])).bind fun z η2 => (match z with | .non => .ok (.obj η'.length) η2 | _ => .bad) := rfl
@[simp] theorem fCallX_a {m : DF} : fCallX n m fs δ η = (fs δ η).bind fun ds η => arg n m ds η := rfl
@[simp] theorem fCallKX_a {np nk : Nat} {m : DF} : fCallKX np nk n m ix fs fk δ η = (fs δ η).bind fun ds η => (fk δ η).bind fun es η => if ds.length = np ∧ es.length = nk then arg n m (pick ix (ds ++ es)) η else .bad := rfl
@[simp] theorem sRaise1_a {x g : Str} : sRaise1 c g x f δ η = (f δ η).toS δ fun d η => .exc c [g, "code"] [d, .str x] δ η := rfl
@[simp] theorem sRaise0_a {x : Str} : sRaise0 c x δ η = .exc c ["code"] [.str x] δ η := rfl
@[simp] theorem fProp_a : fProp c n df fo δ η = (fo δ η).bind fun d η => if insC η c d = true then (arg n df [d] η).nox else .bad := rfl
@[simp] theorem fInM_a {neg : Bool} : fInM c n df neg fa fb δ η = (fa δ η).bind fun d η => (fb δ η).bind fun o η => if insC η c o = true then ((arg n df [o, d] η).nox).bind fun z η => (match z with | .bl b => .ok (.bl (neg != b)) η | _ => .bad) else .bad := rfl
@[simp] theorem fStar_a : fStar fa fr δ η = (fa δ η).bind fun d η => (match d with | .lst l => (fr δ η).bind fun ds η => .ok (l ++ ds) η | .tup l => (fr δ η).bind fun ds η => .ok (l ++ ds) η | _ => .bad) := rfl
@[simp] theorem sMut_a : sMut i mu fs δ η = (match δ[i]? with | some (some (.own l)) => (fs δ η).toS δ fun ds η => (match mu l ds with | some l2 => .nx (δ.set i (some (.own l2))) η | none => .bad) | _ => .bad) := rfl
@[simp] theorem sMutO_a : sMutO mu fo fs δ η = (fo δ η).toS δ fun d η => (match d with | .obj n => (match η[n]? with | some (.lst _) => (fs δ η).toS δ fun ds η => (match η[n]? with | some (.lst l) => (match mu l ds with | some l2 => .nx δ (η.set n (.lst l2)) | none => .bad) | _ => .bad) | _ => .bad) | _ => .bad) := rfl
@[simp] theorem sParN_a {j : Nat} : sParN i j fa fs δ η = (fa δ η).toS δ fun d η => (fs δ η).toS δ fun l η => .nx ((δ.set i (some (.val d))).set j (some (.own l))) η := rfl
@[simp] theorem sFz_a : sFz i a δ η = (match δ[i]? with | some (some (.own l)) => a (δ.set i (some (.val (.lst l)))) η | _ => a δ η) := rfl
@[simp] theorem fDr_a : fDr fa δ η = (fa δ η).bind fun d η => (match d with | .obj n => (match η[n]? with | some (.lst l) => .ok (.lst l) η | _ => .ok d η) | _ => .ok d η) := rfl
@[simp] theorem fLenSet_a : fLenSet fa δ η = (fa δ η).bind fun d η => (match d with | .lst l => (match strsOf l with | some xs => if xs.length ≤ 1000 then .ok (.int (cnt xs xs.length : Nat)) η else .bad | none => .bad) | .tup l => (match strsOf l with | some xs => if xs.length ≤ 1000 then .ok (.int (cnt xs xs.length : Nat)) η else .bad | none => .bad) | _ => .bad) := rfl
@[simp] theorem fBad_a : fBad δ η = .bad := rfl
@[simp] theorem sBad_a : sBad δ η = .bad := rfl
@[simp] theorem muApp_a {l : List D} : muApp l [d] = if l.length < sizeLine then some (l ++ [d]) else none := rfl
@[simp] theorem muClr_a {l : List D} : muClr l [] = some [] := rfl
@[simp] theorem muIns_a {l : List D} {i : Int} : muIns l [.int i, d] = if l.length < sizeLine ∧ 0 ≤ i ∧ i < 2 ^ 63 then some (l.take i.toNat ++ [d] ++ l.drop i.toNat) else none := rfl
@[simp] theorem tupC_l {l : List D} : tupC (.lst l) = some (.tup l) := rfl
end
@[simp] theorem pick_nil {α : Type} {l : List α} : pick [] l = [] := rfl
@[simp] theorem pick_cons {α : Type} {l : List α} {i : Nat} {ix : List Nat} : pick (i :: ix) l = (match l[i]? with | some x => x :: pick ix l | none => pick ix l) := by
  unfold pick
  rw [List.filterMap_cons]
  cases l[i]? <;> rfl
/-! ### the helpers of the laws: a mixed list, names -/
theorem mixed_ok {fp r : List O} {o : O} {l : List D} (hf : Feed o) (hl : l.length ≤ 1000) : ∃ l2 o', m_law_mixed [.obj fp.length, .lst l] (fp ++ o :: r) = .ok (.lst l2) (fp ++ o' :: r) ∧ Feed o' ∧ l2.Perm l := by
  have hsz : ∀ n : Nat, n ≤ 1000 → n < sizeLine := fun n h => by rw [sizeLine_eq]; omega
  generalize hb : (sMut 2 muIns (fCons (fCall 2 m_law_pick (fCons (fV 0) (fCons (fOp addD (fCall1 lenD (fVo 2)) (fC (.int 1))) fNil))) (fCons (fV 3) fNil))) = b
  obtain ⟨δ', η', e, o', acc, y, rfl, hf', rfl, hp⟩ := loop_inv (t := .nm 3) (b := b) (P := fun ds δ η => ∃ (o : O) (acc : List D) (y : Option L), η = fp ++ o :: r ∧ Feed o ∧ δ = [some (.val (.obj fp.length)), some (.val (.lst l)), some (.own acc), y] ∧ (acc ++ ds).Perm l) (ds := l) (δ := [some (.val (.obj fp.length)), some (.val (.lst l)), some (.own []), none]) (η := fp ++ o :: r) ⟨o, [], _, rfl, hf, rfl, List.Perm.refl _⟩ fun x ds δ η ⟨o, acc, y, h1, h2, h3, h4⟩ => by
    subst h1 h3 hb
    have hlen := h4.length_eq
    rw [List.length_append, List.length_cons] at hlen
    obtain ⟨k, o2, e2, f2, k0, k1⟩ := pick0 (fp := fp) (r := r) h2 (acc.length + 1) (by omega) (by omega)
    refine ⟨_, asg_nm, [some (.val (.obj fp.length)), some (.val (.lst l)), some (.own (acc.take k.toNat ++ [x] ++ acc.drop k.toNat)), some (.val x)], fp ++ o2 :: r, .inl ?_, o2, _, _, rfl, f2, rfl, ?_⟩
    · have h63 : k < 9223372036854775808 := by omega
      simp [e2, hsz acc.length (by omega), k0, h63]
    · refine List.Perm.trans ?_ h4
      have h5 : (acc.take k.toNat ++ [x] ++ acc.drop k.toNat).Perm (x :: acc) := by
        have := List.perm_middle (a := x) (l₁ := acc.take k.toNat) (l₂ := acc.drop k.toNat)
        rw [List.take_append_drop] at this
        simpa using this
      have h6 := h5.append_right ds
      refine h6.trans ?_
      exact (List.perm_middle (a := x) (l₁ := acc) (l₂ := ds)).symm
  refine ⟨acc, o', run_rt2 rfl ?_, hf', by simpa using hp⟩
  unfold b_law_mixed
  rw [hb]
  have z : (0 : Nat) ≤ sizeLine := Nat.zero_le _
  simp [e, z]
end DL
namespace DL
open PySem L2
abbrev az : Str := "abcdefghijklmnopqrstuvwxyz"
theorem az_nodup : az.cps.toList.Nodup := by decide +kernel
theorem az_len : az.cps.toList.length = 26 := by decide +kernel
theorem one_inj {c d : Nat} (h : one c = one d) : c = d := by
  have h1 : (⟨#[c]⟩ : Str) = ⟨#[d]⟩ := D.str.inj h
  have h2 : #[c] = #[d] := congrArg Str.cps h1
  simpa using h2
theorem cut_take {l : List D} {m : Nat} (h : m ≤ l.length) : cutD l none (some (m : Int)) = l.take m := by
  unfold cutD
  have e1 : HT.sIx l.length 0 none = 0 := rfl
  have e2 : HT.sIx l.length l.length (some (m : Int)) = m := by
    have : ¬ (m : Int) < 0 := by omega
    simp [HT.sIx, this]; omega
  rw [e1, e2]
  simp
/-- a name made of a stem and one letter at a spot -/
def mkName (a b : List Nat) (c : Nat) : Str := SX.S ((a ++ [c]) ++ b)
theorem mkName_inj {a b : List Nat} {c d : Nat} (h : mkName a b c = mkName a b d) : c = d := by
  have := SX.S_inj h
  have h2 := List.append_cancel_right this
  have h3 := List.append_cancel_left h2
  simpa using h3
structure Names (ns : List Str) : Prop where
  nd : ns.Nodup
  nm : ∀ z ∈ ns, nameB z = true ∧ z.length ≤ 8
theorem drawL {δ : En} {fp r : List O} {o : O} {i : Nat} {m : Int} (hf : Feed o) (h0 : δ[0]? = some (some (.val (.obj fp.length)))) (hm : 0 < m) (hm2 : m ≤ 1000) (hi : 0 < i) :
    ∃ cs o', (fStrM joinS (fC (.str "")) (fFrz (fLc [i] (fiR1 (fCall 2 m_law_pick (fCons (fV 0) (fCons (fC (.int m)) fNil)))) (.nm i) fYes (fCall 2 m_law_of (fCons (fV 0) (fCons (fC (.str "abcdefghijklmnopqrstuvwxyz")) fNil)))))) δ (fp ++ o :: r) = .ok (.str (SX.S cs)) (fp ++ o' :: r) ∧ Feed o' ∧ (cs.length : Int) < m ∧ cs.all lowB = true := by
  obtain ⟨k, o1, e1, f1, k0, k1⟩ := pick0 (fp := fp) (r := r) hf m hm (by omega)
  have g : ∀ x, ((wipeD δ [i]).set i (some (L.val x)))[0]? = some (some (.val (.obj fp.length))) := fun x => by
    have hne : ¬ i = 0 := by omega
    simp [wipeD, h0, List.getElem?_set, hne]
  obtain ⟨ys, η', e2, ⟨o2, rfl, f2⟩, hl, hq⟩ := comp_st2 (t := .nm i) (ft := fYes) (fe := fCall 2 m_law_of (fCons (fV 0) (fCons (fC (.str "abcdefghijklmnopqrstuvwxyz")) fNil))) (δw := wipeD δ [i]) (fun η => ∃ o, η = fp ++ o :: r ∧ Feed o) (fun d => ∃ c, c ∈ ("abcdefghijklmnopqrstuvwxyz" : Str).cps.toList ∧ d = one c) (ds := rngD 0 k.toNat) ⟨o1, rfl, f1⟩ fun x _ η ⟨o, e, f⟩ => by
    subst e
    obtain ⟨c, o', e3, f3, hc⟩ := ofS0 (fp := fp) (r := r) f "abcdefghijklmnopqrstuvwxyz" (by decide) (by decide)
    refine ⟨_, asg_nm, rfl, one c, fp ++ o' :: r, ?_, ⟨o', rfl, f3⟩, c, hc, rfl⟩
    simp [g x, e3]
  obtain ⟨cs, rfl, hcs⟩ := ones_of hq
  have hlen : (cs.length : Int) < m := by
    have := hl
    simp [rngD] at this
    omega
  refine ⟨cs, o2, ?_, f2, hlen, List.all_eq_true.mpr fun c hc => low_in c (hcs c hc)⟩
  have k2 : k ≤ 16777216 ∧ -16777216 ≤ k := by omega
  simp [h0, e1, e2, k2, joinS_ones (show cs.length ≤ 16777216 by omega)]
theorem names_ok {fp r : List O} {o : O} (hf : Feed o) {m : Nat} (hm : m ≤ 26) : ∃ ns o', m_law_names [.obj fp.length, .int m] (fp ++ o :: r) = .ok (.lst (ns.map .str)) (fp ++ o' :: r) ∧ Feed o' ∧ ns.length = m ∧ Names ns := by
  have zz : az.length ≤ sizeLine := by decide
  -- the letters
  have h1 : ∀ (δ : En) (η : List O), 5 < δ.length → compF (.nm 5) fYes (fV 5) δ (signsD az) η = .ok (az.cps.toList.map one) η := fun δ η h => by
    have := comp_map (t := .nm 5) (ft := fYes) (fe := fV 5) (δw := δ) (η := η) (g := fun d => d) (ds := signsD az) fun x hx => ⟨_, asg_nm, rfl, by simp [h]⟩
    rw [this, List.map_id']
    rfl
  obtain ⟨l2, o1, e1, f1, hp⟩ := mixed_ok (fp := fp) (r := r) (l := az.cps.toList.map one) hf (by rw [List.length_map, az_len]; omega)
  obtain ⟨cs2, rfl, hc2⟩ := ones_of (l := l2) (p := fun c => c ∈ az.cps.toList) fun d hd => by
    obtain ⟨c, hc, rfl⟩ := List.mem_map.mp (hp.mem_iff.mp hd)
    exact ⟨c, hc, rfl⟩
  have nd2 : cs2.Nodup := by
    have h := (hp.nodup_iff).mpr (List.Pairwise.map one (fun a b hab q => hab (one_inj q)) az_nodup)
    exact (List.pairwise_map.mp h).imp fun hab q => hab (by rw [q])
  have len2 : cs2.length = 26 := by
    have := hp.length_eq
    rw [List.length_map, List.length_map, az_len] at this
    exact this
  obtain ⟨st, o2, e2, f2, hs, hlow⟩ := drawL (fp := fp) (r := r) (i := 6) (m := 8) (δ := [some (.val (.obj fp.length)), some (.val (.int m)), some (.val (.lst ((cs2.take m).map one))), none, none, none, none]) f1 rfl (by decide) (by decide) (by decide)
  obtain ⟨k, o3, e3, f3, k0, k1⟩ := pick0 (fp := fp) (r := r) f2 (st.length + 1) (by omega) (by omega)
  have z1 : (SX.S st).length = st.length := SX.S_len st
  have z2 : st.length ≤ sizeLine := by rw [sizeLine_eq]; omega
  have c1 := cut_lo (z := SX.S st) k0 (by omega)
  have c2 := cut_hi (z := SX.S st) k0 (by omega)
  have e4 : (SX.S st).cps.toList = st := rfl
  rw [e4] at c1 c2
  have h2 : ∀ (δ : En) (η : List O), δ[3]? = some (some (.val (.str (SX.S st)))) → δ[4]? = some (some (.val (.int k))) → 5 < δ.length → compF (.nm 5) fYes (fOp addD (fOp addD (fSl (fV 3) fNoP (fPt (fV 4))) (fV 5)) (fSl (fV 3) (fPt (fV 4)) fNoP)) δ ((cs2.take m).map one) η = .ok (((cs2.take m).map (mkName (st.take k.toNat) (st.drop k.toNat))).map .str) η := fun δ η q3 q4 q5 => by
    have := comp_map (t := .nm 5) (ft := fYes) (fe := fOp addD (fOp addD (fSl (fV 3) fNoP (fPt (fV 4))) (fV 5)) (fSl (fV 3) (fPt (fV 4)) fNoP)) (δw := δ) (η := η) (g := fun d => match d with | .str y => .str (SX.S (st.take k.toNat) ++ y ++ SX.S (st.drop k.toNat)) | d => d) (ds := (cs2.take m).map one) fun x hx => by
      obtain ⟨c, _, rfl⟩ := List.mem_map.mp hx
      refine ⟨_, asg_nm, rfl, ?_⟩
      have l1 : (SX.S (st.take k.toNat)).length + (⟨#[c]⟩ : Str).length ≤ sizeLine := by rw [SX.S_len, sizeLine_eq]; simp [Str.length]; omega
      have l2 : (SX.S (st.take k.toNat) ++ (⟨#[c]⟩ : Str)).length + (SX.S (st.drop k.toNat)).length ≤ sizeLine := by
        rw [show SX.S (st.take k.toNat) ++ (⟨#[c]⟩ : Str) = SX.S (st.take k.toNat ++ [c]) from SX.S_cat _ _, SX.S_len, SX.S_len, sizeLine_eq]; simp; omega
      generalize SX.S (st.take k.toNat) = za at *
      generalize SX.S (st.drop k.toNat) = zb at *
      simp [q3, q4, q5, z1, z2, c1, c2, l1, l2]
    rw [this, List.map_map, List.map_map]
    congr 1
    refine List.map_congr_left fun c _ => ?_
    show D.str (SX.S (st.take k.toNat) ++ SX.S [c] ++ SX.S (st.drop k.toNat)) = _
    rw [SX.S_cat, SX.S_cat]; rfl
  refine ⟨(cs2.take m).map (mkName (st.take k.toNat) (st.drop k.toNat)), o3, run_rt2 (δ := [some (.val (.obj fp.length)), some (.val (.int m)), none, none, none, none, none]) rfl ?_, f3, by simp [len2, hm], ⟨?_, ?_⟩⟩
  · unfold b_law_names
    have hcut : cutD (cs2.map one) none (some (m : Int)) = (cs2.take m).map one := by rw [cut_take (by simp [len2, hm]), List.map_take]
    have h1' := h1 (wipeD [some (.val (.obj fp.length)), some (.val (.int m)), none, none, none, none, none] [5]) (fp ++ o :: r) (by show 5 < 7; decide)
    have h2' := h2 (wipeD [some (.val (.obj fp.length)), some (.val (.int m)), some (.val (.lst ((cs2.take m).map one))), some (.val (.str (SX.S st))), some (.val (.int k)), none, none] [5]) (fp ++ o3 :: r) rfl rfl (by show 5 < 7; decide)
    generalize hg : cs2.take m = cs3 at *
    have zz' : (Str.length "abcdefghijklmnopqrstuvwxyz") ≤ sizeLine := zz
    simp only [az] at h1' e1
    simp only [sSeq_a, sSet_a, fSl_a, fCall_a, fCons_a, fV_a, List.getElem?_cons_zero, List.getElem?_cons_succ, bind_ok, fFrz_a, fLc_a, fiA_a, fC_a, walkD_s, if_pos zz', lift_some, fNil_a, if_true, h1', arg_a, List.length_cons, List.length_nil, e1, nox_ok, fNoP_a, fPt_a, slD_l, hcut, toS_ok, seq_nx, List.set_cons_succ, List.set_cons_zero, e2, sRet_a]
    simp [e2, e3, z1, z2, h2']
  · exact List.Pairwise.map _ (fun a b hab q => hab (mkName_inj q)) (nd2.sublist (List.take_sublist _ _))
  · intro z hz
    obtain ⟨c, hc, rfl⟩ := List.mem_map.mp hz
    have hcl : lowB c = true := low_in c (hc2 c (List.mem_of_mem_take hc))
    have hl : (mkName (st.take k.toNat) (st.drop k.toNat) c).length = st.length + 1 := by
      unfold mkName; rw [SX.S_len]; simp; omega
    have ha : ((st.take k.toNat ++ [c]) ++ st.drop k.toNat).all lowB = true := by
      rw [List.all_append, List.all_append]
      have h3 : (st.take k.toNat).all lowB = true := List.all_eq_true.mpr fun x hx => List.all_eq_true.mp hlow x (List.mem_of_mem_take hx)
      have h4 : (st.drop k.toNat).all lowB = true := List.all_eq_true.mpr fun x hx => List.all_eq_true.mp hlow x (List.mem_of_mem_drop hx)
      simp only [h3, h4, List.all_cons, List.all_nil, hcl, Bool.and_self]
    refine ⟨?_, by omega⟩
    unfold nameB
    rw [hl]
    have : (mkName (st.take k.toNat) (st.drop k.toNat) c).cps.toList = (st.take k.toNat ++ [c]) ++ st.drop k.toNat := rfl
    rw [this, ha]
    simp; omega
end DL
namespace DL
open PySem L2
theorem pure_strs : ∀ zs : List Str, pureDs 20 (zs.map .str) = true
  | [] => rfl
  | z :: zs => by rw [List.map_cons, pureDs, pure_strs zs]; rfl
theorem inL_strs (z : Str) : ∀ zs : List Str, inL (.str z) (zs.map .str) = decide (z ∈ zs)
  | [] => rfl
  | y :: zs => by
    have ih : (zs.map D.str).any (fun y => eqvD y (.str z)) = decide (z ∈ zs) := inL_strs z zs
    show (eqvD (.str y) (.str z) || (zs.map D.str).any (fun y => eqvD y (.str z))) = decide (z ∈ y :: zs)
    rw [ih, eqv_ss]
    by_cases q : y = z
    · subst q
      rw [decide_eq_true (rfl : y = y), decide_eq_true (List.mem_cons_self : y ∈ y :: zs)]; rfl
    · rw [decide_eq_false q, Bool.false_or]
      refine decide_eq_decide.mpr ⟨fun h => List.mem_cons_of_mem _ h, fun h => ?_⟩
      rcases List.mem_cons.mp h with e | h
      · exact absurd e.symm q
      · exact h
@[simp] theorem inD_ls {z : Str} {zs : List Str} : inD (.str z) (.lst (zs.map .str)) = some (.bl (decide (z ∈ zs))) := by
  unfold inD; dsimp only; rw [inL_strs, if_pos ⟨rfl, pure_strs zs⟩]
@[simp] theorem inD_ts {z : Str} {zs : List Str} : inD (.str z) (.tup (zs.map .str)) = some (.bl (decide (z ∈ zs))) := by
  unfold inD; dsimp only; rw [inL_strs, if_pos ⟨rfl, pure_strs zs⟩]
theorem strsOf_map : ∀ zs : List Str, strsOf (zs.map .str) = some zs
  | [] => rfl
  | z :: zs => by rw [List.map_cons, strsOf, strsOf_map zs]; rfl
theorem cnt_nodup {xs : List Str} (h : xs.Nodup) : ∀ {i : Nat}, i ≤ xs.length → cnt xs i = i
  | 0, _ => rfl
  | i + 1, hi => by
    have hlt : i < xs.length := hi
    rw [cnt, cnt_nodup h (Nat.le_of_lt hlt)]
    have hn : (xs.take i).any (· == xs.getD i Str.empty) = false := by
      rw [Bool.eq_false_iff]
      intro q
      obtain ⟨y, hy, e⟩ := List.any_eq_true.mp q
      have e : y = xs.getD i Str.empty := eq_of_beq e
      rw [List.getD_eq_getElem?_getD, List.getElem?_eq_getElem hlt, Option.getD_some] at e
      obtain ⟨j, hj, rfl⟩ := List.mem_iff_getElem.mp hy
      rw [List.length_take] at hj
      rw [List.getElem_take] at e
      exact (List.pairwise_iff_getElem.mp h j i (by omega) hlt (by omega)) e
    rw [hn]
    rfl
/-- a row of a book -/
structure Row where
  n : Str
  st : List Str
  p : Int
def Row.d (r : Row) : D := .tup [.str r.n, .tup (r.st.map .str), .int r.p]
def kd2 (k : Str × Int) : D := .tup [.str k.1, .int k.2]
structure RowOk (names earlier : List Str) (r : Row) : Prop where
  nm : nameB r.n = true ∧ r.n.length ≤ 8
  new : r.n ∉ earlier
  p0 : 0 ≤ r.p
  p1 : r.p ≤ 99
  ne : r.st ≠ []
  mem : ∀ s ∈ r.st, s ∈ names
  nd : r.st.Nodup
  few : r.st.length ≤ 100
theorem word_row_ok {η : List O} {e : Nat} {names earlier : List Str} {r : Row} (he : η[e]? = some (.lst (earlier.map .str))) (h : RowOk names earlier r) : m_is_word_row [r.d, .lst (names.map .str), .obj e] η = .ok (.bl true) η := by
  refine run_rt2 (δ := [some (.val r.d), some (.val (.lst (names.map .str))), some (.val (.obj e)), none, none, none, none]) rfl ?_
  have hz : r.n.length ≤ sizeLine := by rw [sizeLine_eq]; have := h.nm.2; omega
  have hnm := name_ok (z := r.n) (η := η) hz
  rw [h.nm.1] at hnm
  have hl : ¬ ((r.st.length : Int) = 0) := by
    have : r.st.length ≠ 0 := fun q => h.ne (List.eq_nil_of_length_eq_zero q)
    omega
  have hc : ∀ (δ : En), δ[1]? = some (some (.val (.lst (names.map .str)))) → 6 < δ.length → compF (.nm 6) fYes (fOp inD (fV 6) (fV 1)) δ (r.st.map .str) η = .ok (r.st.map fun _ => .bl true) η := fun δ q1 q6 => by
    have := comp_map (t := .nm 6) (ft := fYes) (fe := fOp inD (fV 6) (fV 1)) (δw := δ) (η := η) (g := fun _ => .bl true) (ds := r.st.map .str) fun x hx => by
      obtain ⟨s, hs, rfl⟩ := List.mem_map.mp hx
      exact ⟨_, asg_nm, rfl, by simp [q1, q6, h.mem s hs]⟩
    rw [this, List.map_map]
    rfl
  have hb : blsOf (r.st.map fun _ => D.bl true) = some (r.st.map fun _ => true) := blsOf_map (fun _ => true) r.st
  have hcnt : cnt r.st r.st.length = r.st.length := cnt_nodup h.nd (Nat.le_refl _)
  have h1000 : r.st.length ≤ 1000 := Nat.le_trans h.few (by decide)
  have c1 := hc (wipeD [some (.val r.d), some (.val (.lst (names.map .str))), some (.val (.obj e)), some (.val (.str r.n)), some (.val (.tup (r.st.map .str))), some (.val (.int r.p)), none] [6]) rfl (by show 6 < 7; decide)
  have hall : (r.st.map fun _ => true).all (fun b => b) = true := by simp
  unfold b_is_word_row
  unfold Row.d at c1 ⊢
  simp [hnm, he, h.new, h.p0, h.p1, h.ne, c1, allC, hb, hall, strsOf_map, h1000, hcnt]
theorem enc_cons {l : List D} {d : D} {n : Nat} : ((d :: l).zipIdx n).map (fun p => D.tup [.int (p.2 : Nat), p.1]) = .tup [.int (n : Nat), d] :: (l.zipIdx (n + 1)).map fun p => .tup [.int (p.2 : Nat), p.1] := rfl
theorem get_last {η : List O} {x : O} : (η ++ [x])[η.length]? = some x := by simp
theorem set_last {η : List O} {x y : O} : (η ++ [x]).set η.length y = η ++ [y] := by simp
abbrev NSB : List Str := ["sort_rows", "word_rows", "own_memory"]
structure KindsOk (ks : List (Str × Int)) : Prop where
  l0 : 1 ≤ ks.length
  l1 : ks.length ≤ 4
  nd : (ks.map (·.1)).Nodup
  ok : ∀ k ∈ ks, nameB k.1 = true ∧ k.1.length ≤ 8 ∧ 0 ≤ k.2 ∧ k.2 ≤ 99
structure RowsOk (names : List Str) (rs : List Row) : Prop where
  l1 : rs.length ≤ 4
  nd : (rs.map (·.n)).Nodup
  ok : ∀ r ∈ rs, RowOk names [] r
inductive MemOk : D → Prop
  | non : MemOk .non
  | int {m : Int} : 1 ≤ m → m ≤ 4 → MemOk (.int m)
/-- the stands in the sorts' order -/
def Row.fit (names : List Str) (r : Row) : Row := ⟨r.n, names.filter fun s => decide (s ∈ r.st), r.p⟩
end DL
namespace DL
open PySem L2
/-- the fields of a book -/
def bookD (ks : List (Str × Int)) (rs : List Row) (m : D) : List D := [.lst (ks.map kd2), .lst ((rs.map (Row.fit (ks.map (·.1)))).map Row.d), m]
theorem len_sz {n : Nat} (h : n ≤ 1000) : n < sizeLine := by rw [sizeLine_eq]; omega
section
variable {η : List O} {n : Nat} {ks : List (Str × Int)} {rs : List Row} {m : D}
theorem loop1 (hk : KindsOk ks) {a0 a2 a3 x5 x6 x7 x8 x9 x10 x11 : Option L} {b : S} (hb : b = (sSeq (sIf (fOrB (fNotB (fTru (fCall 1 m_is_name (fCons (fV 6) fNil)))) (fOrB (toB (fOp inD (fV 6) (fVo 4))) (fNotB (toB (fCh leD leD (fC (.int 0)) (fV 7) (fC (.int 99))))))) (sRaise1 21 "at" "InvalidSort" (fV 5)) SR.nx)
    (sMut 4 muApp (fCons (fV 6) fNil)))) : ∃ y5 y6 y7, loopF (.tp [(.nm 5), (.tp [(.nm 6), (.nm 7)])]) b (enumD (ks.map kd2)) [a0, some (.val (.lst (ks.map kd2))), a2, a3, some (.own []), x5, x6, x7, x8, x9, x10, x11] η = .nx [a0, some (.val (.lst (ks.map kd2))), a2, a3, some (.own ((ks.map (·.1)).map .str)), y5, y6, y7, x8, x9, x10, x11] η := by
  subst hb
  generalize hb : (sSeq (sIf _ (sRaise1 21 "at" "InvalidSort" (fV 5)) SR.nx) (sMut 4 muApp _) : S) = b
  obtain ⟨δ', η', e, pre, suf, y5, y6, y7, h1, h2, h3, h4⟩ := loop_inv (t := .tp [(.nm 5), (.tp [(.nm 6), (.nm 7)])]) (b := b) (P := fun ds δ η1 => ∃ (pre suf : List (Str × Int)) (y5 y6 y7 : Option L), ks = pre ++ suf ∧ ds = ((suf.map kd2).zipIdx pre.length).map (fun p => D.tup [.int (p.2 : Nat), p.1]) ∧ δ = [a0, some (.val (.lst (ks.map kd2))), a2, a3, some (.own ((pre.map (·.1)).map .str)), y5, y6, y7, x8, x9, x10, x11] ∧ η1 = η) (ds := enumD (ks.map kd2)) (δ := [a0, some (.val (.lst (ks.map kd2))), a2, a3, some (.own []), x5, x6, x7, x8, x9, x10, x11]) (η := η) ⟨[], ks, _, _, _, rfl, rfl, rfl, rfl⟩ fun x r δ η1 ⟨pre, suf, y5, y6, y7, h1, h2, h3, h4⟩ => by
    subst h3 h4
    cases suf with
    | nil => cases h2
    | cons k suf =>
      rw [List.map_cons, enc_cons] at h2
      cases h2
      obtain ⟨nm, ln, p0, p1⟩ := hk.ok k (by rw [h1]; simp)
      have hz : k.1.length ≤ sizeLine := Nat.le_of_lt (len_sz (by omega))
      have hnm := name_ok (z := k.1) (η := η1) hz
      rw [nm] at hnm
      have new : k.1 ∉ pre.map (·.1) := by
        have := hk.nd
        rw [h1, List.map_append, List.nodup_append] at this
        exact fun q => this.2.2 k.1 q k.1 (by simp) rfl
      have hpl : (pre.map (·.1)).length < sizeLine := len_sz (by have := hk.l1; rw [h1] at this; simp at this ⊢; omega)
      have hin : inD (.str k.1) (.lst ((pre.map (·.1)).map .str)) = some (.bl false) := by rw [inD_ls, decide_eq_false new]
      refine ⟨[a0, some (.val (.lst (ks.map kd2))), a2, a3, some (.own ((pre.map (·.1)).map .str)), some (.val (.int pre.length)), some (.val (.str k.1)), some (.val (.int k.2)), x8, x9, x10, x11], by simp [kd2], [a0, some (.val (.lst (ks.map kd2))), a2, a3, some (.own (((pre ++ [k]).map (·.1)).map .str)), some (.val (.int pre.length)), some (.val (.str k.1)), some (.val (.int k.2)), x8, x9, x10, x11], η1, .inl ?_, pre ++ [k], suf, _, _, _, by rw [h1]; simp, by rw [List.length_append]; rfl, rfl, rfl⟩
      rw [← hb]
      generalize hl : (pre.map (·.1)).map D.str = acc at hin ⊢
      have hal : acc.length < sizeLine := by rw [← hl]; simpa using hpl
      have hadd : ((pre ++ [k]).map (·.1)).map D.str = acc ++ [.str k.1] := by rw [← hl]; simp
      rw [hadd]
      simp [hnm, hin, p0, p1, hal]
  have hs : suf = [] := by
    cases suf with
    | nil => rfl
    | cons k suf => rw [List.map_cons, enc_cons] at h2; cases h2
  subst hs h3 h4
  rw [List.append_nil] at h1
  subst h1
  exact ⟨y5, y6, y7, e⟩
theorem loop2 {names : List Str} (hr : RowsOk names rs) {a0 a1 a3 x5 x6 x7 x9 x10 x11 : Option L} {b : S} (hb : b = (sSeq (sIf (fNotB (fTru (fCall 3 m_is_word_row (fCons (fV 9) (fCons (fV 4) (fCons (fV 8) fNil)))))) (sRaise1 22 "at" "InvalidWord" (fV 5)) SR.nx)
    (sMutO muApp (fV 8) (fCons (fOp ixD (fV 9) (fC (.int 0))) fNil)))) : ∃ y5 y9, loopF (.tp [(.nm 5), (.nm 9)]) b (enumD (rs.map Row.d)) [a0, a1, some (.val (.lst (rs.map Row.d))), a3, some (.val (.lst (names.map .str))), x5, x6, x7, some (.val (.obj η.length)), x9, x10, x11] (η ++ [.lst []]) = .nx [a0, a1, some (.val (.lst (rs.map Row.d))), a3, some (.val (.lst (names.map .str))), y5, x6, x7, some (.val (.obj η.length)), y9, x10, x11] (η ++ [.lst ((rs.map (·.n)).map .str)]) := by
  subst hb
  generalize hb : (sSeq (sIf _ (sRaise1 22 "at" "InvalidWord" (fV 5)) SR.nx) (sMutO muApp _ _) : S) = b
  obtain ⟨δ', η', e, pre, suf, y5, y9, h1, h2, h3, h4⟩ := loop_inv (t := .tp [(.nm 5), (.nm 9)]) (b := b) (P := fun ds δ η1 => ∃ (pre suf : List Row) (y5 y9 : Option L), rs = pre ++ suf ∧ ds = ((suf.map Row.d).zipIdx pre.length).map (fun p => D.tup [.int (p.2 : Nat), p.1]) ∧ δ = [a0, a1, some (.val (.lst (rs.map Row.d))), a3, some (.val (.lst (names.map .str))), y5, x6, x7, some (.val (.obj η.length)), y9, x10, x11] ∧ η1 = η ++ [.lst ((pre.map (·.n)).map .str)]) (ds := enumD (rs.map Row.d)) (δ := [a0, a1, some (.val (.lst (rs.map Row.d))), a3, some (.val (.lst (names.map .str))), x5, x6, x7, some (.val (.obj η.length)), x9, x10, x11]) (η := η ++ [.lst []]) ⟨[], rs, _, _, rfl, rfl, rfl, rfl⟩ fun x r δ η1 ⟨pre, suf, y5, y9, h1, h2, h3, h4⟩ => by
    subst h3 h4
    cases suf with
    | nil => cases h2
    | cons k suf =>
      rw [List.map_cons, enc_cons] at h2
      cases h2
      have hok := hr.ok k (by rw [h1]; simp)
      have new : k.n ∉ pre.map (·.n) := by
        have := hr.nd
        rw [h1, List.map_append, List.nodup_append] at this
        exact fun q => this.2.2 k.n q k.n (by simp) rfl
      have hrow := word_row_ok (η := η ++ [.lst ((pre.map (·.n)).map .str)]) (e := η.length) (names := names) (earlier := pre.map (·.n)) (r := k) get_last { hok with new := new }
      have hpl : ((pre.map (·.n)).map D.str).length < sizeLine := len_sz (by have := hr.l1; rw [h1] at this; simp at this ⊢; omega)
      refine ⟨[a0, a1, some (.val (.lst (rs.map Row.d))), a3, some (.val (.lst (names.map .str))), some (.val (.int pre.length)), x6, x7, some (.val (.obj η.length)), some (.val k.d), x10, x11], by simp, [a0, a1, some (.val (.lst (rs.map Row.d))), a3, some (.val (.lst (names.map .str))), some (.val (.int pre.length)), x6, x7, some (.val (.obj η.length)), some (.val k.d), x10, x11], η ++ [.lst (((pre ++ [k]).map (·.n)).map .str)], .inl ?_, pre ++ [k], suf, _, _, by rw [h1]; simp, by rw [List.length_append]; rfl, rfl, rfl⟩
      rw [← hb]
      generalize hl : (pre.map (·.n)).map D.str = acc at hrow hpl ⊢
      have hadd : ((pre ++ [k]).map (·.n)).map D.str = acc ++ [.str k.n] := by rw [← hl]; simp
      rw [hadd]
      have hix : ixD k.d (.int 0) = some (.str k.n) := rfl
      simp [hrow, hix, hpl]
  have hs : suf = [] := by
    cases suf with
    | nil => rfl
    | cons k suf => rw [List.map_cons, enc_cons] at h2; cases h2
  subst hs h3 h4
  rw [List.append_nil] at h1
  subst h1
  exact ⟨y5, y9, e⟩
theorem comp1 {δ : En} {η : List O} (h6 : 7 < δ.length) : compF (.tp [(.nm 6), (.nm 7)]) fYes (fTup (fCons (fV 6) (fCons (fV 7) fNil))) δ (ks.map kd2) η = .ok (ks.map kd2) η := by
  have h := comp_map (t := .tp [(.nm 6), (.nm 7)]) (ft := fYes) (fe := fTup (fCons (fV 6) (fCons (fV 7) fNil))) (δw := δ) (η := η) (g := fun d => d) (ds := ks.map kd2) fun x hx => by
    obtain ⟨k, _, rfl⟩ := List.mem_map.mp hx
    have h2 : (2 : Nat) ≤ sizeLine := by rw [sizeLine_eq]; decide
    have h5 : 6 < δ.length := by omega
    exact ⟨_, rfl, rfl, by simp [h6, h5, h2, kd2]⟩
  rw [h, List.map_id']
theorem comp2 {names : List Str} {δ : En} {η : List O} (h11 : 11 < δ.length) (h4 : δ[4]? = some (some (.val (.lst (names.map .str))))) : compF (.tp [(.nm 6), (.nm 10), (.nm 7)]) fYes (fTup (fCons (fV 6) (fCons (fCall1 tupC (fFrz (fLc [11] (fiA (fV 4)) (.nm 11) (toB (fOp inD (fV 11) (fV 10))) (fV 11)))) (fCons (fV 7) fNil)))) δ (rs.map Row.d) η = .ok ((rs.map (Row.fit names)).map Row.d) η := by
  have h := comp_map (t := .tp [(.nm 6), (.nm 10), (.nm 7)]) (ft := fYes) (fe := fTup (fCons (fV 6) (fCons (fCall1 tupC (fFrz (fLc [11] (fiA (fV 4)) (.nm 11) (toB (fOp inD (fV 11) (fV 10))) (fV 11)))) (fCons (fV 7) fNil)))) (δw := δ) (η := η) (g := fun d => match d with | .tup [.str n, .tup st, .int p] => .tup [.str n, .tup ((names.filter fun s => inL (.str s) st).map .str), .int p] | d => d) (ds := rs.map Row.d) fun x hx => by
    obtain ⟨k, _, rfl⟩ := List.mem_map.mp hx
    refine ⟨((δ.set 6 (some (.val (.str k.n)))).set 10 (some (.val (.tup (k.st.map .str))))).set 7 (some (.val (.int k.p))), rfl, rfl, ?_⟩
    have h3 : (3 : Nat) ≤ sizeLine := by rw [sizeLine_eq]; decide
    have b6 : 6 < δ.length := by omega
    have b7 : 7 < δ.length := by omega
    have b10 : 10 < δ.length := by omega
    have b4 : 4 < δ.length := by omega
    generalize hδ : ((δ.set 6 (some (.val (.str k.n)))).set 10 (some (.val (.tup (k.st.map .str))))).set 7 (some (.val (.int k.p))) = δ2
    have g4 : δ2[4]? = some (some (.val (.lst (names.map .str)))) := by rw [← hδ]; simpa using h4
    have g6 : δ2[6]? = some (some (.val (.str k.n))) := by rw [← hδ]; simp [b6]
    have g7 : δ2[7]? = some (some (.val (.int k.p))) := by rw [← hδ]; simp [b7]
    have g10 : δ2[10]? = some (some (.val (.tup (k.st.map .str)))) := by rw [← hδ]; simp [b10]
    have l2 : 11 < δ2.length := by rw [← hδ]; simpa using h11
    have hc := comp_filter (t := .nm 11) (ft := toB (fOp inD (fV 11) (fV 10))) (fe := fV 11) (δw := wipeD δ2 [11]) (η := η) (p := fun d => match d with | .str s => inL (.str s) (k.st.map .str) | _ => false) (g := fun d => d) (ds := names.map .str) fun x hx => by
      obtain ⟨s, _, rfl⟩ := List.mem_map.mp hx
      refine ⟨_, asg_nm, ?_, fun _ => by simp [wipeD, l2]⟩
      show _ = R.ok (inL (.str s) (k.st.map .str)) η
      rw [inL_strs]
      simp [wipeD, l2, g10]
    have e1 : ((names.map D.str).filter fun d => match d with | .str s => inL (.str s) (k.st.map .str) | _ => false) = (names.filter fun s => inL (.str s) (k.st.map .str)).map .str := by
      rw [List.filter_map]; rfl
    rw [e1, List.map_id'] at hc
    simp [g4, g6, g7, hc, h3]
    rfl
  rw [h, List.map_map, List.map_map]
  congr 1
  refine List.map_congr_left fun r _ => ?_
  show D.tup [.str r.n, .tup ((names.filter fun s => inL (.str s) (r.st.map .str)).map .str), .int r.p] = D.tup [.str r.n, .tup ((names.filter fun s => decide (s ∈ r.st)).map .str), .int r.p]
  have : (fun s => inL (.str s) (r.st.map .str)) = fun s => decide (s ∈ r.st) := funext fun s => inL_strs s r.st
  rw [this]
theorem book_init_ok (hn : η[n]? = some (.ins 0 [] [])) (hk : KindsOk ks) (hr : RowsOk (ks.map (·.1)) rs) (hm : MemOk m) :
    m_Book___init__ [.obj n, .lst (ks.map kd2), .lst (rs.map Row.d), m] η = .ok .non (η.set n (.ins 0 NSB (bookD ks rs m)) ++ [.lst ((rs.map (·.n)).map .str)]) := by
  have hlt : n < η.length := (List.getElem?_eq_some_iff.mp hn).1
  obtain ⟨y5, y6, y7, e1⟩ := loop1 (η := η) (ks := ks) hk (a0 := some (.val (.obj n))) (a2 := some (.val (.lst (rs.map Row.d)))) (a3 := some (.val m)) (x5 := none) (x6 := none) (x7 := none) (x8 := none) (x9 := none) (x10 := none) (x11 := none) rfl
  obtain ⟨z5, z9, e2⟩ := loop2 (η := η) (rs := rs) (names := ks.map (·.1)) hr (a0 := some (.val (.obj n))) (a1 := some (.val (.lst (ks.map kd2)))) (a3 := some (.val m)) (x5 := y5) (x6 := y6) (x7 := y7) (x9 := none) (x10 := none) (x11 := none) rfl
  have k0 : (1 : Int) ≤ (ks.map kd2).length := by have := hk.l0; simp; omega
  have k1 : ((ks.map kd2).length : Int) ≤ 4 := by have := hk.l1; simp; omega
  have r1 : ¬ (4 : Int) < (rs.map Row.d).length := by have := hr.l1; simp; omega
  have z0 : (0 : Nat) ≤ sizeLine := Nat.zero_le _
  have gn : ∀ y, (η.set n y)[n]? = some y := fun y => by rw [List.getElem?_set_self hlt]
  have ga : ∀ x, (η ++ [x])[n]? = some (.ins 0 [] []) := fun x => by rw [List.getElem?_append_left hlt]; exact hn
  have gb : ∀ x y, (η.set n y ++ [x])[n]? = some y := fun x y => by rw [List.getElem?_append_left (by rw [List.length_set]; exact hlt)]; exact gn y
  have sb : ∀ x y, (η ++ [x]).set n y = η.set n y ++ [x] := fun x y => List.set_append_left n y hlt
  have sc : ∀ x y z, (η.set n z ++ [x]).set n y = η.set n y ++ [x] := fun x y z => by rw [List.set_append_left n y (by rw [List.length_set]; exact hlt), List.set_set]
  have hmem : ∀ (δ : En) (η : List O), δ[3]? = some (some (.val m)) → (fAndB (toB (fOp notN (fV 3) (fC .non))) (fNotB (toB (fCh leD leD (fC (.int 1)) (fV 3) (fC (.int 4)))))) δ η = .ok false η := fun δ η h => by
    cases hm with
    | non => simp [h]
    | int p q => simp [h, p, q]
  have c1 := fun (δ : En) (η : List O) (h : 7 < δ.length) => comp1 (ks := ks) (δ := δ) (η := η) h
  have c2 := fun (δ : En) (η : List O) (h : 11 < δ.length) h4 => comp2 (rs := rs) (names := ks.map (·.1)) (δ := δ) (η := η) h h4
  unfold m_Book___init__
  generalize hx : runD 12 b_Book___init__ _ η = x
  unfold runD b_Book___init__ at hx
  generalize hKs : ks.map kd2 = K1 at *
  generalize hRs : rs.map Row.d = R1 at *
  simp [k0, k1, r1, z0] at hx
  rw [e1] at hx
  simp [-List.map_map, r1, z0] at hx
  rw [e2] at hx
  have d1 := c1 (wipeD [some (L.val (D.obj n)), some (L.val (D.lst K1)), some (L.val (D.lst R1)), some (L.val m), some (L.val (D.lst (List.map D.str (List.map (fun x => x.fst) ks)))), z5, y6, y7, some (L.val (D.obj η.length)), z9, none, none] [6, 7]) (η ++ [.lst (List.map D.str (List.map (fun x => x.n) rs))]) (by show 7 < 12; decide)
  have d2 := fun (η2 : List O) => c2 (wipeD [some (L.val (D.obj n)), some (L.val (D.lst K1)), some (L.val (D.lst R1)), some (L.val m), some (L.val (D.lst (List.map D.str (List.map (fun x => x.fst) ks)))), z5, y6, y7, some (L.val (D.obj η.length)), z9, none, none] [6, 10, 7]) η2 (by show 11 < 12; decide) rfl
  cases hm with
  | non =>
    simp [-List.map_map, d1, ga, gb, sb, sc, gn] at hx
    rw [d2] at hx
    simp [-List.map_map, ga, gb, sb, sc, gn] at hx
    rw [← hx]
    unfold bookD
    rw [hKs]
  | int p q =>
    simp [-List.map_map, d1, ga, gb, sb, sc, gn, p, q] at hx
    rw [d2] at hx
    simp [-List.map_map, ga, gb, sb, sc, gn] at hx
    rw [← hx]
    unfold bookD
    rw [hKs]
end
end DL
namespace DL
open PySem L2
/-! ### equality of small values -/
theorem eqv_tup2 {a b c d : D} : eqvD (.tup [a, b]) (.tup [c, d]) = (eqvD a c && (eqvD b d && true)) := by
  show PyData.eqv (.tuple [toPy a, toPy b]) (.tuple [toPy c, toPy d]) = _
  rw [PyData.eqv, PyData.eqvAll, PyData.eqvAll, PyData.eqvAll]; rfl
theorem eqv_nn : eqvD .non .non = true := rfl
theorem eqv_si {z : Str} {i : Int} : eqvD (.str z) (.int i) = false := rfl
mutual
theorem eqv_refl : ∀ (n : Nat) (d : D), pureD n d = true → eqvD d d = true
  | _, .non, _ => rfl
  | _, .bl b, _ => by rw [eqv_bb]; simp
  | _, .int b, _ => by rw [eqv_ii]; simp
  | _, .str b, _ => by rw [eqv_ss]; simp
  | 0, .tup l, h => by simp [pureD] at h
  | 0, .lst l, h => by simp [pureD] at h
  | n + 1, .tup l, h => by
    show PyData.eqv (.tuple (toPys l)) (.tuple (toPys l)) = true
    rw [PyData.eqv]; exact eqvs_refl n l h
  | n + 1, .lst l, h => by
    show PyData.eqv (.list (toPys l)) (.list (toPys l)) = true
    rw [PyData.eqv]; exact eqvs_refl n l h
  | n, .ins _ _ _, h => by cases n <;> simp [pureD] at h
  | n, .obj _, h => by cases n <;> simp [pureD] at h
theorem eqvs_refl : ∀ (n : Nat) (l : List D), pureDs n l = true → PyData.eqvAll (toPys l) (toPys l) = true
  | _, [], _ => rfl
  | n, d :: l, h => by
    rw [pureDs, Bool.and_eq_true] at h
    show PyData.eqvAll (toPy d :: toPys l) (toPy d :: toPys l) = true
    rw [PyData.eqvAll, Bool.and_eq_true]
    exact ⟨eqv_refl n d h.1, eqvs_refl n l h.2⟩
end
theorem neD_self {d : D} (h : okq d = true) : neD d d = some (.bl false) := by
  unfold neD; rw [if_pos ⟨h, h⟩, eqv_refl 20 d h]; rfl
theorem eqD_self {d : D} (h : okq d = true) : eqD d d = some (.bl true) := by
  unfold eqD; rw [if_pos ⟨h, h⟩, eqv_refl 20 d h]
/-! ### the small methods of a book -/
section
variable {η : List O} {b : Nat} {ks : List (Str × Int)} {rs : List Row} {m : D}
theorem memory_ok {l0 l1 : D} (hb : η[b]? = some (.ins 0 NSB [l0, l1, m])) : m_Book_memory [.obj b] η = .ok m η := by
  refine run_rt2 (δ := [some (.val (.obj b))]) rfl ?_
  unfold b_Book_memory
  simp [hb]
theorem sort_names_ok {l1 : D} (hb : η[b]? = some (.ins 0 NSB [.lst (ks.map kd2), l1, m])) : m_Book_sort_names [.obj b] η = .ok (.lst ((ks.map (·.1)).map .str)) η := by
  have hc : ∀ δ : En, 2 < δ.length → compF (.tp [(.nm 1), (.nm 2)]) fYes (fV 1) δ (ks.map kd2) η = .ok ((ks.map (·.1)).map .str) η := fun δ hδ => by
    have := comp_map (t := .tp [(.nm 1), (.nm 2)]) (ft := fYes) (fe := fV 1) (δw := δ) (η := η) (g := fun d => match d with | .tup (x :: _) => x | d => d) (ds := ks.map kd2) fun x hx => by
      obtain ⟨k, _, rfl⟩ := List.mem_map.mp hx
      have h1 : 1 < δ.length := by omega
      exact ⟨_, rfl, rfl, by simp [h1, hδ, kd2]⟩
    rw [this, List.map_map, List.map_map]
    rfl
  refine run_rt2 (δ := [some (.val (.obj b)), none, none]) rfl ?_
  unfold b_Book_sort_names
  simp [-List.map_map, hb, hc _ (show 2 < (wipeD [some (L.val (.obj b)), none, none] [1, 2]).length by show 2 < 3; decide)]
theorem contains_ok {l0 : D} {z : Str} (hb : η[b]? = some (.ins 0 NSB [l0, .lst (rs.map Row.d), m])) : m_Book___contains__ [.obj b, .str z] η = .ok (.bl (decide (z ∈ rs.map (·.n)))) η := by
  have hc : ∀ δ : En, 2 < δ.length → compF (.nm 2) fYes (fOp ixD (fV 2) (fC (.int 0))) δ (rs.map Row.d) η = .ok ((rs.map (·.n)).map .str) η := fun δ hδ => by
    have := comp_map (t := .nm 2) (ft := fYes) (fe := fOp ixD (fV 2) (fC (.int 0))) (δw := δ) (η := η) (g := fun d => match d with | .tup (x :: _) => x | d => d) (ds := rs.map Row.d) fun x hx => by
      obtain ⟨k, _, rfl⟩ := List.mem_map.mp hx
      have hix : ixD k.d (.int 0) = some (.str k.n) := rfl
      exact ⟨_, asg_nm, rfl, by simp [hδ, hix]; rfl⟩
    rw [this, List.map_map, List.map_map]
    rfl
  refine run_rt2 (δ := [some (.val (.obj b)), some (.val (.str z)), none]) rfl ?_
  unfold b_Book___contains__
  simp [-List.map_map, hb, hc _ (show 2 < (wipeD [some (L.val (.obj b)), some (L.val (.str z)), none] [2]).length by show 2 < 3; decide)]
/-- the row of a word -/
theorem word_row_find {l0 : D} {z : Str} {r : Row} (hb : η[b]? = some (.ins 0 NSB [l0, .lst (rs.map Row.d), m])) (hf : rs.find? (fun r => decide (r.n = z)) = some r) : m_Book_word_row [.obj b, .str z] η = .ok r.d η := by
  have hl : ∀ (rs : List Row) (y : Option L), rs.find? (fun r => decide (r.n = z)) = some r → loopF (.nm 2) (sIf (toB (fOp eqD (fOp ixD (fV 2) (fC (.int 0))) (fV 1))) (sRet (fV 2)) SR.nx) (rs.map Row.d) [some (.val (.obj b)), some (.val (.str z)), y] η = .rt r.d η := fun rs => by
    induction rs with
    | nil => intro y h; cases h
    | cons q rs ih =>
      intro y h
      have hix : ixD q.d (.int 0) = some (.str q.n) := rfl
      rw [List.map_cons, loopF]
      by_cases e : q.n = z
      · rw [List.find?_cons_of_pos (by simpa using e)] at h
        cases h
        simp [hix, e]
        rfl
      · rw [List.find?_cons_of_neg (by simpa using e)] at h
        simp [hix, e]
        exact ih _ h
  refine run_rt2 (δ := [some (.val (.obj b)), some (.val (.str z)), none]) rfl ?_
  unfold b_Book_word_row
  simp [hb, hl rs none hf]
end
end DL
namespace DL
open PySem L2
/-! ### what hearers do -/
abbrev Thing := Str × Int
def kpD (p : Thing × Int) : D := .tup [kd2 p.1, .int p.2]
def optD : Option Thing → D
  | none => .non
  | some t => kd2 t
def agedL (m : D) (k : List (Thing × Int)) : List (Thing × Int) := match m with
  | .int m => (k.filter fun p => decide (p.2 < m)).map fun p => (p.1, p.2 + 1)
  | _ => k.map fun p => (p.1, p.2 + 1)
def takenL (st : List Str) (k : List (Thing × Int)) : Option Thing := (k.find? fun p => decide (p.1.1 ∈ st)).map (·.1)
def movedL (k : List (Thing × Int)) (t : Thing) : List (Thing × Int) := (t, 0) :: k.filter fun p => decide (p.1 ≠ t)
section
variable {η : List O} {b : Nat} {ks : List (Str × Int)} {rs : List Row} {m : D}
theorem aged_ok {l0 l1 : D} (hb : η[b]? = some (.ins 0 NSB [l0, l1, m])) (hm : MemOk m) (k : List (Thing × Int)) : m_aged [.obj b, .lst (k.map kpD)] η = .ok (.lst ((agedL m k).map kpD)) η := by
  have h2 : (2 : Nat) ≤ sizeLine := by rw [sizeLine_eq]; decide
  have hmem := memory_ok hb
  refine run_rt2 (δ := [some (.val (.obj b)), some (.val (.lst (k.map kpD))), none, none]) rfl ?_
  unfold b_aged
  cases hm with
  | non =>
    have hc : compF (.tp [(.nm 2), (.nm 3)]) fYes (fTup (fCons (fV 2) (fCons (fOp addD (fV 3) (fC (.int 1))) fNil))) (wipeD [some (.val (.obj b)), some (.val (.lst (k.map kpD))), none, none] [2, 3]) (k.map kpD) η = .ok ((k.map fun p => (p.1, p.2 + 1)).map kpD) η := by
      have := comp_map (t := .tp [(.nm 2), (.nm 3)]) (ft := fYes) (fe := fTup (fCons (fV 2) (fCons (fOp addD (fV 3) (fC (.int 1))) fNil))) (δw := wipeD [some (.val (.obj b)), some (.val (.lst (k.map kpD))), none, none] [2, 3]) (η := η) (g := fun d => match d with | .tup [x, .int a] => .tup [x, .int (a + 1)] | d => d) (ds := k.map kpD) fun x hx => by
        obtain ⟨q, _, rfl⟩ := List.mem_map.mp hx
        exact ⟨_, rfl, rfl, by simp [wipeD, kpD, h2]⟩
      rw [this, List.map_map, List.map_map]
      rfl
    simp [-List.map_map, hb, hmem, hc, agedL]
  | @int mm p q =>
    have hc : compF (.tp [(.nm 2), (.nm 3)]) (toB (fOp ltD (fV 3) (fProp 0 1 m_Book_memory (fV 0)))) (fTup (fCons (fV 2) (fCons (fOp addD (fV 3) (fC (.int 1))) fNil))) (wipeD [some (.val (.obj b)), some (.val (.lst (k.map kpD))), none, none] [2, 3]) (k.map kpD) η = .ok (((k.filter fun p => decide (p.2 < mm)).map fun p => (p.1, p.2 + 1)).map kpD) η := by
      have := comp_filter (t := .tp [(.nm 2), (.nm 3)]) (ft := toB (fOp ltD (fV 3) (fProp 0 1 m_Book_memory (fV 0)))) (fe := fTup (fCons (fV 2) (fCons (fOp addD (fV 3) (fC (.int 1))) fNil))) (δw := wipeD [some (.val (.obj b)), some (.val (.lst (k.map kpD))), none, none] [2, 3]) (η := η) (p := fun d => match d with | .tup [_, .int a] => decide (a < mm) | _ => false) (g := fun d => match d with | .tup [x, .int a] => .tup [x, .int (a + 1)] | d => d) (ds := k.map kpD) fun x hx => by
        obtain ⟨q, _, rfl⟩ := List.mem_map.mp hx
        exact ⟨_, rfl, by simp [wipeD, kpD, hb, hmem], fun _ => by simp [wipeD, kpD, h2]⟩
      rw [this, List.filter_map, List.map_map, List.map_map]
      rfl
    simp [-List.map_map, hb, hmem, hc, agedL]
theorem taken_ok {l0 : D} {z : Str} {r : Row} (hb : η[b]? = some (.ins 0 NSB [l0, .lst (rs.map Row.d), m])) (hf : rs.find? (fun r => decide (r.n = z)) = some r) (k : List (Thing × Int)) :
    m_taken_for [.obj b, .lst (k.map kpD), .str z] η = .ok (optD (takenL r.st k)) η := by
  have hrow := word_row_find hb hf
  have hix : ixD r.d (.int 1) = some (.tup (r.st.map .str)) := rfl
  have hl : ∀ (k0 k : List (Thing × Int)) (y4 y5 : Option L), (∃ t, takenL r.st k = some t ∧ loopF (.tp [(.nm 4), (.nm 5)]) (sIf (toB (fOp inD (fOp ixD (fV 4) (fC (.int 0))) (fV 3))) (sRet (fV 4)) SR.nx) (k.map kpD) [some (.val (.obj b)), some (.val (.lst (k0.map kpD))), some (.val (.str z)), some (.val (.tup (r.st.map .str))), y4, y5] η = .rt (kd2 t) η) ∨
      (takenL r.st k = none ∧ ∃ z4 z5, loopF (.tp [(.nm 4), (.nm 5)]) (sIf (toB (fOp inD (fOp ixD (fV 4) (fC (.int 0))) (fV 3))) (sRet (fV 4)) SR.nx) (k.map kpD) [some (.val (.obj b)), some (.val (.lst (k0.map kpD))), some (.val (.str z)), some (.val (.tup (r.st.map .str))), y4, y5] η = .nx [some (.val (.obj b)), some (.val (.lst (k0.map kpD))), some (.val (.str z)), some (.val (.tup (r.st.map .str))), z4, z5] η) := fun k0 k => by
    induction k with
    | nil => exact fun y4 y5 => .inr ⟨rfl, y4, y5, rfl⟩
    | cons q k ih =>
      intro y4 y5
      have hq : ixD (kd2 q.1) (.int 0) = some (.str q.1.1) := rfl
      have ha : asg (.tp [(.nm 4), (.nm 5)]) (kpD q) [some (.val (.obj b)), some (.val (.lst (k0.map kpD))), some (.val (.str z)), some (.val (.tup (r.st.map .str))), y4, y5] = some [some (.val (.obj b)), some (.val (.lst (k0.map kpD))), some (.val (.str z)), some (.val (.tup (r.st.map .str))), some (.val (kd2 q.1)), some (.val (.int q.2))] := by simp [kpD]
      by_cases e : q.1.1 ∈ r.st
      · refine .inl ⟨q.1, ?_, ?_⟩
        · unfold takenL; rw [List.find?_cons_of_pos (by simpa using e)]; rfl
        · rw [List.map_cons, loopF, ha]
          simp [hq, e]
          rfl
      · have e1 : takenL r.st (q :: k) = takenL r.st k := by unfold takenL; rw [List.find?_cons_of_neg (by simpa using e)]
        rw [e1]
        have e2 : loopF (.tp [(.nm 4), (.nm 5)]) (sIf (toB (fOp inD (fOp ixD (fV 4) (fC (.int 0))) (fV 3))) (sRet (fV 4)) SR.nx) ((q :: k).map kpD) [some (.val (.obj b)), some (.val (.lst (k0.map kpD))), some (.val (.str z)), some (.val (.tup (r.st.map .str))), y4, y5] η = loopF (.tp [(.nm 4), (.nm 5)]) (sIf (toB (fOp inD (fOp ixD (fV 4) (fC (.int 0))) (fV 3))) (sRet (fV 4)) SR.nx) (k.map kpD) [some (.val (.obj b)), some (.val (.lst (k0.map kpD))), some (.val (.str z)), some (.val (.tup (r.st.map .str))), some (.val (kd2 q.1)), some (.val (.int q.2))] η := by
          rw [List.map_cons, loopF, ha]
          simp [hq, e]
          rfl
        rw [e2]
        exact ih _ _
  refine run_rt2 (δ := [some (.val (.obj b)), some (.val (.lst (k.map kpD))), some (.val (.str z)), none, none, none]) rfl ?_
  unfold b_taken_for
  rcases hl k k none none with ⟨t, e1, e2⟩ | ⟨e1, z4, z5, e2⟩
  · rw [e1]
    simp [-List.map_map, hb, hrow, hix, e2, optD]
  · rw [e1]
    simp [-List.map_map, hb, hrow, hix, e2, optD]
theorem moved_ok {η : List O} (k : List (Thing × Int)) (t : Thing) (hk : k.length ≤ 1000) : m_moved_front [.lst (k.map kpD), kd2 t] η = .ok (.lst ((movedL k t).map kpD)) η := by
  have h2 : (2 : Nat) ≤ sizeLine := by rw [sizeLine_eq]; decide
  have hne : ∀ s : Thing, neD (kd2 s) (kd2 t) = some (.bl (decide (s ≠ t))) := fun s => by
    unfold neD
    rw [if_pos ⟨rfl, rfl⟩]
    unfold kd2
    rw [eqv_tup2, eqv_ss, eqv_ii]
    congr 2
    rw [Bool.and_true, ← Bool.decide_and, ← decide_not]
    refine decide_eq_decide.mpr (not_congr ?_)
    exact ⟨fun ⟨a, b⟩ => Prod.ext a b, fun h => by rw [h]; exact ⟨rfl, rfl⟩⟩
  have hc : compF (.nm 2) (toB (fOp neD (fOp ixD (fV 2) (fC (.int 0))) (fV 1))) (fV 2) (wipeD [some (.val (.lst (k.map kpD))), some (.val (kd2 t)), none] [2]) (k.map kpD) η = .ok ((k.filter fun p => decide (p.1 ≠ t)).map kpD) η := by
    have := comp_filter (t := .nm 2) (ft := toB (fOp neD (fOp ixD (fV 2) (fC (.int 0))) (fV 1))) (fe := fV 2) (δw := wipeD [some (.val (.lst (k.map kpD))), some (.val (kd2 t)), none] [2]) (η := η) (p := fun d => match d with | .tup [.tup [.str a, .int b], _] => decide ((a, b) ≠ t) | _ => false) (g := fun d => d) (ds := k.map kpD) fun x hx => by
      obtain ⟨q, _, rfl⟩ := List.mem_map.mp hx
      have hix : ixD (kpD q) (.int 0) = some (kd2 q.1) := rfl
      refine ⟨_, asg_nm, ?_, fun _ => by simp [wipeD]⟩
      show _ = R.ok (decide (q.1 ≠ t)) η
      simp [wipeD, hix, hne]
    rw [this, List.filter_map, List.map_id']
    rfl
  have hlen : (k.filter fun p => decide (p.1 ≠ t)).length + 1 ≤ sizeLine := by
    have := List.length_filter_le (fun p => decide (p.1 ≠ t)) k
    rw [sizeLine_eq]; omega
  refine run_rt2 (δ := [some (.val (.lst (k.map kpD))), some (.val (kd2 t)), none]) rfl ?_
  unfold b_moved_front
  unfold movedL
  generalize (k.filter fun p => decide (p.1 ≠ t)) = k2 at hc hlen ⊢
  simp [-List.map_map, hc, h2, hlen]
  rfl
/-! ### utterances -/
inductive Item (rs : List Row) where
  | word (r : Row) (z : Str) (h : rs.find? (fun r => decide (r.n = z)) = some r)
  | thing (t : Thing)
def Item.d {rs : List Row} : Item rs → D
  | .word _ z _ => .str z
  | .thing t => kd2 t
def Item.ok {rs : List Row} (ks : List (Str × Int)) : Item rs → Prop
  | .word _ _ _ => True
  | .thing t => t.1 ∈ ks.map (·.1) ∧ 0 ≤ t.2
theorem find_mem {rs : List Row} {z : Str} {r : Row} (h : rs.find? (fun r => decide (r.n = z)) = some r) : z ∈ rs.map (·.n) := by
  have h1 := List.mem_of_find?_eq_some h
  have h2 := List.find?_some h
  exact List.mem_map.mpr ⟨r, h1, of_decide_eq_true h2⟩
theorem is_str_s {z : Str} : isD "str" (.str z) = some (.bl true) := by rw [isD_of (by decide) (by simp [D.ty])]; rfl
theorem is_str_t {l : List D} : isD "str" (.tup l) = some (.bl false) := by rw [isD_of (by decide) (by simp [D.ty])]; rfl
theorem is_thing_ok (hb : η[b]? = some (.ins 0 NSB [.lst (ks.map kd2), .lst (rs.map Row.d), m])) {t : Thing} (h : t.1 ∈ ks.map (·.1)) (h2 : 0 ≤ t.2) : m_is_thing [.obj b, kd2 t] η = .ok (.bl true) η := by
  have hs := sort_names_ok hb
  refine run_rt2 (δ := [some (.val (.obj b)), some (.val (kd2 t)), none, none]) rfl ?_
  unfold b_is_thing
  generalize hn : ks.map (·.1) = ns at hs h
  simp [kd2, hb, hs, h, h2]
theorem check_ok (hb : η[b]? = some (.ins 0 NSB [.lst (ks.map kd2), .lst (rs.map Row.d), m])) (items : List (Item rs)) (h : ∀ x ∈ items, x.ok ks) : m_check_utterance [.obj b, .lst (items.map Item.d)] η = .ok .non η := by
  obtain ⟨δ', η', e, y2, y3, y4, rfl, rfl⟩ := loop_inv2 (t := .tp [(.nm 2), (.nm 3)]) (b := sSeq (sSet 4 (fIf (fTru (fCall1 (isD "str") (fV 3))) (fInM 0 2 m_Book___contains__ false (fV 3) (fV 0)) (fCall 2 m_is_thing (fCons (fV 0) (fCons (fV 3) fNil)))))
    (sIf (fNotB (fTru (fV 4))) (sRaise1 26 "at" "InvalidItem" (fV 2)) SR.nx)) (P := fun δ η1 => ∃ y2 y3 y4, δ = [some (.val (.obj b)), some (.val (.lst (items.map Item.d))), y2, y3, y4] ∧ η1 = η) (ds := enumD (items.map Item.d)) (δ := [some (.val (.obj b)), some (.val (.lst (items.map Item.d))), none, none, none]) (η := η) ⟨_, _, _, rfl, rfl⟩ fun x hx δ η1 ⟨y2, y3, y4, h1, h2⟩ => by
    subst h1 h2
    obtain ⟨⟨d, i⟩, hd, rfl⟩ := List.mem_map.mp hx
    have hdm : d ∈ items.map Item.d := by
      have := List.mem_zipIdx hd
      rw [this.2.2]
      exact List.getElem_mem _
    obtain ⟨it, hit, rfl⟩ := List.mem_map.mp hdm
    have hok := h it hit
    refine ⟨[some (.val (.obj b)), some (.val (.lst (items.map Item.d))), some (.val (.int i)), some (.val it.d), y4], by simp, [some (.val (.obj b)), some (.val (.lst (items.map Item.d))), some (.val (.int i)), some (.val it.d), some (.val (.bl true))], η1, .inl ?_, _, _, _, rfl, rfl⟩
    cases it with
    | word r z hf =>
      have hc := contains_ok (z := z) hb
      rw [decide_eq_true (find_mem hf)] at hc
      simp [Item.d, is_str_s, hb, hc]
    | thing t =>
      have ht := is_thing_ok hb hok.1 hok.2
      have hi : isD "str" (kd2 t) = some (.bl false) := is_str_t
      simp [Item.d, hi, ht]
  refine run_nx2 (δ := [some (.val (.obj b)), some (.val (.lst (items.map Item.d))), none, none, none]) rfl (δ' := [some (.val (.obj b)), some (.val (.lst (items.map Item.d))), y2, y3, y4]) ?_
  unfold b_check_utterance
  simp [e]
/-! ### one utterance heard -/
def heardL {rs : List Row} : List (Item rs) → List (Thing × Int) → List (Thing × Int) × List (Option Thing)
  | [], k => (k, [])
  | .word r _ _ :: l, k => match takenL r.st k with
    | none => ((heardL l k).1, none :: (heardL l k).2)
    | some t => ((heardL l (movedL k t)).1, some t :: (heardL l (movedL k t)).2)
  | .thing t :: l, k => ((heardL l (movedL k t)).1, some t :: (heardL l (movedL k t)).2)
end
end DL
namespace DL
open PySem L2
abbrev NSL : List Str := ["own_book", "own_kept", "own_heard", "own_lost", "own_past"]
theorem moved_len (k : List (Thing × Int)) (t : Thing) : (movedL k t).length ≤ k.length + 1 := by
  unfold movedL
  have := List.length_filter_le (fun p => decide (p.1 ≠ t)) k
  rw [List.length_cons]; omega
def lostN (tk : List (Option Thing)) : Nat := (tk.filter Option.isNone).length
section
variable {η : List O} {b h p : Nat} {ks : List (Str × Int)} {rs : List Row} {m : D}
theorem opt_non (o : Option Thing) : (optD o).isNon = o.isNone := by cases o <;> rfl
theorem hear_loop (hb : η[b]? = some (.ins 0 NSB [.lst (ks.map kd2), .lst (rs.map Row.d), m])) {l1 l2 l3 l4 : D} (hh : η[h]? = some (.ins 1 NSL [.obj b, l1, l2, l3, l4])) (items : List (Item rs)) (hi : items.length ≤ 100) (k0 : List (Thing × Int)) (hk : k0.length ≤ 500) :
    ∃ y4 y5, loopF (.nm 4) (sSeq (sSet 5 (fIf (fTru (fCall1 (isD "str") (fV 4))) (fCallX 3 m_taken_for (fCons (fFld 1 ["own_book", "own_kept", "own_heard", "own_lost", "own_past"] 0 (fV 0)) (fCons (fV 2) (fCons (fV 4) fNil)))) (fTup (fCons (fOp ixD (fV 4) (fC (.int 0))) (fCons (fOp ixD (fV 4) (fC (.int 1))) fNil)))))
    (sSeq (sMut 3 muApp (fCons (fV 5) fNil))
    (sIf (toB (fOp notN (fV 5) (fC .non))) (sSet 2 (fCall 2 m_moved_front (fCons (fV 2) (fCons (fV 5) fNil)))) SR.nx))) (items.map Item.d) [some (.val (.obj h)), some (.val (.lst (items.map Item.d))), some (.val (.lst (k0.map kpD))), some (.own []), none, none] η =
      .nx [some (.val (.obj h)), some (.val (.lst (items.map Item.d))), some (.val (.lst ((heardL items k0).1.map kpD))), some (.own ((heardL items k0).2.map optD)), y4, y5] η := by
  have h2 : (2 : Nat) ≤ sizeLine := by rw [sizeLine_eq]; decide
  generalize hbb : (sSeq (sSet 5 _) _ : S) = bb
  obtain ⟨δ', η', e, suf, k, tk, y4, y5, q1, q2, q3, q4, q5, q6⟩ := loop_inv (t := .nm 4) (b := bb) (P := fun ds δ η1 => ∃ (suf : List (Item rs)) (k : List (Thing × Int)) (tk : List (Option Thing)) (y4 y5 : Option L), ds = suf.map Item.d ∧ δ = [some (.val (.obj h)), some (.val (.lst (items.map Item.d))), some (.val (.lst (k.map kpD))), some (.own (tk.map optD)), y4, y5] ∧ η1 = η ∧ heardL items k0 = ((heardL suf k).1, tk ++ (heardL suf k).2) ∧ tk.length + suf.length = items.length ∧ k.length ≤ 500 + tk.length)
    (ds := items.map Item.d) (δ := [some (.val (.obj h)), some (.val (.lst (items.map Item.d))), some (.val (.lst (k0.map kpD))), some (.own []), none, none]) (η := η) ⟨items, k0, [], none, none, rfl, rfl, rfl, rfl, by simp, by simpa using hk⟩ fun x r δ η1 ⟨suf, k, tk, y4, y5, q1, q2, q3, q4, q5, q6⟩ => by
    subst q2 q3
    cases suf with
    | nil => cases q1
    | cons it suf =>
      cases q1
      rw [List.length_cons] at q5
      have hal : (tk.map optD).length < sizeLine := len_sz (by simp; omega)
      have hk1 : k.length ≤ 1000 := by omega
      have step : ∀ (o : Option Thing), heardL (it :: suf) k = (match o with | none => ((heardL suf k).1, none :: (heardL suf k).2) | some t => ((heardL suf (movedL k t)).1, some t :: (heardL suf (movedL k t)).2)) →
          (fIf (fTru (fCall1 (isD "str") (fV 4))) (fCallX 3 m_taken_for (fCons (fFld 1 ["own_book", "own_kept", "own_heard", "own_lost", "own_past"] 0 (fV 0)) (fCons (fV 2) (fCons (fV 4) fNil)))) (fTup (fCons (fOp ixD (fV 4) (fC (.int 0))) (fCons (fOp ixD (fV 4) (fC (.int 1))) fNil)))) [some (.val (.obj h)), some (.val (.lst (items.map Item.d))), some (.val (.lst (k.map kpD))), some (.own (tk.map optD)), some (.val it.d), y5] η1 = .ok (optD o) η1 →
          ∃ δ1, asg (.nm 4) it.d [some (.val (.obj h)), some (.val (.lst (items.map Item.d))), some (.val (.lst (k.map kpD))), some (.own (tk.map optD)), y4, y5] = some δ1 ∧ ∃ δ2 η2, (bb δ1 η1 = .nx δ2 η2 ∨ bb δ1 η1 = .ct δ2 η2) ∧ ∃ (suf' : List (Item rs)) (k : List (Thing × Int)) (tk : List (Option Thing)) (y4 y5 : Option L), suf.map Item.d = suf'.map Item.d ∧ δ2 = [some (.val (.obj h)), some (.val (.lst (items.map Item.d))), some (.val (.lst (k.map kpD))), some (.own (tk.map optD)), y4, y5] ∧ η2 = η1 ∧ heardL items k0 = ((heardL suf' k).1, tk ++ (heardL suf' k).2) ∧ tk.length + suf'.length = items.length ∧ k.length ≤ 500 + tk.length := fun o hq hv => by
        refine ⟨_, asg_nm, ?_⟩
        have hadd : (tk ++ [o]).map optD = tk.map optD ++ [optD o] := by simp
        rw [← hbb]
        rw [sSeq_a, sSet_a]
        have hv' := hv
        simp only [List.set_cons_succ, List.set_cons_zero]
        rw [hv']
        cases o with
        | none =>
          refine ⟨[some (.val (.obj h)), some (.val (.lst (items.map Item.d))), some (.val (.lst (k.map kpD))), some (.own ((tk ++ [none]).map optD)), some (.val it.d), some (.val (optD none))], η1, .inl ?_, suf, k, tk ++ [none], _, _, rfl, rfl, rfl, ?_, by rw [List.length_append]; simp; omega, by rw [List.length_append]; simp; omega⟩
          · rw [hadd]
            generalize tk.map optD = acc at hal ⊢
            simp [hal, optD]
          · rw [q4, hq]; simp
        | some t =>
          have hm := moved_ok (η := η1) k t hk1
          refine ⟨[some (.val (.obj h)), some (.val (.lst (items.map Item.d))), some (.val (.lst ((movedL k t).map kpD))), some (.own ((tk ++ [some t]).map optD)), some (.val it.d), some (.val (optD (some t)))], η1, .inl ?_, suf, movedL k t, tk ++ [some t], _, _, rfl, rfl, rfl, ?_, by rw [List.length_append]; simp; omega, ?_⟩
          · rw [hadd]
            generalize tk.map optD = acc at hal ⊢
            have hni : (kd2 t).isNon = false := rfl
            simp [hal, optD, hm, hni]
          · rw [q4, hq]; simp
          · have := moved_len k t
            rw [List.length_append]; simp; omega
      cases it with
      | word r z hf =>
        have ht := taken_ok (z := z) hb hf k
        refine step (takenL r.st k) ?_ ?_
        · first | (rw [heardL]; done) | (rw [heardL]; cases takenL r.st k <;> rfl)
        · simp [-List.map_map, Item.d, is_str_s, hh, ht]
      | thing t =>
        refine step (some t) rfl ?_
        have hst : isD "str" (kd2 t) = some (.bl false) := is_str_t
        have i0 : ixD (kd2 t) (.int 0) = some (.str t.1) := rfl
        have i1 : ixD (kd2 t) (.int 1) = some (.int t.2) := rfl
        simp [Item.d, hst, i0, i1, h2]
        rfl
  have hs : suf = [] := by cases suf with | nil => rfl | cons _ _ => cases q1
  subst hs q2 q3
  refine ⟨y4, y5, ?_⟩
  rw [e, q4]
  simp [heardL]
theorem hear_ok (hb : η[b]? = some (.ins 0 NSB [.lst (ks.map kd2), .lst (rs.map Row.d), m])) (hm : MemOk m) {k0 : List (Thing × Int)} {hd lo : Int} {past : List D} (hh : η[h]? = some (.ins 1 NSL [.obj b, .lst (k0.map kpD), .int hd, .int lo, .obj p])) (hp : η[p]? = some (.lst past)) (hpl : past.length ≤ 1000)
    (items : List (Item rs)) (hi : items.length ≤ 100) (hok : ∀ x ∈ items, x.ok ks) (hk : k0.length ≤ 500) :
    m_Listener_hear [.obj h, .lst (items.map Item.d)] η = .ok (.lst ((heardL items (agedL m k0)).2.map optD)) ((η.set p (.lst (past ++ [.tup [.lst (k0.map kpD), .int hd, .int lo]]))).set h (.ins 1 NSL [.obj b, .lst ((heardL items (agedL m k0)).1.map kpD), .int (hd + 1), .int (lo + lostN (heardL items (agedL m k0)).2), .obj p])) := by
  have npb : ¬ p = b := fun e => by subst e; rw [hb] at hp; cases hp
  have nph : ¬ p = h := fun e => by subst e; rw [hh] at hp; cases hp
  have nbh : ¬ b = h := fun e => by subst e; rw [hh] at hb; cases hb
  have ltp : p < η.length := (List.getElem?_eq_some_iff.mp hp).1
  have lth : h < η.length := (List.getElem?_eq_some_iff.mp hh).1
  have h3 : (3 : Nat) ≤ sizeLine := by rw [sizeLine_eq]; decide
  have hpl2 : past.length < sizeLine := len_sz hpl
  have hc := check_ok hb items hok
  generalize hη : η.set p (.lst (past ++ [.tup [.lst (k0.map kpD), .int hd, .int lo]])) = η2
  have hb2 : η2[b]? = some (.ins 0 NSB [.lst (ks.map kd2), .lst (rs.map Row.d), m]) := by rw [← hη, List.getElem?_set_ne npb]; exact hb
  have hh2 : η2[h]? = some (.ins 1 NSL [.obj b, .lst (k0.map kpD), .int hd, .int lo, .obj p]) := by rw [← hη, List.getElem?_set_ne nph]; exact hh
  have ha := aged_ok hb2 hm k0
  have hkl : (agedL m k0).length ≤ 500 := by
    unfold agedL
    split
    · rename_i mm
      have := List.length_filter_le (fun p : Thing × Int => decide (p.2 < mm)) k0
      rw [List.length_map]; omega
    · rw [List.length_map]; exact hk
  obtain ⟨y4, y5, el⟩ := hear_loop hb2 hh2 items hi (agedL m k0) hkl
  have hs : ∀ x, (η2.set h x)[h]? = some x := fun x => by
    rw [List.getElem?_set_self]; rw [← hη, List.length_set]; exact lth
  have z0 : (0 : Nat) ≤ sizeLine := Nat.zero_le _
  refine run_rt2 (δ := [some (.val (.obj h)), some (.val (.lst (items.map Item.d))), none, none, none, none]) rfl ?_
  unfold b_Listener_hear
  generalize heardL items (agedL m k0) = hr at el ⊢
  obtain ⟨k1, tk⟩ := hr
  dsimp only at el ⊢
  have hcf : ∀ (δ : En) (η : List O), 5 < δ.length → compF (.nm 5) (toB (fOp isN (fV 5) (fC .non))) (fV 5) δ (tk.map optD) η = .ok ((tk.filter Option.isNone).map optD) η := fun δ η hδ => by
    have := comp_filter (t := .nm 5) (ft := toB (fOp isN (fV 5) (fC .non))) (fe := fV 5) (δw := δ) (η := η) (p := D.isNon) (g := fun d => d) (ds := tk.map optD) fun x hx => ⟨_, asg_nm, by simp [hδ], fun _ => by simp [hδ]⟩
    rw [this, List.filter_map, List.map_id', show D.isNon ∘ optD = Option.isNone from funext opt_non]
  generalize hT : tk.map optD = T at *
  generalize hI : items.map Item.d = I at *
  generalize hK : k0.map kpD = K at *
  generalize hA : (agedL m k0).map kpD = A at *
  have c1 := hcf (wipeD [some (L.val (D.obj h)), some (L.val (D.lst I)), some (L.val (D.lst (k1.map kpD))), some (L.val (D.lst T)), y4, y5] [5]) (η2.set h (.ins 1 NSL [.obj b, .lst (k1.map kpD), .int (hd + 1), .int lo, .obj p])) (by show 5 < 6; decide)
  generalize hK1 : k1.map kpD = K1 at *
  have hln : (((tk.filter Option.isNone).map optD).length : Int) = lostN tk := by rw [List.length_map]; rfl
  generalize (tk.filter Option.isNone).map optD = N at c1 hln
  simp [hh, hc, hp, hpl2, h3, hη, hh2, ha, z0]
  rw [el]
  simp [hh2, hs, c1, hln]
end
end DL
namespace DL
open PySem L2
section
variable {η : List O} {b h p : Nat} {ks : List (Str × Int)} {rs : List Row} {m : D}
theorem would_take_ok {l0 : D} {z : Str} {r : Row} (hb : η[b]? = some (.ins 0 NSB [l0, .lst (rs.map Row.d), m])) (hm : MemOk m) {k0 : List (Thing × Int)} {x2 x3 x4 : D} (hh : η[h]? = some (.ins 1 NSL [.obj b, .lst (k0.map kpD), x2, x3, x4])) (hf : rs.find? (fun r => decide (r.n = z)) = some r) :
    m_Listener_would_take [.obj h, .str z] η = .ok (optD (takenL r.st (agedL m k0))) η := by
  have ha := aged_ok hb hm k0
  have ht := taken_ok (z := z) hb hf (agedL m k0)
  refine run_rt2 (δ := [some (.val (.obj h)), some (.val (.str z))]) rfl ?_
  unfold b_Listener_would_take
  generalize (agedL m k0).map kpD = A at *
  simp [hh, ha, ht]
theorem kept_ok {x0 x2 x3 x4 : D} {l : List D} (hh : η[h]? = some (.ins 1 NSL [x0, .lst l, x2, x3, x4])) : m_Listener_kept [.obj h] η = .ok (.lst l) η := by
  refine run_rt2 (δ := [some (.val (.obj h))]) rfl ?_
  unfold b_Listener_kept
  simp [hh]
theorem heard_ok {x0 x1 x2 x3 x4 : D} (hh : η[h]? = some (.ins 1 NSL [x0, x1, x2, x3, x4])) : m_Listener_heard [.obj h] η = .ok x2 η := by
  refine run_rt2 (δ := [some (.val (.obj h))]) rfl ?_
  unfold b_Listener_heard
  simp [hh]
theorem lost_ok {x0 x1 x2 x3 x4 : D} (hh : η[h]? = some (.ins 1 NSL [x0, x1, x2, x3, x4])) : m_Listener_lost [.obj h] η = .ok x3 η := by
  refine run_rt2 (δ := [some (.val (.obj h))]) rfl ?_
  unfold b_Listener_lost
  simp [hh]
theorem listener_init_ok (hh : η[h]? = some (.ins 1 [] [])) : m_Listener___init__ [.obj h, .obj b] η = .ok .non (η.set h (.ins 1 NSL [.obj b, .lst [], .int 0, .int 0, .obj η.length]) ++ [.lst []]) := by
  have lth : h < η.length := (List.getElem?_eq_some_iff.mp hh).1
  have hs : ∀ x, (η.set h x)[h]? = some x := fun x => by rw [List.getElem?_set_self lth]
  have hs2 : ∀ x y, (η.set h x ++ [y])[h]? = some x := fun x y => by rw [List.getElem?_append_left (by rw [List.length_set]; exact lth)]; exact hs x
  have hs3 : ∀ x y z, (η.set h x ++ [y]).set h z = η.set h z ++ [y] := fun x y z => by rw [List.set_append_left h z (by rw [List.length_set]; exact lth), List.set_set]
  have z0 : (0 : Nat) ≤ sizeLine := Nat.zero_le _
  refine run_nx2 (δ := [some (.val (.obj h)), some (.val (.obj b))]) rfl (δ' := [some (.val (.obj h)), some (.val (.obj b))]) ?_
  unfold b_Listener___init__
  simp [hh, hs, hs2, hs3, z0]
end
end DL
namespace DL
open PySem L2
def b_law_book : S := (sSeq (sFrz 3 (fLc [5] (fiA (fSl (fV 1) fNoP (fPt (fOp addD (fC (.int 1)) (fCall 2 m_law_pick (fCons (fV 0) (fCons (fC (.int 3)) fNil))))))) (.nm 5) fYes (fTup (fCons (fV 5) (fCons (fCall 2 m_law_pick (fCons (fV 0) (fCons (fC (.int 100)) fNil))) fNil)))))
    (sSeq (sOwn 4 (fLstN fNil))
    (sSeq (sFor (fiA (fSl (fV 1) (fPt (fC (.int 3))) (fPt (fOp addD (fC (.int 3)) (fCall 2 m_law_pick (fCons (fV 0) (fCons (fOp addD (fV 2) (fC (.int 1))) fNil))))))) (.nm 5) (sSeq (sFrz 6 (fLc [7] (fiA (fV 3)) (.nm 7) (toB (fOp eqD (fCall 2 m_law_pick (fCons (fV 0) (fCons (fC (.int 2)) fNil))) (fC (.int 0)))) (fOp ixD (fV 7) (fC (.int 0)))))
    (sSeq (sSet 6 (fIf (toB (fOp neD (fV 6) (fFrz (fLstN fNil)))) (fV 6) (fFrz (fLstN (fCons (fOp ixD (fCall 2 m_law_of (fCons (fV 0) (fCons (fV 3) fNil))) (fC (.int 0))) fNil)))))
    (sMut 4 muApp (fCons (fTup (fCons (fV 5) (fCons (fCall1 tupC (fV 6)) (fCons (fCall 2 m_law_of (fCons (fV 0) (fCons (fFrz (fLstN (fCons (fC (.int 0)) (fCons (fC (.int 1)) (fCons (fC (.int 2)) (fCons (fC (.int 3)) (fCons (fCall 2 m_law_pick (fCons (fV 0) (fCons (fC (.int 100)) fNil))) fNil))))))) fNil))) fNil)))) fNil)))))
    (sFz 4 (sRet (fTup (fCons (fV 3) (fCons (fV 4) (fCons (fCall 2 m_law_of (fCons (fV 0) (fCons (fFrz (fLstN (fCons (fC .non) (fCons (fC .non) (fCons (fC (.int 1)) (fCons (fC (.int 2)) (fCons (fC (.int 3)) (fCons (fC (.int 4)) fNil)))))))) fNil))) fNil)))))))))
def m_law_book : DF := runD 8 b_law_book
def b_law_made : S := (sRet (fNewIX 0 3 1 4 m_Book___init__ [0, 1, 2, 3] [] (fCons (fFrz (fListN (fOp ixD (fV 0) (fC (.int 0))))) (fCons (fFrz (fListN (fOp ixD (fV 0) (fC (.int 1))))) fNil)) (fCons (fOp ixD (fV 0) (fC (.int 2))) fNil)))
def m_law_made : DF := runD 1 b_law_made
def b_law_thing : S := (sRet (fTup (fCons (fOp ixD (fCall 2 m_law_of (fCons (fV 0) (fCons (fOp ixD (fV 1) (fC (.int 0))) fNil))) (fC (.int 0))) (fCons (fCall 2 m_law_of (fCons (fV 0) (fCons (fFrz (fLstN (fCons (fC (.int 0)) (fCons (fC (.int 0)) (fCons (fC (.int 1)) (fCons (fC (.int 1)) (fCons (fC (.int 2)) (fCons (fOp powD (fC (.int 10)) (fC (.int 20))) fNil)))))))) fNil))) fNil))))
def m_law_thing : DF := runD 2 b_law_thing
def b_law_aged : S := (sRet (fFrz (fLc [2, 3] (fiA (fV 1)) (.tp [(.nm 2), (.nm 3)]) (fOrB (toB (fOp isN (fOp ixD (fV 0) (fC (.int 2))) (fC .non))) (toB (fOp ltD (fV 3) (fOp ixD (fV 0) (fC (.int 2)))))) (fTup (fCons (fV 2) (fCons (fOp addD (fV 3) (fC (.int 1))) fNil))))))
def m_law_aged : DF := runD 4 b_law_aged
def b_law_stands : S := (sRet (fOp ixD (fFrz (fLc [2, 3, 4] (fiA (fOp ixD (fV 0) (fC (.int 1)))) (.tp [(.nm 2), (.nm 3), (.nm 4)]) (toB (fOp eqD (fV 2) (fV 1))) (fV 3))) (fC (.int 0))))
def m_law_stands : DF := runD 5 b_law_stands
def b_law_taken : S := (sSeq (sFrz 3 (fLc [4, 5] (fiA (fV 1)) (.tp [(.nm 4), (.nm 5)]) (toB (fOp inD (fOp ixD (fV 4) (fC (.int 0))) (fCall 2 m_law_stands (fCons (fV 0) (fCons (fV 2) fNil))))) (fV 4)))
    (sRet (fIf (toB (fOp neD (fV 3) (fFrz (fLstN fNil)))) (fOp ixD (fV 3) (fC (.int 0))) (fC .non))))
def m_law_taken : DF := runD 6 b_law_taken
def b_law_front : S := (sRet (fOp addD (fFrz (fLstN (fCons (fTup (fCons (fV 1) (fCons (fC (.int 0)) fNil))) fNil))) (fFrz (fLc [2] (fiA (fV 0)) (.nm 2) (toB (fOp neD (fOp ixD (fV 2) (fC (.int 0))) (fV 1))) (fV 2)))))
def m_law_front : DF := runD 3 b_law_front
def b_law_lines : S := (sSeq (sOwn 4 (fLstN fNil))
    (sSeq (sFor (fiR1 (fCall 2 m_law_pick (fCons (fV 0) (fCons (fOp addD (fV 2) (fC (.int 1))) fNil)))) (.nm 5) (sMut 4 muApp (fCons (fFrz (fLc [6] (fiR1 (fCall 2 m_law_pick (fCons (fV 0) (fCons (fOp addD (fV 3) (fC (.int 1))) fNil)))) (.nm 6) fYes (fCall 2 m_law_thing (fCons (fV 0) (fCons (fV 1) fNil))))) fNil)))
    (sFz 4 (sRet (fV 4)))))
def m_law_lines : DF := runD 7 b_law_lines
end DL
namespace DL
open PySem L2
@[simp] theorem sParNV_a {δ : En} {η : List O} {i j : Nat} {fs : F (List D)} {fa : F D} : sParNV i j fs fa δ η = (fs δ η).toS δ fun l η => (fa δ η).toS δ fun d η => .nx ((δ.set i (some (.own l))).set j (some (.val d))) η := rfl
@[simp] theorem sPar3_a {δ : En} {η : List O} {i j l : Nat} {fa fb fc : F D} : sPar3 i j l fa fb fc δ η = (fa δ η).toS δ fun d η => (fb δ η).toS δ fun e η => (fc δ η).toS δ fun g η => .nx (((δ.set i (some (.val d))).set j (some (.val e))).set l (some (.val g))) η := rfl
theorem pure_strsN (n : Nat) : ∀ zs : List Str, pureDs n (zs.map .str) = true
  | [] => rfl
  | z :: zs => by rw [List.map_cons, pureDs, pure_strsN n zs]; cases n <;> rfl
theorem neD_nil {zs : List Str} : neD (.lst (zs.map .str)) (.lst []) = some (.bl (!zs.isEmpty)) := by
  unfold neD
  rw [if_pos ⟨pure_strsN 19 zs, rfl⟩]
  cases zs with
  | nil => rfl
  | cons z zs =>
    have : eqvD (.lst ((z :: zs).map .str)) (.lst []) = false := by
      show PyData.eqv (.list (toPy (.str z) :: toPys (zs.map .str))) (.list []) = false
      rw [PyData.eqv, PyData.eqvAll]
      all_goals (intros; simp_all)
    rw [this]; rfl
/-- related, one by one -/
inductive P2 {α β : Type} (Q : α → β → Prop) : List α → List β → Prop
  | nil : P2 Q [] []
  | cons {a : α} {b : β} {l : List α} {m : List β} : Q a b → P2 Q l m → P2 Q (a :: l) (b :: m)
theorem comp_st3 {α β : Type} {t : Tg} {fe : F D} {δw : En} (enc : α → D) (dec : β → D) (P : List O → Prop) (Q : α → β → Prop) (hs : ∀ x η, P η → ∃ δ1, asg t (enc x) δw = some δ1 ∧ ∃ y η', fe δ1 η = .ok (dec y) η' ∧ P η' ∧ Q x y) :
    ∀ {zs : List α} {η : List O}, P η → ∃ ys η', compF t fYes fe δw (zs.map enc) η = .ok (ys.map dec) η' ∧ P η' ∧ P2 Q zs ys
  | [], η, h => ⟨[], η, rfl, h, .nil⟩
  | x :: r, η, h => by
    obtain ⟨δ1, e1, y, η1, e3, h1, q1⟩ := hs x η h
    obtain ⟨ys, η2, e4, h2, q2⟩ := comp_st3 enc dec P Q hs (zs := r) h1
    refine ⟨y :: ys, η2, ?_, h2, .cons q1 q2⟩
    rw [List.map_cons, compF, e1]
    simp only [fYes_a, e3, e4, nox_ok, bind_ok, if_true, List.map_cons]
/-- a comprehension that draws which to take -/
theorem comp_sub {α : Type} {t : Tg} {ft : F Bool} {fe : F D} {δw : En} (enc : α → D) (g : α → D) (P : List O → Prop) (hs : ∀ x η, P η → ∃ δ1, asg t (enc x) δw = some δ1 ∧ ∃ b η', ft δ1 η = .ok b η' ∧ P η' ∧ fe δ1 η' = .ok (g x) η') :
    ∀ {zs : List α} {η : List O}, P η → ∃ (ys : List α) (η' : List O), compF t ft fe δw (zs.map enc) η = .ok (ys.map g) η' ∧ P η' ∧ ys.Sublist zs
  | [], η, h => ⟨[], η, rfl, h, .slnil⟩
  | x :: r, η, h => by
    obtain ⟨δ1, e1, b, η1, e2, h1, e3⟩ := hs x η h
    obtain ⟨ys, η2, e4, h2, q2⟩ := comp_sub enc g P hs (zs := r) h1
    cases b with
    | true =>
      refine ⟨x :: ys, η2, ?_, h2, q2.cons_cons x⟩
      rw [List.map_cons, compF, e1]
      simp only [e2, e3, e4, nox_ok, bind_ok, if_true, List.map_cons]
    | false =>
      refine ⟨ys, η2, ?_, h2, q2.cons x⟩
      rw [List.map_cons, compF, e1]
      simp only [e2, e4, nox_ok, bind_ok, Bool.false_eq_true, if_false]
theorem P2.fst {ns : List Str} {ks : List (Str × Int)} (h : P2 (fun s k => k.1 = s ∧ 0 ≤ k.2 ∧ k.2 ≤ 99) ns ks) : ks.map (·.1) = ns ∧ ∀ k ∈ ks, 0 ≤ k.2 ∧ k.2 ≤ 99 := by
  induction h with
  | nil => exact ⟨rfl, by simp⟩
  | cons q _ ih =>
    refine ⟨by rw [List.map_cons, q.1, ih.1], fun k hk => ?_⟩
    rcases List.mem_cons.mp hk with rfl | hk
    · exact q.2
    · exact ih.2 k hk
theorem cut_take' {zs : List Str} {k : Int} (h0 : 0 ≤ k) (h : k ≤ zs.length) : cutD (zs.map .str) none (some k) = (zs.take k.toNat).map .str := by
  have := cut_take (l := zs.map .str) (m := k.toNat) (by rw [List.length_map]; omega)
  rw [show ((k.toNat : Nat) : Int) = k by omega] at this
  rw [this, List.map_take]
theorem cut_mid {zs : List Str} {k : Int} (h0 : 0 ≤ k) (h3 : 3 ≤ zs.length) (h : 3 + k ≤ zs.length) : cutD (zs.map .str) (some 3) (some (3 + k)) = ((zs.drop 3).take k.toNat).map .str := by
  unfold cutD
  have e1 : HT.sIx (zs.map D.str).length 0 (some 3) = 3 := by simp [HT.sIx]; omega
  have e2 : HT.sIx (zs.map D.str).length (zs.map D.str).length (some (3 + k)) = 3 + k.toNat := by
    have : ¬ 3 + k < 0 := by omega
    simp [HT.sIx, this]; omega
  rw [e1, e2, List.map_take, List.map_drop]
  congr 1
  omega
structure BookDrawn (ks : List (Str × Int)) (rs : List Row) (m : D) : Prop where
  k : KindsOk ks
  k3 : ks.length ≤ 3
  r : RowsOk (ks.map (·.1)) rs
  m : MemOk m
  fit : rs.map (Row.fit (ks.map (·.1))) = rs
theorem filter_sub {names st : List Str} (hn : names.Nodup) (h : st.Sublist names) : (names.filter fun s => decide (s ∈ st)) = st := by
  induction h with
  | slnil => rfl
  | @cons l1 l2 a h ih =>
    have hn2 := (List.nodup_cons.mp hn)
    have : a ∉ l1 := fun q => hn2.1 (h.subset q)
    rw [List.filter_cons_of_neg (by simpa using this)]
    exact ih hn2.2
  | @cons_cons l1 l2 a h ih =>
    have hn2 := (List.nodup_cons.mp hn)
    rw [List.filter_cons_of_pos (by simp)]
    congr 1
    refine Eq.trans ?_ (ih hn2.2)
    refine List.filter_congr fun x hx => ?_
    have : x ≠ a := fun e => hn2.1 (e ▸ hx)
    simp [this]

/-- one row is drawn -/
theorem row_step {fp r : List O} {o : O} (hf : Feed o) {ks : List (Str × Int)} (hK : KindsOk ks) {s : Str} {x1 x2 y6 y7 : Option L} {acc : List D} (hacc : acc.length ≤ 100) :
    ∃ (st : List Str) (p : Int) (o' : O) (z6 : Option L), (sSeq (sFrz 6 (fLc [7] (fiA (fV 3)) (.nm 7) (toB (fOp eqD (fCall 2 m_law_pick (fCons (fV 0) (fCons (fC (.int 2)) fNil))) (fC (.int 0)))) (fOp ixD (fV 7) (fC (.int 0)))))
    (sSeq (sSet 6 (fIf (toB (fOp neD (fV 6) (fFrz (fLstN fNil)))) (fV 6) (fFrz (fLstN (fCons (fOp ixD (fCall 2 m_law_of (fCons (fV 0) (fCons (fV 3) fNil))) (fC (.int 0))) fNil)))))
    (sMut 4 muApp (fCons (fTup (fCons (fV 5) (fCons (fCall1 tupC (fV 6)) (fCons (fCall 2 m_law_of (fCons (fV 0) (fCons (fFrz (fLstN (fCons (fC (.int 0)) (fCons (fC (.int 1)) (fCons (fC (.int 2)) (fCons (fC (.int 3)) (fCons (fCall 2 m_law_pick (fCons (fV 0) (fCons (fC (.int 100)) fNil))) fNil))))))) fNil))) fNil)))) fNil))))
      [some (.val (.obj fp.length)), x1, x2, some (.val (.lst (ks.map kd2))), some (.own acc), some (.val (.str s)), y6, y7] (fp ++ o :: r) = .nx [some (.val (.obj fp.length)), x1, x2, some (.val (.lst (ks.map kd2))), some (.own (acc ++ [Row.d ⟨s, st, p⟩])), some (.val (.str s)), z6, y7] (fp ++ o' :: r) ∧ Feed o' ∧ st ≠ [] ∧ st.Sublist (ks.map (·.1)) ∧ 0 ≤ p ∧ p ≤ 99 := by
  have z0 : (0 : Nat) ≤ sizeLine := Nat.zero_le _
  have z1 : (1 : Nat) ≤ sizeLine := by rw [sizeLine_eq]; decide
  have z3 : (3 : Nat) ≤ sizeLine := by rw [sizeLine_eq]; decide
  have z5 : (5 : Nat) ≤ sizeLine := by rw [sizeLine_eq]; decide
  have hal : acc.length < sizeLine := len_sz (by omega)
  have hc := fun (δ : En) (hδ0 : δ[0]? = some (some (.val (.obj fp.length)))) (hδ : 7 < δ.length) => comp_sub (t := .nm 7) (ft := toB (fOp eqD (fCall 2 m_law_pick (fCons (fV 0) (fCons (fC (.int 2)) fNil))) (fC (.int 0)))) (fe := fOp ixD (fV 7) (fC (.int 0))) (δw := δ) kd2 (fun k => D.str k.1) (fun η => ∃ o, η = fp ++ o :: r ∧ Feed o) (fun x η ⟨o, h, f⟩ => by
    subst h
    obtain ⟨p, o2, e2, f2, p0, p1⟩ := pick0 (fp := fp) (r := r) f 2 (by decide) (by decide)
    have hi : ixD (kd2 x) (.int 0) = some (.str x.1) := rfl
    exact ⟨_, asg_nm, decide (p = 0), fp ++ o2 :: r, by simp [hδ0, e2], ⟨o2, rfl, f2⟩, by simp [hδ, hi]⟩) (zs := ks) (η := fp ++ o :: r) ⟨o, rfl, hf⟩
  obtain ⟨ys, _, ec, ⟨o1, rfl, f1⟩, hs⟩ := hc (wipeD [some (.val (.obj fp.length)), x1, x2, some (.val (.lst (ks.map kd2))), some (.own acc), some (.val (.str s)), y6, y7] [7]) rfl (by show 7 < 8; decide)
  have hy : ys.map (fun k => D.str k.1) = (ys.map (·.1)).map .str := by rw [List.map_map]; rfl
  rw [hy] at ec
  have hsub : (ys.map (·.1)).Sublist (ks.map (·.1)) := hs.map _
  have hne := neD_nil (zs := ys.map (·.1))
  -- what the stands are
  have hst : ∃ (st : List Str) (o2 : O), (fIf (toB (fOp neD (fV 6) (fFrz (fLstN fNil)))) (fV 6) (fFrz (fLstN (fCons (fOp ixD (fCall 2 m_law_of (fCons (fV 0) (fCons (fV 3) fNil))) (fC (.int 0))) fNil)))) [some (.val (.obj fp.length)), x1, x2, some (.val (.lst (ks.map kd2))), some (.own acc), some (.val (.str s)), some (.val (.lst ((ys.map (·.1)).map .str))), y7] (fp ++ o1 :: r) = .ok (.lst (st.map .str)) (fp ++ o2 :: r) ∧ Feed o2 ∧ st ≠ [] ∧ st.Sublist (ks.map (·.1)) := by
    generalize ys.map (·.1) = zs at hsub hne ⊢
    cases zs with
    | nil =>
      obtain ⟨d, o2, e2, f2, hd⟩ := of0 (fp := fp) (r := r) f1 (ks.map kd2) (by rw [List.length_map]; exact hK.l0) (by rw [List.length_map]; have := hK.l1; omega)
      obtain ⟨k, hk, rfl⟩ := List.mem_map.mp hd
      have hi : ixD (kd2 k) (.int 0) = some (.str k.1) := rfl
      refine ⟨[k.1], o2, ?_, f2, by simp, List.singleton_sublist.mpr (List.mem_map_of_mem hk)⟩
      have hne' : neD (.lst []) (.lst []) = some (.bl false) := hne
      simp [z0, z1, hne', e2, hi]
    | cons z zs =>
      refine ⟨z :: zs, o1, ?_, f1, by simp, hsub⟩
      generalize hl : (z :: zs).map D.str = l at hne ⊢
      have hne' : neD (.lst l) (.lst []) = some (.bl true) := hne
      simp [z0, hne']
  obtain ⟨st, o2, e2, f2, n2, s2⟩ := hst
  obtain ⟨p, o3, e3, f3, p0, p1⟩ := pick0 (fp := fp) (r := r) f2 100 (by decide) (by decide)
  obtain ⟨d, o4, e4, f4, hd⟩ := of0 (fp := fp) (r := r) f3 [.int 0, .int 1, .int 2, .int 3, .int p] (by simp) (by simp)
  obtain ⟨q, rfl, q0, q1⟩ : ∃ q : Int, d = .int q ∧ 0 ≤ q ∧ q ≤ 99 := by
    simp only [List.mem_cons, List.not_mem_nil, or_false] at hd
    rcases hd with rfl | rfl | rfl | rfl | rfl
    · exact ⟨0, rfl, by decide, by decide⟩
    · exact ⟨1, rfl, by decide, by decide⟩
    · exact ⟨2, rfl, by decide, by decide⟩
    · exact ⟨3, rfl, by decide, by decide⟩
    · exact ⟨p, rfl, p0, by omega⟩
  refine ⟨st, q, o4, some (.val (.lst (st.map .str))), ?_, f4, n2, s2, q0, q1⟩
  generalize (ys.map (·.1)).map D.str = Y at ec e2
  generalize hS : st.map D.str = S2 at e2
  generalize hKs : ks.map kd2 = KK at *
  rw [sSeq_a]
  have h1 : (sFrz 6 (fLc [7] (fiA (fV 3)) (.nm 7) (toB (fOp eqD (fCall 2 m_law_pick (fCons (fV 0) (fCons (fC (.int 2)) fNil))) (fC (.int 0)))) (fOp ixD (fV 7) (fC (.int 0))))) [some (.val (.obj fp.length)), x1, x2, some (.val (.lst KK)), some (.own acc), some (.val (.str s)), y6, y7] (fp ++ o :: r) = .nx [some (.val (.obj fp.length)), x1, x2, some (.val (.lst KK)), some (.own acc), some (.val (.str s)), some (.val (.lst Y)), y7] (fp ++ o1 :: r) := by
    simp [ec]
  rw [h1, seq_nx, sSeq_a, sSet_a, e2, toS_ok, seq_nx]
  have hrow : Row.d ⟨s, st, q⟩ = .tup [.str s, .tup S2, .int q] := by rw [← hS]; rfl
  rw [hrow]
  simp [e3, e4, z3, z5, hal]
theorem law_book_ok2 {fp r : List O} {o : O} (hf : Feed o) {ns : List Str} (hN : Names ns) (hl : 7 ≤ ns.length) (hl2 : ns.length ≤ 26) {most : Nat} (hm : most ≤ 4) :
    ∃ ks rs m o', m_law_book [.obj fp.length, .lst (ns.map .str), .int most] (fp ++ o :: r) = .ok (.tup [.lst (ks.map kd2), .lst (rs.map Row.d), m]) (fp ++ o' :: r) ∧ Feed o' ∧ BookDrawn ks rs m ∧ (∃ j : Nat, j ≤ 3 ∧ ks.map (·.1) = ns.take j) ∧ ∃ i : Nat, i ≤ most ∧ rs.map (·.n) = (ns.drop 3).take i := by
  have z0 : (0 : Nat) ≤ sizeLine := Nat.zero_le _
  have z1 : (1 : Nat) ≤ sizeLine := by rw [sizeLine_eq]; decide
  have z2 : (2 : Nat) ≤ sizeLine := by rw [sizeLine_eq]; decide
  have z3 : (3 : Nat) ≤ sizeLine := by rw [sizeLine_eq]; decide
  have z5 : (5 : Nat) ≤ sizeLine := by rw [sizeLine_eq]; decide
  have z6 : (6 : Nat) ≤ sizeLine := by rw [sizeLine_eq]; decide
  obtain ⟨a, o1, e1, f1, a0, a1⟩ := pick0 (fp := fp) (r := r) hf 3 (by decide) (by decide)
  have ca := cut_take' (zs := ns) (k := 1 + a) (by omega) (by omega)
  -- the kinds
  have hk := fun (δ : En) (hδ0 : δ[0]? = some (some (.val (.obj fp.length)))) (hδ : 5 < δ.length) => comp_st3 (t := .nm 5) (fe := fTup (fCons (fV 5) (fCons (fCall 2 m_law_pick (fCons (fV 0) (fCons (fC (.int 100)) fNil))) fNil))) (δw := δ) D.str kd2 (fun η => ∃ o, η = fp ++ o :: r ∧ Feed o) (fun s k => k.1 = s ∧ 0 ≤ k.2 ∧ k.2 ≤ 99) (fun x η ⟨o, h, f⟩ => by
    subst h
    obtain ⟨p, o2, e2, f2, p0, p1⟩ := pick0 (fp := fp) (r := r) f 100 (by decide) (by decide)
    have g0 : (δ.set 5 (some (.val (.str x))))[0]? = some (some (.val (.obj fp.length))) := by rw [List.getElem?_set_ne (by decide)]; exact hδ0
    exact ⟨_, asg_nm, (x, p), fp ++ o2 :: r, by simp [hδ0, hδ, e2, z2, kd2], ⟨o2, rfl, f2⟩, rfl, p0, by omega⟩) (zs := ns.take (1 + a).toNat) (η := fp ++ o1 :: r) ⟨o1, rfl, f1⟩
  obtain ⟨ks, _, ek, ⟨o2, rfl, f2⟩, hP⟩ := hk (wipeD [some (.val (.obj fp.length)), some (.val (.lst (ns.map .str))), some (.val (.int most)), none, none, none, none, none] [5]) rfl (by show 5 < 8; decide)
  obtain ⟨hks, hpr⟩ := hP.fst
  have hkl : ks.length = (1 + a).toNat := by
    have := congrArg List.length hks
    rw [List.length_map, List.length_take] at this
    omega
  have hnd : (ks.map (·.1)).Nodup := by rw [hks]; exact hN.nd.sublist (List.take_sublist _ _)
  have hK : KindsOk ks := ⟨by omega, by omega, hnd, fun k hk => by
    have hm1 : k.1 ∈ ns := List.mem_of_mem_take (by rw [← hks]; exact List.mem_map_of_mem hk)
    exact ⟨(hN.nm _ hm1).1, (hN.nm _ hm1).2, (hpr k hk).1, (hpr k hk).2⟩⟩
  obtain ⟨c, o3, e3, f3, c0, c1⟩ := pick0 (fp := fp) (r := r) f2 (most + 1) (by omega) (by omega)
  have cm := cut_mid (zs := ns) (k := c) c0 (by omega) (by omega)
  obtain ⟨nm2, hnm2⟩ : ∃ nm2, nm2 = (ns.drop 3).take c.toNat := ⟨_, rfl⟩
  rw [← hnm2] at cm
  have sub2 : nm2.Sublist ns := by rw [hnm2]; exact (List.take_sublist _ _).trans (List.drop_sublist _ _)
  have len2 : nm2.length ≤ 4 := by rw [hnm2, List.length_take]; omega
  generalize hbb : (sSeq (sFrz 6 (fLc [7] (fiA (fV 3)) (.nm 7) (toB (fOp eqD (fCall 2 m_law_pick (fCons (fV 0) (fCons (fC (.int 2)) fNil))) (fC (.int 0)))) (fOp ixD (fV 7) (fC (.int 0)))))
    (sSeq (sSet 6 (fIf (toB (fOp neD (fV 6) (fFrz (fLstN fNil)))) (fV 6) (fFrz (fLstN (fCons (fOp ixD (fCall 2 m_law_of (fCons (fV 0) (fCons (fV 3) fNil))) (fC (.int 0))) fNil)))))
    (sMut 4 muApp (fCons (fTup (fCons (fV 5) (fCons (fCall1 tupC (fV 6)) (fCons (fCall 2 m_law_of (fCons (fV 0) (fCons (fFrz (fLstN (fCons (fC (.int 0)) (fCons (fC (.int 1)) (fCons (fC (.int 2)) (fCons (fC (.int 3)) (fCons (fCall 2 m_law_pick (fCons (fV 0) (fCons (fC (.int 100)) fNil))) fNil))))))) fNil))) fNil)))) fNil))) : S) = bb
  obtain ⟨δ', η', el, o4, pre, suf, rs, y5, y6, q1, q2, q3, q4, q5, q6, q7⟩ := loop_inv (t := .nm 5) (b := bb) (P := fun ds δ η => ∃ (o : O) (pre suf : List Str) (rs : List Row) (y5 y6 : Option L), nm2 = pre ++ suf ∧ ds = suf.map .str ∧ rs.map (·.n) = pre ∧ η = fp ++ o :: r ∧ Feed o ∧ (∀ w ∈ rs, w.st ≠ [] ∧ w.st.Sublist (ks.map (·.1)) ∧ 0 ≤ w.p ∧ w.p ≤ 99) ∧
      δ = [some (.val (.obj fp.length)), some (.val (.lst (ns.map .str))), some (.val (.int most)), some (.val (.lst (ks.map kd2))), some (.own (rs.map Row.d)), y5, y6, none]) (ds := nm2.map .str) (δ := [some (.val (.obj fp.length)), some (.val (.lst (ns.map .str))), some (.val (.int most)), some (.val (.lst (ks.map kd2))), some (.own []), none, none, none]) (η := fp ++ o3 :: r) ⟨o3, [], nm2, [], none, none, rfl, rfl, rfl, rfl, f3, by simp, rfl⟩ fun x rest δ η ⟨o, pre, suf, rs, y5, y6, q1, q2, q3, q4, q5, q6, q7⟩ => by
    subst q4 q7
    cases suf with
    | nil => cases q2
    | cons z suf =>
      cases q2
      have hrl : rs.length = pre.length := by rw [← q3, List.length_map]
      have hpl : pre.length ≤ 4 := by have := congrArg List.length q1; rw [List.length_append] at this; omega
      obtain ⟨st, p, o', z6, es, f', n', s', p0, p1⟩ := row_step (fp := fp) (r := r) q5 hK (s := z) (x1 := some (.val (.lst (ns.map .str)))) (x2 := some (.val (.int most))) (y6 := y6) (y7 := none) (acc := rs.map Row.d) (by rw [List.length_map]; omega)
      rw [hbb] at es
      refine ⟨_, asg_nm, _, _, .inl es, o', pre ++ [z], suf, rs ++ [⟨z, st, p⟩], _, _, by rw [q1]; simp, rfl, by rw [List.map_append, q3]; rfl, rfl, f', fun w hw => ?_, by rw [List.map_append]; rfl⟩
      rcases List.mem_append.mp hw with hw | hw
      · exact q6 w hw
      · rw [List.mem_singleton] at hw
        subst hw
        exact ⟨n', s', p0, p1⟩
  have hs : suf = [] := by cases suf with | nil => rfl | cons _ _ => cases q2
  subst hs q4 q7
  rw [List.append_nil] at q1
  have hrn : rs.map (·.n) = nm2 := by rw [q3, q1]
  have hR : RowsOk (ks.map (·.1)) rs := by
    refine ⟨by have := congrArg List.length hrn; rw [List.length_map] at this; omega, by rw [hrn]; exact hN.nd.sublist sub2, fun w hw => ?_⟩
    obtain ⟨w1, w2, w3, w4⟩ := q6 w hw
    have hmem : w.n ∈ ns := sub2.subset (by rw [← hrn]; exact List.mem_map_of_mem hw)
    have hlen := w2.length_le
    rw [List.length_map] at hlen
    have := hK.l1
    exact ⟨hN.nm _ hmem, by simp, w3, w4, w1, fun s hs => w2.subset hs, hnd.sublist w2, by omega⟩
  have hfit : rs.map (Row.fit (ks.map (·.1))) = rs := by
    have h : rs.map (Row.fit (ks.map (·.1))) = rs.map id := List.map_congr_left fun w hw => by
      unfold Row.fit
      rw [filter_sub hnd (q6 w hw).2.1]
      rfl
    rw [h, List.map_id]
  obtain ⟨m, o5, e5, f5, hmm⟩ := of0 (fp := fp) (r := r) q5 [.non, .non, .int 1, .int 2, .int 3, .int 4] (by decide) (by decide)
  have hM : MemOk m := by
    simp only [List.mem_cons, List.not_mem_nil, or_false] at hmm
    rcases hmm with rfl | rfl | rfl | rfl | rfl | rfl
    · exact .non
    · exact .non
    all_goals exact .int (by decide) (by decide)
  refine ⟨ks, rs, m, o5, run_rt2 (δ := [some (.val (.obj fp.length)), some (.val (.lst (ns.map .str))), some (.val (.int most)), none, none, none, none, none]) rfl ?_, f5, ⟨hK, by omega, hR, hM, hfit⟩, ⟨(1 + a).toNat, by omega, hks⟩, ⟨c.toNat, by omega, by rw [hrn, hnm2]⟩⟩
  unfold b_law_book
  rw [hbb]
  generalize hKK : ks.map kd2 = KK at *
  generalize hRR : rs.map Row.d = RR at *
  generalize hNN : ns.map D.str = NN at *
  generalize hTT : (ns.take (1 + a).toNat).map D.str = TT at *
  generalize hMM : nm2.map D.str = MM at *
  rw [sSeq_a]
  have h1 : (sFrz 3 (fLc [5] (fiA (fSl (fV 1) fNoP (fPt (fOp addD (fC (.int 1)) (fCall 2 m_law_pick (fCons (fV 0) (fCons (fC (.int 3)) fNil))))))) (.nm 5) fYes (fTup (fCons (fV 5) (fCons (fCall 2 m_law_pick (fCons (fV 0) (fCons (fC (.int 100)) fNil))) fNil))))) [some (.val (.obj fp.length)), some (.val (.lst NN)), some (.val (.int most)), none, none, none, none, none] (fp ++ o :: r) = .nx [some (.val (.obj fp.length)), some (.val (.lst NN)), some (.val (.int most)), some (.val (.lst KK)), none, none, none, none] (fp ++ o2 :: r) := by
    simp [e1, ca, ek]
  rw [h1]
  simp [z0, e3, cm]
  rw [el]
  simp [e5, z3, z6]
theorem law_book_ok {fp r : List O} {o : O} (hf : Feed o) {ns : List Str} (hN : Names ns) (hl : 7 ≤ ns.length) (hl2 : ns.length ≤ 26) {most : Nat} (hm : most ≤ 4) :
    ∃ ks rs m o', m_law_book [.obj fp.length, .lst (ns.map .str), .int most] (fp ++ o :: r) = .ok (.tup [.lst (ks.map kd2), .lst (rs.map Row.d), m]) (fp ++ o' :: r) ∧ Feed o' ∧ BookDrawn ks rs m := by
  obtain ⟨ks, rs, m, o', e, f, h, _⟩ := law_book_ok2 (fp := fp) (r := r) hf hN hl hl2 hm
  exact ⟨ks, rs, m, o', e, f, h⟩
theorem fresh_of {ns : List Str} (hN : Names ns) {i j n : Nat} (hj : j < ns.length) (h : n + i ≤ j) : ns[j] ∉ (ns.drop n).take i := fun hm => by
  obtain ⟨k, hk, e⟩ := List.getElem_of_mem hm
  rw [List.length_take, List.length_drop] at hk
  rw [List.getElem_take, List.getElem_drop] at e
  exact List.pairwise_iff_getElem.mp hN.nd (n + k) j (by omega) hj (by omega) e
theorem fresh_take {ns : List Str} (hN : Names ns) {i j : Nat} (hj : j < ns.length) (h : i ≤ j) : ns[j] ∉ ns.take i := by
  have := fresh_of (n := 0) (i := i) hN hj (by omega)
  simpa using this
theorem name_ne {ns : List Str} (hN : Names ns) {z : Str} (hz : z ∈ ns) : z ≠ "" := fun e => by
  have := (hN.nm z hz).1
  subst e
  revert this
  decide +kernel
end DL
namespace DL
open PySem L2
/-- a drawn book, as the laws hand it about -/
def bkT (ks : List (Str × Int)) (rs : List Row) (m : D) : D := .tup [.lst (ks.map kd2), .lst (rs.map Row.d), m]
section
variable {η : List O} {ks : List (Str × Int)} {rs : List Row} {m : D}
theorem bk0 : ixD (bkT ks rs m) (.int 0) = some (.lst (ks.map kd2)) := rfl
theorem bk1 : ixD (bkT ks rs m) (.int 1) = some (.lst (rs.map Row.d)) := rfl
theorem bk2 : ixD (bkT ks rs m) (.int 2) = some m := rfl
theorem law_made_ok (h : BookDrawn ks rs m) : m_law_made [bkT ks rs m] η = .ok (.obj η.length) (η ++ [.ins 0 NSB [.lst (ks.map kd2), .lst (rs.map Row.d), m], .lst ((rs.map (·.n)).map .str)]) := by
  have e := book_init_ok (η := η ++ [.ins 0 [] []]) (n := η.length) (ks := ks) (rs := rs) (m := m) get_last h.k h.r h.m
  unfold bookD at e
  rw [h.fit, set_last, List.append_assoc] at e
  refine run_rt2 (δ := [some (.val (bkT ks rs m))]) rfl ?_
  unfold b_law_made
  simp [-List.map_map, bk0, bk1, bk2, e]
theorem law_thing_ok {fp r : List O} {o : O} (hf : Feed o) (h : BookDrawn ks rs m) : ∃ t o', m_law_thing [.obj fp.length, bkT ks rs m] (fp ++ o :: r) = .ok (kd2 t) (fp ++ o' :: r) ∧ Feed o' ∧ t.1 ∈ ks.map (·.1) ∧ 0 ≤ t.2 := by
  have z2 : (2 : Nat) ≤ sizeLine := by rw [sizeLine_eq]; decide
  have z6 : (6 : Nat) ≤ sizeLine := by rw [sizeLine_eq]; decide
  have hp : cpowB 10 20 = true := by decide
  obtain ⟨d, o1, e1, f1, hd⟩ := of0 (fp := fp) (r := r) hf (ks.map kd2) (by rw [List.length_map]; exact h.k.l0) (by rw [List.length_map]; have := h.k.l1; omega)
  obtain ⟨k, hk, rfl⟩ := List.mem_map.mp hd
  obtain ⟨d, o2, e2, f2, hd2⟩ := of0 (fp := fp) (r := r) f1 [.int 0, .int 0, .int 1, .int 1, .int 2, .int 100000000000000000000] (by simp) (by simp)
  have hi : ixD (kd2 k) (.int 0) = some (.str k.1) := rfl
  obtain ⟨q, rfl, q0⟩ : ∃ q : Int, d = .int q ∧ 0 ≤ q := by
    simp only [List.mem_cons, List.not_mem_nil, or_false] at hd2
    rcases hd2 with rfl | rfl | rfl | rfl | rfl | rfl
    all_goals exact ⟨_, rfl, by decide⟩
  refine ⟨(k.1, q), o2, run_rt2 (δ := [some (.val (.obj fp.length)), some (.val (bkT ks rs m))]) rfl ?_, f2, List.mem_map.mpr ⟨k, hk, rfl⟩, q0⟩
  unfold b_law_thing
  simp [bk0, e1, e2, hi, z2, z6, hp]
  rfl
theorem law_aged_ok (hm : MemOk m) (k : List (Thing × Int)) : m_law_aged [bkT ks rs m, .lst (k.map kpD)] η = .ok (.lst ((agedL m k).map kpD)) η := by
  have h2 : (2 : Nat) ≤ sizeLine := by rw [sizeLine_eq]; decide
  have hc : compF (.tp [(.nm 2), (.nm 3)]) (fOrB (toB (fOp isN (fOp ixD (fV 0) (fC (.int 2))) (fC .non))) (toB (fOp ltD (fV 3) (fOp ixD (fV 0) (fC (.int 2)))))) (fTup (fCons (fV 2) (fCons (fOp addD (fV 3) (fC (.int 1))) fNil))) (wipeD [some (.val (bkT ks rs m)), some (.val (.lst (k.map kpD))), none, none] [2, 3]) (k.map kpD) η = .ok ((agedL m k).map kpD) η := by
    have := comp_filter (t := .tp [(.nm 2), (.nm 3)]) (ft := (fOrB (toB (fOp isN (fOp ixD (fV 0) (fC (.int 2))) (fC .non))) (toB (fOp ltD (fV 3) (fOp ixD (fV 0) (fC (.int 2))))))) (fe := fTup (fCons (fV 2) (fCons (fOp addD (fV 3) (fC (.int 1))) fNil))) (δw := wipeD [some (.val (bkT ks rs m)), some (.val (.lst (k.map kpD))), none, none] [2, 3]) (η := η) (p := fun d => match m, d with | .int mm, .tup [_, .int a] => decide (a < mm) | _, _ => true) (g := fun d => match d with | .tup [x, .int a] => .tup [x, .int (a + 1)] | d => d) (ds := k.map kpD) fun x hx => by
      obtain ⟨q, _, rfl⟩ := List.mem_map.mp hx
      refine ⟨_, rfl, ?_, fun _ => by simp [wipeD, kpD, h2]⟩
      cases hm with
      | non => simp [wipeD, kpD, bk2]
      | int p1 p2 => simp [wipeD, kpD, bk2]
    rw [this, List.filter_map, List.map_map]
    cases hm with
    | non =>
      unfold agedL
      rw [List.map_map]
      have : k.filter ((fun d => match D.non, d with | .int mm, .tup [_, .int a] => decide (a < mm) | _, _ => true) ∘ kpD) = k := List.filter_eq_self.mpr fun _ _ => rfl
      rw [this]
      rfl
    | int p1 p2 =>
      unfold agedL
      rw [List.map_map]
      rfl
  refine run_rt2 (δ := [some (.val (bkT ks rs m)), some (.val (.lst (k.map kpD))), none, none]) rfl ?_
  unfold b_law_aged
  generalize (agedL m k).map kpD = A at hc ⊢
  simp [-fOrB_a, hc]
theorem law_stands_ok {z : Str} {r : Row} (hf : rs.find? (fun r => decide (r.n = z)) = some r) : m_law_stands [bkT ks rs m, .str z] η = .ok (.tup (r.st.map .str)) η := by
  have hc : compF (.tp [(.nm 2), (.nm 3), (.nm 4)]) (toB (fOp eqD (fV 2) (fV 1))) (fV 3) (wipeD [some (.val (bkT ks rs m)), some (.val (.str z)), none, none, none] [2, 3, 4]) (rs.map Row.d) η = .ok ((rs.filter fun r => decide (r.n = z)).map fun r => .tup (r.st.map .str)) η := by
    have := comp_filter (t := .tp [(.nm 2), (.nm 3), (.nm 4)]) (ft := toB (fOp eqD (fV 2) (fV 1))) (fe := fV 3) (δw := wipeD [some (.val (bkT ks rs m)), some (.val (.str z)), none, none, none] [2, 3, 4]) (η := η) (p := fun d => match d with | .tup (.str n :: _) => decide (n = z) | _ => false) (g := fun d => match d with | .tup (_ :: s :: _) => s | d => d) (ds := rs.map Row.d) fun x hx => by
      obtain ⟨q, _, rfl⟩ := List.mem_map.mp hx
      refine ⟨[some (.val (bkT ks rs m)), some (.val (.str z)), some (.val (.str q.n)), some (.val (.tup (q.st.map .str))), some (.val (.int q.p))], by simp [Row.d, wipeD], ?_, fun _ => by simp [Row.d]⟩
      show _ = R.ok (decide (q.n = z)) η
      simp
    rw [this, List.filter_map, List.map_map]
    rfl
  have hh : ((rs.filter fun r => decide (r.n = z)).map fun r => D.tup (r.st.map .str)).head? = some (.tup (r.st.map .str)) := by
    rw [List.head?_map, List.head?_filter, hf]; rfl
  refine run_rt2 (δ := [some (.val (bkT ks rs m)), some (.val (.str z)), none, none, none]) rfl ?_
  unfold b_law_stands
  generalize ((rs.filter fun r => decide (r.n = z)).map fun r => D.tup (r.st.map .str)) = l at hc hh
  cases l with
  | nil => cases hh
  | cons x l =>
    cases hh
    have hi : L2.atI (D.tup (r.st.map .str) :: l) 0 = some (.tup (r.st.map .str)) := by rw [atI_of (by decide) (by simp)]; rfl
    simp [bk1, hc, hi]
theorem ne_thing (s t : Thing) : neD (kd2 s) (kd2 t) = some (.bl (decide (s ≠ t))) := by
  unfold neD
  rw [if_pos ⟨rfl, rfl⟩]
  unfold kd2
  rw [eqv_tup2, eqv_ss, eqv_ii]
  congr 2
  rw [Bool.and_true, ← Bool.decide_and, ← decide_not]
  refine decide_eq_decide.mpr (not_congr ?_)
  exact ⟨fun ⟨a, b⟩ => Prod.ext a b, fun h => by rw [h]; exact ⟨rfl, rfl⟩⟩
theorem eq_thing (s t : Thing) : eqD (kd2 s) (kd2 t) = some (.bl (decide (s = t))) := by
  unfold eqD
  rw [if_pos ⟨rfl, rfl⟩]
  unfold kd2
  rw [eqv_tup2, eqv_ss, eqv_ii]
  congr 2
  rw [Bool.and_true, ← Bool.decide_and]
  refine decide_eq_decide.mpr ?_
  exact ⟨fun ⟨a, b⟩ => Prod.ext a b, fun h => by rw [h]; exact ⟨rfl, rfl⟩⟩
theorem law_front_ok (k : List (Thing × Int)) (t : Thing) (hk : k.length ≤ 1000) : m_law_front [.lst (k.map kpD), kd2 t] η = .ok (.lst ((movedL k t).map kpD)) η := by
  have h1 : (1 : Nat) ≤ sizeLine := by rw [sizeLine_eq]; decide
  have h2 : (2 : Nat) ≤ sizeLine := by rw [sizeLine_eq]; decide
  have hc : compF (.nm 2) (toB (fOp neD (fOp ixD (fV 2) (fC (.int 0))) (fV 1))) (fV 2) (wipeD [some (.val (.lst (k.map kpD))), some (.val (kd2 t)), none] [2]) (k.map kpD) η = .ok ((k.filter fun p => decide (p.1 ≠ t)).map kpD) η := by
    have := comp_filter (t := .nm 2) (ft := toB (fOp neD (fOp ixD (fV 2) (fC (.int 0))) (fV 1))) (fe := fV 2) (δw := wipeD [some (.val (.lst (k.map kpD))), some (.val (kd2 t)), none] [2]) (η := η) (p := fun d => match d with | .tup [.tup [.str a, .int b], _] => decide ((a, b) ≠ t) | _ => false) (g := fun d => d) (ds := k.map kpD) fun x hx => by
      obtain ⟨q, _, rfl⟩ := List.mem_map.mp hx
      have hix : ixD (kpD q) (.int 0) = some (kd2 q.1) := rfl
      refine ⟨_, asg_nm, ?_, fun _ => by simp [wipeD]⟩
      show _ = R.ok (decide (q.1 ≠ t)) η
      simp [wipeD, hix, ne_thing]
    rw [this, List.filter_map, List.map_id']
    rfl
  have hlen : 1 + (k.filter fun p => decide (p.1 ≠ t)).length ≤ sizeLine := by
    have := List.length_filter_le (fun p => decide (p.1 ≠ t)) k
    rw [sizeLine_eq]; omega
  refine run_rt2 (δ := [some (.val (.lst (k.map kpD))), some (.val (kd2 t)), none]) rfl ?_
  unfold b_law_front
  unfold movedL
  generalize (k.filter fun p => decide (p.1 ≠ t)) = k2 at hc hlen ⊢
  simp [-List.map_map, hc, h1, h2, hlen]
  rfl
theorem pure_things (n : Nat) : ∀ l : List Thing, pureDs (n + 1) (l.map kd2) = true
  | [] => rfl
  | t :: l => by rw [List.map_cons, pureDs, pure_things n l]; cases n <;> rfl
theorem neD_nilT {zs : List Thing} : neD (.lst (zs.map kd2)) (.lst []) = some (.bl (!zs.isEmpty)) := by
  unfold neD
  rw [if_pos ⟨pure_things 18 zs, rfl⟩]
  cases zs with
  | nil => rfl
  | cons z zs =>
    have : eqvD (.lst ((z :: zs).map kd2)) (.lst []) = false := by
      show PyData.eqv (.list (toPy (kd2 z) :: toPys (zs.map kd2))) (.list []) = false
      rw [PyData.eqv, PyData.eqvAll]
      all_goals (intros; simp_all)
    rw [this]; rfl
theorem law_taken_ok {z : Str} {r : Row} (hf : rs.find? (fun r => decide (r.n = z)) = some r) (k : List (Thing × Int)) : m_law_taken [bkT ks rs m, .lst (k.map kpD), .str z] η = .ok (optD (takenL r.st k)) η := by
  have hst := law_stands_ok (η := η) (ks := ks) (m := m) hf
  have hc : compF (.tp [(.nm 4), (.nm 5)]) (toB (fOp inD (fOp ixD (fV 4) (fC (.int 0))) (fCall 2 m_law_stands (fCons (fV 0) (fCons (fV 2) fNil))))) (fV 4) (wipeD [some (.val (bkT ks rs m)), some (.val (.lst (k.map kpD))), some (.val (.str z)), none, none, none] [4, 5]) (k.map kpD) η = .ok (((k.filter fun p => decide (p.1.1 ∈ r.st)).map (·.1)).map kd2) η := by
    have := comp_filter (t := .tp [(.nm 4), (.nm 5)]) (ft := toB (fOp inD (fOp ixD (fV 4) (fC (.int 0))) (fCall 2 m_law_stands (fCons (fV 0) (fCons (fV 2) fNil))))) (fe := fV 4) (δw := wipeD [some (.val (bkT ks rs m)), some (.val (.lst (k.map kpD))), some (.val (.str z)), none, none, none] [4, 5]) (η := η) (p := fun d => match d with | .tup [.tup [.str a, _], _] => decide (a ∈ r.st) | _ => false) (g := fun d => match d with | .tup (x :: _) => x | d => d) (ds := k.map kpD) fun x hx => by
      obtain ⟨q, _, rfl⟩ := List.mem_map.mp hx
      have hix : ixD (kd2 q.1) (.int 0) = some (.str q.1.1) := rfl
      refine ⟨[some (.val (bkT ks rs m)), some (.val (.lst (k.map kpD))), some (.val (.str z)), none, some (.val (kd2 q.1)), some (.val (.int q.2))], by simp [kpD, wipeD], ?_, fun _ => by simp [kpD]⟩
      show _ = R.ok (decide (q.1.1 ∈ r.st)) η
      simp [-List.map_map, hst, hix]
    rw [this, List.filter_map, List.map_map, List.map_map]
    rfl
  have hh : ((k.filter fun p => decide (p.1.1 ∈ r.st)).map (·.1)).head? = takenL r.st k := by
    rw [List.head?_map, List.head?_filter]; rfl
  refine run_rt2 (δ := [some (.val (bkT ks rs m)), some (.val (.lst (k.map kpD))), some (.val (.str z)), none, none, none]) rfl ?_
  unfold b_law_taken
  rw [← hh]
  generalize (k.filter fun p => decide (p.1.1 ∈ r.st)).map (·.1) = l at hc
  have hne := neD_nilT (zs := l)
  have z0 : (0 : Nat) ≤ sizeLine := Nat.zero_le _
  cases l with
  | nil =>
    have hne' : neD (.lst []) (.lst []) = some (.bl false) := hne
    have hc' : compF _ _ _ _ _ η = .ok [] η := hc
    simp [hc', hne', z0, optD]
  | cons t l =>
    have hi : ∀ y : List D, L2.atI (kd2 t :: y) 0 = some (kd2 t) := fun y => by rw [atI_of (by decide) (by simp)]; rfl
    rw [List.map_cons] at hc hne
    generalize l.map kd2 = Y at hc hne
    have hne' : neD (.lst (kd2 t :: Y)) (.lst []) = some (.bl true) := hne
    simp [hc, hne', z0, optD, hi]
end
end DL
namespace DL
open PySem L2
section
variable {ks : List (Str × Int)} {rs : List Row} {m : D}
def lineD (l : List Thing) : D := .lst (l.map kd2)
def GoodL (ks : List (Str × Int)) (most : Nat) (l : List Thing) : Prop := l.length ≤ most ∧ ∀ t ∈ l, t.1 ∈ ks.map (·.1) ∧ 0 ≤ t.2
theorem things_of {ys : List D} {Q : Thing → Prop} (h : ∀ d ∈ ys, ∃ t, d = kd2 t ∧ Q t) : ∃ l : List Thing, ys = l.map kd2 ∧ ∀ t ∈ l, Q t := by
  induction ys with
  | nil => exact ⟨[], rfl, by simp⟩
  | cons d ys ih =>
    obtain ⟨l, rfl, q⟩ := ih fun e he => h e (List.mem_cons_of_mem _ he)
    obtain ⟨t, rfl, qt⟩ := h d (List.mem_cons_self ..)
    refine ⟨t :: l, rfl, fun x hx => ?_⟩
    rcases List.mem_cons.mp hx with rfl | hx
    · exact qt
    · exact q x hx
theorem law_lines_ok {fp r : List O} {o : O} (hf : Feed o) (h : BookDrawn ks rs m) {many most : Nat} (hm : many ≤ 100) (hm2 : most ≤ 100) :
    ∃ (ls : List (List Thing)) (o' : O), m_law_lines [.obj fp.length, bkT ks rs m, .int many, .int most] (fp ++ o :: r) = .ok (.lst (ls.map lineD)) (fp ++ o' :: r) ∧ Feed o' ∧ ls.length ≤ many ∧ ∀ l ∈ ls, GoodL ks most l := by
  have z0 : (0 : Nat) ≤ sizeLine := Nat.zero_le _
  obtain ⟨k, o1, e1, f1, k0, k1⟩ := pick0 (fp := fp) (r := r) hf (many + 1) (by omega) (by omega)
  have hk2 : k ≤ 16777216 ∧ -16777216 ≤ k := by omega
  generalize hbb : (sMut 4 muApp (fCons (fFrz (fLc [6] (fiR1 (fCall 2 m_law_pick (fCons (fV 0) (fCons (fOp addD (fV 3) (fC (.int 1))) fNil)))) (.nm 6) fYes (fCall 2 m_law_thing (fCons (fV 0) (fCons (fV 1) fNil))))) fNil) : S) = bb
  obtain ⟨δ', η', el, o2, ls, y5, y6, rfl, f2, rfl, q1, q2⟩ := loop_inv (t := .nm 5) (b := bb) (P := fun ds δ η => ∃ (o : O) (ls : List (List Thing)) (y5 y6 : Option L), η = fp ++ o :: r ∧ Feed o ∧ δ = [some (.val (.obj fp.length)), some (.val (bkT ks rs m)), some (.val (.int many)), some (.val (.int most)), some (.own (ls.map lineD)), y5, y6] ∧ ls.length + ds.length = k.toNat ∧ ∀ l ∈ ls, GoodL ks most l) (ds := rngD 0 k.toNat)
    (δ := [some (.val (.obj fp.length)), some (.val (bkT ks rs m)), some (.val (.int many)), some (.val (.int most)), some (.own []), none, none]) (η := fp ++ o1 :: r) ⟨o1, [], _, _, rfl, f1, rfl, by simp [rngD], by simp⟩ fun x ds δ η ⟨o, ls, y5, y6, q0, f, q1, q2, q3⟩ => by
    subst q0 q1 hbb
    obtain ⟨j, o3, e3, f3, j0, j1⟩ := pick0 (fp := fp) (r := r) f (most + 1) (by omega) (by omega)
    have hj2 : j ≤ 16777216 ∧ -16777216 ≤ j := by omega
    obtain ⟨ys, _, ec, ⟨o4, rfl, f4⟩, hl, hq⟩ := comp_st2 (t := .nm 6) (ft := fYes) (fe := fCall 2 m_law_thing (fCons (fV 0) (fCons (fV 1) fNil))) (δw := wipeD [some (.val (.obj fp.length)), some (.val (bkT ks rs m)), some (.val (.int many)), some (.val (.int most)), some (.own (ls.map lineD)), some (.val x), y6] [6]) (fun η => ∃ o, η = fp ++ o :: r ∧ Feed o) (fun d => ∃ t, d = kd2 t ∧ (t.1 ∈ ks.map (·.1) ∧ 0 ≤ t.2)) (ds := rngD 0 j.toNat) (η := fp ++ o3 :: r) ⟨o3, rfl, f3⟩ fun z _ η ⟨o, e, f⟩ => by
      subst e
      obtain ⟨t, o', et, ft, t1, t2⟩ := law_thing_ok (fp := fp) (r := r) f h
      exact ⟨_, asg_nm, rfl, kd2 t, fp ++ o' :: r, by simp [-List.map_map, wipeD, et], ⟨o', rfl, ft⟩, t, rfl, t1, t2⟩
    obtain ⟨l, rfl, hl2⟩ := things_of hq
    have hll : l.length ≤ most := by
      rw [List.length_map] at hl
      simp [rngD] at hl
      omega
    have hal : (ls.map lineD).length < sizeLine := len_sz (by rw [List.length_map]; simp at q2; omega)
    have hadd : (ls ++ [l]).map lineD = ls.map lineD ++ [.lst (l.map kd2)] := by simp [lineD]
    refine ⟨_, asg_nm, [some (.val (.obj fp.length)), some (.val (bkT ks rs m)), some (.val (.int many)), some (.val (.int most)), some (.own ((ls ++ [l]).map lineD)), some (.val x), y6], fp ++ o4 :: r, .inl ?_, o4, ls ++ [l], _, _, rfl, f4, rfl, by simp at q2 ⊢; omega, fun w hw => ?_⟩
    · rw [hadd]
      generalize ls.map lineD = LS at hal ec ⊢
      generalize l.map kd2 = LL at ec ⊢
      simp [e3, hj2, ec, hal]
    · rcases List.mem_append.mp hw with hw | hw
      · exact q3 w hw
      · rw [List.mem_singleton] at hw; subst hw; exact ⟨hll, hl2⟩
  refine ⟨ls, o2, run_rt2 (δ := [some (.val (.obj fp.length)), some (.val (bkT ks rs m)), some (.val (.int many)), some (.val (.int most)), none, none, none]) rfl ?_, f2, by simp at q1; omega, q2⟩
  unfold b_law_lines
  rw [hbb]
  generalize ls.map lineD = LS at el ⊢
  simp [z0, e1, hk2]
  rw [el]
  simp
/-! ### words that change no list -/
def frontL : List Thing → List (Thing × Int) → List (Thing × Int)
  | [], k => k
  | t :: ts, k => frontL ts (movedL k t)
theorem front_len : ∀ (ts : List Thing) (k : List (Thing × Int)), (frontL ts k).length ≤ k.length + ts.length
  | [], k => Nat.le_refl _
  | t :: ts, k => by
    have h1 := front_len ts (movedL k t)
    have h2 := moved_len k t
    rw [frontL, List.length_cons]; omega
/-- items that name the things, one by one -/
inductive For (rs : List Row) : List (Thing × Int) → List (Item rs) → List Thing → Prop
  | nil {k : List (Thing × Int)} : For rs k [] []
  | word {k : List (Thing × Int)} {l : List (Item rs)} {ts : List Thing} {t : Thing} {r : Row} {z : Str} {h : rs.find? (fun r => decide (r.n = z)) = some r} : takenL r.st k = some t → For rs (movedL k t) l ts → For rs k (.word r z h :: l) (t :: ts)
  | thing {k : List (Thing × Int)} {l : List (Item rs)} {ts : List Thing} {t : Thing} : For rs (movedL k t) l ts → For rs k (.thing t :: l) (t :: ts)
theorem For.heard {k : List (Thing × Int)} {l : List (Item rs)} {ts : List Thing} (h : For rs k l ts) : heardL l k = (frontL ts k, ts.map some) := by
  induction h with
  | nil => rfl
  | word e _ ih => first | (rw [heardL, e, ih]; rfl) | (rw [heardL, e]; dsimp only; rw [ih]; rfl)
  | thing _ ih => first | (rw [heardL, ih]; rfl) | (rw [heardL]; dsimp only; rw [ih]; rfl)
theorem For.len {k : List (Thing × Int)} {l : List (Item rs)} {ts : List Thing} (h : For rs k l ts) : l.length = ts.length := by
  induction h with
  | nil => rfl
  | word _ _ ih => rw [List.length_cons, List.length_cons, ih]
  | thing _ ih => rw [List.length_cons, List.length_cons, ih]
theorem For.self : ∀ (ts : List Thing) (k : List (Thing × Int)), For rs k (ts.map Item.thing) ts
  | [], _ => .nil
  | _ :: ts, _ => .thing (For.self ts _)
theorem For.oks {k : List (Thing × Int)} {l : List (Item rs)} {ts : List Thing} (h : For rs k l ts) (ht : ∀ t ∈ ts, t.1 ∈ ks.map (·.1) ∧ 0 ≤ t.2) : ∀ x ∈ l, x.ok ks := by
  induction h with
  | nil => intro x hx; cases hx
  | word _ _ ih =>
    intro x hx
    rcases List.mem_cons.mp hx with rfl | hx
    · trivial
    · exact ih (fun t q => ht t (List.mem_cons_of_mem _ q)) x hx
  | thing _ ih =>
    intro x hx
    rcases List.mem_cons.mp hx with rfl | hx
    · exact ht _ (List.mem_cons_self ..)
    · exact ih (fun t q => ht t (List.mem_cons_of_mem _ q)) x hx
theorem lost_some (ts : List Thing) : lostN (ts.map some) = 0 := by
  unfold lostN
  have : (ts.map some).filter Option.isNone = [] := by
    rw [List.filter_eq_nil_iff]
    intro x hx
    obtain ⟨t, _, rfl⟩ := List.mem_map.mp hx
    simp
  rw [this]; rfl
end
end DL
namespace DL
open PySem L2
def b_Listener___len__ : S := (sRet (fCall1 lenD (fFld 1 ["own_book", "own_kept", "own_heard", "own_lost", "own_past"] 1 (fV 0))))
def m_Listener___len__ : DF := runD 1 b_Listener___len__
def b_Listener___repr__ : S := (sRet (jsF [(fC (.str "Listener(")), (fCall1 fmtD (fFld 1 ["own_book", "own_kept", "own_heard", "own_lost", "own_past"] 2 (fV 0))), (fC (.str " sentences, ")), (fCall1 fmtD (fCall1 lenD (fFld 1 ["own_book", "own_kept", "own_heard", "own_lost", "own_past"] 1 (fV 0)))), (fC (.str " things)"))] Str.empty))
def m_Listener___repr__ : DF := runD 1 b_Listener___repr__
def b_law_items : S := (sSeq (sFrz 3 (fLc [6, 7, 8] (fiA (fOp ixD (fV 1) (fC (.int 1)))) (.tp [(.nm 6), (.nm 7), (.nm 8)]) fYes (fV 6)))
    (sSeq (sOwn 4 (fLstN fNil))
    (sSeq (sFor (fiR1 (fCall 2 m_law_pick (fCons (fV 0) (fCons (fOp addD (fV 2) (fC (.int 1))) fNil)))) (.nm 5) (sIf (fAndB (toB (fOp neD (fV 3) (fFrz (fLstN fNil)))) (toB (fOp eqD (fCall 2 m_law_pick (fCons (fV 0) (fCons (fC (.int 2)) fNil))) (fC (.int 0))))) (sMut 4 muApp (fCons (fCall 2 m_law_of (fCons (fV 0) (fCons (fV 3) fNil))) fNil)) (sMut 4 muApp (fCons (fCall 2 m_law_thing (fCons (fV 0) (fCons (fV 1) fNil))) fNil))))
    (sFz 4 (sRet (fV 4))))))
def m_law_items : DF := runD 9 b_law_items
def b_law_hears : S := (sSeq (sParN 1 3 (fCall 2 m_law_aged (fCons (fV 0) (fCons (fV 1) fNil))) (fLstN fNil))
    (sSeq (sFor (fiA (fV 2)) (.nm 4) (sSeq (sSet 5 (fIf (fTru (fCall1 (isD "str") (fV 4))) (fCall 3 m_law_taken (fCons (fV 0) (fCons (fV 1) (fCons (fV 4) fNil)))) (fV 4)))
    (sSeq (sMut 3 muApp (fCons (fV 5) fNil))
    (sSet 1 (fIf (toB (fOp notN (fV 5) (fC .non))) (fCall 2 m_law_front (fCons (fV 1) (fCons (fV 5) fNil))) (fV 1))))))
    (sFz 3 (sRet (fTup (fCons (fV 1) (fCons (fV 3) fNil)))))))
def m_law_hears : DF := runD 6 b_law_hears
def b_law_hearer_so : S := (sSeq (sAsg (fV 1) (.tp [(.nm 2), (.nm 3), (.nm 4), (.nm 5)]))
    (sSeq (sSet 6 (fOp addD (fOp addD (fOp addD (fOp addD (fC (.str "Listener(")) (fCall1 strC (fV 4))) (fC (.str " sentences, "))) (fCall1 strC (fCall1 lenD (fV 3)))) (fC (.str " things)"))))
    (sSeq (sSet 7 (fFrz (fLstN (fCons (fMeth 1 ["own_book", "own_kept", "own_heard", "own_lost", "own_past"] 1 0 1 m_Listener_kept [0] [] (fV 0) fNil fNil) (fCons (fProp 1 1 m_Listener_heard (fV 0)) (fCons (fProp 1 1 m_Listener_lost (fV 0)) (fCons (fLenM 1 1 m_Listener___len__ (fV 0)) (fCons (fReprM 1 1 m_Listener___repr__ (fV 0)) fNil))))))))
    (sSeq (sIf (fNotB (fTru (fCall 2 (m_law_same 12) (fCons (fV 7) (fCons (fFrz (fLstN (fCons (fV 3) (fCons (fV 4) (fCons (fV 5) (fCons (fCall1 lenD (fV 3)) (fCons (fV 6) fNil))))))) fNil))))) (sRet (fC (.bl false))) SR.nx)
    (sSeq (sFor (fiA (fOp ixD (fV 2) (fC (.int 1)))) (.tp [(.nm 8), (.nm 9), (.nm 10)]) (sIf (fNotB (fTru (fCall 2 (m_law_same 12) (fCons (fMethX 1 ["own_book", "own_kept", "own_heard", "own_lost", "own_past"] 2 0 2 m_Listener_would_take [0, 1] [] (fV 0) (fCons (fV 8) fNil) fNil) (fCons (fCall 3 m_law_taken (fCons (fV 2) (fCons (fCall 2 m_law_aged (fCons (fV 2) (fCons (fV 3) fNil))) (fCons (fV 8) fNil)))) fNil))))) (sRet (fC (.bl false))) SR.nx))
    (sRet (fC (.bl true))))))))
def m_law_hearer_so : DF := runD 11 b_law_hearer_so
def b_law_field : S := (sSeq (sIf (toB (fOp inD (fXf "code" [20, 21, 22, 23, 26, 41] (fV 0)) (fFrz (fLstN (fCons (fC (.str "WrongCount")) fNil))))) (sRet (fXf "what" [20] (fV 0))) SR.nx)
    (sSeq (sIf (toB (fOp inD (fXf "code" [20, 21, 22, 23, 26, 41] (fV 0)) (fFrz (fLstN (fCons (fC (.str "InvalidMemory")) (fCons (fC (.str "InvalidStart")) (fCons (fC (.str "InvalidCount")) (fCons (fC (.str "InvalidSight")) (fCons (fC (.str "UnknownPlace")) fNil))))))))) (sRet (fXf "given" [23] (fV 0))) SR.nx)
    (sSeq (sIf (toB (fOp inD (fXf "code" [20, 21, 22, 23, 26, 41] (fV 0)) (fFrz (fLstN (fCons (fC (.str "InvalidName")) (fCons (fC (.str "AlreadyIn")) (fCons (fC (.str "NotIn")) (fCons (fC (.str "UnknownSort")) (fCons (fC (.str "UnknownWord")) (fCons (fC (.str "UnknownPerson")) fNil)))))))))) (sRet (fXf "name" [41] (fV 0))) SR.nx)
    (sSeq (sIf (toB (fOp inD (fXf "code" [20, 21, 22, 23, 26, 41] (fV 0)) (fFrz (fLstN (fCons (fC (.str "InvalidText")) (fCons (fC (.str "TooMany")) fNil)))))) (sRet (fIf (toB (fOp eqD (fXf "code" [20, 21, 22, 23, 26, 41] (fV 0)) (fC (.str "InvalidText")))) (fXf "line" [] (fV 0)) (fXf "most" [] (fV 0)))) SR.nx)
    (sSeq (sIf (toB (fOp inD (fXf "code" [20, 21, 22, 23, 26, 41] (fV 0)) (fFrz (fLstN (fCons (fC (.str "OtherBook")) (fCons (fC (.str "NothingLeft")) fNil)))))) (sRet (fC .non)) SR.nx)
    (sRet (fIf (toB (fOp eqD (fXf "code" [20, 21, 22, 23, 26, 41] (fV 0)) (fC (.str "UnknownState")))) (fXf "state" [] (fV 0)) (fXf "at" [21, 22, 26] (fV 0)))))))))
def m_law_field : DF := runD 1 b_law_field
end DL
namespace DL
open PySem L2
/-! ### numbers as text -/
def txB (n : Nat) : Bool := decide ((n : Int).natAbs.log2 < 1920) && PySem.PyData.strOk (toString (n : Int)) && decide ((toString (n : Int) : Str).length ≤ 10)
theorem tx_all : ∀ n < 300, txB n = true := by decide +kernel
theorem tx_of {n : Nat} (h : n < 300) : ∃ z : Str, intTx n = some (.str z) ∧ z.length ≤ 10 := by
  have := tx_all n h
  unfold txB at this
  simp only [Bool.and_eq_true, decide_eq_true_eq] at this
  exact ⟨_, if_pos ⟨this.1.1, this.1.2⟩, this.2⟩
section
variable {δ : En} {η : List O} {fa : F D} {c n : Nat} {df : DF} {f : F D} {fs : List (F D)} {acc : Str} {i : Int} {z : Str}
@[simp] theorem jsF_nil : jsF [] acc δ η = .ok (.str acc) η := rfl
@[simp] theorem jsF_cons : jsF (f :: fs) acc δ η = (f δ η).bind fun d η => match d with
    | .str y => if (acc ++ y).length ≤ sizeLine then jsF fs (acc ++ y) δ η else .bad
    | _ => .bad := rfl
@[simp] theorem fmtD_i : fmtD (.int i) = intTx i := rfl
@[simp] theorem strC_i : strC (.int i) = intTx i := rfl
@[simp] theorem fmtD_s : fmtD (.str z) = if z.length ≤ sizeLine then some (.str z) else none := rfl
@[simp] theorem fLenM_a : fLenM c n df fa δ η = (fa δ η).bind fun o η => if insC η c o = true then ((arg n df [o] η).nox).bind fun z η => (match z with | .int i => if 0 ≤ i ∧ i < 2 ^ 63 then .ok (.int i) η else .bad | _ => .bad) else .bad := rfl
@[simp] theorem fReprM_a : fReprM c n df fa δ η = (fa δ η).bind fun o η => if insC η c o = true then ((arg n df [o] η).nox).bind fun z η => (match z with | .str i => .ok (.str i) η | _ => .bad) else .bad := rfl
end
theorem run_ex2 {n : Nat} {b : S} {ds : List D} {η : List O} {c : Nat} {xs : List Str} {l : List D} {δ δ' : En} {η' : List O} (hδ : ds.map (fun d => some (.val d)) ++ List.replicate (n - ds.length) none = δ) (h : b δ η = .exc c xs l δ' η') : runD n b ds η = .exc c xs l η' := by
  subst hδ; unfold runD; rw [h]
/-! ### items that are refused -/
inductive Bad (ks : List (Str × Int)) (rs : List Row) : D → Prop
  | word {z : Str} (h : z ∉ rs.map (·.n)) : Bad ks rs (.str z)
  | thing {t : Thing} (h : t.1 ∈ ks.map (·.1) → t.2 < 0) : Bad ks rs (kd2 t)
section
variable {η : List O} {b h p : Nat} {ks : List (Str × Int)} {rs : List Row} {m : D}
theorem is_thing_no (hb : η[b]? = some (.ins 0 NSB [.lst (ks.map kd2), .lst (rs.map Row.d), m])) {t : Thing} (h : t.1 ∈ ks.map (·.1) → t.2 < 0) : m_is_thing [.obj b, kd2 t] η = .ok (.bl false) η := by
  have hs := sort_names_ok hb
  refine run_rt2 (δ := [some (.val (.obj b)), some (.val (kd2 t)), none, none]) rfl ?_
  unfold b_is_thing
  generalize hn : ks.map (·.1) = ns at hs h
  by_cases e : t.1 ∈ ns
  · have e2 : ¬ 0 ≤ t.2 := by have := h e; omega
    simp [kd2, hb, hs, e, e2]
  · simp [kd2, hb, hs, e]
abbrev bChk : S := sSeq (sSet 4 (fIf (fTru (fCall1 (isD "str") (fV 3))) (fInM 0 2 m_Book___contains__ false (fV 3) (fV 0)) (fCall 2 m_is_thing (fCons (fV 0) (fCons (fV 3) fNil)))))
    (sIf (fNotB (fTru (fV 4))) (sRaise1 26 "at" "InvalidItem" (fV 2)) SR.nx)
theorem chk_step (hb : η[b]? = some (.ins 0 NSB [.lst (ks.map kd2), .lst (rs.map Row.d), m])) {x1 y2 y3 y4 : Option L} {i : Nat} (it : Item rs) (hok : it.ok ks) : bChk [some (.val (.obj b)), x1, some (.val (.int i)), some (.val it.d), y4] η = .nx [some (.val (.obj b)), x1, some (.val (.int i)), some (.val it.d), some (.val (.bl true))] η := by
  cases it with
  | word r z hf =>
    have hc := contains_ok (z := z) hb
    rw [decide_eq_true (find_mem hf)] at hc
    simp [bChk, Item.d, is_str_s, hb, hc]
  | thing t =>
    have ht := is_thing_ok hb hok.1 hok.2
    have hi : isD "str" (kd2 t) = some (.bl false) := is_str_t
    simp [bChk, Item.d, hi, ht]
theorem chk_bad (hb : η[b]? = some (.ins 0 NSB [.lst (ks.map kd2), .lst (rs.map Row.d), m])) {x1 y4 : Option L} {i : Nat} {d : D} (hd : Bad ks rs d) : ∃ δ', bChk [some (.val (.obj b)), x1, some (.val (.int i)), some (.val d), y4] η = .exc 26 ["at", "code"] [.int i, .str "InvalidItem"] δ' η := by
  cases hd with
  | @word z hz =>
    have hc := contains_ok (z := z) hb
    rw [decide_eq_false hz] at hc
    exact ⟨_, by simp [bChk, is_str_s, hb, hc]; rfl⟩
  | @thing t ht =>
    have hh := is_thing_no hb ht
    have hi : isD "str" (kd2 t) = some (.bl false) := is_str_t
    exact ⟨_, by simp [bChk, hi, hh]; rfl⟩
theorem check_bad (hb : η[b]? = some (.ins 0 NSB [.lst (ks.map kd2), .lst (rs.map Row.d), m])) (items : List (Item rs)) (hok : ∀ x ∈ items, x.ok ks) {d : D} (hd : Bad ks rs d) (post : List D) : m_check_utterance [.obj b, .lst (items.map Item.d ++ d :: post)] η = .exc 26 ["at", "code"] [.int items.length, .str "InvalidItem"] η := by
  have hl : ∀ (l : List (Item rs)) (n : Nat) (x1 y2 y3 y4 : Option L), (∀ x ∈ l, x.ok ks) → ∃ δ', loopF (.tp [(.nm 2), (.nm 3)]) bChk (((l.map Item.d ++ d :: post).zipIdx n).map fun p => .tup [.int (p.2 : Nat), p.1]) [some (.val (.obj b)), x1, y2, y3, y4] η = .exc 26 ["at", "code"] [.int (n + l.length : Nat), .str "InvalidItem"] δ' η := by
    intro l
    induction l with
    | nil =>
      intro n x1 y2 y3 y4 _
      obtain ⟨δ', e⟩ := chk_bad (x1 := x1) (y4 := y4) (i := n) hb hd
      refine ⟨δ', ?_⟩
      rw [List.map_nil, List.nil_append, enc_cons, loopF]
      simp only [asg_tp, asgs_cons, asgs_nil, asg_nm, Option.bind_some, List.set_cons_succ, List.set_cons_zero]
      rw [e]
      rfl
    | cons it l ih =>
      intro n x1 y2 y3 y4 h
      obtain ⟨δ', e⟩ := ih (n + 1) x1 (some (.val (.int n))) (some (.val it.d)) (some (.val (.bl true))) fun x hx => h x (List.mem_cons_of_mem _ hx)
      refine ⟨δ', ?_⟩
      rw [List.map_cons, List.cons_append, enc_cons, loopF]
      simp only [asg_tp, asgs_cons, asgs_nil, asg_nm, Option.bind_some, List.set_cons_succ, List.set_cons_zero]
      rw [chk_step (y2 := y2) (y3 := y3) hb it (h it List.mem_cons_self)]
      show loopF _ _ _ _ _ = _
      rw [e, List.length_cons]
      congr 3
      congr 1
      omega
  obtain ⟨δ', e⟩ := hl items 0 (some (.val (.lst (items.map Item.d ++ d :: post)))) none none none hok
  refine run_ex2 (δ := [some (.val (.obj b)), some (.val (.lst (items.map Item.d ++ d :: post))), none, none, none]) rfl (δ' := δ') ?_
  unfold b_check_utterance
  rw [Nat.zero_add] at e
  have e2 : loopF (.tp [(.nm 2), (.nm 3)]) bChk (enumD (items.map Item.d ++ d :: post)) [some (.val (.obj b)), some (.val (.lst (items.map Item.d ++ d :: post))), none, none, none] η = .exc 26 ["at", "code"] [.int items.length, .str "InvalidItem"] δ' η := e
  simp only [sFor_a, fiE_a, fV_a, List.getElem?_cons_succ, List.getElem?_cons_zero, bind_ok, lstOf_l, lift_some, toS_ok]
  exact e2
theorem hear_bad (hb : η[b]? = some (.ins 0 NSB [.lst (ks.map kd2), .lst (rs.map Row.d), m])) {l1 l2 l3 l4 : D} (hh : η[h]? = some (.ins 1 NSL [.obj b, l1, l2, l3, l4])) (items : List (Item rs)) (hok : ∀ x ∈ items, x.ok ks) {d : D} (hd : Bad ks rs d) (post : List D) :
    m_Listener_hear [.obj h, .lst (items.map Item.d ++ d :: post)] η = .exc 26 ["at", "code"] [.int items.length, .str "InvalidItem"] η := by
  have hc := check_bad hb items hok hd post
  refine run_ex2 (δ := [some (.val (.obj h)), some (.val (.lst (items.map Item.d ++ d :: post))), none, none, none, none]) rfl (δ' := [some (.val (.obj h)), some (.val (.lst (items.map Item.d ++ d :: post))), none, none, none, none]) ?_
  unfold b_Listener_hear
  generalize items.map Item.d ++ d :: post = LL at *
  simp [hh, hc]
theorem word_row_none {l0 : D} {z : Str} (hb : η[b]? = some (.ins 0 NSB [l0, .lst (rs.map Row.d), m])) (hf : z ∉ rs.map (·.n)) : m_Book_word_row [.obj b, .str z] η = .exc 41 ["name", "code"] [.str z, .str "UnknownWord"] η := by
  have hl : ∀ (rs : List Row) (y : Option L), z ∉ rs.map (·.n) → ∃ y', loopF (.nm 2) (sIf (toB (fOp eqD (fOp ixD (fV 2) (fC (.int 0))) (fV 1))) (sRet (fV 2)) SR.nx) (rs.map Row.d) [some (.val (.obj b)), some (.val (.str z)), y] η = .nx [some (.val (.obj b)), some (.val (.str z)), y'] η := fun rs => by
    induction rs with
    | nil => intro y h; exact ⟨y, rfl⟩
    | cons q rs ih =>
      intro y h
      have hix : ixD q.d (.int 0) = some (.str q.n) := rfl
      rw [List.map_cons, List.mem_cons, not_or] at h
      obtain ⟨y', e'⟩ := ih (some (.val q.d)) h.2
      refine ⟨y', ?_⟩
      rw [List.map_cons, loopF]
      have e : ¬ q.n = z := fun e => h.1 e.symm
      simp [hix, e]
      exact e'
  obtain ⟨y', e⟩ := hl rs none hf
  refine run_ex2 (δ := [some (.val (.obj b)), some (.val (.str z)), none]) rfl (δ' := [some (.val (.obj b)), some (.val (.str z)), y']) ?_
  unfold b_Book_word_row
  simp [hb, e]
theorem would_take_none {l0 : D} {z : Str} (hb : η[b]? = some (.ins 0 NSB [l0, .lst (rs.map Row.d), m])) (hm : MemOk m) {k0 : List (Thing × Int)} {x2 x3 x4 : D} (hh : η[h]? = some (.ins 1 NSL [.obj b, .lst (k0.map kpD), x2, x3, x4])) (hf : z ∉ rs.map (·.n)) :
    m_Listener_would_take [.obj h, .str z] η = .exc 41 ["name", "code"] [.str z, .str "UnknownWord"] η := by
  have ha := aged_ok hb hm k0
  have hw := word_row_none hb hf
  generalize hA : (agedL m k0).map kpD = A at *
  have ht : m_taken_for [.obj b, .lst A, .str z] η = .exc 41 ["name", "code"] [.str z, .str "UnknownWord"] η := by
    refine run_ex2 (δ := [some (.val (.obj b)), some (.val (.lst A)), some (.val (.str z)), none, none, none]) rfl (δ' := [some (.val (.obj b)), some (.val (.lst A)), some (.val (.str z)), none, none, none]) ?_
    unfold b_taken_for
    simp [hb, hw]
  refine run_ex2 (δ := [some (.val (.obj h)), some (.val (.str z))]) rfl (δ' := [some (.val (.obj h)), some (.val (.str z))]) ?_
  unfold b_Listener_would_take
  simp [hh, ha, ht]
/-! ### why, of these -/
@[simp] theorem fWhy_a {i : Nat} {q : Str} {cs : List Nat} {fld : DF} {f : F D} {δ : En} {η : List O} : fWhy i q cs fld f δ η = if isTbl η i q = true then whyM cs fld (f δ η) else .bad := rfl
theorem why_item (cs : List Nat) (h : cs = [20, 21, 22, 23, 26, 41]) {n : Nat} : whyM cs m_law_field (.exc 26 ["at", "code"] [.int n, .str "InvalidItem"] η) = .ok (.tup [.str "InvalidItem", .int n]) η := by
  subst h
  with_unfolding_all rfl
theorem why_word (cs : List Nat) (h : cs = [20, 21, 22, 23, 26, 41]) {z : Str} : whyM cs m_law_field (.exc 41 ["name", "code"] [.str z, .str "UnknownWord"] η) = .ok (.tup [.str "UnknownWord", .str z]) η := by
  subst h
  with_unfolding_all rfl
end
end DL
namespace DL
open PySem L2
theorem find_of {rs : List Row} {z : Str} (h : z ∈ rs.map (·.n)) : ∃ r0, rs.find? (fun q => decide (q.n = z)) = some r0 := by
  obtain ⟨q, hq, rfl⟩ := List.mem_map.mp h
  cases e : rs.find? (fun q' => decide (q'.n = q.n)) with
  | some r0 => exact ⟨r0, rfl⟩
  | none => exact absurd (List.find?_eq_none.mp e q hq) (by simp)
theorem aged_le (m : D) (k : List (Thing × Int)) : (agedL m k).length ≤ k.length := by
  unfold agedL
  split
  · rw [List.length_map]; exact List.length_filter_le _ _
  · rw [List.length_map]; exact Nat.le_refl _
theorem heard_le {rs : List Row} : ∀ (l : List (Item rs)) (k : List (Thing × Int)), (heardL l k).1.length ≤ k.length + l.length ∧ (heardL l k).2.length = l.length
  | [], k => ⟨Nat.le_refl _, rfl⟩
  | .word r _ _ :: l, k => by
    rw [heardL]
    split
    · have := heard_le l k
      refine ⟨?_, ?_⟩
      · show (heardL l k).1.length ≤ _
        rw [List.length_cons]; omega
      · show (none :: (heardL l k).2).length = _
        rw [List.length_cons, List.length_cons]; omega
    · rename_i t _
      have := heard_le l (movedL k t)
      have h2 := moved_len k t
      refine ⟨?_, ?_⟩
      · show (heardL l (movedL k t)).1.length ≤ _
        rw [List.length_cons]; omega
      · show (some t :: (heardL l (movedL k t)).2).length = _
        rw [List.length_cons, List.length_cons]; omega
  | .thing t :: l, k => by
    rw [heardL]
    have := heard_le l (movedL k t)
    have h2 := moved_len k t
    refine ⟨?_, ?_⟩
    · show (heardL l (movedL k t)).1.length ≤ _
      rw [List.length_cons]; omega
    · show (some t :: (heardL l (movedL k t)).2).length = _
      rw [List.length_cons, List.length_cons]; omega
section
variable {η : List O} {b h p : Nat} {ks : List (Str × Int)} {rs : List Row} {m : D}
/-! ### drawn items -/
theorem law_items_ok {fp r : List O} {o : O} (hf : Feed o) (hB : BookDrawn ks rs m) {most : Nat} (hm : most ≤ 100) :
    ∃ (items : List (Item rs)) (o' : O), m_law_items [.obj fp.length, bkT ks rs m, .int most] (fp ++ o :: r) = .ok (.lst (items.map Item.d)) (fp ++ o' :: r) ∧ Feed o' ∧ items.length ≤ most ∧ ∀ x ∈ items, x.ok ks := by
  have z0 : (0 : Nat) ≤ sizeLine := Nat.zero_le _
  obtain ⟨k, o1, e1, f1, k0, k1⟩ := pick0 (fp := fp) (r := r) hf (most + 1) (by omega) (by omega)
  have hk2 : k ≤ 16777216 ∧ -16777216 ≤ k := by omega
  have hc : ∀ (δ : En) (η : List O), 8 < δ.length → compF (.tp [(.nm 6), (.nm 7), (.nm 8)]) fYes (fV 6) δ (rs.map Row.d) η = .ok ((rs.map (·.n)).map .str) η := fun δ η hl => by
    have := comp_map (t := .tp [(.nm 6), (.nm 7), (.nm 8)]) (ft := fYes) (fe := fV 6) (δw := δ) (η := η) (g := fun d => match d with | .tup (x :: _) => x | d => d) (ds := rs.map Row.d) fun x hx => by
      obtain ⟨q, _, rfl⟩ := List.mem_map.mp hx
      refine ⟨((δ.set 6 (some (.val (.str q.n)))).set 7 (some (.val (.tup (q.st.map .str))))).set 8 (some (.val (.int q.p))), rfl, rfl, ?_⟩
      have b6 : 6 < δ.length := by omega
      simp [Row.d, b6]
    rw [this, List.map_map, List.map_map]
    rfl
  obtain ⟨tk, htk⟩ : ∃ tk, tk = rs.map (·.n) := ⟨_, rfl⟩
  have hfd : ∀ z ∈ tk, ∃ r0, rs.find? (fun q => decide (q.n = z)) = some r0 := fun z hz => find_of (by rw [← htk]; exact hz)
  have htl : tk.length ≤ 4 := by rw [htk, List.length_map]; exact hB.r.l1
  rw [← htk] at hc
  generalize hbb : (sIf (fAndB (toB (fOp neD (fV 3) (fFrz (fLstN fNil)))) (toB (fOp eqD (fCall 2 m_law_pick (fCons (fV 0) (fCons (fC (.int 2)) fNil))) (fC (.int 0))))) (sMut 4 muApp (fCons (fCall 2 m_law_of (fCons (fV 0) (fCons (fV 3) fNil))) fNil)) (sMut 4 muApp (fCons (fCall 2 m_law_thing (fCons (fV 0) (fCons (fV 1) fNil))) fNil)) : S) = bb
  obtain ⟨δ', η', el, o2, its, y5, rfl, f2, rfl, q1, q2⟩ := loop_inv (t := .nm 5) (b := bb) (P := fun ds δ η => ∃ (o : O) (its : List (Item rs)) (y5 : Option L), η = fp ++ o :: r ∧ Feed o ∧ δ = [some (.val (.obj fp.length)), some (.val (bkT ks rs m)), some (.val (.int most)), some (.val (.lst (tk.map .str))), some (.own (its.map Item.d)), y5, none, none, none] ∧ its.length + ds.length = k.toNat ∧ ∀ x ∈ its, x.ok ks) (ds := rngD 0 k.toNat)
    (δ := [some (.val (.obj fp.length)), some (.val (bkT ks rs m)), some (.val (.int most)), some (.val (.lst (tk.map .str))), some (.own []), none, none, none, none]) (η := fp ++ o1 :: r) ⟨o1, [], _, rfl, f1, rfl, by simp [rngD], by simp⟩ fun x ds δ η ⟨o, its, y5, q0, f, q1, q2, q3⟩ => by
    subst q0 q1
    rw [List.length_cons] at q2
    have hal : (its.map Item.d).length < sizeLine := len_sz (by rw [List.length_map]; omega)
    have step : ∃ (it : Item rs) (o' : O), bb [some (.val (.obj fp.length)), some (.val (bkT ks rs m)), some (.val (.int most)), some (.val (.lst (tk.map .str))), some (.own (its.map Item.d)), some (.val x), none, none, none] (fp ++ o :: r) = .nx [some (.val (.obj fp.length)), some (.val (bkT ks rs m)), some (.val (.int most)), some (.val (.lst (tk.map .str))), some (.own (its.map Item.d ++ [it.d])), some (.val x), none, none, none] (fp ++ o' :: r) ∧ Feed o' ∧ it.ok ks := by
      generalize its.map Item.d = acc at hal ⊢
      have hne := neD_nil (zs := tk)
      cases htk2 : tk with
      | nil =>
        have hne : neD (.lst []) (.lst []) = some (.bl false) := neD_self rfl
        obtain ⟨t, o', et, ft, t1, t2⟩ := law_thing_ok (fp := fp) (r := r) f hB
        refine ⟨.thing t, o', ?_, ft, t1, t2⟩
        rw [← hbb]
        simp [z0, hne, et, hal, Item.d]
      | cons w0 ws =>
        obtain ⟨p, o3, e3, f3, p0, p1⟩ := pick0 (fp := fp) (r := r) f 2 (by decide) (by decide)
        rw [htk2] at hne
        by_cases hp : p = 0
        · obtain ⟨d, o4, e4, f4, hd⟩ := of0 (fp := fp) (r := r) f3 (tk.map .str) (by rw [htk2]; simp) (by rw [List.length_map]; omega)
          obtain ⟨z, hz, rfl⟩ := List.mem_map.mp hd
          obtain ⟨r0, hr0⟩ := hfd z hz
          refine ⟨.word r0 z hr0, o4, ?_, f4, trivial⟩
          rw [← hbb]
          rw [htk2] at e4
          have hi2 : ((w0 :: ws).isEmpty) = false := rfl
          generalize (w0 :: ws).map D.str = W at *
          simp [z0, hne, e3, hp, e4, hal, Item.d]
        · obtain ⟨t, o', et, ft, t1, t2⟩ := law_thing_ok (fp := fp) (r := r) f3 hB
          refine ⟨.thing t, o', ?_, ft, t1, t2⟩
          rw [← hbb]
          generalize (w0 :: ws).map D.str = W at *
          simp [z0, hne, e3, hp, et, hal, Item.d]
    obtain ⟨it, o', es, f', hok⟩ := step
    refine ⟨_, asg_nm, [some (.val (.obj fp.length)), some (.val (bkT ks rs m)), some (.val (.int most)), some (.val (.lst (tk.map .str))), some (.own ((its ++ [it]).map Item.d)), some (.val x), none, none, none], fp ++ o' :: r, .inl ?_, o', its ++ [it], _, rfl, f', rfl, by rw [List.length_append, List.length_singleton]; omega, fun w hw => ?_⟩
    · rw [List.map_append]; exact es
    · rcases List.mem_append.mp hw with hw | hw
      · exact q3 w hw
      · rw [List.mem_singleton] at hw; subst hw; exact hok
  refine ⟨its, o2, run_rt2 (δ := [some (.val (.obj fp.length)), some (.val (bkT ks rs m)), some (.val (.int most)), none, none, none, none, none, none]) rfl ?_, f2, by rw [List.length_nil] at q1; omega, q2⟩
  unfold b_law_items
  rw [hbb]
  have c1 := hc (wipeD [some (.val (.obj fp.length)), some (.val (bkT ks rs m)), some (.val (.int most)), none, none, none, none, none, none] [6, 7, 8]) (fp ++ o :: r) (by show 8 < 9; decide)
  generalize its.map Item.d = LS at el ⊢
  generalize tk.map D.str = TK at *
  simp [-List.map_map, z0, bk1, c1, e1, hk2]
  rw [el]
  simp
/-! ### what the law makes of an utterance -/
theorem law_hears_ok (hm : MemOk m) (items : List (Item rs)) (hi : items.length ≤ 100) (k0 : List (Thing × Int)) (hk : k0.length ≤ 500) :
    m_law_hears [bkT ks rs m, .lst (k0.map kpD), .lst (items.map Item.d)] η = .ok (.tup [.lst ((heardL items (agedL m k0)).1.map kpD), .lst ((heardL items (agedL m k0)).2.map optD)]) η := by
  have z0 : (0 : Nat) ≤ sizeLine := Nat.zero_le _
  have z2 : (2 : Nat) ≤ sizeLine := by rw [sizeLine_eq]; decide
  have ha := law_aged_ok (η := η) (ks := ks) (rs := rs) hm k0
  have hkl : (agedL m k0).length ≤ 500 := Nat.le_trans (aged_le m k0) hk
  generalize agedL m k0 = k1 at ha hkl ⊢
  generalize hbb : (sSeq (sSet 5 (fIf (fTru (fCall1 (isD "str") (fV 4))) (fCall 3 m_law_taken (fCons (fV 0) (fCons (fV 1) (fCons (fV 4) fNil)))) (fV 4)))
    (sSeq (sMut 3 muApp (fCons (fV 5) fNil))
    (sSet 1 (fIf (toB (fOp notN (fV 5) (fC .non))) (fCall 2 m_law_front (fCons (fV 1) (fCons (fV 5) fNil))) (fV 1)))) : S) = bb
  obtain ⟨δ', η', e, suf, k, tk, y4, y5, q1, q2, q3, q4, q5, q6⟩ := loop_inv (t := .nm 4) (b := bb) (P := fun ds δ η1 => ∃ (suf : List (Item rs)) (k : List (Thing × Int)) (tk : List (Option Thing)) (y4 y5 : Option L), ds = suf.map Item.d ∧ δ = [some (.val (bkT ks rs m)), some (.val (.lst (k.map kpD))), some (.val (.lst (items.map Item.d))), some (.own (tk.map optD)), y4, y5] ∧ η1 = η ∧ heardL items k1 = ((heardL suf k).1, tk ++ (heardL suf k).2) ∧ tk.length + suf.length = items.length ∧ k.length ≤ 500 + tk.length)
    (ds := items.map Item.d) (δ := [some (.val (bkT ks rs m)), some (.val (.lst (k1.map kpD))), some (.val (.lst (items.map Item.d))), some (.own []), none, none]) (η := η) ⟨items, k1, [], none, none, rfl, rfl, rfl, rfl, by simp, by simpa using hkl⟩ fun x r δ η1 ⟨suf, k, tk, y4, y5, q1, q2, q3, q4, q5, q6⟩ => by
    subst q2 q3
    cases suf with
    | nil => cases q1
    | cons it suf =>
      cases q1
      rw [List.length_cons] at q5
      have hal : (tk.map optD).length < sizeLine := len_sz (by simp; omega)
      have hk1 : k.length ≤ 1000 := by omega
      have step : ∀ (o : Option Thing), heardL (it :: suf) k = (match o with | none => ((heardL suf k).1, none :: (heardL suf k).2) | some t => ((heardL suf (movedL k t)).1, some t :: (heardL suf (movedL k t)).2)) →
          (fIf (fTru (fCall1 (isD "str") (fV 4))) (fCall 3 m_law_taken (fCons (fV 0) (fCons (fV 1) (fCons (fV 4) fNil)))) (fV 4)) [some (.val (bkT ks rs m)), some (.val (.lst (k.map kpD))), some (.val (.lst (items.map Item.d))), some (.own (tk.map optD)), some (.val it.d), y5] η1 = .ok (optD o) η1 →
          ∃ δ1, asg (.nm 4) it.d [some (.val (bkT ks rs m)), some (.val (.lst (k.map kpD))), some (.val (.lst (items.map Item.d))), some (.own (tk.map optD)), y4, y5] = some δ1 ∧ ∃ δ2 η2, (bb δ1 η1 = .nx δ2 η2 ∨ bb δ1 η1 = .ct δ2 η2) ∧ ∃ (suf' : List (Item rs)) (k : List (Thing × Int)) (tk : List (Option Thing)) (y4 y5 : Option L), suf.map Item.d = suf'.map Item.d ∧ δ2 = [some (.val (bkT ks rs m)), some (.val (.lst (k.map kpD))), some (.val (.lst (items.map Item.d))), some (.own (tk.map optD)), y4, y5] ∧ η2 = η1 ∧ heardL items k1 = ((heardL suf' k).1, tk ++ (heardL suf' k).2) ∧ tk.length + suf'.length = items.length ∧ k.length ≤ 500 + tk.length := fun o hq hv => by
        refine ⟨_, asg_nm, ?_⟩
        have hadd : (tk ++ [o]).map optD = tk.map optD ++ [optD o] := by simp
        rw [← hbb]
        rw [sSeq_a, sSet_a]
        have hv' := hv
        simp only [List.set_cons_succ, List.set_cons_zero]
        rw [hv']
        cases o with
        | none =>
          refine ⟨[some (.val (bkT ks rs m)), some (.val (.lst (k.map kpD))), some (.val (.lst (items.map Item.d))), some (.own ((tk ++ [none]).map optD)), some (.val it.d), some (.val (optD none))], η1, .inl ?_, suf, k, tk ++ [none], _, _, rfl, rfl, rfl, ?_, by rw [List.length_append]; simp; omega, by rw [List.length_append]; simp; omega⟩
          · rw [hadd]
            generalize tk.map optD = acc at hal ⊢
            simp [hal, optD]
          · rw [q4, hq]; simp
        | some t =>
          have hm := law_front_ok (η := η1) k t hk1
          refine ⟨[some (.val (bkT ks rs m)), some (.val (.lst ((movedL k t).map kpD))), some (.val (.lst (items.map Item.d))), some (.own ((tk ++ [some t]).map optD)), some (.val it.d), some (.val (optD (some t)))], η1, .inl ?_, suf, movedL k t, tk ++ [some t], _, _, rfl, rfl, rfl, ?_, by rw [List.length_append]; simp; omega, ?_⟩
          · rw [hadd]
            generalize tk.map optD = acc at hal ⊢
            have hni : (kd2 t).isNon = false := rfl
            simp [hal, optD, hm, hni]
          · rw [q4, hq]; simp
          · have := moved_len k t
            rw [List.length_append]; simp; omega
      cases it with
      | word r z hf =>
        have ht := law_taken_ok (η := η1) (ks := ks) (m := m) (z := z) hf k
        refine step (takenL r.st k) ?_ ?_
        · first | (rw [heardL]; done) | (rw [heardL]; cases takenL r.st k <;> rfl)
        · simp [-List.map_map, Item.d, is_str_s, ht]
      | thing t =>
        refine step (some t) rfl ?_
        have hst : isD "str" (kd2 t) = some (.bl false) := is_str_t
        simp [Item.d, hst, optD]
  have hs : suf = [] := by cases suf with | nil => rfl | cons _ _ => cases q1
  subst hs q2 q3
  rw [q4]
  simp only [heardL, List.append_nil]
  refine run_rt2 (δ := [some (.val (bkT ks rs m)), some (.val (.lst (k0.map kpD))), some (.val (.lst (items.map Item.d))), none, none, none]) rfl ?_
  unfold b_law_hears
  rw [hbb]
  generalize tk.map optD = T at *
  generalize items.map Item.d = I at *
  generalize k1.map kpD = K1 at *
  generalize k0.map kpD = K0 at *
  generalize k.map kpD = K at *
  simp [z0, z2, ha]
  rw [e]
  simp [z2]
/-! ### the hearer is as the law says -/
theorem len_ok {x0 x2 x3 x4 : D} {l : List D} (hh : η[h]? = some (.ins 1 NSL [x0, .lst l, x2, x3, x4])) : m_Listener___len__ [.obj h] η = .ok (.int l.length) η := by
  refine run_rt2 (δ := [some (.val (.obj h))]) rfl ?_
  unfold b_Listener___len__
  simp [hh]
def hearTx (z1 z2 : Str) : Str := ((("Listener(" ++ z1) ++ " sentences, ") ++ z2) ++ " things)"
theorem hearTx_len {z1 z2 : Str} (h1 : z1.length ≤ 10) (h2 : z2.length ≤ 10) : ("Listener(" : Str).length + z1.length ≤ sizeLine ∧ ("Listener(" ++ z1 : Str).length + (" sentences, " : Str).length ≤ sizeLine ∧ (("Listener(" ++ z1) ++ " sentences, " : Str).length + z2.length ≤ sizeLine ∧ ((("Listener(" ++ z1) ++ " sentences, ") ++ z2 : Str).length + (" things)" : Str).length ≤ sizeLine := by
  have l1 : ("Listener(" : Str).length = 9 := by decide +kernel
  have l2 : (" sentences, " : Str).length = 12 := by decide +kernel
  have l3 : (" things)" : Str).length = 8 := by decide +kernel
  simp only [Str.length_append, l1, l2, l3, sizeLine_eq]
  omega
theorem repr_ok {x0 x3 x4 : D} {l : List D} {n : Nat} {z1 z2 : Str} (e1 : intTx n = some (.str z1)) (e2 : intTx l.length = some (.str z2)) (h1 : z1.length ≤ 10) (h2 : z2.length ≤ 10) (hh : η[h]? = some (.ins 1 NSL [x0, .lst l, .int n, x3, x4])) : m_Listener___repr__ [.obj h] η = .ok (.str (hearTx z1 z2)) η := by
  obtain ⟨q1, q2, q3, q4⟩ := hearTx_len h1 h2
  have q0 : (Str.empty ++ "Listener(" : Str) = "Listener(" := by decide +kernel
  have q5 : ("Listener(" : Str).length ≤ sizeLine := by rw [sizeLine_eq]; decide +kernel
  refine run_rt2 (δ := [some (.val (.obj h))]) rfl ?_
  unfold b_Listener___repr__
  unfold hearTx
  rw [← Str.length_append] at q1 q2 q3 q4
  simp [hh, e1, e2, q0, q5, q1, q2, q3, q4]
theorem opt_sam (n : Nat) (x : Option Thing) : samB (n + 2) (optD x) = true := by cases x <;> rfl
theorem kept_sam (n : Nat) : ∀ l : List (Thing × Int), samL (n + 3) (l.map kpD) = true
  | [] => rfl
  | t :: l => by rw [List.map_cons, samL, kept_sam n l]; rfl
theorem len_run {df : DF} {fa : F D} {δ : En} {η : List O} {c o : Nat} {l : Nat} (g1 : fa δ η = .ok (.obj o) η) (g2 : insC η c (.obj o) = true) (g3 : df [.obj o] η = .ok (.int l) η) (hl : l < 1000) : fLenM c 1 df fa δ η = .ok (.int l) η := by
  have hb : (0:Int) ≤ (l : Int) ∧ (l : Int) < 2 ^ 63 := by omega
  rw [fLenM_a, g1, bind_ok, if_pos g2, arg_a]
  rw [show (if [D.obj o].length = 1 then df [D.obj o] η else R.bad) = R.ok (.int l) η from (if_pos rfl).trans g3, nox_ok, bind_ok]
  dsimp only
  rw [if_pos hb]
theorem hearer_so_ok (hb : η[b]? = some (.ins 0 NSB [.lst (ks.map kd2), .lst (rs.map Row.d), m])) (hm : MemOk m) {k : List (Thing × Int)} {hd lo : Nat} (hh : η[h]? = some (.ins 1 NSL [.obj b, .lst (k.map kpD), .int hd, .int lo, .obj p])) (hhd : hd < 300) (hk : k.length < 300) :
    m_law_hearer_so [.obj h, .tup [bkT ks rs m, .lst (k.map kpD), .int hd, .int lo]] η = .ok (.bl true) η := by
  obtain ⟨z1, e1, l1⟩ := tx_of hhd
  obtain ⟨z2, e2, l2⟩ := tx_of hk
  obtain ⟨q1, q2, q3, q4⟩ := hearTx_len l1 l2
  have z5 : (5 : Nat) ≤ sizeLine := by rw [sizeLine_eq]; decide
  have c1 := kept_ok hh
  have c2 := heard_ok hh
  have c3 := lost_ok hh
  have c4 := len_ok hh
  have c5 := repr_ok e1 (l := k.map kpD) (by rw [List.length_map]; exact e2) l1 l2 hh
  rw [List.length_map] at c4
  have k63 : (k.length : Int) < 9223372036854775808 := by omega
  have a1 := law_aged_ok (η := η) (ks := ks) (rs := rs) hm k
  have s1 : m_law_same 12 [.lst [.lst (k.map kpD), .int hd, .int lo, .int k.length, .str (hearTx z1 z2)], .lst [.lst (k.map kpD), .int hd, .int lo, .int k.length, .str (hearTx z1 z2)]] η = .ok (.bl true) η := same0 (by
    rw [samB, samL, samB, kept_sam 7]; rfl) rfl
  have hloop : ∀ (suf : List Row) (x0 x1 x3 x4 x5 x6 x7 y8 y9 y10 : Option L), x0 = some (.val (.obj h)) → x3 = some (.val (.lst (k.map kpD))) → (∀ q ∈ suf, q ∈ rs) → ∃ w8 w9 w10, loopF (.tp [(.nm 8), (.nm 9), (.nm 10)]) (sIf (fNotB (fTru (fCall 2 (m_law_same 12) (fCons (fMethX 1 ["own_book", "own_kept", "own_heard", "own_lost", "own_past"] 2 0 2 m_Listener_would_take [0, 1] [] (fV 0) (fCons (fV 8) fNil) fNil) (fCons (fCall 3 m_law_taken (fCons (fV 2) (fCons (fCall 2 m_law_aged (fCons (fV 2) (fCons (fV 3) fNil))) (fCons (fV 8) fNil)))) fNil))))) (sRet (fC (.bl false))) SR.nx) (suf.map Row.d)
      [x0, x1, some (.val (bkT ks rs m)), x3, x4, x5, x6, x7, y8, y9, y10] η = .nx [x0, x1, some (.val (bkT ks rs m)), x3, x4, x5, x6, x7, w8, w9, w10] η := by
    intro suf
    induction suf with
    | nil => intro x0 x1 x3 x4 x5 x6 x7 y8 y9 y10 _ _ _; exact ⟨_, _, _, rfl⟩
    | cons q suf ih =>
      intro x0 x1 x3 x4 x5 x6 x7 y8 y9 y10 g0 g3 hq
      obtain ⟨w8, w9, w10, e⟩ := ih x0 x1 x3 x4 x5 x6 x7 (some (.val (.str q.n))) (some (.val (.tup (q.st.map .str)))) (some (.val (.int q.p))) g0 g3 fun w hw => hq w (List.mem_cons_of_mem _ hw)
      refine ⟨w8, w9, w10, ?_⟩
      subst g0 g3
      obtain ⟨r0, hr0⟩ := find_of (rs := rs) (z := q.n) (List.mem_map_of_mem (hq q List.mem_cons_self))
      have t1 := would_take_ok (z := q.n) hb hm hh hr0
      have t2 := law_taken_ok (η := η) (ks := ks) (m := m) hr0 (agedL m k)
      have t3 : m_law_same 12 [optD (takenL r0.st (agedL m k)), optD (takenL r0.st (agedL m k))] η = .ok (.bl true) η := same0 (opt_sam 10 _) rfl
      rw [List.map_cons, loopF]
      generalize optD (takenL r0.st (agedL m k)) = OD at *
      generalize (agedL m k).map kpD = AK at *
      generalize k.map kpD = KK at *
      simp [-List.map_map, Row.d, hh, t1, a1, t2, t3]
      exact e
  obtain ⟨w8, w9, w10, el⟩ := hloop rs (some (.val (.obj h))) (some (.val (.tup [bkT ks rs m, .lst (k.map kpD), .int hd, .int lo]))) (some (.val (.lst (k.map kpD)))) (some (.val (.int hd))) (some (.val (.int lo))) (some (.val (.str (hearTx z1 z2)))) (some (.val (.lst [.lst (k.map kpD), .int hd, .int lo, .int k.length, .str (hearTx z1 z2)]))) none none none rfl rfl fun _ h => h
  refine run_rt2 (δ := [some (.val (.obj h)), some (.val (.tup [bkT ks rs m, .lst (k.map kpD), .int hd, .int lo])), none, none, none, none, none, none, none, none, none]) rfl ?_
  unfold b_law_hearer_so
  have lk : ((k.map kpD).length : Int) = k.length := by rw [List.length_map]
  obtain ⟨X1, g1⟩ : ∃ X1, X1 = "Listener(" ++ z1 := ⟨_, rfl⟩
  obtain ⟨X2, g2⟩ : ∃ X2, X2 = X1 ++ " sentences, " := ⟨_, rfl⟩
  obtain ⟨X3, g3⟩ : ∃ X3, X3 = X2 ++ z2 := ⟨_, rfl⟩
  have p1 : addD (.str "Listener(") (.str z1) = some (.str X1) := by rw [g1]; exact if_pos q1
  have p2 : addD (.str X1) (.str " sentences, ") = some (.str X2) := by rw [g2]; exact if_pos (by rw [g1]; exact q2)
  have p3 : addD (.str X2) (.str z2) = some (.str X3) := by rw [g3]; exact if_pos (by rw [g2, g1]; exact q3)
  have p4 : addD (.str X3) (.str " things)") = some (.str (hearTx z1 z2)) := by
    have : hearTx z1 z2 = X3 ++ " things)" := by rw [g3, g2, g1]; rfl
    rw [this]
    exact if_pos (by rw [g3, g2, g1]; exact q4)
  generalize hearTx z1 z2 = HT at *
  clear g1 g2 g3 q1 q2 q3 q4
  generalize hKK : k.map kpD = KK at *
  have u2 : ∀ δ : En, δ[0]? = some (some (.val (.obj h))) → (fLenM 1 1 m_Listener___len__ (fV 0)) δ η = .ok (.int k.length) η := fun δ g => len_run (o := h) (by rw [fV_a, g]) (by rw [insC_a, hh]; rfl) c4 (by omega)
  simp [-List.map_map, -List.length_map, -addD_ss, -fLenM_a, lk, e1, e2, p1, p2, p3, p4, z5, hh, c1, c2, c3, c5, u2, s1, bk1]
  rw [el]
  simp
end
end DL
/-! xs * n for any list that is read -/
namespace PySem
open Sem (wp)
open Builtin
open PySem.AutoSeq1 (wpAny_loadPart')
theorem list_mulW (l : Addr) (items : Array Value) (n : Nat) (x : Int) (u : Tok) (dd : Option Addr) (sl : Array (Option Value)) (hc0 : ¬(!Builtin.List.listFitsIndex x) = true) (hc1 : ¬items.size * x.toNat > (2 ^ 63 - 1) / 8) (hc2 : ¬Builtin.List.listTooLong (items.size * x.toNat) = true) :
    Meets (Builtin.«list.__mul__» ⟨[.ref l, .int x u], []⟩) (fun _ R s => s.heap.get? l = some { cls := .type "list", dict := dd, data := .seq items n, slots := sl } ∧ R (.ok (.ret (Value.ref s.heap.objs.size))) { s with heap := s.heap.push { cls := Value.type "list", data := Data.seq (List.foldl (fun x1 x2 => x1 ++ x2) #[] (List.replicate (if items.isEmpty = true then 0 else x.toNat) items)) } }) :=
  .of_wp fun prog w A R s h => by
    obtain ⟨hp, g, d, tk, os⟩ := s; obtain ⟨hl, h⟩ := h
    have hsz := AutoListH.joined_fits hc2
    wp_walk using wpAny_loadPart' hl; refine wpAny_ite_false (decide_eq_false (Nat.not_lt.mpr hsz)) ?_; wp_walk using wpAny_loadPart' hl; exact ⟨_, rfl, h⟩
theorem int_rmulW (a : Int) (t : Tok) (l : Addr) (items : Array Value) (n : Nat) (dd : Option Addr) (sl : Array (Option Value)) :
    Meets (Builtin.«int.__rmul__» ⟨[.int a t, .ref l], []⟩) (fun _ R s => s.heap.get? l = some { cls := .type "list", dict := dd, data := .seq items n, slots := sl } ∧ R (.ok (.ret Value.notImplemented)) s) :=
  .of_wp fun prog w A R s h => by obtain ⟨hp, g, d, tk, os⟩ := s; obtain ⟨hl, h⟩ := h; wp_walk using wpAny_loadPart' hl; exact ⟨_, rfl, h⟩
end PySem
namespace L2
open PySem PySem.Spec PyProof.Rows PySem.SeqAt
section
variable {X : Cx}
def rRepL (K : PySem.W.Frag) : R2 := fun x y H Q => ∃ l k xs, x = .ref l ∧ y = .int k ∧ SqL K H l xs ∧ -(2 ^ 63) ≤ k ∧ k < 2 ^ 63 ∧ xs.length * k.toNat ≤ sizeLine ∧
  ∀ p, H p = none → Q (.ref p) (upd H p (.lst (List.replicate k.toNat xs).flatten))
theorem op_repL : OpR X (binaryOp .Mult) (rRepL X.K) := by
  intro pins s σ H x y v u Q I rx ry h
  obtain ⟨l, k, xs, rfl, rfl, hH, h1, h2, hz, q⟩ := h
  cases rx
  obtain ⟨t, rfl⟩ := ry
  obtain ⟨its, r, ⟨⟨_, dd, _, sl⟩, n, e, rfl, rfl, rfl⟩, _⟩ := I.list hH
  have hl := r.length
  have hlen : its.toArray.size * k.toNat ≤ sizeLine := by rw [List.size_toArray, ← hl]; exact hz
  have hcap : ¬ its.toArray.size * k.toNat > (2 ^ 63 - 1) / 8 := by
    have : (sizeLine : Nat) ≤ (2 ^ 63 - 1) / 8 := by decide
    omega
  have hfit : ¬ (!Builtin.List.listFitsIndex k) = true := by
    rw [fitsIndex_both h1 h2]
    exact Bool.false_ne_true
  have hlong : ¬ Builtin.List.listTooLong (its.toArray.size * k.toNat) = true := by
    rw [notLongL hlen]
    exact Bool.false_ne_true
  have hnew : List.foldl (fun x1 x2 => x1 ++ x2) #[] (List.replicate (if its.toArray.isEmpty = true then 0 else k.toNat) its.toArray) = (List.replicate k.toNat its).flatten.toArray := by
    have f0 : ∀ m : Nat, List.foldl (fun x1 x2 => x1 ++ x2) #[] (List.replicate m its.toArray) = (List.replicate m its).flatten.toArray := fun m => by
      have := foldl_rep its m []
      rw [List.nil_append] at this
      exact this
    rw [f0]
    cases its with
    | nil => simp
    | cons a r' => rw [if_neg (by simp)]
  refine wpAny_binaryOp_repeat_ref (T := "list") (U := "int") (by decide) ⟨_, e, rfl⟩ (fun s' => typeIs_int s' k t) noFill_list_mul F.fills_int_mul F.slot_int_rmul repeat_list F.slot_int_index.lookup
    (call_meets F.slot_int_rmul (typeIs_int s k t) F.entry_int_rmul (F.args_int_rmul_2 _ _) (int_rmulW k t l its.toArray n _ _)
      ⟨e, rfl, ⟨_, e, rfl⟩, call_meets F.slot_list_mul ⟨_, e, rfl⟩ F.entry_list_mul (F.args_list_mul_2 _ _) (list_mulW l its.toArray n k t _ _ hfit hcap hlong) ⟨e, ?_⟩⟩)
  rw [hnew]
  exact ⟨.ref _, _, I.lnew (t' := s.toks) (r.rep k.toNat) (by rw [PyProof.Rows.lm_len_rep_flat, Nat.mul_comm]; exact hz), rfl, q _ I.fresh⟩
end
end L2
namespace DL
open PySem L2
section
variable {X : Cx} {C : Ct}
def mulLD : D → D → Option D
  | .lst l, .int k => if repB l.length k = true then some (.lst (List.replicate k.toNat l).flatten) else none
  | _, _ => none
theorem o_mulL (hK : X.K = C.K) : OpR X (binaryOp .Mult) (rD C mulLD) := opD op_repL fun x y H Q ⟨G, η, d, e, hr, h1, h2, q⟩ => by
  unfold mulLD at q
  split at q
  · split at q
    · rename_i l k hk
      obtain ⟨k1, k2, k3⟩ := repB_of hk
      obtain ⟨a, vs, e1, s1, r1⟩ := h1.lst
      rw [← hK] at s1
      exact ⟨a, k, vs, e1, h2.int, s1, k1, k2, by rw [← r1.length]; exact k3, fun p hp => q.lst hr hp (by rw [rep_len]; exact k3) (rps_rep r1 k.toNat)⟩
    · exact q.elim
  · exact q.elim
end
end DL
/-! a, b, c = [..], e, e2: own lists among three -/
namespace DL
open PySem L2
section
variable {X : Cx} {C : Ct} {W : WX} {pos p2 : Pos} {fe fa fb fc fo : F D} {fs fn fm : F (List D)}
theorem no_own {C : Ct} {G : Gh} {H : Hp} {δ : En} {σ : St} {η : List O} {p : Addr} (a : At C G H δ σ η) (hp : H p = none) : ∀ (k : Nat) (lk : L), δ[k]? = some (some lk) → lk.owns = true → σ[k]? = some (some (V.ref p)) → False := fun k lk z1 z2 z3 => by
  obtain ⟨w, e1, e2⟩ := a.sl k lk z1
  rw [z3] at e1
  cases e1
  cases e2 with
  | val _ => cases z2
  | own m e z r => rw [hp] at e; cases e
  | oins m e n r => rw [hp] at e; cases e
def sPar3N (i j l : Nat) (fn : F (List D)) (fb fc : F D) : S := fun δ η => (fn δ η).toS δ fun d η => (fb δ η).toS δ fun e η => (fc δ η).toS δ fun g η => .nx (((δ.set i (some (.own d))).set j (some (.val e))).set l (some (.val g))) η
theorem fs_par3N {i j l : Nat} {st : Stmt} (h : PS X st (tPar3 i j l (tCons (tN C W fn) (tCons (tG C (Rp C) W fb) (tCons (tG C (Rp C) W fc) tNil))))) : FS C W X st (sPar3N i j l fn fb fc) := PS.imp h fun Dn σ H ⟨B, G, δ, η, h, fin⟩ => by
  refine ⟨G, δ, η, h.a, ?_⟩
  unfold sPar3N at fin
  cases hf : fn δ η with
  | ok l1 η1 =>
    rw [hf, toS_ok] at fin
    intro p vs G1 H1 x r q hz hp
    have h1 := h.next x r
    have h1' : Hold C B (G1.add p) (upd H1 p (.lst vs)) δ σ η1 := h1.next (Nx.add hp) (h1.a.he.add hp)
    have npa1 : p ∉ (G1.add p).ads := fun hm => h1.a.he.mh p (h1.a.he.adsM hm) hp
    refine tG.bindS h1' fin fun d v G2 H2 η2 h2 x2 r2 fin2 => ?_
    refine tG.bindS h2 fin2 fun g u G3 H3 η3 h3 x3 r3 fin3 => ⟨.ref p, v, u, rfl, ?_⟩
    have x23 := x2.trans x3
    refine fin3 G3 H3 _ (((h3.putOwn ((x23.mu p _ upd_same).mpr (.inr rfl)) (x23.keep p _ upd_same npa1) (no_own h1.a hp) (fun z => ?_) (h1.n.there p hp) hz (((q.stab (Stab.add hp)).stab (x2.stab h1'.a.he)).stab (x3.stab h2.a.he))).setVal (r2.stab (x3.stab h2.a.he))).setVal r3)
    rcases x23.new p z with z | z
    · exact npa1 z
    · rw [upd_same] at z; cases z
  | exc c ns l1 η1 => rw [hf] at fin; exact fun b vs G2 H2 x r q1 q2 => fin b vs G2 H2 σ (h.next x r) q1 q2
  | bad => rw [hf] at fin; exact fin
def sPar3NN (i j l : Nat) (fn fm : F (List D)) (fc : F D) : S := fun δ η => (fn δ η).toS δ fun d η => (fm δ η).toS δ fun e η => (fc δ η).toS δ fun g η => .nx (((δ.set i (some (.own d))).set j (some (.own e))).set l (some (.val g))) η
theorem fs_par3NN {i j l : Nat} {st : Stmt} (h : PS X st (tPar3 i j l (tCons (tN C W fn) (tCons (tN C W fm) (tCons (tG C (Rp C) W fc) tNil))))) : FS C W X st (sPar3NN i j l fn fm fc) := PS.imp h fun Dn σ H ⟨B, G, δ, η, h, fin⟩ => by
  refine ⟨G, δ, η, h.a, ?_⟩
  unfold sPar3NN at fin
  cases hf : fn δ η with
  | ok l1 η1 =>
    rw [hf, toS_ok] at fin
    intro p vs G1 H1 x r q hz hp
    have h1 := h.next x r
    have h1' : Hold C B (G1.add p) (upd H1 p (.lst vs)) δ σ η1 := h1.next (Nx.add hp) (h1.a.he.add hp)
    have npa1 : p ∉ (G1.add p).ads := fun hm => h1.a.he.mh p (h1.a.he.adsM hm) hp
    refine ⟨G1.add p, δ, η1, h1'.a, ?_⟩
    cases hg : fm δ η1 with
    | ok l2 η2 =>
      rw [hg, toS_ok] at fin
      intro p' vs' G2 H2 x' r' q' hz' hp'
      have h2 := h1'.next x' r'
      have h2' : Hold C B (G2.add p') (upd H2 p' (.lst vs')) δ σ η2 := h2.next (Nx.add hp') (h2.a.he.add hp')
      have npa2 : p' ∉ (G2.add p').ads := fun hm => h2.a.he.mh p' (h2.a.he.adsM hm) hp'
      refine tG.bindS h2' fin fun g u G3 H3 η3 h3 x3 r3 fin3 => ⟨.ref p, .ref p', u, rfl, ?_⟩
      have xa : Nx (G1.add p) (upd H1 p (.lst vs)) G3 H3 := (x'.trans (Nx.add hp')).trans x3
      have np' : H1 p' = none := by
        have := x'.there p' hp'
        by_cases e : p' = p
        · subst e; rw [upd_same] at this; cases this
        · rwa [upd_ne e] at this
      have ne : p' ≠ p := fun e => by
        subst e
        have := x'.there p' hp'
        rw [upd_same] at this; cases this
      have k1 := h3.putOwn (i := i) ((xa.mu p _ upd_same).mpr (.inr rfl)) (xa.keep p _ upd_same npa1) (no_own h1.a hp) (fun z => (xa.new p z).elim (fun z => npa1 z) fun z => by rw [upd_same] at z; cases z) (h1.n.there p hp) hz ((((q.stab (Stab.add hp)).stab (x'.stab h1'.a.he)).stab (Stab.add hp')).stab (x3.stab h2'.a.he))
      refine fin3 G3 H3 _ ((k1.putOwn ((x3.mu p' _ upd_same).mpr (.inr rfl)) (x3.keep p' _ upd_same npa2) (fun k lk z1 z2 z3 => ?_) (fun z => (x3.new p' z).elim (fun z => npa2 z) fun z => by rw [upd_same] at z; cases z) (h1.n.there p' np') hz' ((q'.stab (Stab.add hp')).stab (x3.stab h2'.a.he))).setVal r3)
      rcases getSet z1 with ⟨rfl, q1⟩ | ⟨hk, z1⟩
      · rcases getSet z3 with ⟨_, w⟩ | ⟨z, _⟩
        · cases w; exact ne rfl
        · exact z rfl
      · rw [List.getElem?_set_ne (Ne.symm hk)] at z3
        exact no_own h1.a np' k lk z1 z2 z3
    | exc c ns l2 η2 => rw [hg] at fin; exact fun b vs G2 H2 x r q1 q2 => fin b vs G2 H2 σ (h1'.next x r) q1 q2
    | bad => rw [hg] at fin; exact fin
  | exc c ns l1 η1 => rw [hf] at fin; exact fun b vs G2 H2 x r q1 q2 => fin b vs G2 H2 σ (h.next x r) q1 q2
  | bad => rw [hf] at fin; exact fin
end
end DL
namespace DL
open PySem L2
section
variable {δ : En} {η : List O} {fa fb fc fe : F D} {fn fm fs : F (List D)} {i j l : Nat}
@[simp] theorem addD_tt {i j : List D} : addD (.tup i) (.tup j) = if i.length + j.length ≤ sizeLine then some (.tup (i ++ j)) else none := rfl
@[simp] theorem slD_t {l : List D} {lo hi : Option Int} : slD (.tup l) lo hi = some (.tup (cutD l lo hi)) := rfl
@[simp] theorem fRev_a : fRev fa δ η = (fa δ η).bind fun d η => lift (revD d) η := rfl
@[simp] theorem revD_l {l : List D} : revD (.lst l) = some (.lst l.reverse) := rfl
@[simp] theorem revD_t {l : List D} : revD (.tup l) = some (.tup l.reverse) := rfl
@[simp] theorem mulLD_l {l : List D} {k : Int} : mulLD (.lst l) (.int k) = if repB l.length k = true then some (.lst (List.replicate k.toNat l).flatten) else none := rfl
@[simp] theorem sSetI_a : sSetI i fe fb δ η = (fe δ η).toS δ fun d η => match δ[i]? with
  | some (some (.own l)) => (fb δ η).toS δ fun k η => match k with
    | .int j => match ixN l.length j with
      | some n => .nx (δ.set i (some (.own (l.set n d)))) η
      | none => .bad
    | _ => .bad
  | _ => .bad := rfl
@[simp] theorem sPar3N_a : sPar3N i j l fn fb fc δ η = (fn δ η).toS δ fun d η => (fb δ η).toS δ fun e η => (fc δ η).toS δ fun g η => .nx (((δ.set i (some (.own d))).set j (some (.val e))).set l (some (.val g))) η := rfl
@[simp] theorem sPar3NN_a : sPar3NN i j l fn fm fc δ η = (fn δ η).toS δ fun d η => (fm δ η).toS δ fun e η => (fc δ η).toS δ fun g η => .nx (((δ.set i (some (.own d))).set j (some (.own e))).set l (some (.val g))) η := rfl
end
end DL
namespace DL
open PySem L2
def b_law_policy : S := (sSeq (sSet 2 (fOp addD (fC (.int 1)) (fCall 2 m_law_pick (fCons (fV 0) (fCons (fV 1) fNil)))))
    (sSeq (sOwn 3 (fLstN fNil))
    (sSeq (sFor (fiR1 (fV 2)) (.nm 4) (sSeq (sSet 5 (fFrz (fSortSet (fFrz (fLstN (fCons (fCall 2 m_law_pick (fCons (fV 0) (fCons (fV 2) fNil))) (fCons (fCall 2 m_law_pick (fCons (fV 0) (fCons (fV 2) fNil))) fNil)))))))
    (sMut 3 muApp (fCons (fTup (fCons (fCall 2 m_law_of (fCons (fV 0) (fCons (fFrz (fLstN (fCons (fC (.int 1)) (fCons (fC (.int 1)) (fCons (fC (.int 0)) fNil))))) fNil))) (fCons (fCall1 tupC (fV 5)) fNil))) fNil))))
    (sFz 3 (sSeq (sFrz 6 (fLc [4] (fiR1 (fV 2)) (.nm 4) (toB (fOp eqD (fCall 2 m_law_pick (fCons (fV 0) (fCons (fC (.int 2)) fNil))) (fC (.int 0)))) (fV 4)))
    (sRet (fTup (fCons (fV 3) (fCons (fIf (toB (fOp neD (fV 6) (fFrz (fLstN fNil)))) (fV 6) (fFrz (fLstN (fCons (fCall 2 m_law_pick (fCons (fV 0) (fCons (fV 2) fNil))) fNil)))) fNil)))))))))
def m_law_policy : DF := runD 7 b_law_policy
def b_is_ascending : S := (sRet (fCall1 allC (fFrz (fLc [1, 2] (fiZ (fV 0) (fSl (fV 0) (fPt (fC (.int 1))) fNoP)) (.tp [(.nm 1), (.nm 2)]) fYes (fOp ltD (fV 1) (fV 2))))))
def m_is_ascending : DF := runD 3 b_is_ascending
def b_is_state : S := (sSeq (sAsg (fV 0) (.tp [(.nm 2), (.nm 3)]))
    (sSeq (sIf (fOrB (toB (fOp notInD (fV 2) (fTup (fCons (fC (.int 0)) (fCons (fC (.int 1)) fNil))))) (fNotB (toB (fCh leD leD (fC (.int 1)) (fCall1 lenD (fV 3)) (fC (.int 6)))))) (sRet (fC (.bl false))) SR.nx)
    (sRet (fAnd (fCall 1 m_is_ascending (fCons (fV 3) fNil)) (fCall1 allC (fFrz (fLc [4] (fiA (fV 3)) (.nm 4) fYes (fCh leD ltD (fC (.int 0)) (fV 4) (fV 1)))))))))
def m_is_state : DF := runD 5 b_is_state
def b_Policy___init__ : S := (sSeq (sIf (fNotB (toB (fCh leD leD (fC (.int 1)) (fCall1 lenD (fV 1)) (fC (.int 8))))) (sRaise1 20 "what" "WrongCount" (fC (.str "states"))) SR.nx)
    (sSeq (sFor (fiE (fV 1)) (.tp [(.nm 3), (.nm 4)]) (sIf (fNotB (fTru (fCall 2 m_is_state (fCons (fV 4) (fCons (fCall1 lenD (fV 1)) fNil))))) (sRaise1 27 "at" "InvalidState" (fV 3)) SR.nx))
    (sSeq (sIf (toB (fOp eqD (fCall1 lenD (fV 2)) (fC (.int 0)))) (sRaise1 20 "what" "WrongCount" (fC (.str "starts"))) SR.nx)
    (sSeq (sFor (fiE (fV 2)) (.tp [(.nm 3), (.nm 5)]) (sIf (fOrB (fNotB (toB (fCh leD ltD (fC (.int 0)) (fV 5) (fCall1 lenD (fV 1))))) (fAndB (toB (fOp gtD (fV 3) (fC (.int 0)))) (toB (fOp leD (fV 5) (fOp ixD (fV 2) (fOp subD (fV 3) (fC (.int 1)))))))) (sRaise1 28 "given" "InvalidStart" (fV 5)) SR.nx))
    (sSeq (sFldN 2 [] ["state_rows"] (fFrz (fLc [6, 7] (fiA (fV 1)) (.tp [(.nm 6), (.nm 7)]) fYes (fTup (fCons (fV 6) (fCons (fCall1 tupC (fV 7)) fNil))))) (fV 0))
    (sFldN 2 ["state_rows"] ["state_rows", "start_row"] (fFrz (fListN (fV 2))) (fV 0)))))))
def m_Policy___init__ : DF := runD 8 b_Policy___init__
def b_law_ruled : S := (sRet (fNewIX 2 3 0 3 m_Policy___init__ [0, 1, 2] [] (fCons (fFrz (fListN (fOp ixD (fV 0) (fC (.int 0))))) (fCons (fFrz (fListN (fOp ixD (fV 0) (fC (.int 1))))) fNil)) fNil))
def m_law_ruled : DF := runD 1 b_law_ruled
def b_Policy_states : S := (sRet (fFrz (fListN (fFld 2 ["state_rows", "start_row"] 0 (fV 0)))))
def m_Policy_states : DF := runD 1 b_Policy_states
def b_Policy_starts : S := (sRet (fFrz (fListN (fFld 2 ["state_rows", "start_row"] 1 (fV 0)))))
def m_Policy_starts : DF := runD 1 b_Policy_starts
def b_Policy___len__ : S := (sRet (fCall1 lenD (fFld 2 ["state_rows", "start_row"] 0 (fV 0))))
def m_Policy___len__ : DF := runD 1 b_Policy___len__
end DL
namespace DL
open PySem L2
/-! ### ints in lists and tuples; equality of them -/
theorem pure_ints (n : Nat) : ∀ zs : List Int, pureDs n (zs.map .int) = true
  | [] => rfl
  | z :: zs => by rw [List.map_cons, pureDs, pure_ints n zs]; cases n <;> rfl
theorem inL_ints (z : Int) : ∀ zs : List Int, inL (.int z) (zs.map .int) = decide (z ∈ zs)
  | [] => rfl
  | y :: zs => by
    have ih : (zs.map D.int).any (fun y => eqvD y (.int z)) = decide (z ∈ zs) := inL_ints z zs
    show (eqvD (.int y) (.int z) || (zs.map D.int).any (fun y => eqvD y (.int z))) = decide (z ∈ y :: zs)
    rw [ih, eqv_ii]
    by_cases q : y = z
    · subst q
      rw [decide_eq_true (rfl : y = y), decide_eq_true (List.mem_cons_self : y ∈ y :: zs)]; rfl
    · rw [decide_eq_false q, Bool.false_or]
      refine decide_eq_decide.mpr ⟨fun h => List.mem_cons_of_mem _ h, fun h => ?_⟩
      rcases List.mem_cons.mp h with e | h
      · exact absurd e.symm q
      · exact h
theorem inD_li {z : Int} {zs : List Int} : inD (.int z) (.lst (zs.map .int)) = some (.bl (decide (z ∈ zs))) := by
  unfold inD; dsimp only; rw [inL_ints, if_pos ⟨rfl, pure_ints 20 zs⟩]
theorem inD_ti {z : Int} {zs : List Int} : inD (.int z) (.tup (zs.map .int)) = some (.bl (decide (z ∈ zs))) := by
  unfold inD; dsimp only; rw [inL_ints, if_pos ⟨rfl, pure_ints 20 zs⟩]
theorem notInD_li {z : Int} {zs : List Int} : notInD (.int z) (.lst (zs.map .int)) = some (.bl (!decide (z ∈ zs))) := by unfold notInD; rw [inD_li]; rfl
theorem notInD_ti {z : Int} {zs : List Int} : notInD (.int z) (.tup (zs.map .int)) = some (.bl (!decide (z ∈ zs))) := by unfold notInD; rw [inD_ti]; rfl
theorem neD_nilG {l : List D} (h : pureDs 19 l = true) : neD (.lst l) (.lst []) = some (.bl (!l.isEmpty)) := by
  unfold neD
  rw [if_pos ⟨h, rfl⟩]
  cases l with
  | nil => rfl
  | cons z zs =>
    have : eqvD (.lst (z :: zs)) (.lst []) = false := by
      show PyData.eqv (.list (toPy z :: toPys zs)) (.list []) = false
      rw [PyData.eqv, PyData.eqvAll]
      all_goals (intros; simp_all)
    rw [this]; rfl
theorem eqvs_ints : ∀ a b : List Int, PyData.eqvAll (toPys (a.map .int)) (toPys (b.map .int)) = decide (a = b)
  | [], [] => by show PyData.eqvAll [] [] = _; rw [PyData.eqvAll]; rfl
  | [], y :: b => by show PyData.eqvAll [] (_ :: _) = _; rw [PyData.eqvAll]; simp
  | x :: a, [] => by show PyData.eqvAll (_ :: _) [] = _; rw [PyData.eqvAll]; simp
  | x :: a, y :: b => by
    show PyData.eqvAll (toPy (.int x) :: toPys (a.map .int)) (toPy (.int y) :: toPys (b.map .int)) = _
    rw [PyData.eqvAll, eqvs_ints a b]
    show (eqvD (.int x) (.int y) && decide (a = b)) = _
    rw [eqv_ii, ← Bool.decide_and]
    simp
theorem neD_ints {a b : List Int} : neD (.lst (a.map .int)) (.lst (b.map .int)) = some (.bl (!decide (a = b))) := by
  unfold neD
  rw [if_pos ⟨pure_ints 19 a, pure_ints 19 b⟩]
  congr 2
  show (!PyData.eqv (.list (toPys (a.map .int))) (.list (toPys (b.map .int)))) = _
  rw [PyData.eqv, eqvs_ints]
theorem numsOf_map : ∀ ns : List Int, numsOf (ns.map .int) = some ns
  | [] => rfl
  | n :: ns => by rw [List.map_cons, numsOf, numsOf_map ns]; rfl
theorem cut_drop {l : List D} {m : Nat} (h : m ≤ l.length) : cutD l (some (m : Int)) none = l.drop m := by
  unfold cutD
  have e1 : HT.sIx l.length l.length none = l.length := rfl
  have e2 : HT.sIx l.length 0 (some (m : Int)) = m := by
    have : ¬ (m : Int) < 0 := by omega
    simp [HT.sIx, this]; omega
  rw [e1, e2]
  exact List.take_of_length_le (by rw [List.length_drop]; exact Nat.le_refl _)
@[simp] theorem fSortSet_t {fa : F D} {δ : En} {η : List O} : fSortSet fa δ η = (fa δ η).bind fun d η => match d with
  | .lst l => (match numsOf l with
    | some ns => if ns.length < 64 ∧ (sortU ns).length ≤ sizeLine then .ok ((sortU ns).map .int) η else .bad
    | none => .bad)
  | .tup l => (match numsOf l with
    | some ns => if ns.length < 64 ∧ (sortU ns).length ≤ sizeLine then .ok ((sortU ns).map .int) η else .bad
    | none => .bad)
  | _ => .bad := rfl
/-! ### ascending -/
def ascB : List Int → Bool
  | [] => true
  | [_] => true
  | x :: y :: l => decide (x < y) && ascB (y :: l)
theorem ascB_zip : ∀ g : List Int, ((g.zip (g.drop 1)).all fun p => decide (p.1 < p.2)) = ascB g
  | [] => rfl
  | [_] => rfl
  | x :: y :: l => by
    have ih := ascB_zip (y :: l)
    rw [ascB, ← ih]
    rfl
theorem ascB_up : ∀ g : List Int, ascB g = true → g.Pairwise (· < ·)
  | [], _ => .nil
  | [x], _ => List.pairwise_singleton _ _
  | x :: y :: l, h => by
    rw [ascB, Bool.and_eq_true] at h
    have ih := ascB_up (y :: l) h.2
    have hxy : x < y := of_decide_eq_true h.1
    refine List.pairwise_cons.mpr ⟨fun z hz => ?_, ih⟩
    rcases List.mem_cons.mp hz with rfl | hz
    · exact hxy
    · have := (List.pairwise_cons.mp ih).1 z hz
      omega
theorem up_ascB : ∀ g : List Int, g.Pairwise (· < ·) → ascB g = true
  | [], _ => rfl
  | [_], _ => rfl
  | x :: y :: l, h => by
    obtain ⟨h1, h2⟩ := List.pairwise_cons.mp h
    rw [ascB, up_ascB (y :: l) h2, Bool.and_true]
    exact decide_eq_true (h1 y List.mem_cons_self)
theorem asc_sort (g : List Int) : decide (g = sortU g) = ascB g := by
  by_cases h : ascB g = true
  · rw [h, decide_eq_true_eq]
    exact up_unique (ascB_up g h) (sortU_up g) fun k => (sortU_mem k g).symm
  · rw [Bool.not_eq_true] at h
    rw [h, decide_eq_false_iff_not]
    intro e
    have := up_ascB g (by rw [e]; exact sortU_up g)
    rw [h] at this
    cases this
theorem sortU_len : ∀ ns : List Int, (sortU ns).length ≤ ns.length
  | [] => Nat.le_refl _
  | n :: ns => by
    have h := sortU_len ns
    have h2 : ∀ (k : Int) (l : List Int), (insU k l).length ≤ l.length + 1 := fun k l => by
      induction l with
      | nil => simp [insU]
      | cons x l ih => rw [insU]; split <;> (try split) <;> simp <;> omega
    show (insU n (sortU ns)).length ≤ _
    have := h2 n (sortU ns)
    rw [List.length_cons]; omega
/-! ### a policy's parts -/
abbrev PRow := Int × List Int
def pr (r : PRow) : D := .tup [.int r.1, .tup (r.2.map .int)]
def polD (rows : List PRow) (st : List Int) : D := .tup [.lst (rows.map pr), .lst (st.map .int)]
theorem pure_prs (n : Nat) : ∀ rs : List PRow, pureDs (n + 2) (rs.map pr) = true
  | [] => rfl
  | r :: rs => by
    rw [List.map_cons, pureDs, pure_prs n rs, Bool.and_true]
    show pureDs (n + 1) [.int r.1, .tup (r.2.map .int)] = true
    rw [pureDs, pureDs, pureDs]
    show (true && (pureDs n (r.2.map .int) && true)) = true
    rw [pure_ints]; rfl
inductive PErr
  | cnt (s : Str) | state (k : Nat) | start (i : Int)
def stateB (r : PRow) (n : Nat) : Bool := decide (r.1 ∈ [(0:Int), 1]) && (decide (1 ≤ r.2.length) && decide (r.2.length ≤ 6)) && (ascB r.2 && r.2.all fun x => decide (0 ≤ x) && decide (x < n))
def badState (n : Nat) : List PRow → Nat → Option Nat
  | [], _ => none
  | r :: l, k => if stateB r n = true then badState n l (k + 1) else some k
def startB (n : Nat) (p : Option Int) (x : Int) : Bool := (decide (0 ≤ x) && decide (x < n)) && (match p with | none => true | some y => decide (y < x))
def badStart (n : Nat) : Option Int → List Int → Option Int
  | _, [] => none
  | p, x :: l => if startB n p x = true then badStart n (some x) l else some x
def polErr (rows : List PRow) (st : List Int) : Option PErr :=
  if 1 ≤ rows.length ∧ rows.length ≤ 8 then match badState rows.length rows 0 with
    | some k => some (.state k)
    | none => if st = [] then some (.cnt "starts") else match badStart rows.length none st with
      | some i => some (.start i)
      | none => none
  else some (.cnt "states")
section
variable {η : List O}
theorem chain_ii {a b c : Int} : (match leD (.int a) (.int b) with | some (.bl true) => lift (ltD (.int b) (.int c)) η | some (.bl false) => R.ok (.bl false) η | _ => .bad) = .ok (.bl (decide (a ≤ b) && decide (b < c))) η := by
  rw [leD_ii]
  by_cases h : a ≤ b
  · simp [h]
  · simp [h]
theorem ascending_ok {g : List Int} (h : 1 ≤ g.length) : m_is_ascending [.tup (g.map .int)] η = .ok (.bl (ascB g)) η := by
  have hc : ∀ δ : En, 2 < δ.length → compF (.tp [(.nm 1), (.nm 2)]) fYes (fOp ltD (fV 1) (fV 2)) δ (zipD (g.map .int) ((g.drop 1).map .int)) η = .ok (((g.zip (g.drop 1)).map fun p => decide (p.1 < p.2)).map .bl) η := fun δ hδ => by
    have hz : zipD (g.map D.int) ((g.drop 1).map .int) = (g.zip (g.drop 1)).map fun p => .tup [.int p.1, .int p.2] := by
      unfold zipD
      rw [List.zip_map, List.map_map]
      rfl
    rw [hz]
    have := comp_map (t := .tp [(.nm 1), (.nm 2)]) (ft := fYes) (fe := fOp ltD (fV 1) (fV 2)) (δw := δ) (η := η) (g := fun d => match d with | .tup [.int a, .int b] => .bl (decide (a < b)) | _ => .non) (ds := (g.zip (g.drop 1)).map fun p => .tup [.int p.1, .int p.2]) fun x hx => by
      obtain ⟨p, _, rfl⟩ := List.mem_map.mp hx
      have b1 : 1 < δ.length := by omega
      exact ⟨(δ.set 1 (some (.val (.int p.1)))).set 2 (some (.val (.int p.2))), rfl, rfl, by simp [b1, hδ]⟩
    rw [this, List.map_map, List.map_map]
    rfl
  have cd : cutD (g.map D.int) (some 1) none = (g.drop 1).map .int := by
    have := cut_drop (l := g.map D.int) (m := 1) (by rw [List.length_map]; exact h)
    rw [List.map_drop]; exact this
  refine run_rt2 (δ := [some (.val (.tup (g.map .int))), none, none]) rfl ?_
  unfold b_is_ascending
  have c1 := hc (wipeD [some (.val (.tup (g.map .int))), none, none] [1, 2]) (by show 2 < 3; decide)
  have hb := blsOf_map (fun p : Int × Int => decide (p.1 < p.2)) (g.zip (g.drop 1))
  rw [show (g.zip (g.drop 1)).map (fun x => D.bl (decide (x.1 < x.2))) = ((g.zip (g.drop 1)).map fun p => decide (p.1 < p.2)).map .bl by rw [List.map_map]; rfl] at hb
  have ha : allC (.lst (((g.zip (g.drop 1)).map fun p => decide (p.1 < p.2)).map .bl)) = some (.bl (ascB g)) := by
    show (blsOf _).map _ = _
    rw [hb, ← ascB_zip]
    show some (D.bl _) = _
    rw [List.all_map]
    rfl
  generalize (g.drop 1).map D.int = G1 at *
  generalize ((g.zip (g.drop 1)).map fun p => decide (p.1 < p.2)).map D.bl = BB at *
  generalize g.map D.int = G at *
  simp [fiZ, cd, c1, ha]
theorem range_ok (g : List Int) (n : Int) (i j : Nat) (δ : En) (hi : i < δ.length) (fn : F D) (hn : ∀ x, fn (δ.set i (some (.val x))) η = .ok (.int n) η) :
    compF (.nm i) fYes (fCh leD ltD (fC (.int 0)) (fV i) fn) δ (g.map .int) η = .ok ((g.map fun x => decide (0 ≤ x) && decide (x < n)).map .bl) η := by
  have := comp_map (t := .nm i) (ft := fYes) (fe := fCh leD ltD (fC (.int 0)) (fV i) fn) (δw := δ) (η := η) (g := fun d => match d with | .int x => .bl (decide (0 ≤ x) && decide (x < n)) | _ => .non) (ds := g.map .int) fun x hx => by
    obtain ⟨y, _, rfl⟩ := List.mem_map.mp hx
    refine ⟨_, asg_nm, rfl, ?_⟩
    by_cases h : 0 ≤ y
    · simp [hi, hn, h]
    · simp [hi, hn, h]
  rw [this, List.map_map, List.map_map]
  rfl
theorem all_bls (l : List Bool) : allC (.lst (l.map .bl)) = some (.bl (l.all fun b => b)) := by
  have := blsOf_map (fun b : Bool => b) l
  rw [List.map_id'] at this
  show (blsOf _).map _ = _
  rw [this]; rfl
theorem is_state_ok (r : PRow) (n : Nat) : m_is_state [pr r, .int n] η = .ok (.bl (stateB r n)) η := by
  have e01 : notInD (.int r.1) (.tup [.int 0, .int 1]) = some (.bl (!decide (r.1 ∈ [(0:Int), 1]))) := notInD_ti (zs := [0, 1])
  have z2 : (2 : Nat) ≤ sizeLine := by rw [sizeLine_eq]; decide
  refine run_rt2 (δ := [some (.val (pr r)), some (.val (.int n)), none, none, none]) rfl ?_
  unfold b_is_state
  have h1 : (sAsg (fV 0) (.tp [(.nm 2), (.nm 3)])) [some (.val (pr r)), some (.val (.int n)), none, none, none] η = .nx [some (.val (pr r)), some (.val (.int n)), some (.val (.int r.1)), some (.val (.tup (r.2.map .int))), none] η := by simp [pr]
  rw [sSeq_a, h1, seq_nx]
  have hll : ((r.2.map D.int).length : Int) = r.2.length := by rw [List.length_map]
  by_cases c1 : r.1 ∈ [(0:Int), 1]
  · by_cases c2 : 1 ≤ r.2.length
    · have i2 : (1 : Int) ≤ r.2.length := by omega
      by_cases c3 : r.2.length ≤ 6
      · have i3 : (r.2.length : Int) ≤ 6 := by omega
        have ha := ascending_ok (η := η) c2
        have hr := range_ok (η := η) r.2 n 4 0 (wipeD [some (.val (pr r)), some (.val (.int n)), some (.val (.int r.1)), some (.val (.tup (r.2.map .int))), none] [4]) (by show 4 < 5; decide) (fV 1) fun x => rfl
        have hall := all_bls (r.2.map fun x => decide (0 ≤ x) && decide (x < (n : Int)))
        rw [List.all_map] at hall
        have hs : stateB r n = (ascB r.2 && r.2.all fun x => decide (0 ≤ x) && decide (x < (n : Int))) := by
          unfold stateB; rw [decide_eq_true c1, decide_eq_true c2, decide_eq_true c3]; rfl
        rw [hs]
        have hall' : allC (.lst ((r.2.map fun x => decide (0 ≤ x) && decide (x < (n : Int))).map .bl)) = some (.bl (r.2.all fun x => decide (0 ≤ x) && decide (x < (n : Int)))) := hall
        rw [decide_eq_true c1] at e01
        generalize (r.2.map fun x => decide (0 ≤ x) && decide (x < (n : Int))).map D.bl = BB at *
        generalize (r.2.all fun x => decide (0 ≤ x) && decide (x < (n : Int))) = ab at *
        generalize r.2.map D.int = G at *
        cases hasc : ascB r.2 with
        | true => rw [hasc] at ha; simp [e01, z2, hll, i2, i3, ha, hr, hall']
        | false => rw [hasc] at ha; simp [e01, z2, hll, i2, i3, ha]
      · have i3 : ¬ (r.2.length : Int) ≤ 6 := by omega
        have hs : stateB r n = false := by unfold stateB; rw [decide_eq_false c3]; simp
        rw [hs]
        rw [decide_eq_true c1] at e01
        generalize r.2.map D.int = G at *
        simp [e01, z2, hll, i2, i3]
    · have i2 : ¬ (1 : Int) ≤ r.2.length := by omega
      have hs : stateB r n = false := by unfold stateB; rw [decide_eq_false c2]; simp
      rw [hs]
      rw [decide_eq_true c1] at e01
      generalize r.2.map D.int = G at *
      simp [e01, z2, hll, i2]
  · have hs : stateB r n = false := by unfold stateB; rw [decide_eq_false c1]; simp
    rw [hs]
    rw [decide_eq_false c1] at e01
    generalize r.2.map D.int = G at *
    simp [e01, z2]
end
end DL
namespace DL
open PySem L2
abbrev NSP : List Str := ["state_rows", "start_row"]
abbrev encD (p : D × Nat) : D := .tup [.int (p.2 : Nat), p.1]
abbrev bP1 : S := sIf (fNotB (fTru (fCall 2 m_is_state (fCons (fV 4) (fCons (fCall1 lenD (fV 1)) fNil))))) (sRaise1 27 "at" "InvalidState" (fV 3)) SR.nx
abbrev bP2 : S := sIf (fOrB (fNotB (toB (fCh leD ltD (fC (.int 0)) (fV 5) (fCall1 lenD (fV 1))))) (fAndB (toB (fOp gtD (fV 3) (fC (.int 0)))) (toB (fOp leD (fV 5) (fOp ixD (fV 2) (fOp subD (fV 3) (fC (.int 1)))))))) (sRaise1 28 "given" "InvalidStart" (fV 5)) SR.nx
def excP : PErr → Nat × List Str × List D
  | .cnt s => (20, ["what", "code"], [.str s, .str "WrongCount"])
  | .state k => (27, ["at", "code"], [.int k, .str "InvalidState"])
  | .start i => (28, ["given", "code"], [.int i, .str "InvalidStart"])
/-- the place before, as a list's last item -/
inductive Prev : List Int → Option Int → Prop
  | nil : Prev [] none
  | snoc {q : List Int} {p : Int} : Prev (q ++ [p]) (some p)
theorem prev_at {pre : List Int} {p : Option Int} (h : Prev pre p) (suf : List Int) : (pre.length = 0 ∧ p = none) ∨ (∃ y, p = some y ∧ 0 < pre.length ∧ L2.atI ((pre ++ suf).map D.int) ((pre.length : Int) - 1) = some (.int y)) := by
  cases h with
  | nil => exact .inl ⟨rfl, rfl⟩
  | @snoc q y =>
    refine .inr ⟨y, rfl, by simp, ?_⟩
    have hl : (((q ++ [y]).length : Nat) : Int) - 1 = (q.length : Int) := by simp
    rw [hl, atI_of (by omega) (by simp; omega)]
    simp
section
variable {η : List O}
theorem bP1_ok {N : Nat} {x0 x2 y5 y6 y7 : Option L} {R : List D} (hR : R.length = N) (r : PRow) (n : Nat) : bP1 [x0, some (.val (.lst R)), x2, some (.val (.int n)), some (.val (pr r)), y5, y6, y7] η = if stateB r N = true then .nx [x0, some (.val (.lst R)), x2, some (.val (.int n)), some (.val (pr r)), y5, y6, y7] η else .exc 27 ["at", "code"] [.int n, .str "InvalidState"] [x0, some (.val (.lst R)), x2, some (.val (.int n)), some (.val (pr r)), y5, y6, y7] η := by
  have e := is_state_ok (η := η) r N
  subst hR
  cases h : stateB r R.length with
  | true => rw [h] at e; simp [bP1, e]
  | false => rw [h] at e; simp [bP1, e]
theorem ploop1 {N : Nat} {x0 x2 y5 y6 y7 : Option L} {R : List D} (hR : R.length = N) : ∀ (suf : List PRow) (n : Nat) (y3 y4 : Option L),
    (badState N suf n = none → ∃ z3 z4, loopF (.tp [(.nm 3), (.nm 4)]) bP1 (((suf.map pr).zipIdx n).map encD) [x0, some (.val (.lst R)), x2, y3, y4, y5, y6, y7] η = .nx [x0, some (.val (.lst R)), x2, z3, z4, y5, y6, y7] η) ∧
    (∀ k, badState N suf n = some k → ∃ δ', loopF (.tp [(.nm 3), (.nm 4)]) bP1 (((suf.map pr).zipIdx n).map encD) [x0, some (.val (.lst R)), x2, y3, y4, y5, y6, y7] η = .exc 27 ["at", "code"] [.int k, .str "InvalidState"] δ' η) := by
  intro suf
  induction suf with
  | nil => intro n y3 y4; exact ⟨fun _ => ⟨y3, y4, rfl⟩, fun k h => by cases h⟩
  | cons r suf ih =>
    intro n y3 y4
    have step : loopF (.tp [(.nm 3), (.nm 4)]) bP1 ((((r :: suf).map pr).zipIdx n).map encD) [x0, some (.val (.lst R)), x2, y3, y4, y5, y6, y7] η = (bP1 [x0, some (.val (.lst R)), x2, some (.val (.int n)), some (.val (pr r)), y5, y6, y7] η).turn (loopF (.tp [(.nm 3), (.nm 4)]) bP1 (((suf.map pr).zipIdx (n + 1)).map encD)) := by
      rw [List.map_cons, enc_cons, loopF]
      simp only [asg_tp, asgs_cons, asgs_nil, asg_nm, Option.bind_some, List.set_cons_succ, List.set_cons_zero]
    rw [step, bP1_ok hR]
    obtain ⟨h1, h2⟩ := ih (n + 1) (some (.val (.int n))) (some (.val (pr r)))
    rw [badState]
    by_cases h : stateB r N = true
    · rw [if_pos h, if_pos h]
      exact ⟨h1, h2⟩
    · rw [if_neg h, if_neg h]
      exact ⟨fun z => (by cases z), fun k hk => by cases hk; exact ⟨_, rfl⟩⟩
theorem bP2_ok {N : Nat} {x0 y4 y6 y7 : Option L} {R : List D} (hR : R.length = N) {pre suf : List Int} {p : Option Int} (hp : Prev pre p) (x : Int) : bP2 [x0, some (.val (.lst R)), some (.val (.lst ((pre ++ suf).map .int))), some (.val (.int pre.length)), y4, some (.val (.int x)), y6, y7] η = if startB N p x = true then .nx [x0, some (.val (.lst R)), some (.val (.lst ((pre ++ suf).map .int))), some (.val (.int pre.length)), y4, some (.val (.int x)), y6, y7] η else .exc 28 ["given", "code"] [.int x, .str "InvalidStart"] [x0, some (.val (.lst R)), some (.val (.lst ((pre ++ suf).map .int))), some (.val (.int pre.length)), y4, some (.val (.int x)), y6, y7] η := by
  subst hR
  have hpa := prev_at hp suf
  clear hp
  generalize (pre ++ suf).map D.int = S2 at *
  generalize pre.length = m at *
  unfold startB
  by_cases c1 : 0 ≤ x
  · by_cases c2 : x < R.length
    · rcases hpa with ⟨l0, rfl⟩ | ⟨y, rfl, l0, ha⟩
      · subst l0
        simp [bP2, c1, c2]
      · have l1 : (0 : Int) < m := by omega
        by_cases c3 : y < x
        · have c4 : ¬ x ≤ y := by omega
          simp [bP2, c1, c2, l0, l1, ha, c3, c4]
        · have c4 : x ≤ y := by omega
          simp [bP2, c1, c2, l0, l1, ha, c3, c4]
    · simp [bP2, c1, c2]
  · simp [bP2, c1]
theorem ploop2 {N : Nat} {x0 y4 y6 y7 : Option L} {R : List D} (hR : R.length = N) : ∀ (suf pre : List Int) (p : Option Int) (y3 y5 : Option L), Prev pre p →
    (badStart N p suf = none → ∃ z3 z5, loopF (.tp [(.nm 3), (.nm 5)]) bP2 (((suf.map D.int).zipIdx pre.length).map encD) [x0, some (.val (.lst R)), some (.val (.lst ((pre ++ suf).map .int))), y3, y4, y5, y6, y7] η = .nx [x0, some (.val (.lst R)), some (.val (.lst ((pre ++ suf).map .int))), z3, y4, z5, y6, y7] η) ∧
    (∀ i, badStart N p suf = some i → ∃ δ', loopF (.tp [(.nm 3), (.nm 5)]) bP2 (((suf.map D.int).zipIdx pre.length).map encD) [x0, some (.val (.lst R)), some (.val (.lst ((pre ++ suf).map .int))), y3, y4, y5, y6, y7] η = .exc 28 ["given", "code"] [.int i, .str "InvalidStart"] δ' η) := by
  intro suf
  induction suf with
  | nil => intro pre p y3 y5 _; exact ⟨fun _ => ⟨y3, y5, rfl⟩, fun k h => by cases h⟩
  | cons x suf ih =>
    intro pre p y3 y5 hp
    have step : loopF (.tp [(.nm 3), (.nm 5)]) bP2 ((((x :: suf).map D.int).zipIdx pre.length).map encD) [x0, some (.val (.lst R)), some (.val (.lst ((pre ++ x :: suf).map .int))), y3, y4, y5, y6, y7] η = (bP2 [x0, some (.val (.lst R)), some (.val (.lst ((pre ++ x :: suf).map .int))), some (.val (.int pre.length)), y4, some (.val (.int x)), y6, y7] η).turn (loopF (.tp [(.nm 3), (.nm 5)]) bP2 (((suf.map D.int).zipIdx (pre.length + 1)).map encD)) := by
      rw [List.map_cons, enc_cons, loopF]
      simp only [asg_tp, asgs_cons, asgs_nil, asg_nm, Option.bind_some, List.set_cons_succ, List.set_cons_zero]
    rw [step, bP2_ok hR hp]
    have e2 : pre ++ x :: suf = (pre ++ [x]) ++ suf := by simp
    have l2 : pre.length + 1 = (pre ++ [x]).length := by simp
    obtain ⟨h1, h2⟩ := ih (pre ++ [x]) (some x) (some (.val (.int pre.length))) (some (.val (.int x))) .snoc
    rw [← e2, ← l2] at h1 h2
    rw [badStart]
    by_cases h : startB N p x = true
    · rw [if_pos h, if_pos h]
      exact ⟨h1, h2⟩
    · rw [if_neg h, if_neg h]
      exact ⟨fun z => (by cases z), fun k hk => by cases hk; exact ⟨_, rfl⟩⟩
theorem enum_enc (l : List D) : enumD l = (l.zipIdx 0).map encD := rfl
theorem rows_comp (rows : List PRow) (δ : En) (h : 7 < δ.length) : compF (.tp [(.nm 6), (.nm 7)]) fYes (fTup (fCons (fV 6) (fCons (fCall1 tupC (fV 7)) fNil))) δ (rows.map pr) η = .ok (rows.map pr) η := by
  have z2 : (2 : Nat) ≤ sizeLine := by rw [sizeLine_eq]; decide
  have := comp_map (t := .tp [(.nm 6), (.nm 7)]) (ft := fYes) (fe := fTup (fCons (fV 6) (fCons (fCall1 tupC (fV 7)) fNil))) (δw := δ) (η := η) (g := fun d => d) (ds := rows.map pr) fun x hx => by
    obtain ⟨q, _, rfl⟩ := List.mem_map.mp hx
    refine ⟨(δ.set 6 (some (.val (.int q.1)))).set 7 (some (.val (.tup (q.2.map .int)))), rfl, rfl, ?_⟩
    have b6 : 6 < δ.length := by omega
    have tt : tupC (.tup (q.2.map .int)) = some (.tup (q.2.map .int)) := rfl
    generalize hG : q.2.map D.int = G at *
    simp [b6, h, tt, z2, pr, hG]
  rw [this, List.map_id']
/-- Policy.__init__ at any rows and starts -/
theorem policy_init {n : Nat} (hn : η[n]? = some (.ins 2 [] [])) (rows : List PRow) (st : List Int) :
    (polErr rows st = none → m_Policy___init__ [.obj n, .lst (rows.map pr), .lst (st.map .int)] η = .ok .non (η.set n (.ins 2 NSP [.lst (rows.map pr), .lst (st.map .int)]))) ∧
    (∀ e, polErr rows st = some e → m_Policy___init__ [.obj n, .lst (rows.map pr), .lst (st.map .int)] η = .exc (excP e).1 (excP e).2.1 (excP e).2.2 η) := by
  have ltn : n < η.length := (List.getElem?_eq_some_iff.mp hn).1
  have hs : ∀ x, (η.set n x)[n]? = some x := fun x => by rw [List.getElem?_set_self ltn]
  have hll : ((rows.map pr).length : Int) = rows.length := by rw [List.length_map]
  have hls : ((st.map D.int).length : Int) = st.length := by rw [List.length_map]
  unfold polErr
  by_cases c1 : 1 ≤ rows.length
  · by_cases c2 : rows.length ≤ 8
    · rw [if_pos ⟨c1, c2⟩]
      have i1 : (1 : Int) ≤ rows.length := by omega
      have i2 : (rows.length : Int) ≤ 8 := by omega
      obtain ⟨p1, p2⟩ := ploop1 (η := η) (N := rows.length) (x0 := some (.val (.obj n))) (x2 := some (.val (.lst (st.map .int)))) (y5 := none) (y6 := none) (y7 := none) (R := rows.map pr) (by rw [List.length_map]) rows 0 none none
      cases hb : badState rows.length rows 0 with
      | some k =>
        obtain ⟨δ', e⟩ := p2 k hb
        refine ⟨fun z => (by cases z), fun e2 h2 => ?_⟩
        cases h2
        refine run_ex2 (δ := [some (.val (.obj n)), some (.val (.lst (rows.map pr))), some (.val (.lst (st.map .int))), none, none, none, none, none]) rfl (δ' := δ') ?_
        unfold b_Policy___init__
        generalize hRR : rows.map pr = R at *
        generalize st.map D.int = S2 at *
        simp [-List.length_map, hll, i1, i2, enum_enc]
        rw [e]
        rfl
      | none =>
        obtain ⟨z3, z4, e⟩ := p1 hb
        dsimp only
        by_cases c3 : st = []
        · rw [if_pos c3]
          refine ⟨fun z => (by cases z), fun e2 h2 => ?_⟩
          cases h2
          subst c3
          refine run_ex2 (δ := [some (.val (.obj n)), some (.val (.lst (rows.map pr))), some (.val (.lst [])), none, none, none, none, none]) rfl (δ' := [some (.val (.obj n)), some (.val (.lst (rows.map pr))), some (.val (.lst [])), z3, z4, none, none, none]) ?_
          unfold b_Policy___init__
          have e' : loopF (.tp [(.nm 3), (.nm 4)]) bP1 (((rows.map pr).zipIdx 0).map encD) [some (.val (.obj n)), some (.val (.lst (rows.map pr))), some (.val (.lst [])), none, none, none, none, none] η = .nx [some (.val (.obj n)), some (.val (.lst (rows.map pr))), some (.val (.lst [])), z3, z4, none, none, none] η := e
          generalize hRR : rows.map pr = R at *
          simp [-List.length_map, hll, i1, i2, enum_enc]
          rw [e']
          simp [excP]
        · rw [if_neg c3]
          have c4 : ¬ (st.length : Int) = 0 := fun z => c3 (List.length_eq_zero_iff.mp (by omega))
          obtain ⟨q1, q2⟩ := ploop2 (η := η) (N := rows.length) (x0 := some (.val (.obj n))) (y4 := z4) (y6 := none) (y7 := none) (R := rows.map pr) (by rw [List.length_map]) st [] none z3 none .nil
          rw [List.nil_append] at q1 q2
          cases hb2 : badStart rows.length none st with
          | some i =>
            obtain ⟨δ', e2⟩ := q2 i hb2
            refine ⟨fun z => (by cases z), fun e3 h3 => ?_⟩
            cases h3
            refine run_ex2 (δ := [some (.val (.obj n)), some (.val (.lst (rows.map pr))), some (.val (.lst (st.map .int))), none, none, none, none, none]) rfl (δ' := δ') ?_
            unfold b_Policy___init__
            have e2' : loopF (.tp [(.nm 3), (.nm 5)]) bP2 (((st.map D.int).zipIdx 0).map encD) [some (.val (.obj n)), some (.val (.lst (rows.map pr))), some (.val (.lst (st.map .int))), z3, z4, none, none, none] η = .exc 28 ["given", "code"] [.int i, .str "InvalidStart"] δ' η := e2
            generalize hRR : rows.map pr = R at *
            generalize st.map D.int = S2 at *
            simp [-List.length_map, hll, hls, i1, i2, enum_enc]
            rw [e]
            simp [-List.length_map, hls, c3, enum_enc]
            rw [e2']
            rfl
          | none =>
            obtain ⟨w3, w5, e2⟩ := q1 hb2
            refine ⟨fun _ => ?_, fun e3 h3 => by cases h3⟩
            refine run_nx2 (δ := [some (.val (.obj n)), some (.val (.lst (rows.map pr))), some (.val (.lst (st.map .int))), none, none, none, none, none]) rfl (δ' := [some (.val (.obj n)), some (.val (.lst (rows.map pr))), some (.val (.lst (st.map .int))), w3, z4, w5, none, none]) ?_
            unfold b_Policy___init__
            have e2' : loopF (.tp [(.nm 3), (.nm 5)]) bP2 (((st.map D.int).zipIdx 0).map encD) [some (.val (.obj n)), some (.val (.lst (rows.map pr))), some (.val (.lst (st.map .int))), z3, z4, none, none, none] η = .nx [some (.val (.obj n)), some (.val (.lst (rows.map pr))), some (.val (.lst (st.map .int))), w3, z4, w5, none, none] η := e2
            have cc := rows_comp (η := η) rows (wipeD [some (.val (.obj n)), some (.val (.lst (rows.map pr))), some (.val (.lst (st.map .int))), w3, z4, w5, none, none] [6, 7]) (by show 7 < 8; decide)
            generalize hRR : rows.map pr = R at *
            generalize st.map D.int = S2 at *
            simp [-List.length_map, hll, hls, i1, i2, enum_enc]
            rw [e]
            simp [-List.length_map, hls, c3, enum_enc]
            rw [e2']
            simp [cc, hn, hs]
    · rw [if_neg (fun z => c2 z.2)]
      have i1 : (1 : Int) ≤ rows.length := by omega
      have i2 : ¬ (rows.length : Int) ≤ 8 := by omega
      refine ⟨fun z => (by cases z), fun e2 h2 => ?_⟩
      cases h2
      refine run_ex2 (δ := [some (.val (.obj n)), some (.val (.lst (rows.map pr))), some (.val (.lst (st.map .int))), none, none, none, none, none]) rfl (δ' := [some (.val (.obj n)), some (.val (.lst (rows.map pr))), some (.val (.lst (st.map .int))), none, none, none, none, none]) ?_
      unfold b_Policy___init__
      generalize hRR : rows.map pr = R at *
      generalize st.map D.int = S2 at *
      simp [-List.length_map, hll, i1, i2, excP]
  · rw [if_neg (fun z => c1 z.1)]
    have i1 : ¬ (1 : Int) ≤ rows.length := by omega
    refine ⟨fun z => (by cases z), fun e2 h2 => ?_⟩
    cases h2
    refine run_ex2 (δ := [some (.val (.obj n)), some (.val (.lst (rows.map pr))), some (.val (.lst (st.map .int))), none, none, none, none, none]) rfl (δ' := [some (.val (.obj n)), some (.val (.lst (rows.map pr))), some (.val (.lst (st.map .int))), none, none, none, none, none]) ?_
    unfold b_Policy___init__
    generalize hRR : rows.map pr = R at *
    generalize st.map D.int = S2 at *
    simp [-List.length_map, hll, i1, excP]
/-- the law's own making -/
theorem law_ruled_ok (rows : List PRow) (st : List Int) :
    (polErr rows st = none → m_law_ruled [polD rows st] η = .ok (.obj η.length) (η ++ [.ins 2 NSP [.lst (rows.map pr), .lst (st.map .int)]])) ∧
    (∀ e, polErr rows st = some e → m_law_ruled [polD rows st] η = .exc (excP e).1 (excP e).2.1 (excP e).2.2 (η ++ [.ins 2 [] []])) := by
  obtain ⟨h1, h2⟩ := policy_init (η := η ++ [.ins 2 [] []]) (n := η.length) get_last rows st
  have i0 : ixD (polD rows st) (.int 0) = some (.lst (rows.map pr)) := rfl
  have i1 : ixD (polD rows st) (.int 1) = some (.lst (st.map .int)) := rfl
  refine ⟨fun h => ?_, fun e h => ?_⟩
  · have h1 := h1 h
    rw [set_last] at h1
    refine run_rt2 (δ := [some (.val (polD rows st))]) rfl ?_
    unfold b_law_ruled
    generalize rows.map pr = R at *
    generalize st.map D.int = S2 at *
    simp [i0, i1, h1]
  · have h2 := h2 e h
    refine run_ex2 (δ := [some (.val (polD rows st))]) rfl (δ' := [some (.val (polD rows st))]) ?_
    unfold b_law_ruled
    generalize rows.map pr = R at *
    generalize st.map D.int = S2 at *
    simp [i0, i1, h2]
theorem states_ok {n : Nat} {l : List D} {x : D} (hn : η[n]? = some (.ins 2 NSP [.lst l, x])) : m_Policy_states [.obj n] η = .ok (.lst l) η := by
  refine run_rt2 (δ := [some (.val (.obj n))]) rfl ?_
  unfold b_Policy_states
  simp [hn]
theorem starts_ok {n : Nat} {l : List D} {x : D} (hn : η[n]? = some (.ins 2 NSP [x, .lst l])) : m_Policy_starts [.obj n] η = .ok (.lst l) η := by
  refine run_rt2 (δ := [some (.val (.obj n))]) rfl ?_
  unfold b_Policy_starts
  simp [hn]
theorem plen_ok {n : Nat} {l : List D} {x : D} (hn : η[n]? = some (.ins 2 NSP [.lst l, x])) : m_Policy___len__ [.obj n] η = .ok (.int l.length) η := by
  refine run_rt2 (δ := [some (.val (.obj n))]) rfl ?_
  unfold b_Policy___len__
  simp [hn]
end
end DL
namespace DL
open PySem L2
theorem eqvD_of (a b : Int) : eqD (.int a) (.int b) = some (.bl (decide (a = b))) := eqD_ii
theorem sort2_ok {a b n : Int} (a0 : 0 ≤ a) (a1 : a < n) (b0 : 0 ≤ b) (b1 : b < n) : 1 ≤ (sortU [a, b]).length ∧ (sortU [a, b]).length ≤ 2 ∧ ∀ x ∈ sortU [a, b], 0 ≤ x ∧ x < n := by
  have hl := sortU_len [a, b]
  refine ⟨?_, hl, fun x hx => ?_⟩
  · have := (sortU_mem a [a, b]).mpr List.mem_cons_self
    exact List.length_pos_of_mem this
  · have := (sortU_mem x [a, b]).mp hx
    simp only [List.mem_cons, List.not_mem_nil, or_false] at this
    rcases this with rfl | rfl
    · exact ⟨a0, a1⟩
    · exact ⟨b0, b1⟩
theorem stateB_of {s : Int} {g : List Int} {n : Nat} (hs : s = 0 ∨ s = 1) (h1 : 1 ≤ g.length) (h2 : g.length ≤ 6) (h3 : ascB g = true) (h4 : ∀ x ∈ g, 0 ≤ x ∧ x < n) : stateB (s, g) n = true := by
  unfold stateB
  have a1 : s ∈ [(0:Int), 1] := by rcases hs with rfl | rfl <;> simp
  have a2 : g.all (fun x => decide (0 ≤ x) && decide (x < (n : Int))) = true := List.all_eq_true.mpr fun x hx => by
    obtain ⟨p, q⟩ := h4 x hx
    rw [decide_eq_true p, decide_eq_true q]; rfl
  rw [decide_eq_true a1, decide_eq_true h1, decide_eq_true h2, h3, a2]; rfl
def StOk (n : Nat) (st : List Int) : Prop := st ≠ [] ∧ badStart n none st = none
theorem badStart_asc {n : Nat} : ∀ (l : List Nat) (p : Option Int), l.Pairwise (· < ·) → (∀ x ∈ l, x < n) → (∀ y, p = some y → ∀ x ∈ l, y < (x : Int)) → badStart n p (l.map fun k : Nat => 0 + (k : Int)) = none
  | [], _, _, _, _ => rfl
  | x :: l, p, hp, hn, hy => by
    rw [List.pairwise_cons] at hp
    rw [List.map_cons, badStart, if_pos]
    · refine badStart_asc l _ hp.2 (fun z hz => hn z (List.mem_cons_of_mem _ hz)) fun y e z hz => ?_
      cases e
      have := hp.1 z hz
      omega
    · have h1 := hn x (List.mem_cons_self ..)
      unfold startB
      rw [Bool.and_eq_true, Bool.and_eq_true]
      refine ⟨⟨by simp, by simp; omega⟩, ?_⟩
      cases p with
      | none => rfl
      | some y =>
        have := hy y rfl x (List.mem_cons_self ..)
        simp; omega
theorem law_policy_ok3 {fp r : List O} {o : O} (hf : Feed o) {most : Nat} (h1 : 1 ≤ most) (h8 : most ≤ 8) :
    ∃ (rows : List PRow) (st : List Int) (o' : O), m_law_policy [.obj fp.length, .int most] (fp ++ o :: r) = .ok (polD rows st) (fp ++ o' :: r) ∧ Feed o' ∧ 1 ≤ rows.length ∧ rows.length ≤ most ∧ st.length ≤ most ∧ (∀ q ∈ rows, stateB q rows.length = true ∧ q.2.length ≤ 2) ∧ StOk rows.length st := by
  have z0 : (0 : Nat) ≤ sizeLine := Nat.zero_le _
  have z1 : (1 : Nat) ≤ sizeLine := by rw [sizeLine_eq]; decide
  have z2 : (2 : Nat) ≤ sizeLine := by rw [sizeLine_eq]; decide
  have z3 : (3 : Nat) ≤ sizeLine := by rw [sizeLine_eq]; decide
  obtain ⟨k, o1, e1, f1, k0, k1⟩ := pick0 (fp := fp) (r := r) hf most (by omega) (by omega)
  obtain ⟨n, hn⟩ : ∃ n : Nat, 1 + k = n := ⟨(1 + k).toNat, by omega⟩
  have hn1 : 1 ≤ n := by omega
  have hn2 : n ≤ most := by omega
  have hr2 : (n : Int) ≤ 16777216 ∧ -16777216 ≤ (n : Int) := by omega
  generalize hbb : (sSeq (sSet 5 (fFrz (fSortSet (fFrz (fLstN (fCons (fCall 2 m_law_pick (fCons (fV 0) (fCons (fV 2) fNil))) (fCons (fCall 2 m_law_pick (fCons (fV 0) (fCons (fV 2) fNil))) fNil)))))))
    (sMut 3 muApp (fCons (fTup (fCons (fCall 2 m_law_of (fCons (fV 0) (fCons (fFrz (fLstN (fCons (fC (.int 1)) (fCons (fC (.int 1)) (fCons (fC (.int 0)) fNil))))) fNil))) (fCons (fCall1 tupC (fV 5)) fNil))) fNil)) : S) = bb
  obtain ⟨δ', η', el, o2, rows, y4, y5, rfl, f2, rfl, q1, q2⟩ := loop_inv (t := .nm 4) (b := bb) (P := fun ds δ η => ∃ (o : O) (rows : List PRow) (y4 y5 : Option L), η = fp ++ o :: r ∧ Feed o ∧ δ = [some (.val (.obj fp.length)), some (.val (.int most)), some (.val (.int n)), some (.own (rows.map pr)), y4, y5, none] ∧ rows.length + ds.length = n ∧ ∀ q ∈ rows, stateB q n = true ∧ q.2.length ≤ 2) (ds := rngD 0 n)
    (δ := [some (.val (.obj fp.length)), some (.val (.int most)), some (.val (.int n)), some (.own []), none, none, none]) (η := fp ++ o1 :: r) ⟨o1, [], _, _, rfl, f1, rfl, by simp [rngD], by simp⟩ fun x ds δ η ⟨o, rows, y4, y5, q0, f, q1, q2, q3⟩ => by
    subst q0 q1
    rw [List.length_cons] at q2
    obtain ⟨a, o3, e3, f3, a0, a1⟩ := pick0 (fp := fp) (r := r) f n (by omega) (by omega)
    obtain ⟨b, o4, e4, f4, b0, b1⟩ := pick0 (fp := fp) (r := r) f3 n (by omega) (by omega)
    obtain ⟨d, o5, e5, f5, hd⟩ := of0 (fp := fp) (r := r) f4 [.int 1, .int 1, .int 0] (by simp) (by simp)
    obtain ⟨s, rfl, hs⟩ : ∃ s : Int, d = .int s ∧ (s = 0 ∨ s = 1) := by
      simp only [List.mem_cons, List.not_mem_nil, or_false] at hd
      rcases hd with rfl | rfl | rfl
      · exact ⟨1, rfl, .inr rfl⟩
      · exact ⟨1, rfl, .inr rfl⟩
      · exact ⟨0, rfl, .inl rfl⟩
    obtain ⟨s1, s2, s3⟩ := sort2_ok a0 a1 b0 b1
    have hns : numsOf [.int a, .int b] = some [a, b] := rfl
    have hcond : [a, b].length < 64 ∧ (sortU [a, b]).length ≤ sizeLine := ⟨by simp, by omega⟩
    have hal : (rows.map pr).length < sizeLine := len_sz (by rw [List.length_map]; omega)
    have hst : stateB (s, sortU [a, b]) n = true := stateB_of hs s1 (by omega) (up_ascB _ (sortU_up _)) s3
    refine ⟨_, asg_nm, [some (.val (.obj fp.length)), some (.val (.int most)), some (.val (.int n)), some (.own ((rows ++ [(s, sortU [a, b])]).map pr)), some (.val x), some (.val (.lst ((sortU [a, b]).map .int))), none], fp ++ o5 :: r, .inl ?_, o5, rows ++ [(s, sortU [a, b])], _, _, rfl, f5, rfl, by rw [List.length_append, List.length_singleton]; omega, fun w hw => ?_⟩
    · rw [List.map_append, ← hbb]
      have hpr : [(s, sortU [a, b])].map pr = [.tup [.int s, .tup ((sortU [a, b]).map .int)]] := rfl
      rw [hpr]
      generalize rows.map pr = RR at hal ⊢
      rw [sSeq_a, sSet_a]
      have hso : (fFrz (fSortSet (fFrz (fLstN (fCons (fCall 2 m_law_pick (fCons (fV 0) (fCons (fV 2) fNil))) (fCons (fCall 2 m_law_pick (fCons (fV 0) (fCons (fV 2) fNil))) fNil)))))) [some (.val (.obj fp.length)), some (.val (.int most)), some (.val (.int n)), some (.own RR), some (.val x), y5, none] (fp ++ o :: r) = .ok (.lst ((sortU [a, b]).map .int)) (fp ++ o4 :: r) := by
        have hl : (fFrz (fLstN (fCons (fCall 2 m_law_pick (fCons (fV 0) (fCons (fV 2) fNil))) (fCons (fCall 2 m_law_pick (fCons (fV 0) (fCons (fV 2) fNil))) fNil)))) [some (.val (.obj fp.length)), some (.val (.int most)), some (.val (.int n)), some (.own RR), some (.val x), y5, none] (fp ++ o :: r) = .ok (.lst [.int a, .int b]) (fp ++ o4 :: r) := by simp [e3, e4, z2]
        rw [fFrz_a, fSortSet_t, hl, bind_ok]
        dsimp only
        rw [hns]
        dsimp only
        rw [if_pos hcond]
        rfl
      simp only [List.set_cons_succ, List.set_cons_zero]
      rw [hso]
      generalize (sortU [a, b]).map D.int = SS
      simp [e5, z2, z3, hal]
    · rcases List.mem_append.mp hw with hw | hw
      · exact q3 w hw
      · rw [List.mem_singleton] at hw; subst hw; exact ⟨hst, s2⟩
  rw [List.length_nil, Nat.add_zero] at q1
  -- the starts
  have hcs := fun (δ : En) (hδ0 : δ[0]? = some (some (.val (.obj fp.length)))) (hδ : 4 < δ.length) => comp_sub (t := .nm 4) (ft := toB (fOp eqD (fCall 2 m_law_pick (fCons (fV 0) (fCons (fC (.int 2)) fNil))) (fC (.int 0)))) (fe := fV 4) (δw := δ) (fun k : Nat => D.int (0 + (k : Int))) (fun k : Nat => D.int (0 + (k : Int))) (fun η => ∃ o, η = fp ++ o :: r ∧ Feed o) (fun x η ⟨o, h, f⟩ => by
    subst h
    obtain ⟨p, o2, e2, f2, p0, p1⟩ := pick0 (fp := fp) (r := r) f 2 (by decide) (by decide)
    have g0 : (δ.set 4 (some (.val (.int (0 + (x : Int))))))[0]? = some (some (.val (.obj fp.length))) := by rw [List.getElem?_set_ne (by decide)]; exact hδ0
    exact ⟨_, asg_nm, decide (p = 0), fp ++ o2 :: r, by simp [hδ0, e2], ⟨o2, rfl, f2⟩, by simp [hδ]⟩) (zs := List.range n) (η := fp ++ o2 :: r) ⟨o2, rfl, f2⟩
  obtain ⟨ys, _, ec, ⟨o3, rfl, f3⟩, hsub⟩ := hcs (wipeD [some (.val (.obj fp.length)), some (.val (.int most)), some (.val (.int n)), some (.val (.lst (rows.map pr))), y4, y5, none] [4]) rfl (by show 4 < 7; decide)
  obtain ⟨sts, hsts⟩ : ∃ sts : List Int, sts = ys.map fun k : Nat => 0 + (k : Int) := ⟨_, rfl⟩
  have hsl : sts.length ≤ n := by
    rw [hsts, List.length_map]
    have := hsub.length_le
    rwa [List.length_range] at this
  have hD : ys.map (fun k : Nat => D.int (0 + (k : Int))) = sts.map .int := by rw [hsts, List.map_map]; rfl
  rw [hD] at ec
  have ec : compF (.nm 4) (toB (fOp eqD (fCall 2 m_law_pick (fCons (fV 0) (fCons (fC (.int 2)) fNil))) (fC (.int 0)))) (fV 4) (wipeD [some (.val (.obj fp.length)), some (.val (.int most)), some (.val (.int n)), some (.val (.lst (rows.map pr))), y4, y5, none] [4]) (rngD 0 n) (fp ++ o2 :: r) = .ok (sts.map .int) (fp ++ o3 :: r) := ec
  obtain ⟨p, o4, e4, f4, p0, p1⟩ := pick0 (fp := fp) (r := r) f3 n (by omega) (by omega)
  have hne := neD_nilG (pure_ints 19 sts)
  have hx : ∃ (st : List Int) (o5 : O), (st.length ≤ most ∧ StOk n st) ∧ Feed o5 ∧ (fIf (toB (fOp neD (fV 6) (fFrz (fLstN fNil)))) (fV 6) (fFrz (fLstN (fCons (fCall 2 m_law_pick (fCons (fV 0) (fCons (fV 2) fNil))) fNil)))) [some (.val (.obj fp.length)), some (.val (.int most)), some (.val (.int n)), some (.val (.lst (rows.map pr))), y4, y5, some (.val (.lst (sts.map .int)))] (fp ++ o3 :: r) = .ok (.lst (st.map .int)) (fp ++ o5 :: r) := by
    cases hs : sts with
    | nil =>
      refine ⟨[p], o4, ⟨by simp; omega, by simp, by simp [badStart, startB]; omega⟩, f4, ?_⟩
      have hne : neD (.lst []) (.lst []) = some (.bl false) := neD_self rfl
      simp [z0, z1, hne, e4]
    | cons a l =>
      rw [hs] at hne
      refine ⟨a :: l, o3, ⟨by rw [← hs]; omega, by simp, by rw [← hs, hsts]; exact badStart_asc ys none (List.Pairwise.sublist hsub List.pairwise_lt_range) (fun x hx => List.mem_range.mp (hsub.subset hx)) fun _ h => by cases h⟩, f3, ?_⟩
      have hi : ((a :: l).map D.int).isEmpty = false := rfl
      rw [hi] at hne
      generalize (a :: l).map D.int = AL at hne ⊢
      simp [z0, hne]
  obtain ⟨st, o5, hst, f5, ex⟩ := hx
  refine ⟨rows, st, o5, run_rt2 (δ := [some (.val (.obj fp.length)), some (.val (.int most)), none, none, none, none, none]) rfl ?_, f5, by omega, by omega, hst.1, by rw [q1]; exact q2, by rw [q1]; exact hst.2⟩
  unfold b_law_policy
  rw [hbb]
  unfold polD
  generalize rows.map pr = RR at *
  generalize sts.map D.int = ST at *
  generalize st.map D.int = S2 at *
  simp [e1, hn, z0, hr2]
  rw [el]
  simp [-fIf_a, hr2, ec, ex, z2]
theorem law_policy_ok {fp r : List O} {o : O} (hf : Feed o) {most : Nat} (h1 : 1 ≤ most) (h8 : most ≤ 8) :
    ∃ (rows : List PRow) (st : List Int) (o' : O), m_law_policy [.obj fp.length, .int most] (fp ++ o :: r) = .ok (polD rows st) (fp ++ o' :: r) ∧ Feed o' ∧ 1 ≤ rows.length ∧ rows.length ≤ most ∧ st.length ≤ most ∧ (∀ q ∈ rows, stateB q rows.length = true ∧ q.2.length ≤ 2) := by
  obtain ⟨rows, st, o', e, f, a, b, c, d, _⟩ := law_policy_ok3 (fp := fp) (r := r) hf h1 h8
  exact ⟨rows, st, o', e, f, a, b, c, d⟩
end DL
namespace DL
open PySem L2
/-! ### Book.__init__ at any sorts, rows and memory -/
def sortB (earlier : List Str) (k : Str × Int) : Bool := nameB k.1 && (!decide (k.1 ∈ earlier)) && (decide (0 ≤ k.2) && decide (k.2 ≤ 99))
def badSort : List Str → List (Str × Int) → Nat → Option Nat
  | _, [], _ => none
  | e, k :: l, n => if sortB e k = true then badSort (e ++ [k.1]) l (n + 1) else some n
def wordB (names earlier : List Str) (r : Row) : Bool := (nameB r.n && (!decide (r.n ∈ earlier)) && (decide (0 ≤ r.p) && decide (r.p ≤ 99))) && ((!decide (r.st = [])) && (r.st.all fun s => decide (s ∈ names)) && decide (cnt r.st r.st.length = r.st.length))
def badWord (names : List Str) : List Str → List Row → Nat → Option Nat
  | _, [], _ => none
  | e, r :: l, n => if wordB names e r = true then badWord names (e ++ [r.n]) l (n + 1) else some n
inductive MemAny : D → Prop
  | non : MemAny .non
  | int {m : Int} : MemAny (.int m)
def memB : D → Bool
  | .int m => decide (1 ≤ m) && decide (m ≤ 4)
  | _ => true
inductive BErr
  | cnt (s : Str) | sort (k : Nat) | word (k : Nat) | mem (m : D)
def bookErr (ks : List (Str × Int)) (rs : List Row) (m : D) : Option BErr :=
  if 1 ≤ ks.length ∧ ks.length ≤ 4 then match badSort [] ks 0 with
    | some k => some (.sort k)
    | none => if rs.length ≤ 4 then match badWord (ks.map (·.1)) [] rs 0 with
        | some k => some (.word k)
        | none => if memB m = true then none else some (.mem m)
      else some (.cnt "words")
  else some (.cnt "sorts")
def excB : BErr → Nat × List Str × List D
  | .cnt s => (20, ["what", "code"], [.str s, .str "WrongCount"])
  | .sort k => (21, ["at", "code"], [.int k, .str "InvalidSort"])
  | .word k => (22, ["at", "code"], [.int k, .str "InvalidWord"])
  | .mem m => (23, ["given", "code"], [m, .str "InvalidMemory"])
abbrev bS1 : S := sSeq (sIf (fOrB (fNotB (fTru (fCall 1 m_is_name (fCons (fV 6) fNil)))) (fOrB (toB (fOp inD (fV 6) (fVo 4))) (fNotB (toB (fCh leD leD (fC (.int 0)) (fV 7) (fC (.int 99))))))) (sRaise1 21 "at" "InvalidSort" (fV 5)) SR.nx)
    (sMut 4 muApp (fCons (fV 6) fNil))
abbrev bS2 : S := sSeq (sIf (fNotB (fTru (fCall 3 m_is_word_row (fCons (fV 9) (fCons (fV 4) (fCons (fV 8) fNil)))))) (sRaise1 22 "at" "InvalidWord" (fV 5)) SR.nx)
    (sMutO muApp (fV 8) (fCons (fOp ixD (fV 9) (fC (.int 0))) fNil))
section
variable {η : List O}
theorem bS1_ok {a0 a1 a2 a3 x8 x9 x10 x11 : Option L} {pre : List Str} {k : Str × Int} {n : Nat} (hz : k.1.length ≤ 1000) (hp : pre.length ≤ 1000) : ∃ δ', bS1 [a0, a1, a2, a3, some (.own (pre.map .str)), some (.val (.int n)), some (.val (.str k.1)), some (.val (.int k.2)), x8, x9, x10, x11] η = if sortB pre k = true then .nx [a0, a1, a2, a3, some (.own ((pre ++ [k.1]).map .str)), some (.val (.int n)), some (.val (.str k.1)), some (.val (.int k.2)), x8, x9, x10, x11] η else .exc 21 ["at", "code"] [.int n, .str "InvalidSort"] δ' η := by
  refine ⟨[a0, a1, a2, a3, some (.own (pre.map .str)), some (.val (.int n)), some (.val (.str k.1)), some (.val (.int k.2)), x8, x9, x10, x11], ?_⟩
  have hnm := name_ok (z := k.1) (η := η) (Nat.le_of_lt (len_sz hz))
  have hin : inD (.str k.1) (.lst (pre.map .str)) = some (.bl (decide (k.1 ∈ pre))) := inD_ls
  have hal : (pre.map D.str).length < sizeLine := by rw [List.length_map]; exact len_sz hp
  have hadd : (pre ++ [k.1]).map D.str = pre.map .str ++ [.str k.1] := by simp
  rw [hadd]
  unfold sortB
  generalize pre.map D.str = acc at *
  cases h1 : nameB k.1 with
  | false => rw [h1] at hnm; simp [bS1, hnm]
  | true =>
    rw [h1] at hnm
    by_cases h2 : k.1 ∈ pre
    · rw [decide_eq_true h2] at hin ⊢
      simp [-inD_ls, bS1, hnm, hin]
    · rw [decide_eq_false h2] at hin ⊢
      by_cases h3 : 0 ≤ k.2
      · by_cases h4 : k.2 ≤ 99
        · simp [-inD_ls, bS1, hnm, hin, h3, h4, hal]
        · simp [-inD_ls, bS1, hnm, hin, h3, h4]
      · simp [-inD_ls, bS1, hnm, hin, h3]
theorem bloop1 {a0 a1 a2 a3 x8 x9 x10 x11 : Option L} : ∀ (suf pre : List (Str × Int)) (y5 y6 y7 : Option L), (∀ k ∈ suf, k.1.length ≤ 1000) → (pre ++ suf).length ≤ 1000 →
    (badSort (pre.map (·.1)) suf pre.length = none → ∃ z5 z6 z7, loopF (.tp [(.nm 5), (.tp [(.nm 6), (.nm 7)])]) bS1 (((suf.map kd2).zipIdx pre.length).map encD) [a0, a1, a2, a3, some (.own ((pre.map (·.1)).map .str)), y5, y6, y7, x8, x9, x10, x11] η = .nx [a0, a1, a2, a3, some (.own (((pre ++ suf).map (·.1)).map .str)), z5, z6, z7, x8, x9, x10, x11] η) ∧
    (∀ k, badSort (pre.map (·.1)) suf pre.length = some k → ∃ δ', loopF (.tp [(.nm 5), (.tp [(.nm 6), (.nm 7)])]) bS1 (((suf.map kd2).zipIdx pre.length).map encD) [a0, a1, a2, a3, some (.own ((pre.map (·.1)).map .str)), y5, y6, y7, x8, x9, x10, x11] η = .exc 21 ["at", "code"] [.int k, .str "InvalidSort"] δ' η) := by
  intro suf
  induction suf with
  | nil => intro pre y5 y6 y7 _ _; exact ⟨fun _ => ⟨y5, y6, y7, by rw [List.append_nil]; rfl⟩, fun k h => (by cases h)⟩
  | cons k suf ih =>
    intro pre y5 y6 y7 hz hl
    have step : loopF (.tp [(.nm 5), (.tp [(.nm 6), (.nm 7)])]) bS1 ((((k :: suf).map kd2).zipIdx pre.length).map encD) [a0, a1, a2, a3, some (.own ((pre.map (·.1)).map .str)), y5, y6, y7, x8, x9, x10, x11] η = (bS1 [a0, a1, a2, a3, some (.own ((pre.map (·.1)).map .str)), some (.val (.int pre.length)), some (.val (.str k.1)), some (.val (.int k.2)), x8, x9, x10, x11] η).turn (loopF (.tp [(.nm 5), (.tp [(.nm 6), (.nm 7)])]) bS1 (((suf.map kd2).zipIdx (pre.length + 1)).map encD)) := by
      rw [List.map_cons, enc_cons, loopF]
      unfold kd2
      simp only [asg_tp, asgs_cons, asgs_nil, asg_nm, Option.bind_some, List.set_cons_succ, List.set_cons_zero]
    obtain ⟨δ', eb⟩ := bS1_ok (η := η) (a0 := a0) (a1 := a1) (a2 := a2) (a3 := a3) (x8 := x8) (x9 := x9) (x10 := x10) (x11 := x11) (pre := pre.map (·.1)) (k := k) (n := pre.length) (hz k List.mem_cons_self) (by rw [List.length_map]; rw [List.length_append] at hl; omega)
    rw [step, eb]
    have e2 : pre ++ k :: suf = (pre ++ [k]) ++ suf := by simp
    have l2 : pre.length + 1 = (pre ++ [k]).length := by simp
    have m2 : (pre ++ [k]).map (·.1) = pre.map (·.1) ++ [k.1] := by simp
    obtain ⟨h1, h2⟩ := ih (pre ++ [k]) (some (.val (.int pre.length))) (some (.val (.str k.1))) (some (.val (.int k.2))) (fun w hw => hz w (List.mem_cons_of_mem _ hw)) (by rw [← e2]; exact hl)
    rw [← e2, ← l2, m2] at h1
    rw [← l2, m2] at h2
    rw [badSort]
    by_cases h : sortB (pre.map (·.1)) k = true
    · rw [if_pos h, if_pos h]
      exact ⟨h1, h2⟩
    · rw [if_neg h, if_neg h]
      exact ⟨fun z => (by cases z), fun k hk => by cases hk; exact ⟨_, rfl⟩⟩
/-- a row of a book, right or not -/
theorem word_row_any {e : Nat} {names earlier : List Str} {r : Row} (he : η[e]? = some (.lst (earlier.map .str))) (hz : r.n.length ≤ 1000) (hl : r.st.length ≤ 1000) : m_is_word_row [r.d, .lst (names.map .str), .obj e] η = .ok (.bl (wordB names earlier r)) η := by
  refine run_rt2 (δ := [some (.val r.d), some (.val (.lst (names.map .str))), some (.val (.obj e)), none, none, none, none]) rfl ?_
  have hnm := name_ok (z := r.n) (η := η) (Nat.le_of_lt (len_sz hz))
  have hin : inD (.str r.n) (.lst (earlier.map .str)) = some (.bl (decide (r.n ∈ earlier))) := inD_ls
  have hc : ∀ (δ : En), δ[1]? = some (some (.val (.lst (names.map .str)))) → 6 < δ.length → compF (.nm 6) fYes (fOp inD (fV 6) (fV 1)) δ (r.st.map .str) η = .ok ((r.st.map fun s => decide (s ∈ names)).map .bl) η := fun δ q1 q6 => by
    have := comp_map (t := .nm 6) (ft := fYes) (fe := fOp inD (fV 6) (fV 1)) (δw := δ) (η := η) (g := fun d => match d with | .str s => .bl (decide (s ∈ names)) | _ => .non) (ds := r.st.map .str) fun x hx => by
      obtain ⟨s, hs, rfl⟩ := List.mem_map.mp hx
      exact ⟨_, asg_nm, rfl, by simp [q1, q6]⟩
    rw [this, List.map_map, List.map_map]
    rfl
  have c1 := hc (wipeD [some (.val r.d), some (.val (.lst (names.map .str))), some (.val (.obj e)), some (.val (.str r.n)), some (.val (.tup (r.st.map .str))), some (.val (.int r.p)), none] [6]) rfl (by show 6 < 7; decide)
  have hall := all_bls (r.st.map fun s => decide (s ∈ names))
  rw [List.all_map] at hall
  have hall' : allC (.lst ((r.st.map fun s => decide (s ∈ names)).map .bl)) = some (.bl (r.st.all fun s => decide (s ∈ names))) := hall
  have hst := strsOf_map r.st
  have hll : ((r.st.map D.str).length : Int) = r.st.length := by rw [List.length_map]
  have hd : asg (.tp [(.nm 3), (.nm 4), (.nm 5)]) r.d [some (.val r.d), some (.val (.lst (names.map .str))), some (.val (.obj e)), none, none, none, none] = some [some (.val r.d), some (.val (.lst (names.map .str))), some (.val (.obj e)), some (.val (.str r.n)), some (.val (.tup (r.st.map .str))), some (.val (.int r.p)), none] := by simp [Row.d]
  unfold b_is_word_row wordB
  generalize (r.st.map fun s => decide (s ∈ names)).map D.bl = BB at *
  generalize hab : (r.st.all fun s => decide (s ∈ names)) = ab at *
  generalize r.d = RD at *
  generalize names.map D.str = NN at *
  generalize earlier.map D.str = EE at *
  cases h1 : nameB r.n with
  | false => rw [h1] at hnm; simp [-asg_tp, hd, hnm]
  | true =>
    rw [h1] at hnm
    by_cases h2 : r.n ∈ earlier
    · rw [decide_eq_true h2] at hin ⊢
      simp [-asg_tp, hd, hnm, he, hin]
    · rw [decide_eq_false h2] at hin ⊢
      by_cases h3 : 0 ≤ r.p
      · by_cases h4 : r.p ≤ 99
        · by_cases h5 : r.st = []
          · have : (r.st.length : Int) = 0 := by rw [h5]; rfl
            simp [-asg_tp, -List.length_map, hd, hnm, he, hin, h3, h4, hll, h5]
          · have h6 : ¬ (r.st.length : Int) = 0 := fun z => h5 (List.length_eq_zero_iff.mp (by omega))
            generalize hG : r.st.map D.str = G at *
            cases ab with
            | false => simp [-asg_tp, -List.length_map, hd, hnm, he, hin, h3, h4, hll, h5, c1, hall']
            | true =>
              simp [-asg_tp, -List.length_map, hd, hnm, he, hin, h3, h4, hll, h5, c1, hall', hst, hl]
              exact ⟨fun h => by omega, fun h => by omega⟩
        · simp [-asg_tp, hd, hnm, he, hin, h3, h4]
      · simp [-asg_tp, hd, hnm, he, hin, h3]
theorem bS2_ok {a0 a1 a2 a3 x6 x7 x10 x11 : Option L} {names pre : List Str} {r : Row} {n : Nat} (hz : r.n.length ≤ 1000) (hl : r.st.length ≤ 1000) (hp : pre.length ≤ 1000) : ∃ δ', bS2 [a0, a1, a2, a3, some (.val (.lst (names.map .str))), some (.val (.int n)), x6, x7, some (.val (.obj η.length)), some (.val r.d), x10, x11] (η ++ [.lst (pre.map .str)]) = if wordB names pre r = true then .nx [a0, a1, a2, a3, some (.val (.lst (names.map .str))), some (.val (.int n)), x6, x7, some (.val (.obj η.length)), some (.val r.d), x10, x11] (η ++ [.lst ((pre ++ [r.n]).map .str)]) else .exc 22 ["at", "code"] [.int n, .str "InvalidWord"] δ' (η ++ [.lst (pre.map .str)]) := by
  refine ⟨[a0, a1, a2, a3, some (.val (.lst (names.map .str))), some (.val (.int n)), x6, x7, some (.val (.obj η.length)), some (.val r.d), x10, x11], ?_⟩
  have hw := word_row_any (η := η ++ [.lst (pre.map .str)]) (e := η.length) (names := names) (earlier := pre) (r := r) get_last hz hl
  have hal : (pre.map D.str).length < sizeLine := by rw [List.length_map]; exact len_sz hp
  have hadd : (pre ++ [r.n]).map D.str = pre.map .str ++ [.str r.n] := by simp
  have hix : ixD r.d (.int 0) = some (.str r.n) := rfl
  rw [hadd]
  generalize wordB names pre r = wb at *
  generalize r.d = RD at *
  generalize pre.map D.str = acc at *
  generalize names.map D.str = NN at *
  cases wb with
  | false => simp [bS2, hw]
  | true => simp [bS2, hw, hix, hal]
theorem bloop2 {a0 a1 a2 a3 x6 x7 x10 x11 : Option L} {names : List Str} : ∀ (suf pre : List Row) (y5 y9 : Option L), (∀ r ∈ suf, r.n.length ≤ 1000 ∧ r.st.length ≤ 1000) → (pre ++ suf).length ≤ 1000 →
    (badWord names (pre.map (·.n)) suf pre.length = none → ∃ z5 z9, loopF (.tp [(.nm 5), (.nm 9)]) bS2 (((suf.map Row.d).zipIdx pre.length).map encD) [a0, a1, a2, a3, some (.val (.lst (names.map .str))), y5, x6, x7, some (.val (.obj η.length)), y9, x10, x11] (η ++ [.lst ((pre.map (·.n)).map .str)]) = .nx [a0, a1, a2, a3, some (.val (.lst (names.map .str))), z5, x6, x7, some (.val (.obj η.length)), z9, x10, x11] (η ++ [.lst (((pre ++ suf).map (·.n)).map .str)])) ∧
    (∀ k, badWord names (pre.map (·.n)) suf pre.length = some k → ∃ δ' x, loopF (.tp [(.nm 5), (.nm 9)]) bS2 (((suf.map Row.d).zipIdx pre.length).map encD) [a0, a1, a2, a3, some (.val (.lst (names.map .str))), y5, x6, x7, some (.val (.obj η.length)), y9, x10, x11] (η ++ [.lst ((pre.map (·.n)).map .str)]) = .exc 22 ["at", "code"] [.int k, .str "InvalidWord"] δ' (η ++ [x])) := by
  intro suf
  induction suf with
  | nil => intro pre y5 y9 _ _; exact ⟨fun _ => ⟨y5, y9, by rw [List.append_nil]; rfl⟩, fun k h => (by cases h)⟩
  | cons r suf ih =>
    intro pre y5 y9 hz hl
    have step : loopF (.tp [(.nm 5), (.nm 9)]) bS2 ((((r :: suf).map Row.d).zipIdx pre.length).map encD) [a0, a1, a2, a3, some (.val (.lst (names.map .str))), y5, x6, x7, some (.val (.obj η.length)), y9, x10, x11] (η ++ [.lst ((pre.map (·.n)).map .str)]) = (bS2 [a0, a1, a2, a3, some (.val (.lst (names.map .str))), some (.val (.int pre.length)), x6, x7, some (.val (.obj η.length)), some (.val r.d), x10, x11] (η ++ [.lst ((pre.map (·.n)).map .str)])).turn (loopF (.tp [(.nm 5), (.nm 9)]) bS2 (((suf.map Row.d).zipIdx (pre.length + 1)).map encD)) := by
      rw [List.map_cons, enc_cons, loopF]
      simp only [asg_tp, asgs_cons, asgs_nil, asg_nm, Option.bind_some, List.set_cons_succ, List.set_cons_zero]
    obtain ⟨hz1, hz2⟩ := hz r List.mem_cons_self
    obtain ⟨δ', eb⟩ := bS2_ok (η := η) (a0 := a0) (a1 := a1) (a2 := a2) (a3 := a3) (x6 := x6) (x7 := x7) (x10 := x10) (x11 := x11) (names := names) (pre := pre.map (·.n)) (r := r) (n := pre.length) hz1 hz2 (by rw [List.length_map]; rw [List.length_append] at hl; omega)
    rw [step, eb]
    have e2 : pre ++ r :: suf = (pre ++ [r]) ++ suf := by simp
    have l2 : pre.length + 1 = (pre ++ [r]).length := by simp
    have m2 : (pre ++ [r]).map (·.n) = pre.map (·.n) ++ [r.n] := by simp
    obtain ⟨h1, h2⟩ := ih (pre ++ [r]) (some (.val (.int pre.length))) (some (.val r.d)) (fun w hw => hz w (List.mem_cons_of_mem _ hw)) (by rw [← e2]; exact hl)
    rw [← e2, ← l2, m2] at h1
    rw [← l2, m2] at h2
    rw [badWord]
    by_cases h : wordB names (pre.map (·.n)) r = true
    · rw [if_pos h, if_pos h]
      exact ⟨h1, h2⟩
    · rw [if_neg h, if_neg h]
      exact ⟨fun z => (by cases z), fun k hk => by cases hk; exact ⟨_, _, rfl⟩⟩
end
end DL
namespace DL
open PySem L2
/-! ### what a book that is let has -/
theorem cnt_full {xs : List Str} : ∀ {i : Nat}, i ≤ xs.length → cnt xs i = i → (xs.take i).Nodup
  | 0, _, _ => by simp
  | i + 1, hi, h => by
    have hlt : i < xs.length := hi
    rw [cnt] at h
    have hle := cnt_le xs i
    have hn : (xs.take i).any (· == xs.getD i Str.empty) = false := by
      cases hb : (xs.take i).any (· == xs.getD i Str.empty) with
      | false => rfl
      | true => rw [hb] at h; simp at h; omega
    rw [hn] at h
    have h' : cnt xs i = i := by simpa using h
    have ih := cnt_full (Nat.le_of_lt hlt) h'
    have e : xs.take (i + 1) = xs.take i ++ [xs[i]] := by
      rw [List.take_add_one, List.getElem?_eq_getElem hlt]; rfl
    rw [e, List.nodup_append]
    refine ⟨ih, by simp, fun a ha b hb => ?_⟩
    rw [List.mem_singleton] at hb
    subst hb
    intro e2
    have : (xs.take i).any (· == xs.getD i Str.empty) = true := by
      rw [List.any_eq_true]
      refine ⟨a, ha, ?_⟩
      rw [List.getD_eq_getElem?_getD, List.getElem?_eq_getElem hlt, Option.getD_some, e2]
      exact beq_self_eq_true _
    rw [hn] at this
    cases this
theorem nameB_len {z : Str} (h : nameB z = true) : z.length ≤ 8 := by
  unfold nameB at h
  rw [Bool.and_eq_true, Bool.and_eq_true] at h
  exact of_decide_eq_true h.1.2
theorem badSort_none : ∀ (l : List (Str × Int)) (e : List Str) (n : Nat), badSort e l n = none → (∀ k ∈ l, nameB k.1 = true ∧ 0 ≤ k.2 ∧ k.2 ≤ 99 ∧ k.1 ∉ e) ∧ (l.map (·.1)).Nodup
  | [], _, _, _ => ⟨fun k hk => (by cases hk), .nil⟩
  | k :: l, e, n, h => by
    rw [badSort] at h
    by_cases hs : sortB e k = true
    · rw [if_pos hs] at h
      obtain ⟨h1, h2⟩ := badSort_none l _ _ h
      unfold sortB at hs
      simp only [Bool.and_eq_true, decide_eq_true_eq, Bool.not_eq_true', decide_eq_false_iff_not] at hs
      refine ⟨fun q hq => ?_, ?_⟩
      · rcases List.mem_cons.mp hq with rfl | hq
        · exact ⟨hs.1.1, hs.2.1, hs.2.2, hs.1.2⟩
        · obtain ⟨a, b, c, d⟩ := h1 q hq
          exact ⟨a, b, c, fun z => d (List.mem_append_left _ z)⟩
      · rw [List.map_cons, List.nodup_cons]
        refine ⟨fun z => ?_, h2⟩
        obtain ⟨q, hq, e2⟩ := List.mem_map.mp z
        exact (h1 q hq).2.2.2 (by rw [e2]; simp)
    · rw [if_neg hs] at h; cases h
theorem badWord_none {names : List Str} : ∀ (l : List Row) (e : List Str) (n : Nat), badWord names e l n = none → (∀ r ∈ l, nameB r.n = true ∧ 0 ≤ r.p ∧ r.p ≤ 99 ∧ r.n ∉ e ∧ r.st ≠ [] ∧ (∀ s ∈ r.st, s ∈ names) ∧ r.st.Nodup) ∧ (l.map (·.n)).Nodup
  | [], _, _, _ => ⟨fun k hk => (by cases hk), .nil⟩
  | k :: l, e, n, h => by
    rw [badWord] at h
    by_cases hs : wordB names e k = true
    · rw [if_pos hs] at h
      obtain ⟨h1, h2⟩ := badWord_none l _ _ h
      unfold wordB at hs
      simp only [Bool.and_eq_true, decide_eq_true_eq, Bool.not_eq_true', decide_eq_false_iff_not, List.all_eq_true] at hs
      refine ⟨fun q hq => ?_, ?_⟩
      · rcases List.mem_cons.mp hq with rfl | hq
        · have hd := cnt_full (Nat.le_refl _) hs.2.2
          rw [List.take_length] at hd
          exact ⟨hs.1.1.1, hs.1.2.1, hs.1.2.2, hs.1.1.2, hs.2.1.1, hs.2.1.2, hd⟩
        · obtain ⟨a, b, c, d, f⟩ := h1 q hq
          exact ⟨a, b, c, fun z => d (List.mem_append_left _ z), f⟩
      · rw [List.map_cons, List.nodup_cons]
        refine ⟨fun z => ?_, h2⟩
        obtain ⟨q, hq, e2⟩ := List.mem_map.mp z
        exact (h1 q hq).2.2.2.1 (by rw [e2]; simp)
    · rw [if_neg hs] at h; cases h
section
variable {η : List O}
theorem book_init_any {n : Nat} (hn : η[n]? = some (.ins 0 [] [])) (ks : List (Str × Int)) (rs : List Row) {m : D} (hm : MemAny m) (zk : ∀ k ∈ ks, k.1.length ≤ 1000) (zr : ∀ r ∈ rs, r.n.length ≤ 1000 ∧ r.st.length ≤ 100) :
    (bookErr ks rs m = none → m_Book___init__ [.obj n, .lst (ks.map kd2), .lst (rs.map Row.d), m] η = .ok .non (η.set n (.ins 0 NSB (bookD ks rs m)) ++ [.lst ((rs.map (·.n)).map .str)])) ∧
    (∀ e, bookErr ks rs m = some e → ∃ t, m_Book___init__ [.obj n, .lst (ks.map kd2), .lst (rs.map Row.d), m] η = .exc (excB e).1 (excB e).2.1 (excB e).2.2 (η ++ t)) := by
  have hll : ((ks.map kd2).length : Int) = ks.length := by rw [List.length_map]
  have hlr : ((rs.map Row.d).length : Int) = rs.length := by rw [List.length_map]
  have z0 : (0 : Nat) ≤ sizeLine := Nat.zero_le _
  refine ⟨fun h => ?_, fun e h => ?_⟩
  · unfold bookErr at h
    split at h
    · rename_i hk
      cases hb : badSort [] ks 0 with
      | some k => rw [hb] at h; cases h
      | none =>
        rw [hb] at h
        dsimp only at h
        split at h
        · rename_i hrl
          cases hw : badWord (ks.map (·.1)) [] rs 0 with
          | some k => rw [hw] at h; cases h
          | none =>
            rw [hw] at h
            dsimp only at h
            split at h
            · rename_i hmm
              obtain ⟨s1, s2⟩ := badSort_none ks [] 0 hb
              obtain ⟨w1, w2⟩ := badWord_none rs [] 0 hw
              have hM : MemOk m := by
                cases hm with
                | non => exact .non
                | int =>
                  unfold memB at hmm
                  rw [Bool.and_eq_true] at hmm
                  exact .int (of_decide_eq_true hmm.1) (of_decide_eq_true hmm.2)
              exact book_init_ok hn ⟨hk.1, hk.2, s2, fun k hk => ⟨(s1 k hk).1, nameB_len (s1 k hk).1, (s1 k hk).2.1, (s1 k hk).2.2.1⟩⟩ ⟨hrl, w2, fun r hr => by
                obtain ⟨a, b, c, d, f, g, i⟩ := w1 r hr
                exact ⟨⟨a, nameB_len a⟩, d, b, c, f, g, i, (zr r hr).2⟩⟩ hM
            · cases h
        · cases h
    · cases h
  · unfold bookErr at h
    split at h
    · rename_i hk
      have i1 : (1 : Int) ≤ ks.length := by omega
      have i2 : (ks.length : Int) ≤ 4 := by omega
      obtain ⟨p1, p2⟩ := bloop1 (η := η) (a0 := some (.val (.obj n))) (a1 := some (.val (.lst (ks.map kd2)))) (a2 := some (.val (.lst (rs.map Row.d)))) (a3 := some (.val m)) (x8 := none) (x9 := none) (x10 := none) (x11 := none) ks [] none none none zk (by rw [List.nil_append]; omega)
      cases hb : badSort [] ks 0 with
      | some k =>
        rw [hb] at h
        cases h
        obtain ⟨δ', e⟩ := p2 k hb
        refine ⟨[], ?_⟩
        rw [List.append_nil]
        refine run_ex2 (δ := [some (.val (.obj n)), some (.val (.lst (ks.map kd2))), some (.val (.lst (rs.map Row.d))), some (.val m), none, none, none, none, none, none, none, none]) rfl (δ' := δ') ?_
        unfold b_Book___init__
        have e' : loopF (.tp [(.nm 5), (.tp [(.nm 6), (.nm 7)])]) bS1 (((ks.map kd2).zipIdx 0).map encD) [some (.val (.obj n)), some (.val (.lst (ks.map kd2))), some (.val (.lst (rs.map Row.d))), some (.val m), some (.own []), none, none, none, none, none, none, none] η = .exc 21 ["at", "code"] [.int k, .str "InvalidSort"] δ' η := e
        generalize ks.map kd2 = K at *
        generalize rs.map Row.d = R at *
        simp [-List.length_map, hll, i1, i2, z0, enum_enc]
        rw [e']
        rfl
      | none =>
        rw [hb] at h
        dsimp only at h
        obtain ⟨z5, z6, z7, e1⟩ := p1 hb
        have e1' : loopF (.tp [(.nm 5), (.tp [(.nm 6), (.nm 7)])]) bS1 (((ks.map kd2).zipIdx 0).map encD) [some (.val (.obj n)), some (.val (.lst (ks.map kd2))), some (.val (.lst (rs.map Row.d))), some (.val m), some (.own []), none, none, none, none, none, none, none] η = .nx [some (.val (.obj n)), some (.val (.lst (ks.map kd2))), some (.val (.lst (rs.map Row.d))), some (.val m), some (.own ((ks.map (·.1)).map .str)), z5, z6, z7, none, none, none, none] η := e1
        split at h
        · rename_i hrl
          have i3 : ¬ (4 : Int) < rs.length := by omega
          obtain ⟨q1, q2⟩ := bloop2 (η := η) (a0 := some (.val (.obj n))) (a1 := some (.val (.lst (ks.map kd2)))) (a2 := some (.val (.lst (rs.map Row.d)))) (a3 := some (.val m)) (x6 := z6) (x7 := z7) (x10 := none) (x11 := none) (names := ks.map (·.1)) rs [] z5 none (fun r hr => ⟨(zr r hr).1, by have := (zr r hr).2; omega⟩) (by rw [List.nil_append]; omega)
          cases hw : badWord (ks.map (·.1)) [] rs 0 with
          | some k =>
            rw [hw] at h
            cases h
            obtain ⟨δ', x, e2⟩ := q2 k hw
            have e2' : loopF (.tp [(.nm 5), (.nm 9)]) bS2 (((rs.map Row.d).zipIdx 0).map encD) [some (.val (.obj n)), some (.val (.lst (ks.map kd2))), some (.val (.lst (rs.map Row.d))), some (.val m), some (.val (.lst ((ks.map (·.1)).map .str))), z5, z6, z7, some (.val (.obj η.length)), none, none, none] (η ++ [.lst []]) = .exc 22 ["at", "code"] [.int k, .str "InvalidWord"] δ' (η ++ [x]) := e2
            refine ⟨[x], ?_⟩
            refine run_ex2 (δ := [some (.val (.obj n)), some (.val (.lst (ks.map kd2))), some (.val (.lst (rs.map Row.d))), some (.val m), none, none, none, none, none, none, none, none]) rfl (δ' := δ') ?_
            unfold b_Book___init__
            generalize ks.map kd2 = K at *
            generalize rs.map Row.d = R at *
            generalize (ks.map (·.1)).map D.str = NN at *
            simp [-List.length_map, hll, i1, i2, z0, enum_enc]
            rw [e1']
            simp [-List.length_map, hlr, i3, z0, enum_enc]
            rw [e2']
            rfl
          | none =>
            rw [hw] at h
            dsimp only at h
            split at h
            · cases h
            · rename_i hmm
              cases h
              obtain ⟨y5, y9, e2⟩ := q1 hw
              have e2' : loopF (.tp [(.nm 5), (.nm 9)]) bS2 (((rs.map Row.d).zipIdx 0).map encD) [some (.val (.obj n)), some (.val (.lst (ks.map kd2))), some (.val (.lst (rs.map Row.d))), some (.val m), some (.val (.lst ((ks.map (·.1)).map .str))), z5, z6, z7, some (.val (.obj η.length)), none, none, none] (η ++ [.lst []]) = .nx [some (.val (.obj n)), some (.val (.lst (ks.map kd2))), some (.val (.lst (rs.map Row.d))), some (.val m), some (.val (.lst ((ks.map (·.1)).map .str))), y5, z6, z7, some (.val (.obj η.length)), y9, none, none] (η ++ [.lst ((rs.map (·.n)).map .str)]) := e2
              refine ⟨[.lst ((rs.map (·.n)).map .str)], ?_⟩
              cases hm with
              | non => exact absurd rfl hmm
              | @int v =>
                have hv : ¬ (1 ≤ v ∧ v ≤ 4) := fun z => hmm (by show (decide (1 ≤ v) && decide (v ≤ 4)) = true; rw [decide_eq_true z.1, decide_eq_true z.2]; rfl)
                refine run_ex2 (δ := [some (.val (.obj n)), some (.val (.lst (ks.map kd2))), some (.val (.lst (rs.map Row.d))), some (.val (.int v)), none, none, none, none, none, none, none, none]) rfl (δ' := [some (.val (.obj n)), some (.val (.lst (ks.map kd2))), some (.val (.lst (rs.map Row.d))), some (.val (.int v)), some (.val (.lst ((ks.map (·.1)).map .str))), y5, z6, z7, some (.val (.obj η.length)), y9, none, none]) ?_
                unfold b_Book___init__
                generalize ks.map kd2 = K at *
                generalize rs.map Row.d = R at *
                generalize (ks.map (·.1)).map D.str = NN at *
                generalize (rs.map (·.n)).map D.str = WN at *
                simp [-List.length_map, hll, i1, i2, z0, enum_enc]
                rw [e1']
                simp [-List.length_map, hlr, i3, z0, enum_enc]
                rw [e2']
                by_cases c1 : 1 ≤ v
                · have c2 : ¬ v ≤ 4 := fun z => hv ⟨c1, z⟩
                  simp [c1, c2, excB]
                · simp [c1, excB]
        · rename_i hrl
          cases h
          have i3 : (4 : Int) < rs.length := by omega
          refine ⟨[], ?_⟩
          rw [List.append_nil]
          refine run_ex2 (δ := [some (.val (.obj n)), some (.val (.lst (ks.map kd2))), some (.val (.lst (rs.map Row.d))), some (.val m), none, none, none, none, none, none, none, none]) rfl (δ' := [some (.val (.obj n)), some (.val (.lst (ks.map kd2))), some (.val (.lst (rs.map Row.d))), some (.val m), some (.val (.lst ((ks.map (·.1)).map .str))), z5, z6, z7, none, none, none, none]) ?_
          unfold b_Book___init__
          generalize ks.map kd2 = K at *
          generalize rs.map Row.d = R at *
          generalize (ks.map (·.1)).map D.str = NN at *
          simp [-List.length_map, hll, i1, i2, z0, enum_enc]
          rw [e1']
          simp [-List.length_map, hlr, i3, excB]
    · rename_i hk
      cases h
      refine ⟨[], ?_⟩
      rw [List.append_nil]
      refine run_ex2 (δ := [some (.val (.obj n)), some (.val (.lst (ks.map kd2))), some (.val (.lst (rs.map Row.d))), some (.val m), none, none, none, none, none, none, none, none]) rfl (δ' := [some (.val (.obj n)), some (.val (.lst (ks.map kd2))), some (.val (.lst (rs.map Row.d))), some (.val m), none, none, none, none, none, none, none, none]) ?_
      unfold b_Book___init__
      generalize ks.map kd2 = K at *
      generalize rs.map Row.d = R at *
      by_cases c1 : 1 ≤ ks.length
      · have i1 : (1 : Int) ≤ ks.length := by omega
        have i2 : ¬ (ks.length : Int) ≤ 4 := by have : ¬ ks.length ≤ 4 := fun z => hk ⟨c1, z⟩; omega
        simp [-List.length_map, hll, i1, i2, excB]
      · have i1 : ¬ (1 : Int) ≤ ks.length := by omega
        simp [-List.length_map, hll, i1, excB]
end
end DL
namespace DLW
open PySem PySem.W PyProof.Rows
section
variable {prog : Program} {w : World} {A : Around} {E : Value → Shared → Prop} {s : Shared} {K : PySem.W.Frag} {x C L f : Addr} {h₀ : Heap} {m : Str → Option Value} {ox : Obj} {od : Option Obj} {b : Value}
theorem slot_obj_ne : PySem.Slot "object" "__ne__" "object.__ne__" := .of (owner := "object") (n := "__ne__") (by rw [typeLookup_type, builtinLookup_eq_fast]; kernel_rfl) (by decide +kernel) (by decide +kernel) (by decide +kernel) (.inl (by decide +kernel)) (by kernel_rfl)
theorem objNe_K {Q : Fin → Shared → Prop} (hu : A.units < cLine) (F : Fr h₀ L s.heap m) (X₀ : K.In h₀) (I : InstAt s.heap x ox C od) (hs : findIn K (.ref C) "__eq__" = some (some (.ref f))) (hf : isFn K (.ref f) = true)
    (h : wpAny (model prog w) A (call (.ref f) [.ref x, b]) (fun v s' => ∃ c, v = .bool c ∧ Q (.done (.ret (.bool (!c)))) s') E s) :
    wpAny (model prog w) A (Builtin.«object.__ne__» ⟨[.ref x, b], []⟩) Q E s := by
  have X := X₀.keeps F.keep
  unfold Builtin.«object.__ne__»
  repeat (first
    | with_reducible refine wpAny_cRoomFor hu ?_
    | (refine wpAny_bind (m := callSpecialIfBound? (.ref x) (Str.ofString "__eq__") [b])
        (ifBound_K X I hs hf (wpAny_mono h (fun r s' hr => by
          obtain ⟨b, rfl, hq⟩ := hr
          repeat (first | exact hq | exact wpAny_pure hq | exact wpAny_truthy_bool hq | (refine wpAny_bind (m := truthy (.bool _)) (wpAny_truthy_bool ?_)) | wp_step)) fun _ _ e => e)))
    | wp_step)
theorem ifBound_B {id : String} {name : Str} {args : List Value} {Q : Option Value → Shared → Prop} (X : K.In s.heap) (I : InstAt s.heap x ox C od) (hs : findIn K (.ref C) name = some (some (.builtin id))) (hb : ∀ self, bindSpecial (.builtin id) self = pure (.builtin id, [self]))
    (h : wpAny (model prog w) A (call (.builtin id) (.ref x :: args)) (fun v => Q (some v)) E s) : wpAny (model prog w) A (callSpecialIfBound? (.ref x) name args) Q E s := by
  simp only [callSpecialIfBound?, bindSpecialIfBound?]
  refine wpAny_holding (wpAny_bind (wpAny_bind (wpAny_bind (I.type.here ((looks_findIn X hs).here ?_)))))
  refine wpAny_bind (wpAny_askSetting (wpAny_ite ?_))
  have fin : wpAny (model prog w) A (call (.builtin id) ([.ref x] ++ args) >>= fun v => pure (some v)) Q E s := wpAny_bind (wpAny_mono h (fun v s' h' => wpAny_pure h') fun _ _ h' => h')
  simp only [hb]
  split
  · exact wpAny_bind (wpAny_pure (wpAny_pure (by exact fin)))
  · exact wpAny_tryCatch (wpAny_bind (wpAny_pure (wpAny_pure (by exact fin))))
theorem ne_K {Q : Value → Shared → Prop} (hu : A.units + 1 < cLine) (F : Fr h₀ L s.heap m) (X₀ : K.In h₀) (I : InstAt s.heap x ox C od) (hb : Looks (model prog w) s.heap (typeOf b) (.ref C)) (hp : plainOver K C = true)
    (hn : findIn K (.ref C) "__ne__" = some (some (.builtin "object.__ne__"))) (hs : findIn K (.ref C) "__eq__" = some (some (.ref f))) (hf : isFn K (.ref f) = true)
    (h : wpAny (model prog w) A.in1 (call (.ref f) [.ref x, b]) (fun v s' => ∃ c, v = .bool c ∧ Q (.bool (!c)) s') E s) : wpAny (model prog w) A (richCompare .NotEq (.ref x) b) Q E s := by
  have X := X₀.keeps F.keep
  obtain ⟨cd, hc, ho⟩ := any_some hp
  have ne : cd.mro.isEmpty = false := by cases q : cd.mro with | nil => rw [q] at ho; cases ho | cons _ _ => rfl
  have sub : Looks (model prog w) s.heap (isInstance (.ref x) (.type "object")) true := I.type.andThen (looks_mroIn X (by unfold mroIn; rw [hc, Option.bind_some, if_neg (by rw [ne]; decide), only_has ho]))
  have one : wpAny (model prog w) A (tryCompare (.ref x) "__ne__" b) (fun r s' => ∃ v, r = some v ∧ Q v s') E s := by
    simp only [tryCompare]
    refine wpAny_bind (ifBound_B X I hn slot_obj_ne.bind (wpAny_call (codeAny_call_builtin slot_obj_ne.plain PySem.F.cmpEntry_ne (check_slot PySem.F.cmpKind_ne PySem.F.cmpSplit_ne sub (PySem.F.cmpArgs_ne _ _) (objNe_K (A := A.in1) hu F X₀ I hs hf (wpAny_mono h (fun v s' hv => ?_) fun _ _ e => e))))))
    obtain ⟨c, rfl, hq⟩ := hv
    first | exact ⟨c, rfl, wpAny_pure ⟨_, rfl, hq⟩⟩ | exact ⟨c, rfl, wpAny_pure (wpAny_pure ⟨_, rfl, hq⟩)⟩ | exact ⟨c, rfl, ⟨_, rfl, hq⟩⟩
  unfold richCompare
  simp only [oneThing_ref]
  refine wpAny_holding (wpAny_bind (wpAny_cRoomFor (Nat.lt_of_succ_lt hu) ?_))
  rw [PySem.cmpInfo_NotEq]
  dsimp only
  refine wpAny_bind (I.type.here (wpAny_bind (hb.here ?_)))
  rw [show (Value.ref C != Value.ref C) = false from by simp]
  simp only [Bool.false_eq_true, if_false]
  refine wpAny_bind (wpAny_pure ?_)
  simp only [Bool.false_eq_true, if_false]
  refine wpAny_bind (wpAny_mono one (fun r s' z => ?_) fun _ _ e => e)
  obtain ⟨v, rfl, hq⟩ := z
  exact wpAny_pure hq
end
end DLW
namespace DLW
open PySem PySem.W PyProof.Rows
section
variable {prog : Program} {w : World} {A : Around} {E : Value → Shared → Prop} {s : Shared} {K : PySem.W.Frag} {x C L f : Addr} {h₀ : Heap} {m : Str → Option Value} {ox : Obj} {od : Option Obj} {b : Value}
theorem binop_KB {op : Operator} {tb : Value} {Q : Value → Shared → Prop} (F : Fr h₀ L s.heap m) (X₀ : K.In h₀) (I : InstAt s.heap x ox C od) (hb : Looks (model prog w) s.heap (typeOf b) tb) (hne : (Value.ref C == tb) = false) (hc : selfFirst K C = true)
    (hs : findIn K (.ref C) (PySem.dunder op.info.2) = some (some (.ref f))) (hf : isFn K (.ref f) = true) (hr : fillsNumberSlot tb op.info.2 = pure false)
    (h : wpAny (model prog w) A (call (.ref f) [.ref x, b]) (PySem.W.CmpBack Q) E s) : wpAny (model prog w) A (binaryOp op (.ref x) b) Q E s := by
  have X := X₀.keeps F.keep
  obtain ⟨cd, hcd, hm⟩ := any_some hc
  obtain ⟨rest, hm⟩ : ∃ rest, cd.mro = .ref C :: rest := by
    cases q : cd.mro with
    | nil => rw [q] at hm; cases hm
    | cons a r => rw [q] at hm; exact ⟨r, by rw [List.head?_cons] at hm; cases (beq_iff_eq.mp hm); rfl⟩
  unfold binaryOp
  refine wpAny_holding (wpAny_bind ?_)
  unfold binaryOp1
  refine wpAny_bind (I.type.here (wpAny_bind (hb.here (wpAny_bind ((fills_K X hcd hm hs).here ?_)))))
  rw [hne]
  simp only [Bool.false_eq_true, if_false]
  refine wpAny_bind (m := fillsNumberSlot tb _) ?_
  show wpAny (model prog w) A (fillsNumberSlot tb op.info.2) _ _ _
  rw [hr]
  refine wpAny_pure ?_
  simp only [Bool.and_false, Bool.false_eq_true, if_false, Bool.false_and]
  refine wpAny_bind (wpAny_pure ?_)
  simp only [Bool.false_eq_true, if_false]
  refine wpAny_bind (m := tryMethod (.ref x) _ b) ?_
  unfold tryMethod
  refine wpAny_bind (special_fn X I hs (beq_iff_eq.mp hf) (wpAny_mono h (fun v s' hv => ?_) fun _ _ e => e))
  cases v <;> first | exact hv.elim | exact wpAny_pure (wpAny_pure (wpAny_pure hv))
theorem fill_str_sub : fillsNumberSlot (.type "str") "sub" = pure false := by with_unfolding_all rfl
end
end DLW
namespace DL
open PySem L2
section
variable {X : Cx} {C : Ct} {W : WX} {pos p2 p : Pos} {e a b : Expr} {es : List Expr} {fe fa fb fo : F D} {fs fn fk : F (List D)} {E : XK}
variable {P : Program} {k n : Nat} {g A : Addr} {fd : FuncData} {ps ks : List Str} {df : DF} {x : Str}
/-! ### o != q, both of one class of the text's own that has __eq__ alone -/
def rNeM (C : Ct) (Cc : Addr) (n : Nat) (df : DF) : R2 := fun x y H Q => ∃ p dx fs q dy gs, x = .ref p ∧ y = .ref q ∧ H p = some (.ins Cc dx fs) ∧ H q = some (.ins Cc dy gs) ∧ spD C n df [.ref p, .ref q] H (fun v H' => ∃ b, v = .bl b ∧ Q (.bl (!b)) H') E0
theorem o_neM {Cc : Addr} (F : FnOk X.prog X.w X.K X.mg X.base CX0 k g fd ps (spD C n df)) (hr : Room (k + 1) X.A) (hs : PySem.W.findIn X.K (.ref Cc) "__eq__" = some (some (.ref g))) (hf : PySem.W.isFn X.K (.ref g) = true) (hb : Binds X.K fd ps [])
    (hp : PySem.W.plainOver X.K Cc = true) (hn : PySem.W.findIn X.K (.ref Cc) "__ne__" = some (some (.builtin "object.__ne__"))) : OpR X (compareOp .NotEq) (rNeM C Cc n df) := by
  intro pins s σ H x y v u Q I rx ry hq
  obtain ⟨p, dx, fs, q, dy, gs, rfl, rfl, hp1, hp', hq⟩ := hq
  cases rx
  cases ry
  obtain ⟨mA, J, _⟩ := ins_get I.hok hp1
  obtain ⟨mB, J', _⟩ := ins_get I.hok hp'
  obtain ⟨od, J, _⟩ := J.look
  obtain ⟨od', J', _⟩ := J'.look
  obtain ⟨m, hF⟩ := I.fr
  refine DLW.ne_K (by have := hr.units; omega) hF I.ok.mod.kin J J'.type hp hn hs hf ?_
  refine wpAny_mono (call_fn F hr.in1 I.env0.in1 hb I (vs := [V.ref p, V.ref q]) (.cons rfl (.cons rfl .nil)) hq) (fun r s' z => ?_) fun _ _ z => z
  obtain ⟨v', H', I', rv, b, rfl, hQ⟩ := z
  obtain rfl : r = Value.bool b := rv
  exact ⟨b, rfl, .bl (!b), H', I', rfl, hQ⟩
theorem tNe_of {c : Nat} {σ : L2.St} {H : Hp} {Q : VK} (q0 : tG C (Rp C) W (fNot (fEqM c n df fa fb)) σ H Q) : tOp (rNeM C (C.cl c) n df) (tG C (Rp C) W fa) (tG C (Rp C) W fb) σ H Q := by
  obtain ⟨G, δ, η, a0, fin⟩ := q0
  have assoc : fNot (fEqM c n df fa fb) δ η = (fa δ η).bind fun d η => (fb δ η).bind fun o η => if insC η c d = true ∧ insC η c o = true then ((arg n df [d, o] η).nox).bind fun z η => (match z with | .bl b => .ok (.bl (!b)) η | _ => .bad) else .bad := by
    unfold fNot fEqM
    cases h1 : fa δ η with
    | ok d η1 =>
      rw [bind_ok, bind_ok]
      cases h2 : fb δ η1 with
      | ok o η2 =>
        rw [bind_ok, bind_ok]
        split
        · cases h3 : (arg n df [d, o] η2).nox with
          | ok z η3 => cases z <;> rfl
          | exc _ _ _ _ => rfl
          | bad => rfl
        · rfl
      | exc _ _ _ _ => rfl
      | bad => rfl
    | exc _ _ _ _ => rfl
    | bad => rfl
  rw [assoc] at fin
  refine tG.bind (Rel2 := Rp C) a0 fin fun d v G1 H1 η1 a1 x1 r1 fin1 => ?_
  refine tG.bind (Rel2 := Rp C) a1 fin1 fun o w G2 H2 η2 a2 x2 r2 fin2 => ?_
  split at fin2
  · rename_i q
    have r1' := r1.stab (x2.stab a1.he)
    obtain ⟨p, dx, fs, rfl, he⟩ := insC_at q.1 r1' a2.he
    obtain ⟨p', dx', fs', rfl, he'⟩ := insC_at q.2 r2 a2.he
    refine ⟨p, dx, fs, p', dx', fs', rfl, rfl, he, he', arg_run (.cons r1' (.cons r2 .nil)) a2.he (E' := fun c d H' => W c d σ H') (FinR.bindQ fin2 fun z η3 v3 G3 H3 x3 h3 r3 fin3 => ?_)⟩
    cases r3 with
    | bl b => exact ⟨b, rfl, fin3 _ G3 H3 Nx.refl h3 (.bl _)⟩
    | _ => exact fin3.elim
  · exact fin2.elim
theorem fe_neM {c : Nat} (ho : OpR X (compareOp .NotEq) (rNeM C (C.cl c) n df)) (ha : FE C W X a fa) (hb : FE C W X b fb) (hm : behindInMarks .NotEq b = false := by rfl) : FE C W X (.Compare a [.NotEq] [b] pos) (fNot (fEqM c n df fa fb)) :=
  PE.imp (pe_cmpR ho ha hb hm) fun _ _ _ q => tNe_of q
theorem ft_neM {c : Nat} (ho : OpR X (compareOp .NotEq) (rNeM C (C.cl c) n df)) (ha : FE C W X a fa) (hb : FE C W X b fb) (hm : behindInMarks .NotEq b = false := by rfl) : FT C W X (.Compare a [.NotEq] [b] pos) (toB (fNot (fEqM c n df fa fb))) :=
  PT.imp (pt_cmpR ho ha hb hm) fun _ _ _ q => tTest_of (fun _ _ _ z => tNe_of z) trivial q
theorem tEq_of {c : Nat} {σ : L2.St} {H : Hp} {Q : VK} (q0 : tG C (Rp C) W (fEqM c n df fa fb) σ H Q) : tOp (rEqM C (C.cl c) n df) (tG C (Rp C) W fa) (tG C (Rp C) W fb) σ H Q := by
  obtain ⟨G, δ, η, a0, fin⟩ := q0
  refine tG.bind (Rel2 := Rp C) a0 fin fun d v G1 H1 η1 a1 x1 r1 fin1 => ?_
  refine tG.bind (Rel2 := Rp C) a1 fin1 fun o w G2 H2 η2 a2 x2 r2 fin2 => ?_
  split at fin2
  · rename_i q
    have r1' := r1.stab (x2.stab a1.he)
    obtain ⟨p, dx, fs, rfl, he⟩ := insC_at q.1 r1' a2.he
    obtain ⟨p', dx', fs', rfl, he'⟩ := insC_at q.2 r2 a2.he
    refine ⟨p, dx, fs, p', dx', fs', rfl, rfl, he, he', arg_run (.cons r1' (.cons r2 .nil)) a2.he (E' := fun c d H' => W c d σ H') (FinR.bindQ fin2 fun z η3 v3 G3 H3 x3 h3 r3 fin3 => ?_)⟩
    cases r3 with
    | bl b => exact ⟨b, rfl, fin3 _ G3 H3 Nx.refl h3 (.bl _)⟩
    | _ => exact fin3.elim
  · exact fin2.elim
theorem ft_eqM {c : Nat} {op : CmpOp} (ho : OpR X (compareOp op) (rEqM C (C.cl c) n df)) (ha : FE C W X a fa) (hb : FE C W X b fb) (hm : behindInMarks op b = false := by rfl) : FT C W X (.Compare a [op] [b] pos) (toB (fEqM c n df fa fb)) :=
  PT.imp (pt_cmpR ho ha hb hm) fun _ _ _ q => tTest_of (fun _ _ _ z => tEq_of z) trivial q
/-! ### o + e, o - e by an own method, e of a built-in type or of the same class -/
def rBinM (C : Ct) (Cc : Addr) (n : Nat) (df : DF) (T : List String) (E : XK) : R2 := fun x y H Q => ∃ p dx fs d G, x = .ref p ∧ H p = some (.ins Cc dx fs) ∧ Rp C G H d y ∧ (∃ t, tyN d = some t ∧ t ∈ T) ∧ spX C n df [.ref p, y] H Q E
theorem typeOf_D {G : Gh} {pins : List (Addr × Obj)} {σ : L2.St} {H : Hp} {s : Shared} {d : D} {v : V} {u : Value} {t : String} {M : Model} (hK : X.K = C.K) (I : Inv X pins σ H s) (r : Rp C G H d v) (rv : RelV v u) (h : tyN d = some t) (hz : t = "str" ∨ t = "list" ∨ t = "tuple") : PySem.W.Looks M s.heap (typeOf u) (.type t) := by
  cases r with
  | str z _ =>
    cases h
    obtain ⟨tk, rfl⟩ := (show ∃ t, u = Value.str z t from rv)
    exact PySem.W.Looks.of_pure rfl
  | lst h1 _ _ =>
    cases h
    have hs := h1.sq
    rw [← hK] at hs
    obtain ⟨its, _, ⟨o, n, e, hc, _⟩, _⟩ := I.list hs
    cases rv
    intro A Q E' s' kh q
    refine wpAny_typeOf_ref (by rw [kh]; exact e) ?_
    rw [hc]; exact q
  | tup h1 _ _ =>
    cases h
    have hs := h1.sq
    rw [← hK] at hs
    obtain ⟨its, _, ⟨o, e, hc, _⟩, _⟩ := I.tuple hs
    cases rv
    intro A Q E' s' kh q
    refine wpAny_typeOf_ref (by rw [kh]; exact e) ?_
    rw [hc]; exact q
  | non => cases h; simp at hz
  | bl _ => cases h; simp at hz
  | int _ => cases h; simp at hz
  | ins _ _ _ _ => cases h
  | exn _ _ _ _ => cases h
  | obj _ => cases h
theorem Rp.notNI {G : Gh} {H : Hp} {d : D} {v : V} {u : Value} (r : Rp C G H d v) (rv : RelV v u) : u ≠ .notImplemented := by
  intro h
  subst h
  cases r <;> first | (exact absurd rv (by simp [RelV])) | (obtain ⟨_, h⟩ := rv; cases h) | cases rv
def okT (T : List String) (o : D) : Bool := match tyN o with
  | some t => T.contains t
  | none => false
theorem okT_of {T : List String} {o : D} (h : okT T o = true) : ∃ t, tyN o = some t ∧ t ∈ T := by
  unfold okT at h
  split at h
  · rename_i t ht; exact ⟨t, ht, by simpa using h⟩
  · cases h
theorem FinR.addNI {G : Gh} {H : Hp} {r : R D} {Q : VK} (h : FinR C (Rp C) E G H r Q) : FinR C (Rp C) E G H r (fun v H' => (∀ u, RelV v u → u ≠ .notImplemented) ∧ Q v H') := by
  cases r with
  | ok d η => exact fun v G' H' x q1 q2 => ⟨fun u ru => q2.notNI ru, h v G' H' x q1 q2⟩
  | exc c ns l η => exact h
  | bad => exact h
theorem o_binMX {op : Operator} {Cc : Addr} {T : List String} (hK : X.K = C.K) (tk : Takes X (WK E)) (F : FnOk X.prog X.w X.K X.mg X.base (L2.CX X.prog X.w) k g fd ps (spX C n df)) (hr : Room k X.A) (hs : PySem.W.findIn X.K (.ref Cc) (PySem.dunder op.info.2) = some (some (.ref g))) (hf : PySem.W.isFn X.K (.ref g) = true) (hb : Binds X.K fd ps [])
    (sf : PySem.W.selfFirst X.K Cc = true) (hT : ∀ t ∈ T, (t = "str" ∨ t = "list" ∨ t = "tuple") ∧ fillsNumberSlot (.type t) op.info.2 = pure false) : OpR X (binaryOp op) (rBinM C Cc n df T E) := by
  intro pins s σ H x y v u Q I rx ry hq
  obtain ⟨p, dx, fs, d, G, rfl, hp1, rd, ⟨t, ht, tT⟩, hq⟩ := hq
  cases rx
  obtain ⟨mA, J, _⟩ := ins_get I.hok hp1
  obtain ⟨od, J, _⟩ := J.look
  obtain ⟨m, hF⟩ := I.fr
  refine DLW.binop_KB hF I.ok.mod.kin J (typeOf_D hK I rd ry ht (hT t tT).1) (by rfl) sf hs hf (hT t tT).2 ?_
  obtain ⟨hl, G0, ds, η, r0, rh, fin⟩ := hq
  refine wpAny_mono (run_fn (E := E) F hr hb .nil (passes_call tk fun _ _ _ _ z => z) I (us := [Value.ref p, u]) (vs := [V.ref p, y]) (.cons rfl (.cons ry .nil)) ⟨hl, G0, ds, η, r0, rh, fin.addNI⟩) (fun r s' z => ?_) fun _ _ z => z
  obtain ⟨v', H', I', rv, hn, hQ⟩ := z
  have hne := hn r rv
  cases r <;> first | exact absurd rfl hne | exact ⟨v', H', I', rv, hQ⟩
theorem o_binM {op : Operator} {Cc : Addr} {T : List String} (hK : X.K = C.K) (F : FnOk X.prog X.w X.K X.mg X.base CX0 k g fd ps (spD C n df)) (hr : Room k X.A) (hs : PySem.W.findIn X.K (.ref Cc) (PySem.dunder op.info.2) = some (some (.ref g))) (hf : PySem.W.isFn X.K (.ref g) = true) (hb : Binds X.K fd ps [])
    (sf : PySem.W.selfFirst X.K Cc = true) (hT : ∀ t ∈ T, (t = "str" ∨ t = "list" ∨ t = "tuple") ∧ fillsNumberSlot (.type t) op.info.2 = pure false) : OpR X (binaryOp op) (rBinM C Cc n df T E0) := by
  intro pins s σ H x y v u Q I rx ry hq
  obtain ⟨p, dx, fs, d, G, rfl, hp1, rd, ⟨t, ht, tT⟩, hq⟩ := hq
  cases rx
  obtain ⟨mA, J, _⟩ := ins_get I.hok hp1
  obtain ⟨od, J, _⟩ := J.look
  obtain ⟨m, hF⟩ := I.fr
  refine DLW.binop_KB hF I.ok.mod.kin J (typeOf_D hK I rd ry ht (hT t tT).1) (by rfl) sf hs hf (hT t tT).2 ?_
  obtain ⟨hl, G0, ds, η, r0, rh, fin⟩ := hq
  refine wpAny_mono (call_fn F hr I.env0 hb I (vs := [V.ref p, y]) (.cons rfl (.cons ry .nil)) ⟨hl, G0, ds, η, r0, rh, fin.addNI⟩) (fun r s' z => ?_) fun _ _ z => z
  obtain ⟨v', H', I', rv, hn, hQ⟩ := z
  have hne := hn r rv
  cases r <;> first | exact absurd rfl hne | exact ⟨v', H', I', rv, hQ⟩
def fBinMX (c n : Nat) (df : DF) (T : List String) (fa fb : F D) : F D := fun δ η => (fa δ η).bind fun d η => (fb δ η).bind fun o η => if insC η c d = true ∧ okT T o = true then arg n df [d, o] η else .bad
def fBinM (c n : Nat) (df : DF) (T : List String) (fa fb : F D) : F D := fun δ η => (fa δ η).bind fun d η => (fb δ η).bind fun o η => if insC η c d = true ∧ okT T o = true then (arg n df [d, o] η).nox else .bad
@[simp] theorem fBinMX_a {c n : Nat} {df : DF} {T : List String} {fa fb : F D} {δ : En} {η : List O} : fBinMX c n df T fa fb δ η = (fa δ η).bind fun d η => (fb δ η).bind fun o η => if insC η c d = true ∧ okT T o = true then arg n df [d, o] η else .bad := rfl
@[simp] theorem fBinM_a {c n : Nat} {df : DF} {T : List String} {fa fb : F D} {δ : En} {η : List O} : fBinM c n df T fa fb δ η = (fa δ η).bind fun d η => (fb δ η).bind fun o η => if insC η c d = true ∧ okT T o = true then (arg n df [d, o] η).nox else .bad := rfl
theorem fe_binMX {c : Nat} {op : Operator} {T : List String} (ho : OpR X (binaryOp op) (rBinM C (C.cl c) n df T E)) (ha : FE C (WK E) X a fa) (hb : FE C (WK E) X b fb) : FE C (WK E) X (.BinOp a op b pos) (fBinMX c n df T fa fb) := by
  refine PE.imp (pe_op ho ha hb) fun σ H Q ⟨G, δ, η, a0, fin⟩ => ?_
  refine tG.bind (Rel2 := Rp C) a0 fin fun d v G1 H1 η1 a1 x1 r1 fin1 => ?_
  refine tG.bind (Rel2 := Rp C) a1 fin1 fun o w G2 H2 η2 a2 x2 r2 fin2 => ?_
  split at fin2
  · rename_i q
    have r1' := r1.stab (x2.stab a1.he)
    obtain ⟨p, dx, fs, rfl, he⟩ := insC_at q.1 r1' a2.he
    unfold arg at fin2
    split at fin2
    · rename_i hn
      exact ⟨p, dx, fs, o, G2, rfl, he, r2, okT_of q.2, by simpa using hn, G2, _, η2, .cons r1' (.cons r2 .nil), a2.he, fin2⟩
    · exact fin2.elim
  · exact fin2.elim
theorem fe_binM {c : Nat} {op : Operator} {T : List String} (ho : OpR X (binaryOp op) (rBinM C (C.cl c) n df T E0)) (ha : FE C W X a fa) (hb : FE C W X b fb) : FE C W X (.BinOp a op b pos) (fBinM c n df T fa fb) := by
  refine PE.imp (pe_op ho ha hb) fun σ H Q ⟨G, δ, η, a0, fin⟩ => ?_
  refine tG.bind (Rel2 := Rp C) a0 fin fun d v G1 H1 η1 a1 x1 r1 fin1 => ?_
  refine tG.bind (Rel2 := Rp C) a1 fin1 fun o w G2 H2 η2 a2 x2 r2 fin2 => ?_
  split at fin2
  · rename_i q
    have r1' := r1.stab (x2.stab a1.he)
    obtain ⟨p, dx, fs, rfl, he⟩ := insC_at q.1 r1' a2.he
    unfold arg at fin2
    split at fin2
    · rename_i hn
      exact ⟨p, dx, fs, o, G2, rfl, he, r2, okT_of q.2, by simpa using hn, G2, _, η2, .cons r1' (.cons r2 .nil), a2.he, fin2.nox⟩
    · exact fin2.elim
  · exact fin2.elim
end
end DL
namespace DL
open PySem L2
@[simp] theorem fEqM_a {c n : Nat} {df : DF} {fa fb : F D} {δ : En} {η : List O} : fEqM c n df fa fb δ η = (fa δ η).bind fun d η => (fb δ η).bind fun o η => if insC η c d = true ∧ insC η c o = true then ((arg n df [d, o] η).nox).bind fun z η => (match z with | .bl b => .ok (.bl b) η | _ => .bad) else .bad := rfl
theorem hT_add : ∀ t ∈ ["str", "list", "tuple"], (t = "str" ∨ t = "list" ∨ t = "tuple") ∧ fillsNumberSlot (.type t) (Operator.info .Add).2 = pure false := by
  intro t ht
  simp only [List.mem_cons, List.not_mem_nil, or_false] at ht
  rcases ht with rfl | rfl | rfl
  · exact ⟨.inl rfl, noFill_str_add⟩
  · exact ⟨.inr (.inl rfl), noFill_list_add⟩
  · exact ⟨.inr (.inr rfl), noFill_tuple_add⟩
theorem hT_sub : ∀ t ∈ ["str", "list", "tuple"], (t = "str" ∨ t = "list" ∨ t = "tuple") ∧ fillsNumberSlot (.type t) (Operator.info .Sub).2 = pure false := by
  intro t ht
  simp only [List.mem_cons, List.not_mem_nil, or_false] at ht
  rcases ht with rfl | rfl | rfl
  · exact ⟨.inl rfl, by with_unfolding_all rfl⟩
  · exact ⟨.inr (.inl rfl), by with_unfolding_all rfl⟩
  · exact ⟨.inr (.inr rfl), by with_unfolding_all rfl⟩
end DL
namespace DL
open PySem L2
/-! ### equality of data without bools is equality -/
mutual
def datD : D → Bool
  | .non => true
  | .int _ => true
  | .str _ => true
  | .lst l => datDs l
  | .tup l => datDs l
  | _ => false
def datDs : List D → Bool
  | [] => true
  | d :: l => datD d && datDs l
end
mutual
theorem eqv_dat : ∀ d e : D, datD d = true → datD e = true → (PyData.eqv (toPy d) (toPy e) = true ↔ d = e)
  | d, e, hd, he => by
    cases d <;> first | (exfalso; simp [datD] at hd; done) | skip
    all_goals (cases e <;> first | (exfalso; simp [datD] at he; done) | skip)
    all_goals first
      | (simp only [toPy, PyData.eqv, D.int.injEq, D.str.injEq, beq_iff_eq]; done)
      | (simp only [toPy, PyData.eqv]; simp; done)
      | skip
    · rename_i l m
      rw [datD] at hd he
      rw [toPy, toPy, PyData.eqv, eqvs_dat l m hd he]; simp
    · rename_i l m
      rw [datD] at hd he
      rw [toPy, toPy, PyData.eqv, eqvs_dat l m hd he]; simp
theorem eqvs_dat : ∀ l m : List D, datDs l = true → datDs m = true → (PyData.eqvAll (toPys l) (toPys m) = true ↔ l = m)
  | [], [], _, _ => by simp [toPys, PyData.eqvAll]
  | [], _ :: _, _, _ => by simp [toPys, PyData.eqvAll]
  | _ :: _, [], _, _ => by simp [toPys, PyData.eqvAll]
  | d :: l, e :: m, hd, he => by
    rw [datDs, Bool.and_eq_true] at hd he
    rw [toPys, toPys, PyData.eqvAll, Bool.and_eq_true, eqv_dat d e hd.1 he.1, eqvs_dat l m hd.2 he.2]
    simp
end
open Classical in
theorem eqvD_dat {d e : D} (hd : datD d = true) (he : datD e = true) : eqvD d e = decide (d = e) := by
  have h := eqv_dat d e hd he
  unfold eqvD
  by_cases z : d = e
  · rw [h.mpr z]; simp [z]
  · have : ¬ PyData.eqv (toPy d) (toPy e) = true := fun q => z (h.mp q)
    simp [z, this]
open Classical in
theorem eqD_dat {d e : D} (hd : datD d = true) (he : datD e = true) (pd : okq d = true) (pe : okq e = true) : eqD d e = some (.bl (decide (d = e))) := by
  unfold eqD; rw [if_pos ⟨pd, pe⟩, eqvD_dat hd he]
open Classical in
theorem neD_dat {d e : D} (hd : datD d = true) (he : datD e = true) (pd : okq d = true) (pe : okq e = true) : neD d e = some (.bl (!decide (d = e))) := by
  unfold neD; rw [if_pos ⟨pd, pe⟩, eqvD_dat hd he]
theorem neD_no {d e : D} (hd : datD d = true) (he : datD e = true) (pd : okq d = true) (pe : okq e = true) (h : d ≠ e) : neD d e = some (.bl true) := by rw [neD_dat hd he pd pe]; simp [h]
theorem eqD_no {d e : D} (hd : datD d = true) (he : datD e = true) (pd : okq d = true) (pe : okq e = true) (h : d ≠ e) : eqD d e = some (.bl false) := by rw [eqD_dat hd he pd pe]; simp [h]
theorem datDs_iff {l : List D} : datDs l = true ↔ ∀ d ∈ l, datD d = true := by
  induction l with
  | nil => simp [datDs]
  | cons d l ih => rw [datDs, Bool.and_eq_true, ih]; simp
theorem datDs_map {α : Type} {f : α → D} {l : List α} (h : ∀ x ∈ l, datD (f x) = true) : datDs (l.map f) = true := datDs_iff.mpr fun d hd => by
  obtain ⟨x, hx, rfl⟩ := List.mem_map.mp hd
  exact h x hx
theorem pureDs_iff {n : Nat} {l : List D} : pureDs n l = true ↔ ∀ d ∈ l, pureD n d = true := by
  induction l with
  | nil => simp [pureDs]
  | cons d l ih => rw [pureDs, Bool.and_eq_true, ih]; simp
theorem pureDs_map {α : Type} {n : Nat} {f : α → D} {l : List α} (h : ∀ x ∈ l, pureD n (f x) = true) : pureDs n (l.map f) = true := pureDs_iff.mpr fun d hd => by
  obtain ⟨x, hx, rfl⟩ := List.mem_map.mp hd
  exact h x hx
theorem dat_strs (zs : List Str) : datDs (zs.map .str) = true := datDs_map fun _ _ => rfl
theorem dat_ints (zs : List Int) : datDs (zs.map .int) = true := datDs_map fun _ _ => rfl
theorem dat_kd2 (k : Str × Int) : datD (kd2 k) = true := rfl
theorem dat_row (r : Row) : datD r.d = true := by
  show datDs [.str r.n, .tup (r.st.map .str), .int r.p] = true
  simp [datDs, datD, dat_strs]
theorem dat_pr (r : PRow) : datD (pr r) = true := by
  show datDs [.int r.1, .tup (r.2.map .int)] = true
  rw [datDs, datDs, datD, datD, dat_ints]; rfl
theorem pure_kd2 (n : Nat) (k : Str × Int) : pureD (n + 1) (kd2 k) = true := rfl
theorem pure_row (n : Nat) (r : Row) : pureD (n + 2) r.d = true := by
  show pureDs (n + 1) [.str r.n, .tup (r.st.map .str), .int r.p] = true
  simp [pureDs, pureD, pure_strsN]
theorem pure_pr (n : Nat) (r : PRow) : pureD (n + 2) (pr r) = true := by
  show pureDs (n + 1) [.int r.1, .tup (r.2.map .int)] = true
  rw [pureDs, pureDs, pureD, pureD, pure_ints]; rfl
theorem strs_inj {a b : List Str} : a.map D.str = b.map D.str ↔ a = b := List.map_inj_right fun x y h => by cases h; rfl
theorem ints_inj {a b : List Int} : a.map D.int = b.map D.int ↔ a = b := List.map_inj_right fun x y h => by cases h; rfl
theorem kd2_inj {a b : Str × Int} (h : kd2 a = kd2 b) : a = b := by
  cases a; cases b
  simp only [kd2, D.tup.injEq, List.cons.injEq, D.str.injEq, D.int.injEq, and_true] at h
  rw [h.1, h.2]
theorem row_inj {a b : Row} (h : a.d = b.d) : a = b := by
  cases a; cases b
  simp only [Row.d, D.tup.injEq, List.cons.injEq, D.str.injEq, D.int.injEq, and_true] at h
  rw [h.1, strs_inj.mp h.2.1, h.2.2]
theorem pr_inj {a b : PRow} (h : pr a = pr b) : a = b := by
  cases a; cases b
  simp only [pr, D.tup.injEq, List.cons.injEq, D.int.injEq, and_true] at h
  rw [h.1, ints_inj.mp h.2]
theorem kd2s_inj {a b : List (Str × Int)} : a.map kd2 = b.map kd2 ↔ a = b := List.map_inj_right fun _ _ => kd2_inj
theorem rows_inj {a b : List Row} : a.map Row.d = b.map Row.d ↔ a = b := List.map_inj_right fun _ _ => row_inj
theorem prs_inj {a b : List PRow} : a.map pr = b.map pr ↔ a = b := List.map_inj_right fun _ _ => pr_inj
end DL
namespace DL
open PySem L2
def b_Book___eq__ : S := (sSeq (sIf (fNotB (fTru (fIsC 0 (fV 1)))) (sRet (fC (.bl false))) SR.nx)
    (sRet (fAnd (fOp eqD (fFld 0 ["sort_rows", "word_rows", "own_memory"] 0 (fV 0)) (fFld 0 ["sort_rows", "word_rows", "own_memory"] 0 (fV 1))) (fAnd (fOp eqD (fFld 0 ["sort_rows", "word_rows", "own_memory"] 1 (fV 0)) (fFld 0 ["sort_rows", "word_rows", "own_memory"] 1 (fV 1))) (fOp eqD (fFld 0 ["sort_rows", "word_rows", "own_memory"] 2 (fV 0)) (fFld 0 ["sort_rows", "word_rows", "own_memory"] 2 (fV 1)))))))
def m_Book___eq__ : DF := runD 2 b_Book___eq__
def b_Policy___eq__ : S := (sRet (fAnd (fIsC 2 (fV 1)) (fAnd (fOp eqD (fFld 2 ["state_rows", "start_row"] 0 (fV 0)) (fFld 2 ["state_rows", "start_row"] 0 (fV 1))) (fOp eqD (fFld 2 ["state_rows", "start_row"] 1 (fV 0)) (fFld 2 ["state_rows", "start_row"] 1 (fV 1))))))
def m_Policy___eq__ : DF := runD 2 b_Policy___eq__
end DL
namespace DL
open PySem L2
section
variable {η : List O} {a b : Nat}
structure OkD (x : D) : Prop where
  d : datD x = true
  p : okq x = true
open Classical in
theorem book_eq_raw {A B m A' B' m' : D} (ha : η[a]? = some (.ins 0 NSB [A, B, m])) (hb : η[b]? = some (.ins 0 NSB [A', B', m'])) (kA : OkD A) (kB : OkD B) (km : OkD m) (kA' : OkD A') (kB' : OkD B') (km' : OkD m') :
    m_Book___eq__ [.obj a, .obj b] η = .ok (.bl (decide (A = A') && (decide (B = B') && decide (m = m')))) η := by
  refine run_rt2 (δ := [some (.val (.obj a)), some (.val (.obj b))]) rfl ?_
  have e1 := eqD_dat kA.d kA'.d kA.p kA'.p
  have e2 := eqD_dat kB.d kB'.d kB.p kB'.p
  have e3 := eqD_dat km.d km'.d km.p km'.p
  unfold b_Book___eq__
  have i1 : insC η 0 (.obj b) = true := by simp [insC, hb]
  have j1 : insD η 0 NSB (.obj a) = some (a, [A, B, m]) := by simp [insD, ha]
  have j2 : insD η 0 NSB (.obj b) = some (b, [A', B', m']) := by simp [insD, hb]
  generalize decide (A = A') = p1 at *
  generalize decide (B = B') = p2 at *
  generalize decide (m = m') = p3 at *
  cases p1 <;> cases p2 <;> simp [fIsC, i1, ha, hb, e1, e2, e3]
open Classical in
theorem pol_eq_raw {A B A' B' : D} (ha : η[a]? = some (.ins 2 NSP [A, B])) (hb : η[b]? = some (.ins 2 NSP [A', B'])) (kA : OkD A) (kB : OkD B) (kA' : OkD A') (kB' : OkD B') :
    m_Policy___eq__ [.obj a, .obj b] η = .ok (.bl (decide (A = A') && decide (B = B'))) η := by
  refine run_rt2 (δ := [some (.val (.obj a)), some (.val (.obj b))]) rfl ?_
  have e1 := eqD_dat kA.d kA'.d kA.p kA'.p
  have e2 := eqD_dat kB.d kB'.d kB.p kB'.p
  unfold b_Policy___eq__
  have i1 : insC η 2 (.obj b) = true := by simp [insC, hb]
  have j1 : insD η 2 NSP (.obj a) = some (a, [A, B]) := by simp [insD, ha]
  have j2 : insD η 2 NSP (.obj b) = some (b, [A', B']) := by simp [insD, hb]
  generalize decide (A = A') = p1 at *
  generalize decide (B = B') = p2 at *
  cases p1 <;> cases p2 <;> simp [fIsC, i1, ha, hb, e1, e2]
end
theorem okD_kinds (ks : List (Str × Int)) : OkD (.lst (ks.map kd2)) := ⟨by rw [datD]; exact datDs_map fun k _ => dat_kd2 k, by show pureDs 19 _ = true; exact pureDs_map fun k _ => pure_kd2 18 k⟩
theorem okD_rows (rs : List Row) : OkD (.lst (rs.map Row.d)) := ⟨by rw [datD]; exact datDs_map fun k _ => dat_row k, by show pureDs 19 _ = true; exact pureDs_map fun k _ => pure_row 17 k⟩
theorem okD_prs (rs : List PRow) : OkD (.lst (rs.map pr)) := ⟨by rw [datD]; exact datDs_map fun k _ => dat_pr k, by show pureDs 19 _ = true; exact pureDs_map fun k _ => pure_pr 17 k⟩
theorem okD_ints (rs : List Int) : OkD (.lst (rs.map .int)) := ⟨by rw [datD]; exact dat_ints _, by show pureDs 19 _ = true; exact pure_ints _ _⟩
theorem okD_mem {m : D} (h : MemOk m) : OkD m := by cases h <;> exact ⟨rfl, rfl⟩
/-! ### loops -/
theorem loop_mem {t : Tg} {b : S} (P : En → List O → Prop) : ∀ {ds : List D} {δ : En} {η : List O}, P δ η →
    (∀ x ∈ ds, ∀ δ η, P δ η → ∃ δ1, asg t x δ = some δ1 ∧ ∃ δ2 η2, (b δ1 η = .nx δ2 η2 ∨ b δ1 η = .ct δ2 η2) ∧ P δ2 η2) → ∃ δ' η', loopF t b ds δ η = .nx δ' η' ∧ P δ' η' := fun {ds} {δ} {η} h st => by
  obtain ⟨δ', η', e, q⟩ := loop_inv (t := t) (b := b) (fun r δ η => (∀ x ∈ r, x ∈ ds) ∧ P δ η) (ds := ds) ⟨fun _ h => h, h⟩ fun x r δ η ⟨h1, h2⟩ => by
    obtain ⟨δ1, e1, δ2, η2, e2, h3⟩ := st x (h1 x (List.mem_cons_self ..)) δ η h2
    exact ⟨δ1, e1, δ2, η2, e2, fun y hy => h1 y (List.mem_cons_of_mem _ hy), h3⟩
  exact ⟨δ', η', e, q.2⟩
theorem rngD_eq (n : Nat) : rngD 0 n = (List.range' 0 n).map fun k : Nat => D.int (k : Int) := by
  unfold rngD
  rw [List.range_eq_range']
  apply List.map_congr_left
  intro k _
  rw [Int.zero_add]
theorem loop_from {t : Tg} {b : S} (P : Nat → En → List O → Prop) : ∀ (m j : Nat) {δ : En} {η : List O}, P j δ η →
    (∀ k δ η, j ≤ k → k < j + m → P k δ η → ∃ δ1, asg t (.int k) δ = some δ1 ∧ ∃ δ2 η2, (b δ1 η = .nx δ2 η2 ∨ b δ1 η = .ct δ2 η2) ∧ P (k + 1) δ2 η2) → ∃ δ' η', loopF t b ((List.range' j m).map fun k : Nat => D.int (k : Int)) δ η = .nx δ' η' ∧ P (j + m) δ' η'
  | 0, j, δ, η, h, _ => ⟨δ, η, rfl, h⟩
  | m + 1, j, δ, η, h, st => by
    obtain ⟨δ1, e1, δ2, η2, e2, h3⟩ := st j δ η (Nat.le_refl _) (by omega) h
    obtain ⟨δ', η', e3, h4⟩ := loop_from P m (j + 1) h3 fun k δ η a1 a2 a3 => st k δ η (by omega) (by omega) a3
    refine ⟨δ', η', ?_, by rw [show j + (m + 1) = j + 1 + m by omega]; exact h4⟩
    rw [List.range'_succ, List.map_cons, loopF, e1]
    rcases e2 with e2 | e2
    · dsimp only; rw [e2]; exact e3
    · dsimp only; rw [e2]; exact e3
/-- for k in range(n) -/
theorem loop_rng {t : Tg} {b : S} {n : Nat} (P : Nat → En → List O → Prop) {δ : En} {η : List O} (h : P 0 δ η)
    (st : ∀ k δ η, k < n → P k δ η → ∃ δ1, asg t (.int k) δ = some δ1 ∧ ∃ δ2 η2, (b δ1 η = .nx δ2 η2 ∨ b δ1 η = .ct δ2 η2) ∧ P (k + 1) δ2 η2) : ∃ δ' η', loopF t b (rngD 0 n) δ η = .nx δ' η' ∧ P n δ' η' := by
  rw [rngD_eq]
  obtain ⟨δ', η', e, q⟩ := loop_from (t := t) (b := b) P n 0 h fun k δ η _ h2 => st k δ η (by omega)
  exact ⟨δ', η', e, by rw [Nat.zero_add] at q; exact q⟩
theorem at_map {α : Type} {f : α → D} {l : List α} {k : Nat} {x : α} (h : l[k]? = some x) : L2.atI (l.map f) (k : Int) = some (f x) := by
  obtain ⟨h1, h2⟩ := List.getElem?_eq_some_iff.mp h
  rw [atI_of (Int.natCast_nonneg k) (by rw [List.length_map]; omega)]
  simp [h2]
theorem cut_to {l : List D} {k : Nat} (h : k ≤ l.length) : cutD l none (some (k : Int)) = l.take k := cut_take h
theorem cut_from {l : List D} {k : Nat} (h : k + 1 ≤ l.length) : cutD l (some ((k : Int) + 1)) none = l.drop (k + 1) := by
  have := cut_drop (l := l) (m := k + 1) h
  rw [← this]; rfl
theorem ins_old {η t : List O} {x : O} {i : Nat} (h : η[i]? = some x) : (η ++ t)[i]? = some x := by
  have := (List.getElem?_eq_some_iff.mp h).1
  rw [List.getElem?_append_left this]; exact h
theorem split_at {α : Type} {rs : List α} {k : Nat} {r : α} (hk : rs[k]? = some r) : rs = rs.take k ++ r :: rs.drop (k + 1) := by
  obtain ⟨h1, h2⟩ := List.getElem?_eq_some_iff.mp hk
  conv => lhs; rw [← List.take_append_drop k rs, List.drop_eq_getElem_cons h1, h2]
theorem sz (n : Nat) (h : n ≤ 1000) : n ≤ sizeLine := by rw [sizeLine_eq]; omega
theorem badState_none {n : Nat} : ∀ {rows : List PRow} {k : Nat}, (∀ q ∈ rows, stateB q n = true) → badState n rows k = none
  | [], _, _ => rfl
  | r :: l, k, h => by rw [badState, if_pos (h r (List.mem_cons_self ..))]; exact badState_none fun q hq => h q (List.mem_cons_of_mem _ hq)
theorem polErr_none {rows : List PRow} {st : List Int} (h1 : 1 ≤ rows.length) (h8 : rows.length ≤ 8) (hq : ∀ q ∈ rows, stateB q rows.length = true) (hs : StOk rows.length st) : polErr rows st = none := by
  unfold polErr
  rw [if_pos ⟨h1, h8⟩, badState_none hq]
  dsimp only
  rw [if_neg hs.1, hs.2]
end DL
namespace PySem.SeqAt
open AutoSeq1 (wpAny_loadPart')
open MeetsSeq MeetsSeq2 MeetsSeq3 SeqRoads2
/-- tuples compared pair by pair, a comparison may change the state -/
def TChain (M : Model) (A : Around) (E : Value → Shared → Prop) (R : Bool → Shared → Prop) (fin : Bool) : List (Value × Value) → Shared → Prop
  | [], s => R fin s
  | p :: r, s => wpAny M A (eqBool p.1 p.2) (fun b s' => if b = true then TChain M A E R fin r s' else R false s') E s
section
variable {prog : Program} {w : World}
theorem tuple_neS (l b : Addr) (items items2 : Array Value) (n n2 : Nat) (dd dd2 : Option Addr) (sl sl2 : Array (Option Value)) :
    MeetsIn prog w (Builtin.«tuple.__ne__» ⟨[.ref l, .ref b], []⟩)
      (fun A R s => s.heap.get? l = some { cls := .type "tuple", dict := dd, data := .seq items n, slots := sl } ∧ s.heap.get? b = some { cls := .type "tuple", dict := dd2, data := .seq items2 n2, slots := sl2 } ∧
        TChain (model prog w) A.in1 (fun e s' => R (.error e) s') (fun c s' => R (.ok (.ret (.bool (!c)))) s') (items.size == items2.size) (items.toList.zip items2.toList) s) := by
    intro A R s h
    obtain ⟨hp, g, d, tk, os⟩ := s; obtain ⟨hl, hb, h⟩ := h
    have f2 := AutoSeq1.sub_tuple_tuple
    wp_walk using wpAny_loadPart' hl, wpAny_loadPart' hb, wpAny_forIn_list _ (fun rest b s' => b.1 = none ∧ TChain (model prog w) A.in1 (fun e s' => R (.error e) s') (fun c s' => R (.ok (.ret (.bool (!c)))) s') (items.size == items2.size) rest s') _
    case turn =>
      rintro ⟨y, x⟩ rest b s' ⟨hb', hz⟩
      refine wpAny_bind (wpAny_mono hz (fun c s2 h2 => ?_) fun _ _ e => e)
      cases c with
      | true =>
        rw [if_pos rfl] at h2
        wp_walk
        exact ⟨rfl, h2⟩
      | false =>
        rw [if_neg Bool.false_ne_true] at h2
        wp_walk
        exact h2
    case fin =>
      rintro ⟨b1, b2⟩ s' ⟨hb', hR⟩
      simp only at hb'
      subst hb'
      have hR : R (.ok (.ret (.bool (!(items.size == items2.size))))) s' := hR
      wp_walk
      simpa [Builtin.Tuple.tupleCompareSizes, bne] using hR
    case h =>
      exact ⟨rfl, h⟩
theorem tuple_eqS (l b : Addr) (items items2 : Array Value) (n n2 : Nat) (dd dd2 : Option Addr) (sl sl2 : Array (Option Value)) :
    MeetsIn prog w (Builtin.«tuple.__eq__» ⟨[.ref l, .ref b], []⟩)
      (fun A R s => s.heap.get? l = some { cls := .type "tuple", dict := dd, data := .seq items n, slots := sl } ∧ s.heap.get? b = some { cls := .type "tuple", dict := dd2, data := .seq items2 n2, slots := sl2 } ∧
        TChain (model prog w) A.in1 (fun e s' => R (.error e) s') (fun c s' => R (.ok (.ret (.bool c))) s') (items.size == items2.size) (items.toList.zip items2.toList) s) := by
    intro A R s h
    obtain ⟨hp, g, d, tk, os⟩ := s; obtain ⟨hl, hb, h⟩ := h
    have f2 := AutoSeq1.sub_tuple_tuple
    wp_walk using wpAny_loadPart' hl, wpAny_loadPart' hb, wpAny_forIn_list _ (fun rest b s' => b.1 = none ∧ TChain (model prog w) A.in1 (fun e s' => R (.error e) s') (fun c s' => R (.ok (.ret (.bool c))) s') (items.size == items2.size) rest s') _
    case turn =>
      rintro ⟨y, x⟩ rest b s' ⟨hb', hz⟩
      refine wpAny_bind (wpAny_mono hz (fun c s2 h2 => ?_) fun _ _ e => e)
      cases c with
      | true =>
        rw [if_pos rfl] at h2
        wp_walk
        exact ⟨rfl, h2⟩
      | false =>
        rw [if_neg Bool.false_ne_true] at h2
        wp_walk
        exact h2
    case fin =>
      rintro ⟨b1, b2⟩ s' ⟨hb', hR⟩
      simp only at hb'
      subst hb'
      have hR : R (.ok (.ret (.bool (items.size == items2.size)))) s' := hR
      wp_walk
      simpa [Builtin.Tuple.tupleCompareSizes] using hR
    case h =>
      exact ⟨rfl, h⟩
theorem TChain.mono {M : Model} {A : Around} {E : Value → Shared → Prop} {R R' : Bool → Shared → Prop} {fin : Bool} (h : ∀ c s, R c s → R' c s) : ∀ {zs : List (Value × Value)} {s : Shared}, TChain M A E R fin zs s → TChain M A E R' fin zs s
  | [], s, q => h _ _ q
  | p :: r, s, q => wpAny_mono q (fun b s' z => by
      cases b with
      | true => rw [if_pos rfl] at z ⊢; exact TChain.mono h z
      | false => rw [if_neg Bool.false_ne_true] at z ⊢; exact h _ _ z) fun _ _ e => e
theorem rcS_ne {A : Around} {s : Shared} {E : Value → Shared → Prop} {l b : Addr} {items items2 : Array Value} {Q : Value → Shared → Prop} (hl : s.heap.IsTuple l items) (hb : s.heap.IsTuple b items2) (hu : A.units < cLine)
    (h : TChain (model prog w) A.in1 E (fun c s' => Q (.bool (!c)) s') (items.size == items2.size) (items.toList.zip items2.toList) s) : wpAny (model prog w) A (richCompare .NotEq (.ref l) (.ref b)) Q E s := by
  obtain ⟨⟨cls, dd, data, sl⟩, ho, hc, n, hd⟩ := id hl
  obtain ⟨⟨cls2, dd2, data2, sl2⟩, ho2, hc2, n2, hd2⟩ := id hb
  simp only at hc hd hc2 hd2
  subst hc hd hc2 hd2
  exact wpAny_richCompare_same_room (T := "tuple") (op := .NotEq) ⟨_, ho, rfl⟩ ⟨_, ho2, rfl⟩ F.slot_tuple_ne (call_meetsIn F.slot_tuple_ne ⟨_, ho, rfl⟩ F.entry_tuple_ne (F.args_tuple_ne_2 _ _) (tuple_neS l b items items2 n n2 dd dd2 sl sl2)
    ⟨ho, ho2, h.mono fun c s' q => show Value.bool (!c) ≠ Value.notImplemented ∧ Q (.bool (!c)) s' from ⟨(fun x => nomatch x), q⟩⟩) hu
theorem rcS_eq {A : Around} {s : Shared} {E : Value → Shared → Prop} {l b : Addr} {items items2 : Array Value} {Q : Value → Shared → Prop} (hl : s.heap.IsTuple l items) (hb : s.heap.IsTuple b items2) (hu : A.units < cLine)
    (h : TChain (model prog w) A.in1 E (fun c s' => Q (.bool c) s') (items.size == items2.size) (items.toList.zip items2.toList) s) : wpAny (model prog w) A (richCompare .Eq (.ref l) (.ref b)) Q E s := by
  obtain ⟨⟨cls, dd, data, sl⟩, ho, hc, n, hd⟩ := id hl
  obtain ⟨⟨cls2, dd2, data2, sl2⟩, ho2, hc2, n2, hd2⟩ := id hb
  simp only at hc hd hc2 hd2
  subst hc hd hc2 hd2
  exact wpAny_richCompare_same_room (T := "tuple") (op := .Eq) ⟨_, ho, rfl⟩ ⟨_, ho2, rfl⟩ F.slot_tuple_eq (call_meetsIn F.slot_tuple_eq ⟨_, ho, rfl⟩ F.entry_tuple_eq (F.args_tuple_eq_2 _ _) (tuple_eqS l b items items2 n n2 dd dd2 sl sl2)
    ⟨ho, ho2, h.mono fun c s' q => show Value.bool c ≠ Value.notImplemented ∧ Q (.bool c) s' from ⟨(fun x => nomatch x), q⟩⟩) hu
end
end PySem.SeqAt
namespace DL
open PySem L2
/-- d == e for two pairs whose second items may be objects of one own class -/
def cmpT2 (c n : Nat) (df : DF) (d e : D) (η : List O) : R Bool := match d, e with
  | .tup [a1, a2], .tup [b1, b2] => if okq a1 = true ∧ okq b1 = true then
      if eqvD a1 b1 = true then
        if okq a2 = true ∧ okq b2 = true then .ok (eqvD a2 b2) η else match a2, b2 with
          | .obj i, .obj j => if i ≠ j ∧ insC η c (.obj i) = true ∧ insC η c (.obj j) = true then ((arg n df [.obj i, .obj j] η).nox).bind fun z η => (match z with | .bl b => .ok b η | _ => .bad) else .bad
          | _, _ => .bad
      else .ok false η
    else .bad
  | _, _ => .bad
def fCmpT (c n : Nat) (df : DF) (neg : Bool) (fa fb : F D) : F D := fun δ η => (fa δ η).bind fun d η => (fb δ η).bind fun e η => (cmpT2 c n df d e η).bind fun b η => .ok (.bl (neg != b)) η
@[simp] theorem fCmpT_a {c n : Nat} {df : DF} {neg : Bool} {fa fb : F D} {δ : En} {η : List O} : fCmpT c n df neg fa fb δ η = (fa δ η).bind fun d η => (fb δ η).bind fun e η => (cmpT2 c n df d e η).bind fun b η => .ok (.bl (neg != b)) η := rfl
section
variable {X : Cx} {C : Ct} {W : WX} {pos p2 p : Pos} {e a b : Expr} {es : List Expr} {fe fa fb fo : F D} {fs fn fk : F (List D)} {E : XK}
variable {P : Program} {k n : Nat} {g A : Addr} {fd : FuncData} {ps ks : List Str} {df : DF} {x : Str}
def rCmpT (C : Ct) (c n : Nat) (df : DF) (neg : Bool) : R2 := fun x y H Q => ∃ G η d e, Rh C G H η ∧ Rp C G H d x ∧ Rp C G H e y ∧ FinR C RB E0 G H (cmpT2 c n df d e η) (fun b H' => Q (.bl (neg != b)) H')
theorem eqB_pure {G : Gh} {pins : List (Addr × Obj)} {σ : L2.St} {H : Hp} {s : Shared} {d e : D} {v w : V} {vu wu : Value} {Q : Bool → Shared → Prop} {E : Value → Shared → Prop} (hK : X.K = C.K) (hu : X.A.units + 64 < cLine) (I : Inv X pins σ H s) (r1 : Rp C G H d v) (r2 : Rp C G H e w) (rv : RelV v vu) (rw_ : RelV w wu) (p1 : okq d = true) (p2 : okq e = true)
    (hq : Q (eqvD d e) s) : wpAny (model X.prog X.w) X.A.in1 (eqBool vu wu) Q E s := by
  obtain ⟨a1, a2, a3⟩ := dp_of hK r1 p1
  obtain ⟨b1, b2, b3⟩ := dp_of hK r2 p2
  obtain ⟨as, hv⟩ := Dp.reads I _ _ _ a1 rv
  obtain ⟨bs, hw⟩ := Dp.reads I _ _ _ b1 rw_
  refine SeqAt.eqAt_reads _ _ _ _ _ _ _ _ hv hw a2 b2 ?_ _ _ _ _ hq
  have : X.A.in1.units = X.A.units + 1 := rfl
  omega
theorem chain_T {c : Nat} {G : Gh} {pins : List (Addr × Obj)} {σ : L2.St} {H : Hp} {s : Shared} {η : List O} {d e : D} {x y : V} {u v : Value} {Q : Bool → Hp → Prop} {R : Bool → Shared → Prop} (hK : X.K = C.K) (F : FnOk X.prog X.w X.K X.mg X.base CX0 k g fd ps (spD C n df)) (hr : Room (k + 1) X.A) (hs : PySem.W.findIn X.K (.ref (C.cl c)) "__eq__" = some (some (.ref g))) (hf : PySem.W.isFn X.K (.ref g) = true) (hb : Binds X.K fd ps [])
    (I : Inv X pins σ H s) (rh : Rh C G H η) (r1 : Rp C G H d x) (r2 : Rp C G H e y) (rx : RelV x v) (ry : RelV y u) (fin : FinR C RB E0 G H (cmpT2 c n df d e η) Q) (hR : ∀ b H' s', Inv X pins σ H' s' → Q b H' → R b s') :
    ∃ l l2 its its2, v = .ref l ∧ u = .ref l2 ∧ s.heap.IsTuple l its ∧ s.heap.IsTuple l2 its2 ∧ SeqAt.TChain (model X.prog X.w) X.A.in1 X.xe R (its.size == its2.size) (its.toList.zip its2.toList) s := by
  have hu := hr.units
  unfold cmpT2 at fin
  split at fin
  · rename_i a1 a2 b1 b2
    cases r1 with
    | tup t1 _ q1 =>
      cases r2 with
      | tup t2 _ q2 =>
        have t1 := t1.sq
        have t2 := t2.sq
        rw [← hK] at t1 t2
        cases q1 with
        | cons ra1 q1 => cases q1 with
          | cons ra2 q1 =>
            cases q1
            cases q2 with
            | cons rb1 q2 => cases q2 with
              | cons rb2 q2 =>
                cases q2
                obtain ⟨its, rv, pl, _⟩ := I.tuple t1
                obtain ⟨its2, rv2, pl2, _⟩ := I.tuple t2
                cases rx
                cases ry
                cases rv with
                | cons va1 rv => cases rv with
                  | cons va2 rv =>
                    cases rv
                    cases rv2 with
                    | cons vb1 rv2 => cases rv2 with
                      | cons vb2 rv2 =>
                        cases rv2
                        refine ⟨_, _, _, _, rfl, rfl, pl, pl2, ?_⟩
                        split at fin
                        · rename_i k1
                          show wpAny _ _ (eqBool _ _) _ _ _
                          refine eqB_pure hK hu I ra1 rb1 va1 vb1 k1.1 k1.2 ?_
                          split at fin
                          · rename_i e1
                            rw [if_pos e1]
                            show wpAny _ _ (eqBool _ _) _ _ _
                            split at fin
                            · rename_i k2
                              refine eqB_pure hK hu I ra2 rb2 va2 vb2 k2.1 k2.2 ?_
                              have := hR _ _ _ I (fin (eqvD a2 b2) G H Nx.refl rh rfl)
                              cases z : eqvD a2 b2 with
                              | true => rw [if_pos rfl]; show R _ _; rw [z] at this; exact this
                              | false => rw [if_neg Bool.false_ne_true]; rw [z] at this; exact this
                            · split at fin
                              · rename_i i j _ _ _
                                split at fin
                                · rename_i hc
                                  obtain ⟨p, dx, fs, e5, he⟩ := insC_at hc.2.1 ra2 rh
                                  obtain ⟨p', dx', fs', e6, he'⟩ := insC_at hc.2.2 rb2 rh
                                  have hpp : p ≠ p' := by
                                    intro z
                                    subst z
                                    cases ra2 with
                                    | obj h1 => cases rb2 with
                                      | obj h2 =>
                                        cases e5; cases e6
                                        have n1 := (List.getElem?_eq_some_iff.mp h1).1
                                        have := (List.getElem?_inj n1 rh.nd).mp (h1.trans h2.symm)
                                        exact hc.1 this
                                  subst e5 e6
                                  cases va2
                                  cases vb2
                                  obtain ⟨mA, J, _⟩ := ins_get I.hok he
                                  obtain ⟨mB, J', _⟩ := ins_get I.hok he'
                                  obtain ⟨od, J, _⟩ := J.look
                                  obtain ⟨od', J', _⟩ := J'.look
                                  obtain ⟨m, hF⟩ := I.fr
                                  unfold eqBool
                                  refine wpAny_holding ?_
                                  refine wpAny_ite_split (fun hab => absurd (by have := eq_of_beq hab; injection this) hpp) (fun _ => ?_)
                                  have dd : spD C n df [.ref p, .ref p'] H (fun v H' => ∃ b, v = .bl b ∧ Q b H') E0 := by
                                    refine arg_run (.cons ra2 (.cons rb2 .nil)) rh (E' := E0) ?_
                                    cases hz : (arg n df [.obj i, .obj j] η).nox with
                                    | bad => rw [hz] at fin; exact fin.elim
                                    | exc c' ns l η2 => rw [hz] at fin; exact fin
                                    | ok z η2 =>
                                      rw [hz, bind_ok] at fin
                                      intro v3 G3 H3 x3 h3 r3
                                      cases r3 with
                                      | bl b => exact ⟨b, rfl, fin b G3 H3 x3 h3 rfl⟩
                                      | _ => exact fin.elim
                                  refine wpAny_bind (PySem.W.cmp_K (op := .Eq) (tb := .ref (C.cl c)) (by have := hr.in1.units0; exact this) hF I.ok.mod.kin J J'.type (by simp [PySem.W.notFirst]) hs hf ?_)
                                  refine wpAny_mono (call_fn F hr.in1 I.env0.in1 hb I (vs := [V.ref p, V.ref p']) (.cons rfl (.cons rfl .nil)) dd) (fun r s' z => ?_) fun _ _ z => z
                                  obtain ⟨v', H', I', rv, b, rfl, hQ⟩ := z
                                  obtain rfl : r = Value.bool b := rv
                                  have q := hR _ _ _ I' hQ
                                  show wpAny _ _ (truthOfDropped _) _ _ _
                                  refine wpAny_truthy_bool ?_
                                  cases b with
                                  | true => rw [if_pos rfl]; exact q
                                  | false => rw [if_neg Bool.false_ne_true]; exact q
                                · exact fin.elim
                              · exact fin.elim
                          · rename_i e1
                            rw [if_neg e1]
                            exact hR _ _ _ I (fin false G H Nx.refl rh rfl)
                        · exact fin.elim
  · exact fin.elim
theorem o_neT {c : Nat} (hK : X.K = C.K) (F : FnOk X.prog X.w X.K X.mg X.base CX0 k g fd ps (spD C n df)) (hr : Room (k + 1) X.A) (hs : PySem.W.findIn X.K (.ref (C.cl c)) "__eq__" = some (some (.ref g))) (hf : PySem.W.isFn X.K (.ref g) = true) (hb : Binds X.K fd ps []) :
    OpR X (compareOp .NotEq) (rCmpT C c n df true) := by
  intro pins s σ H x y v u Q I rx ry hq
  obtain ⟨G, η, d, e, rh, r1, r2, fin⟩ := hq
  obtain ⟨l, l2, its, its2, rfl, rfl, pl, pl2, ch⟩ := chain_T (R := fun c s' => EP X pins σ Q (.bool (!c)) s') hK F hr hs hf hb I rh r1 r2 rx ry fin fun b H' s' I' q => ⟨.bl (!b), H', I', rfl, by simpa using q⟩
  exact SeqAt.rcS_ne pl pl2 hr.units0 ch
theorem o_eqT {c : Nat} (hK : X.K = C.K) (F : FnOk X.prog X.w X.K X.mg X.base CX0 k g fd ps (spD C n df)) (hr : Room (k + 1) X.A) (hs : PySem.W.findIn X.K (.ref (C.cl c)) "__eq__" = some (some (.ref g))) (hf : PySem.W.isFn X.K (.ref g) = true) (hb : Binds X.K fd ps []) :
    OpR X (compareOp .Eq) (rCmpT C c n df false) := by
  intro pins s σ H x y v u Q I rx ry hq
  obtain ⟨G, η, d, e, rh, r1, r2, fin⟩ := hq
  obtain ⟨l, l2, its, its2, rfl, rfl, pl, pl2, ch⟩ := chain_T (R := fun c s' => EP X pins σ Q (.bool c) s') hK F hr hs hf hb I rh r1 r2 rx ry fin fun b H' s' I' q => ⟨.bl b, H', I', rfl, by simpa using q⟩
  exact SeqAt.rcS_eq pl pl2 hr.units0 ch
theorem FinR.bindB {G : Gh} {H : Hp} {E E' : XK} {r : R Bool} {kf : Bool → List O → R D} {Q : VK} {Q' : Bool → Hp → Prop} (hn : ∀ c ns l η, r ≠ .exc c ns l η) (h : FinR C (Rp C) E G H (r.bind kf) Q) (i : ∀ z η G' H', Nx G H G' H' → Rh C G' H' η → FinR C (Rp C) E G' H' (kf z η) Q → Q' z H') : FinR C RB E' G H r Q' := by
  cases r with
  | ok d η => exact fun v G' H' x q1 q2 => by cases q2; exact i d η G' H' x q1 (FinR.next h x)
  | exc c ns l η => exact absurd rfl (hn c ns l η)
  | bad => exact h.elim
theorem cmpT2_ne {c n : Nat} {df : DF} {d e : D} {η : List O} : ∀ a b l η', cmpT2 c n df d e η ≠ .exc a b l η' := by
  intro a b l η' h
  unfold cmpT2 at h
  repeat' split at h
  all_goals first | (cases h; done) | skip
  rename_i i j _ _
  cases hz : (arg n df [.obj _, .obj _] η).nox with
  | ok z η2 => rw [hz, bind_ok] at h; cases z <;> cases h
  | exc c' ns l η2 =>
    cases hz2 : arg n df [.obj _, .obj _] η with
    | ok _ _ => rw [hz2] at hz; cases hz
    | exc _ _ _ _ => rw [hz2] at hz; cases hz
    | bad => rw [hz2] at hz; cases hz
  | bad => rw [hz] at h; cases h
theorem tCmpT_of {c : Nat} {neg : Bool} {σ : L2.St} {H : Hp} {Q : VK} (q0 : tG C (Rp C) W (fCmpT c n df neg fa fb) σ H Q) : tOp (rCmpT C c n df neg) (tG C (Rp C) W fa) (tG C (Rp C) W fb) σ H Q := by
  obtain ⟨G, δ, η, a0, fin⟩ := q0
  refine tG.bind (Rel2 := Rp C) a0 fin fun d v G1 H1 η1 a1 x1 r1 fin1 => ?_
  refine tG.bind (Rel2 := Rp C) a1 fin1 fun o w G2 H2 η2 a2 x2 r2 fin2 => ?_
  exact ⟨G2, η2, d, o, a2.he, r1.stab (x2.stab a1.he), r2, FinR.bindB cmpT2_ne fin2 fun z η3 G3 H3 x3 h3 fin3 => fin3 _ G3 H3 Nx.refl h3 (.bl _)⟩
theorem fe_cmpT {c : Nat} {neg : Bool} {op : CmpOp} (ho : OpR X (compareOp op) (rCmpT C c n df neg)) (ha : FE C W X a fa) (hb : FE C W X b fb) (hm : behindInMarks op b = false := by rfl) : FE C W X (.Compare a [op] [b] pos) (fCmpT c n df neg fa fb) :=
  PE.imp (pe_cmpR ho ha hb hm) fun _ _ _ q => tCmpT_of q
theorem ft_cmpT {c : Nat} {neg : Bool} {op : CmpOp} (ho : OpR X (compareOp op) (rCmpT C c n df neg)) (ha : FE C W X a fa) (hb : FE C W X b fb) (hm : behindInMarks op b = false := by rfl) : FT C W X (.Compare a [op] [b] pos) (toB (fCmpT c n df neg fa fb)) :=
  PT.imp (pt_cmpR ho ha hb hm) fun _ _ _ q => tTest_of (fun _ _ _ z => tCmpT_of z) trivial q
end
end DL
namespace DL
open PySem L2
def b_Book___sub__ : S := (sSeq (sFrz 2 (fLc [3] (fiA (fFld 0 ["sort_rows", "word_rows", "own_memory"] 1 (fV 0))) (.nm 3) (toB (fOp neD (fOp ixD (fV 3) (fC (.int 0))) (fV 1))) (fV 3)))
    (sSeq (sIf (toB (fOp eqD (fCall1 lenD (fV 2)) (fCall1 lenD (fFld 0 ["sort_rows", "word_rows", "own_memory"] 1 (fV 0))))) (sRaise1 41 "name" "UnknownWord" (fV 1)) SR.nx)
    (sRet (fNewIX 0 3 1 4 m_Book___init__ [0, 1, 2, 3] [] (fCons (fFld 0 ["sort_rows", "word_rows", "own_memory"] 0 (fV 0)) (fCons (fV 2) fNil)) (fCons (fFld 0 ["sort_rows", "word_rows", "own_memory"] 2 (fV 0)) fNil)))))
def m_Book___sub__ : DF := runD 4 b_Book___sub__
def b_Book___add__ : S := (sRet (fNewIX 0 3 1 4 m_Book___init__ [0, 1, 2, 3] [] (fCons (fFld 0 ["sort_rows", "word_rows", "own_memory"] 0 (fV 0)) (fCons (fFrz (fLstN (fStar (fFld 0 ["sort_rows", "word_rows", "own_memory"] 1 (fV 0)) (fCons (fV 1) fNil)))) fNil)) (fCons (fFld 0 ["sort_rows", "word_rows", "own_memory"] 2 (fV 0)) fNil)))
def m_Book___add__ : DF := runD 2 b_Book___add__
def b_Book_with_memory : S := (sRet (fNewIX 0 3 1 4 m_Book___init__ [0, 1, 2, 3] [] (fCons (fFld 0 ["sort_rows", "word_rows", "own_memory"] 0 (fV 0)) (fCons (fFld 0 ["sort_rows", "word_rows", "own_memory"] 1 (fV 0)) fNil)) (fCons (fV 1) fNil)))
def m_Book_with_memory : DF := runD 2 b_Book_with_memory
def b_Book_sorts : S := (sRet (fFrz (fListN (fFld 0 ["sort_rows", "word_rows", "own_memory"] 0 (fV 0)))))
def m_Book_sorts : DF := runD 1 b_Book_sorts
def b_Book_words : S := (sRet (fFrz (fListN (fFld 0 ["sort_rows", "word_rows", "own_memory"] 1 (fV 0)))))
def m_Book_words : DF := runD 1 b_Book_words
end DL
namespace DL
open PySem L2
section
variable {η : List O} {a : Nat} {ks : List (Str × Int)} {rs : List Row} {m m' : D}
theorem law_made_any (hm : MemAny m) (zk : ∀ k ∈ ks, k.1.length ≤ 1000) (zr : ∀ r ∈ rs, r.n.length ≤ 1000 ∧ r.st.length ≤ 100) :
    (bookErr ks rs m = none → m_law_made [bkT ks rs m] η = .ok (.obj η.length) (η ++ [.ins 0 NSB (bookD ks rs m), .lst ((rs.map (·.n)).map .str)])) ∧
    (∀ e, bookErr ks rs m = some e → ∃ t, m_law_made [bkT ks rs m] η = .exc (excB e).1 (excB e).2.1 (excB e).2.2 (η ++ t)) := by
  obtain ⟨h1, h2⟩ := book_init_any (η := η ++ [.ins 0 [] []]) (n := η.length) get_last ks rs hm zk zr
  have i0 : ixD (bkT ks rs m) (.int 0) = some (.lst (ks.map kd2)) := rfl
  have i1 : ixD (bkT ks rs m) (.int 1) = some (.lst (rs.map Row.d)) := rfl
  have i2 : ixD (bkT ks rs m) (.int 2) = some m := rfl
  refine ⟨fun h => ?_, fun e h => ?_⟩
  · have h1 := h1 h
    rw [set_last, List.append_assoc] at h1
    refine run_rt2 (δ := [some (.val (bkT ks rs m))]) rfl ?_
    unfold b_law_made
    generalize bookD ks rs m = BD at *
    generalize bkT ks rs m = P at *
    generalize ks.map kd2 = K at *
    generalize rs.map Row.d = R at *
    generalize (rs.map (·.n)).map D.str = WN at *
    simp [i0, i1, i2, h1]
  · obtain ⟨t, h2⟩ := h2 e h
    refine ⟨[.ins 0 [] []] ++ t, ?_⟩
    rw [List.append_assoc] at h2
    refine run_ex2 (δ := [some (.val (bkT ks rs m))]) rfl (δ' := [some (.val (bkT ks rs m))]) ?_
    unfold b_law_made
    generalize bkT ks rs m = P at *
    generalize ks.map kd2 = K at *
    generalize rs.map Row.d = R at *
    simp [i0, i1, i2, h2]
theorem book_add_any (ha : η[a]? = some (.ins 0 NSB [.lst (ks.map kd2), .lst (rs.map Row.d), m])) {r' : Row} (hl : rs.length ≤ 100) (hm : MemAny m) (zk : ∀ k ∈ ks, k.1.length ≤ 1000) (zr : ∀ r ∈ rs ++ [r'], r.n.length ≤ 1000 ∧ r.st.length ≤ 100) :
    (bookErr ks (rs ++ [r']) m = none → m_Book___add__ [.obj a, r'.d] η = .ok (.obj η.length) (η ++ [.ins 0 NSB (bookD ks (rs ++ [r']) m), .lst (((rs ++ [r']).map (·.n)).map .str)])) ∧
    (∀ e, bookErr ks (rs ++ [r']) m = some e → ∃ t, m_Book___add__ [.obj a, r'.d] η = .exc (excB e).1 (excB e).2.1 (excB e).2.2 (η ++ t)) := by
  obtain ⟨h1, h2⟩ := book_init_any (η := η ++ [.ins 0 [] []]) (n := η.length) get_last ks (rs ++ [r']) hm zk zr
  have cat : rs.map Row.d ++ [r'.d] = (rs ++ [r']).map Row.d := by simp
  have z : (rs.map Row.d ++ [r'.d]).length ≤ sizeLine := sz _ (by simp; omega)
  refine ⟨fun h => ?_, fun e h => ?_⟩
  · have h1 := h1 h
    rw [set_last, List.append_assoc] at h1
    refine run_rt2 (δ := [some (.val (.obj a)), some (.val r'.d)]) rfl ?_
    unfold b_Book___add__
    rw [← cat] at h1
    generalize bookD ks (rs ++ [r']) m = BD at *
    generalize ks.map kd2 = K at *
    generalize rs.map Row.d = R at *
    generalize ((rs ++ [r']).map (·.n)).map D.str = WN at *
    have z : R.length + 1 ≤ sizeLine := by simpa using z
    simp [ha, z, h1]
  · obtain ⟨t, h2⟩ := h2 e h
    refine ⟨[.ins 0 [] []] ++ t, ?_⟩
    rw [List.append_assoc] at h2
    refine run_ex2 (δ := [some (.val (.obj a)), some (.val r'.d)]) rfl (δ' := [some (.val (.obj a)), some (.val r'.d)]) ?_
    unfold b_Book___add__
    rw [← cat] at h2
    generalize ks.map kd2 = K at *
    generalize rs.map Row.d = R at *
    have z : R.length + 1 ≤ sizeLine := by simpa using z
    simp [ha, z, h2]
theorem book_mem_any (ha : η[a]? = some (.ins 0 NSB [.lst (ks.map kd2), .lst (rs.map Row.d), m])) (hm : MemAny m') (zk : ∀ k ∈ ks, k.1.length ≤ 1000) (zr : ∀ r ∈ rs, r.n.length ≤ 1000 ∧ r.st.length ≤ 100) :
    (bookErr ks rs m' = none → m_Book_with_memory [.obj a, m'] η = .ok (.obj η.length) (η ++ [.ins 0 NSB (bookD ks rs m'), .lst ((rs.map (·.n)).map .str)])) ∧
    (∀ e, bookErr ks rs m' = some e → ∃ t, m_Book_with_memory [.obj a, m'] η = .exc (excB e).1 (excB e).2.1 (excB e).2.2 (η ++ t)) := by
  obtain ⟨h1, h2⟩ := book_init_any (η := η ++ [.ins 0 [] []]) (n := η.length) get_last ks rs hm zk zr
  refine ⟨fun h => ?_, fun e h => ?_⟩
  · have h1 := h1 h
    rw [set_last, List.append_assoc] at h1
    refine run_rt2 (δ := [some (.val (.obj a)), some (.val m')]) rfl ?_
    unfold b_Book_with_memory
    generalize bookD ks rs m' = BD at *
    generalize ks.map kd2 = K at *
    generalize rs.map Row.d = R at *
    generalize (rs.map (·.n)).map D.str = WN at *
    simp [ha, h1]
  · obtain ⟨t, h2⟩ := h2 e h
    refine ⟨[.ins 0 [] []] ++ t, ?_⟩
    rw [List.append_assoc] at h2
    refine run_ex2 (δ := [some (.val (.obj a)), some (.val m')]) rfl (δ' := [some (.val (.obj a)), some (.val m')]) ?_
    unfold b_Book_with_memory
    generalize ks.map kd2 = K at *
    generalize rs.map Row.d = R at *
    simp [ha, h2]
theorem book_sorts_ok {l0 l1 : List D} (ha : η[a]? = some (.ins 0 NSB [.lst l0, .lst l1, m])) : m_Book_sorts [.obj a] η = .ok (.lst l0) η := by
  refine run_rt2 (δ := [some (.val (.obj a))]) rfl ?_
  unfold b_Book_sorts
  simp [ha]
theorem book_words_ok {l0 l1 : List D} (ha : η[a]? = some (.ins 0 NSB [.lst l0, .lst l1, m])) : m_Book_words [.obj a] η = .ok (.lst l1) η := by
  refine run_rt2 (δ := [some (.val (.obj a))]) rfl ?_
  unfold b_Book_words
  simp [ha]
/-- the rows that stay -/
def rowsNot (rs : List Row) (z : Str) : List Row := rs.filter fun r => !decide (r.n = z)
theorem rowsNot_len {z : Str} : (rowsNot rs z).length = rs.length ↔ z ∉ rs.map (·.n) := by
  unfold rowsNot
  rw [List.length_filter_eq_length_iff]
  constructor
  · intro h hz
    obtain ⟨r, hr, e⟩ := List.mem_map.mp hz
    have := h r hr
    simp [e] at this
  · intro h r hr
    have : r.n ≠ z := fun e => h (List.mem_map.mpr ⟨r, hr, e⟩)
    simp [this]
theorem not_comp {δw : En} {t : Tg} {i j : Nat} {z : Str} (hz : ∀ x : D, ∃ δ1, asg t x δw = some δ1 ∧ fV i δ1 η = .ok x η ∧ fV j δ1 η = .ok (.str z) η) :
    compF t (toB (fOp neD (fOp ixD (fV i) (fC (.int 0))) (fV j))) (fV i) δw (rs.map Row.d) η = .ok ((rowsNot rs z).map Row.d) η := by
  have := comp_filter (t := t) (ft := toB (fOp neD (fOp ixD (fV i) (fC (.int 0))) (fV j))) (fe := fV i) (δw := δw) (η := η) (fun d => match d with | .tup (.str n :: _) => !decide (n = z) | _ => false) (fun d => d) (ds := rs.map Row.d) fun x hx => by
    obtain ⟨r, _, rfl⟩ := List.mem_map.mp hx
    obtain ⟨δ1, e1, e2, e3⟩ := hz r.d
    refine ⟨δ1, e1, ?_, fun _ => e2⟩
    have hi : ixD r.d (.int 0) = some (.str r.n) := rfl
    rw [toB_a, fOp_a, fOp_a, e2, bind_ok, fC_a, bind_ok, hi, lift_some, bind_ok, e3, bind_ok, neD_ss, lift_some, bind_ok]
    rfl
  rw [this, List.map_id', List.filter_map]
  rfl
theorem book_sub_ok (ha : η[a]? = some (.ins 0 NSB [.lst (ks.map kd2), .lst (rs.map Row.d), m])) {z : Str} (hk : KindsOk ks) (hr : RowsOk (ks.map (·.1)) rs) (hm : MemOk m) :
    (z ∈ rs.map (·.n) → m_Book___sub__ [.obj a, .str z] η = .ok (.obj η.length) (η ++ [.ins 0 NSB (bookD ks (rowsNot rs z) m), .lst (((rowsNot rs z).map (·.n)).map .str)])) ∧
    (z ∉ rs.map (·.n) → m_Book___sub__ [.obj a, .str z] η = .exc 41 ["name", "code"] [.str z, .str "UnknownWord"] η) := by
  have hr2 : RowsOk (ks.map (·.1)) (rowsNot rs z) := ⟨Nat.le_trans (List.length_filter_le _ _) hr.l1, hr.nd.sublist (List.filter_sublist.map _), fun r h => hr.ok r (List.mem_filter.mp h).1⟩
  have e := book_init_ok (η := η ++ [.ins 0 [] []]) (n := η.length) (ks := ks) (rs := rowsNot rs z) (m := m) get_last hk hr2 hm
  rw [set_last, List.append_assoc] at e
  have hc : compF (.nm 3) (toB (fOp neD (fOp ixD (fV 3) (fC (.int 0))) (fV 1))) (fV 3) (wipeD [some (.val (.obj a)), some (.val (.str z)), none, none] [3]) (rs.map Row.d) η = .ok ((rowsNot rs z).map Row.d) η := by
    exact not_comp fun x => ⟨_, asg_nm, by simp [wipeD], by simp [wipeD]⟩
  have l1 : (((rowsNot rs z).map Row.d).length : Int) = (rowsNot rs z).length := by rw [List.length_map]
  have l2 : ((rs.map Row.d).length : Int) = rs.length := by rw [List.length_map]
  refine ⟨fun h => ?_, fun h => ?_⟩
  · have hn : ¬ ((rowsNot rs z).length : Int) = (rs.length : Int) := fun q => rowsNot_len.mp (by omega) h
    refine run_rt2 (δ := [some (.val (.obj a)), some (.val (.str z)), none, none]) rfl ?_
    unfold b_Book___sub__
    generalize bookD ks (rowsNot rs z) m = BD at *
    generalize ks.map kd2 = K at *
    generalize rs.map Row.d = R at *
    generalize (rowsNot rs z).map Row.d = R2 at *
    generalize ((rowsNot rs z).map (·.n)).map D.str = WN at *
    simp [ha, hc, l1, l2, hn, e]
  · have hn : ((rowsNot rs z).length : Int) = (rs.length : Int) := by rw [rowsNot_len.mpr h]
    have hd : ∃ δ', b_Book___sub__ [some (.val (.obj a)), some (.val (.str z)), none, none] η = .exc 41 ["name", "code"] [.str z, .str "UnknownWord"] δ' η := by
      unfold b_Book___sub__
      generalize ks.map kd2 = K at *
      generalize rs.map Row.d = R at *
      generalize (rowsNot rs z).map Row.d = R2 at *
      simp [ha, hc, l1, l2, hn]
    obtain ⟨δ', hd⟩ := hd
    exact run_ex2 (δ := [some (.val (.obj a)), some (.val (.str z)), none, none]) rfl (δ' := δ') hd
end
end DL
namespace DL
open PySem L2
theorem badSort_ok : ∀ (l : List (Str × Int)) (e : List Str) (n : Nat), (∀ k ∈ l, nameB k.1 = true ∧ 0 ≤ k.2 ∧ k.2 ≤ 99 ∧ k.1 ∉ e) → (l.map (·.1)).Nodup → badSort e l n = none
  | [], _, _, _, _ => rfl
  | k :: l, e, n, h, nd => by
    rw [List.map_cons, List.nodup_cons] at nd
    have hk := h k (List.mem_cons_self ..)
    rw [badSort, if_pos]
    · refine badSort_ok l _ _ (fun q hq => ?_) nd.2
      have := h q (List.mem_cons_of_mem _ hq)
      refine ⟨this.1, this.2.1, this.2.2.1, fun z => ?_⟩
      rcases List.mem_append.mp z with z | z
      · exact this.2.2.2 z
      · rw [List.mem_singleton] at z
        exact nd.1 (List.mem_map.mpr ⟨q, hq, z⟩)
    · unfold sortB
      simp [hk.1, hk.2.1, hk.2.2.1, hk.2.2.2]
theorem badWord_app {names : List Str} : ∀ (l : List Row) (r : Row) (e : List Str) (n : Nat), badWord names e l n = none → badWord names e (l ++ [r]) n = if wordB names (e ++ l.map (·.n)) r = true then none else some (n + l.length)
  | [], r, e, n, _ => by
    show badWord names e [r] n = _
    rw [badWord, List.map_nil, List.append_nil]
    rfl
  | x :: l, r, e, n, h => by
    rw [badWord] at h
    rw [List.cons_append, badWord]
    split at h
    · rename_i hx
      rw [if_pos hx, badWord_app l r _ _ h, List.map_cons, List.append_assoc, List.length_cons, show n + 1 + l.length = n + (l.length + 1) by omega]
      rfl
    · cases h
theorem wordB_ok {names e : List Str} {r : Row} (h : RowOk names e r) : wordB names e r = true := by
  have hc : cnt r.st r.st.length = r.st.length := cnt_nodup h.nd (Nat.le_refl _)
  unfold wordB
  rw [hc]
  have := h.mem
  simp [h.nm.1, h.new, h.p0, h.p1, h.ne]
  exact fun x hx => this x hx
theorem badWord_ok {names : List Str} : ∀ (l : List Row) (e : List Str) (n : Nat), (∀ r ∈ l, RowOk names [] r ∧ r.n ∉ e) → (l.map (·.n)).Nodup → badWord names e l n = none
  | [], _, _, _, _ => rfl
  | r :: l, e, n, h, nd => by
    rw [List.map_cons, List.nodup_cons] at nd
    have hr := h r (List.mem_cons_self ..)
    have h1 : RowOk names e r := ⟨hr.1.nm, hr.2, hr.1.p0, hr.1.p1, hr.1.ne, hr.1.mem, hr.1.nd, hr.1.few⟩
    rw [badWord, if_pos (wordB_ok h1)]
    refine badWord_ok l _ _ (fun q hq => ⟨(h q (List.mem_cons_of_mem _ hq)).1, fun z => ?_⟩) nd.2
    rcases List.mem_append.mp z with z | z
    · exact (h q (List.mem_cons_of_mem _ hq)).2 z
    · rw [List.mem_singleton] at z
      exact nd.1 (List.mem_map.mpr ⟨q, hq, z⟩)
theorem memB_ok {m : D} (h : MemOk m) : memB m = true := by
  cases h with
  | non => rfl
  | int a b => simp [memB, a, b]
theorem MemOk.any {m : D} (h : MemOk m) : MemAny m := by cases h <;> constructor
section
variable {ks : List (Str × Int)} {rs : List Row} {m : D}
theorem sorts_ok (h : KindsOk ks) : badSort [] ks 0 = none := badSort_ok ks [] 0 (fun k hk => ⟨(h.ok k hk).1, (h.ok k hk).2.2.1, (h.ok k hk).2.2.2, by simp⟩) h.nd
theorem words_ok {names : List Str} (h : RowsOk names rs) : badWord names [] rs 0 = none := badWord_ok rs [] 0 (fun r hr => ⟨h.ok r hr, by simp⟩) h.nd
theorem err_mem {m' : D} (hk : KindsOk ks) (hr : RowsOk (ks.map (·.1)) rs) : bookErr ks rs m' = if memB m' = true then none else some (.mem m') := by
  unfold bookErr
  rw [if_pos ⟨hk.l0, hk.l1⟩, sorts_ok hk]
  dsimp only
  rw [if_pos hr.l1, words_ok hr]
theorem err_none (hk : KindsOk ks) (hr : RowsOk (ks.map (·.1)) rs) (hm : MemOk m) : bookErr ks rs m = none := by rw [err_mem hk hr, if_pos (memB_ok hm)]
theorem err_add {r' : Row} (hk : KindsOk ks) (hr : RowsOk (ks.map (·.1)) rs) (hm : MemOk m) : bookErr ks (rs ++ [r']) m = if rs.length ≤ 3 then (if wordB (ks.map (·.1)) (rs.map (·.n)) r' = true then none else some (.word rs.length)) else some (.cnt "words") := by
  unfold bookErr
  rw [if_pos ⟨hk.l0, hk.l1⟩, sorts_ok hk]
  dsimp only
  rw [List.length_append, List.length_singleton]
  by_cases h : rs.length ≤ 3
  · rw [if_pos (by omega), if_pos h, badWord_app rs r' [] 0 (words_ok hr), List.nil_append, Nat.zero_add]
    by_cases w : wordB (ks.map (·.1)) (rs.map (·.n)) r' = true
    · rw [if_pos w, if_pos w]; dsimp only; rw [if_pos (memB_ok hm)]
    · rw [if_neg w, if_neg w]
  · rw [if_neg (by omega), if_neg h]
theorem kinds_len (hk : KindsOk ks) : ∀ k ∈ ks, k.1.length ≤ 1000 := fun k h => by have := (hk.ok k h).2.1; omega
theorem rows_len {names : List Str} (h : RowsOk names rs) : ∀ r ∈ rs, r.n.length ≤ 1000 ∧ r.st.length ≤ 100 := fun r hr => ⟨by have := (h.ok r hr).nm.2; omega, (h.ok r hr).few⟩
theorem rowsNot_ok {names : List Str} (hr : RowsOk names rs) {z : Str} : RowsOk names (rowsNot rs z) := ⟨Nat.le_trans (List.length_filter_le _ _) hr.l1, hr.nd.sublist (List.filter_sublist.map _), fun r h => hr.ok r (List.mem_filter.mp h).1⟩
end
mutual
theorem sam_of : ∀ (n : Nat) (d : D), pureD n d = true → samB (n + 1) d = true
  | _, .non, _ => rfl
  | _, .bl _, _ => rfl
  | _, .int _, _ => rfl
  | _, .str _, _ => rfl
  | 0, .lst _, h => by simp [pureD] at h
  | 0, .tup _, h => by simp [pureD] at h
  | n + 1, .lst l, h => by rw [pureD] at h; rw [samB]; exact sams_of n l h
  | n + 1, .tup l, h => by rw [pureD] at h; rw [samB]; exact sams_of n l h
  | n, .ins _ _ _, h => by cases n <;> simp [pureD] at h
  | n, .obj _, h => by cases n <;> simp [pureD] at h
  | n, .exn _ _ _, h => by cases n <;> simp [pureD] at h
theorem sams_of : ∀ (n : Nat) (l : List D), pureDs n l = true → samL (n + 1) l = true
  | _, [], _ => rfl
  | n, d :: l, h => by
    rw [pureDs, Bool.and_eq_true] at h
    rw [samL, sam_of n d h.1, sams_of n l h.2]; rfl
end
theorem sam12 {d : D} (h : pureD 11 d = true) : samB 12 d = true := sam_of 11 d h
end DL
namespace Law
open PySem L2 DL
structure Tbs (base : Heap) (mg : Str → Option Value) (ca : Nat → Addr) (tb : Str → Addr) : Prop where
  u_law : LamX.TabB base mg (ca 0) (tb "law.<locals>.<lambda>")
def top (i : Nat) : Stmt := PySem.Challenge.pw_lastheard_k05_books_changed.main.body.getD i (.Pass ⟨0, 0, 0, 0⟩)
abbrev s_law_feed : Stmt := top 18
theorem sc_law_feed : FnScope ["_law_script", "_law_seed", "_law_cell"] ["_law_script"] (defScope s_law_feed) := ⟨rfl, rfl, rfl, by decide +kernel, rfl, by decide +kernel, by decide +kernel⟩
abbrev s_law_pick : Stmt := top 19
theorem sc_law_pick : FnScope ["_law_feed_here", "_law_many", "_law_cell", "_law_digit", "_law_root", "_law_big"] ["_law_feed_here", "_law_many"] (defScope s_law_pick) := ⟨rfl, rfl, rfl, by decide +kernel, rfl, by decide +kernel, by decide +kernel⟩
abbrev s_law_mixed : Stmt := top 24
theorem sc_law_mixed : FnScope ["_law_feed_here", "_law_some", "_law_found", "_law_one"] ["_law_feed_here", "_law_some"] (defScope s_law_mixed) := ⟨rfl, rfl, rfl, by decide +kernel, rfl, by decide +kernel, by decide +kernel⟩
abbrev s_law_of : Stmt := top 20
theorem sc_law_of : FnScope ["_law_feed_here", "_law_some"] ["_law_feed_here", "_law_some"] (defScope s_law_of) := ⟨rfl, rfl, rfl, by decide +kernel, rfl, by decide +kernel, by decide +kernel⟩
abbrev s_law_names : Stmt := top 25
theorem sc_law_names : FnScope ["_law_feed_here", "_law_many", "_law_letters", "_law_stem", "_law_spot", "_law_sign", "_law_k"] ["_law_feed_here", "_law_many"] (defScope s_law_names) := ⟨rfl, rfl, rfl, by decide +kernel, rfl, by decide +kernel, by decide +kernel⟩
abbrev s_law_book : Stmt := top 26
theorem sc_law_book : FnScope ["_law_feed_here", "_law_names_here", "_law_most", "_law_kinds", "_law_rows", "_law_name", "_law_stands", "_law_kind"] ["_law_feed_here", "_law_names_here", "_law_most"] (defScope s_law_book) := ⟨rfl, rfl, rfl, by decide +kernel, rfl, by decide +kernel, by decide +kernel⟩
abbrev s_is_name : Stmt := top 14
theorem sc_is_name : FnScope ["text", "sign"] ["text"] (defScope s_is_name) := ⟨rfl, rfl, rfl, by decide +kernel, rfl, by decide +kernel, by decide +kernel⟩
abbrev s_is_word_row : Stmt := top 15
theorem sc_is_word_row : FnScope ["row", "sort_names", "earlier", "name", "stands", "price", "sort"] ["row", "sort_names", "earlier"] (defScope s_is_word_row) := ⟨rfl, rfl, rfl, by decide +kernel, rfl, by decide +kernel, by decide +kernel⟩
abbrev s_Book___init__ : Stmt := inClass (top 16) 3
theorem sc_Book___init__ : FnScope ["self", "sorts", "words", "memory", "names", "at", "name", "price", "earlier", "row", "stands", "sort"] ["self", "sorts", "words", "memory"] (defScope s_Book___init__) := ⟨rfl, rfl, rfl, by decide +kernel, rfl, by decide +kernel, by decide +kernel⟩
abbrev s_law_made : Stmt := top 27
theorem sc_law_made : FnScope ["_law_b"] ["_law_b"] (defScope s_law_made) := ⟨rfl, rfl, rfl, by decide +kernel, rfl, by decide +kernel, by decide +kernel⟩
abbrev s_Book___eq__ : Stmt := inClass (top 16) 19
theorem sc_Book___eq__ : FnScope ["self", "other"] ["self", "other"] (defScope s_Book___eq__) := ⟨rfl, rfl, rfl, by decide +kernel, rfl, by decide +kernel, by decide +kernel⟩
abbrev s_law_field : Stmt := top 22
theorem sc_law_field : FnScope ["_law_e"] ["_law_e"] (defScope s_law_field) := ⟨rfl, rfl, rfl, by decide +kernel, rfl, by decide +kernel, by decide +kernel⟩
abbrev s_law_why : Stmt := top 23
theorem sc_law_why : FnScope ["_law_deed", "_law_told", "_law_e"] ["_law_deed"] (defScope s_law_why) := ⟨rfl, rfl, rfl, by decide +kernel, rfl, by decide +kernel, by decide +kernel⟩
abbrev s_Book___sub__ : Stmt := inClass (top 16) 16
theorem sc_Book___sub__ : FnScope ["self", "word", "kept", "row"] ["self", "word"] (defScope s_Book___sub__) := ⟨rfl, rfl, rfl, by decide +kernel, rfl, by decide +kernel, by decide +kernel⟩
abbrev s_Book___add__ : Stmt := inClass (top 16) 15
theorem sc_Book___add__ : FnScope ["self", "row"] ["self", "row"] (defScope s_Book___add__) := ⟨rfl, rfl, rfl, by decide +kernel, rfl, by decide +kernel, by decide +kernel⟩
abbrev s_Book_with_memory : Stmt := inClass (top 16) 14
theorem sc_Book_with_memory : FnScope ["self", "value"] ["self", "value"] (defScope s_Book_with_memory) := ⟨rfl, rfl, rfl, by decide +kernel, rfl, by decide +kernel, by decide +kernel⟩
abbrev s_law_same : Stmt := top 21
theorem sc_law_same : FnScope ["_law_found", "_law_due", "_law_one", "_law_two"] ["_law_found", "_law_due"] (defScope s_law_same) := ⟨rfl, rfl, rfl, by decide +kernel, rfl, by decide +kernel, by decide +kernel⟩
abbrev s_Book_sorts : Stmt := inClass (top 16) 5
theorem sc_Book_sorts : FnScope ["self"] ["self"] (defScope s_Book_sorts) := ⟨rfl, rfl, rfl, by decide +kernel, rfl, by decide +kernel, by decide +kernel⟩
abbrev s_Book_words : Stmt := inClass (top 16) 6
theorem sc_Book_words : FnScope ["self"] ["self"] (defScope s_Book_words) := ⟨rfl, rfl, rfl, by decide +kernel, rfl, by decide +kernel, by decide +kernel⟩
abbrev s_Book_memory : Stmt := inClass (top 16) 4
theorem sc_Book_memory : FnScope ["self"] ["self"] (defScope s_Book_memory) := ⟨rfl, rfl, rfl, by decide +kernel, rfl, by decide +kernel, by decide +kernel⟩
abbrev s_law : Stmt := top 28
theorem sc_law : FnScope ["_law_script", "_law_feed_here", "_law_turn", "_law_labels", "_law_b", "_law_made_here", "_law_known", "_law_tokens", "_law_name", "_law_kept", "_law_due", "_law_more", "_law_told", "_law_keep", "_law_stands", "_law_price", "_law_triple"] ["_law_script"] (defScope s_law) := ⟨rfl, rfl, rfl, by decide +kernel, rfl, by decide +kernel, by decide +kernel⟩
abbrev sx_WrongCount : Stmt := inClass (top 4) 0
abbrev sx_InvalidSort : Stmt := inClass (top 5) 0
abbrev sx_InvalidWord : Stmt := inClass (top 6) 0
abbrev sx_InvalidMemory : Stmt := inClass (top 7) 0
abbrev sx_UnknownWord : Stmt := inClass (top 8) 0
structure Txt (P : Program) (K : PySem.W.Frag) (mg : Str → Option Value) (a : Nat → Addr) (fd : Nat → FuncData) (cl : Nat → Addr) (ca : Nat → Addr) : Prop where
  f_TellError : mg "TellError" = some (.ref (cl 46))
  f_Missing : mg "Missing" = some (.ref (cl 47))
  f_NothingLeft : mg "NothingLeft" = some (.ref (cl 45))
  x_WrongCount : ExR P K mg (cl 20) "WrongCount" ["what"]
  x_InvalidSort : ExR P K mg (cl 21) "InvalidSort" ["at"]
  x_InvalidWord : ExR P K mg (cl 22) "InvalidWord" ["at"]
  x_InvalidMemory : ExR P K mg (cl 23) "InvalidMemory" ["given"]
  x_UnknownWord : ExR P K mg (cl 41) "UnknownWord" ["name"]
  xg_InvalidMemory_code : XGet K (cl 23) "code"
  xg_InvalidMemory_given : XGet K (cl 23) "given"
  xg_InvalidSort_at : XGet K (cl 21) "at"
  xg_InvalidSort_code : XGet K (cl 21) "code"
  xg_InvalidWord_at : XGet K (cl 22) "at"
  xg_InvalidWord_code : XGet K (cl 22) "code"
  xg_UnknownWord_code : XGet K (cl 41) "code"
  xg_UnknownWord_name : XGet K (cl 41) "name"
  xg_WrongCount_code : XGet K (cl 20) "code"
  xg_WrongCount_what : XGet K (cl 20) "what"
  xm_WrongCount : PySem.W.exmAny K (.ref (cl 20)) [.ref (cl 46), .ref (cl 47), .ref (cl 45)] = some true
  xm_InvalidSort : PySem.W.exmAny K (.ref (cl 21)) [.ref (cl 46), .ref (cl 47), .ref (cl 45)] = some true
  xm_InvalidWord : PySem.W.exmAny K (.ref (cl 22)) [.ref (cl 46), .ref (cl 47), .ref (cl 45)] = some true
  xm_InvalidMemory : PySem.W.exmAny K (.ref (cl 23)) [.ref (cl 46), .ref (cl 47), .ref (cl 45)] = some true
  xm_UnknownWord : PySem.W.exmAny K (.ref (cl 41)) [.ref (cl 46), .ref (cl 47), .ref (cl 45)] = some true
  b_all : mg "all" = none
  b_bool : mg "bool" = none
  b_enumerate : mg "enumerate" = none
  b_int : mg "int" = none
  b_isinstance : mg "isinstance" = none
  b_len : mg "len" = none
  b_list : mg "list" = none
  b_range : mg "range" = none
  b_set : mg "set" = none
  b_str : mg "str" = none
  b_tuple : mg "tuple" = none
  b_zip : mg "zip" = none
  e_LETTERS : ∃ t : Tok, mg "LETTERS" = some (.str "abcdefghijklmnopqrstuvwxyz" t)
  e_MOST_SIGNS : ∃ t : Tok, mg "MOST_SIGNS" = some (.int 8 t)
  e_MOST_MEMORY : ∃ t : Tok, mg "MOST_MEMORY" = some (.int 4 t)
  g_Book : mg "Book" = some (.ref (cl 0))
  c_Book : Cls K (cl 0)
  M_Book : Mk K (cl 0) (a 8)
  i_Book : C8.InsC K (cl 0)
  r_Book : ClX.CRead K (cl 0) (.type "type")
  s_Book : PySem.W.selfFirst K (cl 0) = true
  ne_Book : PySem.W.findIn K (.ref (cl 0)) "__ne__" = some (some (.builtin "object.__ne__"))
  n_Book_own_memory : NoAttr K (cl 0) "own_memory"
  n_Book_sort_rows : NoAttr K (cl 0) "sort_rows"
  n_Book_word_rows : NoAttr K (cl 0) "word_rows"
  v_Book_MOST_PRICE : ∃ t : Tok, ClX.CVal K (cl 0) (.type "type") "MOST_PRICE" (.int 99) (.int 99 t)
  v_Book_MOST_SORTS : ∃ t : Tok, ClX.CVal K (cl 0) (.type "type") "MOST_SORTS" (.int 4) (.int 4 t)
  v_Book_MOST_WORDS : ∃ t : Tok, ClX.CVal K (cl 0) (.type "type") "MOST_WORDS" (.int 4) (.int 4 t)
  f_law_feed : mg "_law_feed" = some (.ref (a 0))
  F_law_feed : FunG K "_law_feed" "_law_feed" s_law_feed (a 0) (fd 0)
  B_law_feed : Binds K (fd 0) ["_law_script"] []
  f_law_pick : mg "_law_pick" = some (.ref (a 1))
  F_law_pick : FunG K "_law_pick" "_law_pick" s_law_pick (a 1) (fd 1)
  B_law_pick : Binds K (fd 1) ["_law_feed_here", "_law_many"] []
  f_law_mixed : mg "_law_mixed" = some (.ref (a 2))
  F_law_mixed : FunG K "_law_mixed" "_law_mixed" s_law_mixed (a 2) (fd 2)
  B_law_mixed : Binds K (fd 2) ["_law_feed_here", "_law_some"] []
  f_law_of : mg "_law_of" = some (.ref (a 3))
  F_law_of : FunG K "_law_of" "_law_of" s_law_of (a 3) (fd 3)
  B_law_of : Binds K (fd 3) ["_law_feed_here", "_law_some"] []
  f_law_names : mg "_law_names" = some (.ref (a 4))
  F_law_names : FunG K "_law_names" "_law_names" s_law_names (a 4) (fd 4)
  B_law_names : Binds K (fd 4) ["_law_feed_here", "_law_many"] []
  f_law_book : mg "_law_book" = some (.ref (a 5))
  F_law_book : FunG K "_law_book" "_law_book" s_law_book (a 5) (fd 5)
  B_law_book : Binds K (fd 5) ["_law_feed_here", "_law_names_here", "_law_most"] []
  f_is_name : mg "is_name" = some (.ref (a 6))
  F_is_name : FunG K "is_name" "is_name" s_is_name (a 6) (fd 6)
  B_is_name : Binds K (fd 6) ["text"] []
  f_is_word_row : mg "is_word_row" = some (.ref (a 7))
  F_is_word_row : FunG K "is_word_row" "is_word_row" s_is_word_row (a 7) (fd 7)
  B_is_word_row : Binds K (fd 7) ["row", "sort_names", "earlier"] []
  m_Book___init__ : Meth K (cl 0) "__init__" (a 8)
  F_Book___init__ : FunG K "__init__" "Book.__init__" s_Book___init__ (a 8) (fd 8)
  f_law_made : mg "_law_made" = some (.ref (a 9))
  F_law_made : FunG K "_law_made" "_law_made" s_law_made (a 9) (fd 9)
  B_law_made : Binds K (fd 9) ["_law_b"] []
  m_Book___eq__ : Meth K (cl 0) "__eq__" (a 10)
  F_Book___eq__ : FunG K "__eq__" "Book.__eq__" s_Book___eq__ (a 10) (fd 10)
  B_Book___eq__ : Binds K (fd 10) ["self", "other"] []
  f_law_field : mg "_law_field" = some (.ref (a 11))
  F_law_field : FunG K "_law_field" "_law_field" s_law_field (a 11) (fd 11)
  B_law_field : Binds K (fd 11) ["_law_e"] []
  f_law_why : mg "_law_why" = some (.ref (a 12))
  F_law_why : FunG K "_law_why" "_law_why" s_law_why (a 12) (fd 12)
  B_law_why : Binds K (fd 12) ["_law_deed"] []
  m_Book___sub__ : Meth K (cl 0) "__sub__" (a 13)
  F_Book___sub__ : FunG K "__sub__" "Book.__sub__" s_Book___sub__ (a 13) (fd 13)
  B_Book___sub__ : Binds K (fd 13) ["self", "word"] []
  m_Book___add__ : Meth K (cl 0) "__add__" (a 14)
  F_Book___add__ : FunG K "__add__" "Book.__add__" s_Book___add__ (a 14) (fd 14)
  B_Book___add__ : Binds K (fd 14) ["self", "row"] []
  m_Book_with_memory : Meth K (cl 0) "with_memory" (a 15)
  F_Book_with_memory : FunG K "with_memory" "Book.with_memory" s_Book_with_memory (a 15) (fd 15)
  B_Book_with_memory : Binds K (fd 15) ["self", "value"] []
  f_law_same : mg "_law_same" = some (.ref (a 16))
  F_law_same : FunG K "_law_same" "_law_same" s_law_same (a 16) (fd 16)
  B_law_same : Binds K (fd 16) ["_law_found", "_law_due"] []
  m_Book_sorts : Meth K (cl 0) "sorts" (a 17)
  F_Book_sorts : FunG K "sorts" "Book.sorts" s_Book_sorts (a 17) (fd 17)
  B_Book_sorts : Binds K (fd 17) ["self"] []
  m_Book_words : Meth K (cl 0) "words" (a 18)
  F_Book_words : FunG K "words" "Book.words" s_Book_words (a 18) (fd 18)
  B_Book_words : Binds K (fd 18) ["self"] []
  p_Book_memory : ∃ p, PropOf K (cl 0) "memory" p (a 19)
  F_Book_memory : FunG K "memory" "Book.memory" s_Book_memory (a 19) (fd 19)
  B_Book_memory : Binds K (fd 19) ["self"] []
  f_law : mg "law" = some (.ref (a 20))
  F_law : FunL K "law" "law" s_law (a 20) (fd 20) (ca 0)
  B_law : Binds K (fd 20) ["_law_script"] []
  D_Book___init___3_memory : KDx K (fd 8) ["self", "sorts", "words", "memory"] 3 ["memory"] [0, 1, 2, 3] []
  D_Book_with_memory_1_value : KDx K (fd 15) ["self", "value"] 1 ["value"] [0, 1] []
  D_Book_words_1 : KDx K (fd 18) ["self"] 1 [] [0] []
  D_Book_sorts_1 : KDx K (fd 17) ["self"] 1 [] [0] []
theorem Txt.k_law_feed {P : Program} {K : PySem.W.Frag} {mg : Str → Option Value} {a ca : Nat → Addr} {fd : Nat → FuncData} {cl : Nat → Addr} (T : Txt P K mg a fd cl ca) : PySem.W.keepIn K (.ref (a 0)) = true := T.F_law_feed.kp
theorem Txt.k_law_pick {P : Program} {K : PySem.W.Frag} {mg : Str → Option Value} {a ca : Nat → Addr} {fd : Nat → FuncData} {cl : Nat → Addr} (T : Txt P K mg a fd cl ca) : PySem.W.keepIn K (.ref (a 1)) = true := T.F_law_pick.kp
theorem Txt.k_law_mixed {P : Program} {K : PySem.W.Frag} {mg : Str → Option Value} {a ca : Nat → Addr} {fd : Nat → FuncData} {cl : Nat → Addr} (T : Txt P K mg a fd cl ca) : PySem.W.keepIn K (.ref (a 2)) = true := T.F_law_mixed.kp
theorem Txt.k_law_of {P : Program} {K : PySem.W.Frag} {mg : Str → Option Value} {a ca : Nat → Addr} {fd : Nat → FuncData} {cl : Nat → Addr} (T : Txt P K mg a fd cl ca) : PySem.W.keepIn K (.ref (a 3)) = true := T.F_law_of.kp
theorem Txt.k_law_names {P : Program} {K : PySem.W.Frag} {mg : Str → Option Value} {a ca : Nat → Addr} {fd : Nat → FuncData} {cl : Nat → Addr} (T : Txt P K mg a fd cl ca) : PySem.W.keepIn K (.ref (a 4)) = true := T.F_law_names.kp
theorem Txt.k_law_book {P : Program} {K : PySem.W.Frag} {mg : Str → Option Value} {a ca : Nat → Addr} {fd : Nat → FuncData} {cl : Nat → Addr} (T : Txt P K mg a fd cl ca) : PySem.W.keepIn K (.ref (a 5)) = true := T.F_law_book.kp
theorem Txt.k_is_name {P : Program} {K : PySem.W.Frag} {mg : Str → Option Value} {a ca : Nat → Addr} {fd : Nat → FuncData} {cl : Nat → Addr} (T : Txt P K mg a fd cl ca) : PySem.W.keepIn K (.ref (a 6)) = true := T.F_is_name.kp
theorem Txt.k_is_word_row {P : Program} {K : PySem.W.Frag} {mg : Str → Option Value} {a ca : Nat → Addr} {fd : Nat → FuncData} {cl : Nat → Addr} (T : Txt P K mg a fd cl ca) : PySem.W.keepIn K (.ref (a 7)) = true := T.F_is_word_row.kp
theorem Txt.k_Book___init__ {P : Program} {K : PySem.W.Frag} {mg : Str → Option Value} {a ca : Nat → Addr} {fd : Nat → FuncData} {cl : Nat → Addr} (T : Txt P K mg a fd cl ca) : PySem.W.keepIn K (.ref (a 8)) = true := T.F_Book___init__.kp
theorem Txt.k_law_made {P : Program} {K : PySem.W.Frag} {mg : Str → Option Value} {a ca : Nat → Addr} {fd : Nat → FuncData} {cl : Nat → Addr} (T : Txt P K mg a fd cl ca) : PySem.W.keepIn K (.ref (a 9)) = true := T.F_law_made.kp
theorem Txt.k_Book___eq__ {P : Program} {K : PySem.W.Frag} {mg : Str → Option Value} {a ca : Nat → Addr} {fd : Nat → FuncData} {cl : Nat → Addr} (T : Txt P K mg a fd cl ca) : PySem.W.keepIn K (.ref (a 10)) = true := T.F_Book___eq__.kp
theorem Txt.k_law_field {P : Program} {K : PySem.W.Frag} {mg : Str → Option Value} {a ca : Nat → Addr} {fd : Nat → FuncData} {cl : Nat → Addr} (T : Txt P K mg a fd cl ca) : PySem.W.keepIn K (.ref (a 11)) = true := T.F_law_field.kp
theorem Txt.k_law_why {P : Program} {K : PySem.W.Frag} {mg : Str → Option Value} {a ca : Nat → Addr} {fd : Nat → FuncData} {cl : Nat → Addr} (T : Txt P K mg a fd cl ca) : PySem.W.keepIn K (.ref (a 12)) = true := T.F_law_why.kp
theorem Txt.k_Book___sub__ {P : Program} {K : PySem.W.Frag} {mg : Str → Option Value} {a ca : Nat → Addr} {fd : Nat → FuncData} {cl : Nat → Addr} (T : Txt P K mg a fd cl ca) : PySem.W.keepIn K (.ref (a 13)) = true := T.F_Book___sub__.kp
theorem Txt.k_Book___add__ {P : Program} {K : PySem.W.Frag} {mg : Str → Option Value} {a ca : Nat → Addr} {fd : Nat → FuncData} {cl : Nat → Addr} (T : Txt P K mg a fd cl ca) : PySem.W.keepIn K (.ref (a 14)) = true := T.F_Book___add__.kp
theorem Txt.k_Book_with_memory {P : Program} {K : PySem.W.Frag} {mg : Str → Option Value} {a ca : Nat → Addr} {fd : Nat → FuncData} {cl : Nat → Addr} (T : Txt P K mg a fd cl ca) : PySem.W.keepIn K (.ref (a 15)) = true := T.F_Book_with_memory.kp
theorem Txt.k_law_same {P : Program} {K : PySem.W.Frag} {mg : Str → Option Value} {a ca : Nat → Addr} {fd : Nat → FuncData} {cl : Nat → Addr} (T : Txt P K mg a fd cl ca) : PySem.W.keepIn K (.ref (a 16)) = true := T.F_law_same.kp
theorem Txt.k_Book_sorts {P : Program} {K : PySem.W.Frag} {mg : Str → Option Value} {a ca : Nat → Addr} {fd : Nat → FuncData} {cl : Nat → Addr} (T : Txt P K mg a fd cl ca) : PySem.W.keepIn K (.ref (a 17)) = true := T.F_Book_sorts.kp
theorem Txt.k_Book_words {P : Program} {K : PySem.W.Frag} {mg : Str → Option Value} {a ca : Nat → Addr} {fd : Nat → FuncData} {cl : Nat → Addr} (T : Txt P K mg a fd cl ca) : PySem.W.keepIn K (.ref (a 18)) = true := T.F_Book_words.kp
theorem Txt.k_Book_memory {P : Program} {K : PySem.W.Frag} {mg : Str → Option Value} {a ca : Nat → Addr} {fd : Nat → FuncData} {cl : Nat → Addr} (T : Txt P K mg a fd cl ca) : PySem.W.keepIn K (.ref (a 19)) = true := T.F_Book_memory.kp
theorem Txt.k_law {P : Program} {K : PySem.W.Frag} {mg : Str → Option Value} {a ca : Nat → Addr} {fd : Nat → FuncData} {cl : Nat → Addr} (T : Txt P K mg a fd cl ca) : PySem.W.keepIn K (.ref (a 20)) = true := T.F_law.kp
noncomputable def tk_LETTERS {P : Program} {K : PySem.W.Frag} {mg : Str → Option Value} {a ca : Nat → Addr} {fd : Nat → FuncData} {cl : Nat → Addr} (T : Txt P K mg a fd cl ca) : Tok := T.e_LETTERS.choose
theorem Txt.g_LETTERS {P : Program} {K : PySem.W.Frag} {mg : Str → Option Value} {a ca : Nat → Addr} {fd : Nat → FuncData} {cl : Nat → Addr} (T : Txt P K mg a fd cl ca) : mg "LETTERS" = some (.str "abcdefghijklmnopqrstuvwxyz" (tk_LETTERS T)) := T.e_LETTERS.choose_spec
noncomputable def tk_MOST_SIGNS {P : Program} {K : PySem.W.Frag} {mg : Str → Option Value} {a ca : Nat → Addr} {fd : Nat → FuncData} {cl : Nat → Addr} (T : Txt P K mg a fd cl ca) : Tok := T.e_MOST_SIGNS.choose
theorem Txt.g_MOST_SIGNS {P : Program} {K : PySem.W.Frag} {mg : Str → Option Value} {a ca : Nat → Addr} {fd : Nat → FuncData} {cl : Nat → Addr} (T : Txt P K mg a fd cl ca) : mg "MOST_SIGNS" = some (.int 8 (tk_MOST_SIGNS T)) := T.e_MOST_SIGNS.choose_spec
noncomputable def tk_MOST_MEMORY {P : Program} {K : PySem.W.Frag} {mg : Str → Option Value} {a ca : Nat → Addr} {fd : Nat → FuncData} {cl : Nat → Addr} (T : Txt P K mg a fd cl ca) : Tok := T.e_MOST_MEMORY.choose
theorem Txt.g_MOST_MEMORY {P : Program} {K : PySem.W.Frag} {mg : Str → Option Value} {a ca : Nat → Addr} {fd : Nat → FuncData} {cl : Nat → Addr} (T : Txt P K mg a fd cl ca) : mg "MOST_MEMORY" = some (.int 4 (tk_MOST_MEMORY T)) := T.e_MOST_MEMORY.choose_spec
section
variable {P : Program} {w : World} {K : PySem.W.Frag} {mg : Str → Option Value} {base : Heap} {cl : Nat → Addr} {tb : Str → Addr}
theorem ok_law_feed {a ca : Nat → Addr} {fd : Nat → FuncData} (T : Txt P K mg a fd cl ca) : FnOk P w K mg base CX0 1 (a 0) (fd 0) ["_law_script"] (spD ⟨K, cl, tb, none⟩ 1 m_law_feed) :=
  ok_defG (n := 3) (np := 1) (fb := b_law_feed) T.F_law_feed sc_law_feed rfl rfl rfl fun cdv A outer s H hr => (fss_cons (fs_set (ps_set (i := 1) sc_law_feed.nd rfl (by first | exact Or.inl rfl | exact Or.inr rfl) fe_int))
    (fss_cons (fs_for rfl PassesOwn.never rfl (fi_any rfl (fe_sl rfl (fe_b (fe_v 0)) fo_none (fo_some fe_int))) (fg_nm sc_law_feed.nd) (fss_one (fs_set (ps_set (i := 1) sc_law_feed.nd rfl (by first | exact Or.inl rfl | exact Or.inr rfl) (fe_op o_mod (fe_b (fe_callT1 c_int T.b_int (fa1 (fe_u (fe_op (o_add rfl) (fe_b (fe_op (o_add rfl) (fe_b (fe_op o_mul (fe_b (fe_v 1)) (fe_u fe_int))) (fe_u (fe_op o_mod (fe_b (fe_callT1 c_int T.b_int (fa1 (fe_u (fe_v 2))) (hv := bt_int))) (fe_u fe_int))))) (fe_u fe_int)))) (hv := bt_int))) (fe_u fe_int))))))
    (fss_one (fs_ret (fe_newO (fn_lst (fa_cons (fe_n (fn_list rfl T.b_list (fe_u (fe_sl rfl (fe_b (fe_v 0)) fo_none (fo_some fe_int))) (hv := bt_list))) (fa_cons fe_int (fa_cons fe_int (fa_cons (fe_v 1) (fa_cons fe_int fa_nil)))))))))))
theorem ok_law_pick {a ca : Nat → Addr} {fd : Nat → FuncData} (T : Txt P K mg a fd cl ca) : FnOk P w K mg base CX0 1 (a 1) (fd 1) ["_law_feed_here", "_law_many"] (spD ⟨K, cl, tb, none⟩ 2 m_law_pick) :=
  ok_defG (n := 6) (np := 2) (fb := b_law_pick) T.F_law_pick sc_law_pick rfl rfl rfl fun cdv A outer s H hr => (fss_cons (fs_if (ft_w (fw_and (ft_cmp o_lt (fe_b (fe_ixO rfl (fe_v 0) fe_int (fun _ _ => rfl))) (fe_u (fe_v 1)) (nomark _)) (fw_and1 (ft_cmp o_lt (fe_b (fe_ixO rfl (fe_v 0) fe_int (fun _ _ => rfl))) (fe_u (fe_call1 (c_len rfl) T.b_len (fa1 (fe_u (fe_ixO rfl (fe_v 0) fe_int (fun _ _ => rfl)))) (hv := bt_len))) (nomark _))))) (fss_cons (fs_set (ps_set (i := 2) sc_law_pick.nd rfl (by first | exact Or.inl rfl | exact Or.inr rfl) (fe_ix rfl (fe_b (fe_ixO rfl (fe_v 0) fe_int (fun _ _ => rfl))) (fe_u (fe_ixO rfl (fe_v 0) fe_int (fun _ _ => rfl))) (fun _ _ => rfl))))
    (fss_cons (fs_setO (ps_asg (fe_op (o_add rfl) (fe_b (fe_ixO rfl (fe_v 0) fe_int (fun _ _ => rfl))) (fe_u fe_int)) (pg_sub (fe_v 0) fe_int set_list)))
    (fss_cons (fs_setO (ps_asg (fe_op o_mod (fe_b (fe_callT1 c_int T.b_int (fa1 (fe_u (fe_op (o_add rfl) (fe_b (fe_op (o_add rfl) (fe_b (fe_op o_mul (fe_b (fe_ixO rfl (fe_v 0) fe_int (fun _ _ => rfl))) (fe_u fe_int))) (fe_u (fe_op o_mod (fe_b (fe_callT1 c_int T.b_int (fa1 (fe_u (fe_v 2))) (hv := bt_int))) (fe_u fe_int))))) (fe_u fe_int)))) (hv := bt_int))) (fe_u fe_int)) (pg_sub (fe_v 0) fe_int set_list)))
    (fss_one (fs_setO (ps_asg (fe_if (ft_cmp o_ge (fe_b (fe_v 2)) (fe_u (fe_op o_pow (fe_b fe_int) (fe_u fe_int))) (nomark _)) (fe_v 2) fe_int) (pg_sub (fe_v 0) fe_int set_list))))))) fss_nil)
    (fss_cons (fs_if (ft_cmp o_ge (fe_b (fe_ixO rfl (fe_v 0) fe_int (fun _ _ => rfl))) (fe_u (fe_v 1)) (nomark _)) (fss_cons (fs_set (ps_set (i := 3) sc_law_pick.nd rfl (by first | exact Or.inl rfl | exact Or.inr rfl) (fe_op o_mod (fe_b (fe_callT1 c_int T.b_int (fa1 (fe_u (fe_ixO rfl (fe_v 0) fe_int (fun _ _ => rfl)))) (hv := bt_int))) (fe_u (fe_v 1)))))
    (fss_cons (fs_setO (ps_asg (fe_op o_fdiv (fe_b (fe_ixO rfl (fe_v 0) fe_int (fun _ _ => rfl))) (fe_u (fe_v 1))) (pg_sub (fe_v 0) fe_int set_list)))
    (fss_one (fs_ret (fe_v 3))))) fss_nil)
    (fss_cons (fs_setO (ps_asg (fe_op (o_add rfl) (fe_b (fe_ixO rfl (fe_v 0) fe_int (fun _ _ => rfl))) (fe_u fe_int)) (pg_sub (fe_v 0) fe_int set_list)))
    (fss_cons (fs_set (ps_set (i := 4) sc_law_pick.nd rfl (by first | exact Or.inl rfl | exact Or.inr rfl) (fe_op o_mod (fe_b (fe_callT1 c_int T.b_int (fa1 (fe_u (fe_op (o_add rfl) (fe_b (fe_ixO rfl (fe_v 0) fe_int (fun _ _ => rfl))) (fe_u (fe_op o_mul (fe_b (fe_ixO rfl (fe_v 0) fe_int (fun _ _ => rfl))) (fe_u fe_int)))))) (hv := bt_int))) (fe_u fe_int))))
    (fss_cons (fs_set (ps_set (i := 5) sc_law_pick.nd rfl (by first | exact Or.inl rfl | exact Or.inr rfl) (fe_op o_mul (fe_b (fe_op o_mod (fe_b (fe_callT1 c_int T.b_int (fa1 (fe_u (fe_op o_mul (fe_b (fe_v 4)) (fe_u (fe_v 4))))) (hv := bt_int))) (fe_u fe_int))) (fe_u (fe_op (o_add rfl) (fe_b (fe_op o_mod (fe_b (fe_callT1 c_int T.b_int (fa1 (fe_u (fe_v 4))) (hv := bt_int))) (fe_u fe_int))) (fe_u fe_int))))))
    (fss_cons (fs_setO (ps_asg (fe_op o_mod (fe_b (fe_callT1 c_int T.b_int (fa1 (fe_u (fe_op (o_add rfl) (fe_b (fe_op (o_add rfl) (fe_b (fe_v 5)) (fe_u (fe_op o_mul (fe_b fe_int) (fe_u (fe_v 4)))))) (fe_u fe_int)))) (hv := bt_int))) (fe_u fe_int)) (pg_sub (fe_v 0) fe_int set_list)))
    (fss_one (fs_ret (fe_op o_mod (fe_b (fe_callT1 c_int T.b_int (fa1 (fe_u (fe_op (o_add rfl) (fe_b (fe_op o_fdiv (fe_b (fe_ixO rfl (fe_v 0) fe_int (fun _ _ => rfl))) (fe_u fe_int))) (fe_u (fe_op o_mul (fe_b (fe_op o_mod (fe_b (fe_callT1 c_int T.b_int (fa1 (fe_u (fe_ixO rfl (fe_v 0) fe_int (fun _ _ => rfl)))) (hv := bt_int))) (fe_u fe_int))) (fe_u fe_int)))))) (hv := bt_int))) (fe_u (fe_v 1)))))))))))
theorem ok_law_mixed {a ca : Nat → Addr} {fd : Nat → FuncData} (T : Txt P K mg a fd cl ca) : FnOk P w K mg base CX0 2 (a 2) (fd 2) ["_law_feed_here", "_law_some"] (spD ⟨K, cl, tb, none⟩ 2 m_law_mixed) :=
  ok_defG (n := 4) (np := 2) (fb := b_law_mixed) T.F_law_mixed sc_law_mixed rfl rfl rfl fun cdv A outer s H hr => (fss_cons (fs_own (ps_set (i := 2) sc_law_mixed.nd rfl (by first | exact Or.inl rfl | exact Or.inr rfl) (fn_lst fa_nil)))
    (fss_cons (fs_for rfl PassesOwn.never rfl (fi_any rfl (fe_v 1)) (fg_nm sc_law_mixed.nd) (fss_one (fs_mut 2 mu_ins (pe_bm PySem.F.plainAttrs_list PySem.F.slot_list_insert PySem.F.type_list_insert L2.mt_insert (pv 2) (fa_cons (fe_call (ok_law_pick T) (hr.mono (by decide)) T.f_law_pick T.k_law_pick T.B_law_pick (fa_cons (fe_v 0) (fa_cons (fe_op (o_add rfl) (fe_b (fe_call1 (c_len rfl) T.b_len (fa1 (fb_u (fb_v 2))) (hv := bt_len))) (fe_u fe_int)) fa_nil))) (fa_cons (fe_v 3) fa_nil))))))
    (fss_frz 2 (fss_one (fs_ret (fe_v 2))))))
theorem ok_law_of {a ca : Nat → Addr} {fd : Nat → FuncData} (T : Txt P K mg a fd cl ca) : FnOk P w K mg base CX0 2 (a 3) (fd 3) ["_law_feed_here", "_law_some"] (spD ⟨K, cl, tb, none⟩ 2 m_law_of) :=
  ok_defG (n := 2) (np := 2) (fb := b_law_of) T.F_law_of sc_law_of rfl rfl rfl fun cdv A outer s H hr => (fss_one (fs_ret (fe_ix rfl (fe_b (fe_v 1)) (fe_u (fe_call (ok_law_pick T) (hr.mono (by decide)) T.f_law_pick T.k_law_pick T.B_law_pick (fa_cons (fe_v 0) (fa_cons (fe_call1 (c_len rfl) T.b_len (fa1 (fe_u (fe_v 1))) (hv := bt_len)) fa_nil)))) (fun _ _ => rfl))))
theorem ok_law_names {a ca : Nat → Addr} {fd : Nat → FuncData} (T : Txt P K mg a fd cl ca) : FnOk P w K mg base CX0 3 (a 4) (fd 4) ["_law_feed_here", "_law_many"] (spD ⟨K, cl, tb, none⟩ 2 m_law_names) :=
  ok_defG (n := 7) (np := 2) (fb := b_law_names) T.F_law_names sc_law_names rfl rfl rfl fun cdv A outer s H hr => (fss_cons (fs_set (ps_set (i := 2) sc_law_names.nd rfl (by first | exact Or.inl rfl | exact Or.inr rfl) (fe_sl rfl (fe_b (fe_call (ok_law_mixed T) (hr.mono (by decide)) T.f_law_mixed T.k_law_mixed T.B_law_mixed (fa_cons (fe_v 0) (fa_cons (fe_n (fn_lc [("_law_sign", 5)] rfl rfl sc_law_names.nd (fi_any rfl (fe_str (x := "abcdefghijklmnopqrstuvwxyz"))) (blkOk_by (own := [("_law_sign", 5)]) (N := ["_law_feed_here", "_law_many", "_law_letters", "_law_stem", "_law_spot", "_law_sign", "_law_k"]) (sc := (defScope s_law_names)) (by decide +kernel)) (fun _ _ _ _ _ => (fg_nm sc_law_names.nd)) (fun _ _ _ _ _ => fts_nil) (fun _ _ _ _ _ => (fe_v 5)))) fa_nil)))) fo_none (fo_some (fe_v 1)))))
    (fss_cons (fs_set (ps_set (i := 3) sc_law_names.nd rfl (by first | exact Or.inl rfl | exact Or.inr rfl) (fe_join rfl (fe_str (x := "")) (fe_u (fe_n (fn_lc [("_law_k", 6)] rfl rfl sc_law_names.nd (fi_rng1 T.b_range (fe_call (ok_law_pick T) (hr.mono (by decide)) T.f_law_pick T.k_law_pick T.B_law_pick (fa_cons (fe_v 0) (fa_cons fe_int fa_nil)))) (blkOk_by (own := [("_law_k", 6)]) (N := ["_law_feed_here", "_law_many", "_law_letters", "_law_stem", "_law_spot", "_law_sign", "_law_k"]) (sc := (defScope s_law_names)) (by decide +kernel)) (fun _ _ _ _ _ => (fg_nm sc_law_names.nd)) (fun _ _ _ _ _ => fts_nil) (fun _ _ _ _ _ => (fe_call (ok_law_of T) (hr.mono (by decide)) T.f_law_of T.k_law_of T.B_law_of (fa_cons (fe_v 0) (fa_cons (fe_str (x := "abcdefghijklmnopqrstuvwxyz")) fa_nil))))))))))
    (fss_cons (fs_set (ps_set (i := 4) sc_law_names.nd rfl (by first | exact Or.inl rfl | exact Or.inr rfl) (fe_call (ok_law_pick T) (hr.mono (by decide)) T.f_law_pick T.k_law_pick T.B_law_pick (fa_cons (fe_v 0) (fa_cons (fe_op (o_add rfl) (fe_b (fe_call1 (c_len rfl) T.b_len (fa1 (fe_u (fe_v 3))) (hv := bt_len))) (fe_u fe_int)) fa_nil)))))
    (fss_one (fs_ret (fe_n (fn_lc [("_law_sign", 5)] rfl rfl sc_law_names.nd (fi_any rfl (fe_v 2)) (blkOk_by (own := [("_law_sign", 5)]) (N := ["_law_feed_here", "_law_many", "_law_letters", "_law_stem", "_law_spot", "_law_sign", "_law_k"]) (sc := (defScope s_law_names)) (by decide +kernel)) (fun _ _ _ _ _ => (fg_nm sc_law_names.nd)) (fun _ _ _ _ _ => fts_nil) (fun _ _ _ _ _ => (fe_op (o_add rfl) (fe_b (fe_op (o_add rfl) (fe_b (fe_sl rfl (fe_b (fe_v 3)) fo_none (fo_some (fe_v 4)))) (fe_u (fe_v 5)))) (fe_u (fe_sl rfl (fe_b (fe_v 3)) (fo_some (fe_v 4)) fo_none)))))))))))
theorem ok_law_book {a ca : Nat → Addr} {fd : Nat → FuncData} (T : Txt P K mg a fd cl ca) : FnOk P w K mg base CX0 3 (a 5) (fd 5) ["_law_feed_here", "_law_names_here", "_law_most"] (spD ⟨K, cl, tb, none⟩ 3 m_law_book) :=
  ok_defG (n := 8) (np := 3) (fb := b_law_book) T.F_law_book sc_law_book rfl rfl rfl fun cdv A outer s H hr => (fss_cons (fs_frz (ps_lcN (i := 3)  [("_law_name", 5)] rfl rfl sc_law_book.nd rfl rfl (sw_true rfl rfl rfl (by decide +kernel)) (fi_any rfl (fe_sl rfl (fe_b (fe_v 1)) fo_none (fo_some (fe_op (o_add rfl) (fe_b fe_int) (fe_u (fe_call (ok_law_pick T) (hr.mono (by decide)) T.f_law_pick T.k_law_pick T.B_law_pick (fa_cons (fe_v 0) (fa_cons fe_int fa_nil)))))))) (blkOk_by (own := [("_law_name", 5)]) (N := ["_law_feed_here", "_law_names_here", "_law_most", "_law_kinds", "_law_rows", "_law_name", "_law_stands", "_law_kind"]) (sc := (defScope s_law_book)) (by decide +kernel)) (fun _ _ _ _ _ => (fg_nm sc_law_book.nd)) (fun _ _ _ _ _ => fts_nil) (fun _ _ _ _ _ => (fe_tup (fa_cons (fe_v 5) (fa_cons (fe_call (ok_law_pick T) (hr.mono (by decide)) T.f_law_pick T.k_law_pick T.B_law_pick (fa_cons (fe_v 0) (fa_cons fe_int fa_nil))) fa_nil))))))
    (fss_cons (fs_own (ps_set (i := 4) sc_law_book.nd rfl (by first | exact Or.inl rfl | exact Or.inr rfl) (fn_lst fa_nil)))
    (fss_cons (fs_for rfl PassesOwn.never rfl (fi_any rfl (fe_sl rfl (fe_b (fe_v 1)) (fo_some fe_int) (fo_some (fe_op (o_add rfl) (fe_b fe_int) (fe_u (fe_call (ok_law_pick T) (hr.mono (by decide)) T.f_law_pick T.k_law_pick T.B_law_pick (fa_cons (fe_v 0) (fa_cons (fe_op (o_add rfl) (fe_b (fe_v 2)) (fe_u fe_int)) fa_nil)))))))) (fg_nm sc_law_book.nd) (fss_cons (fs_frz (ps_lcN (i := 6)  [("_law_kind", 7)] rfl rfl sc_law_book.nd rfl rfl (sw_true rfl rfl rfl (by decide +kernel)) (fi_any rfl (fe_v 3)) (blkOk_by (own := [("_law_kind", 7)]) (N := ["_law_feed_here", "_law_names_here", "_law_most", "_law_kinds", "_law_rows", "_law_name", "_law_stands", "_law_kind"]) (sc := (defScope s_law_book)) (by decide +kernel)) (fun _ _ _ _ _ => (fg_nm sc_law_book.nd)) (fun _ _ _ _ _ => (fts_one (ft_cmp (o_eq rfl hr.units) (fe_b (fe_call (ok_law_pick T) (hr.mono (by decide)) T.f_law_pick T.k_law_pick T.B_law_pick (fa_cons (fe_v 0) (fa_cons fe_int fa_nil)))) (fe_u fe_int) (nomark _)))) (fun _ _ _ _ _ => (fe_ix rfl (fe_b (fe_v 7)) (fe_u fe_int) (fun _ _ => rfl)))))
    (fss_cons (fs_set (ps_set (i := 6) sc_law_book.nd rfl (by first | exact Or.inl rfl | exact Or.inr rfl) (fe_if (ft_cmp (o_ne rfl hr.units) (fe_b (fe_v 6)) (fe_u (fe_n (fn_lst fa_nil))) (nomark _)) (fe_v 6) (fe_n (fn_lst (fa_cons (fe_ix rfl (fe_b (fe_call (ok_law_of T) (hr.mono (by decide)) T.f_law_of T.k_law_of T.B_law_of (fa_cons (fe_v 0) (fa_cons (fe_v 3) fa_nil)))) (fe_u fe_int) (fun _ _ => rfl)) fa_nil))))))
    (fss_one (fs_mut 4 mu_app (pe_bm PySem.F.plainAttrs_list PySem.F.slot_list_append PySem.F.type_list_append L2.mt_append (pv 4) (fa_cons (fe_tup (fa_cons (fe_v 5) (fa_cons (fe_callT1 (c_tup rfl) T.b_tuple (fa1 (fe_u (fe_v 6))) (hv := bt_tuple)) (fa_cons (fe_call (ok_law_of T) (hr.mono (by decide)) T.f_law_of T.k_law_of T.B_law_of (fa_cons (fe_v 0) (fa_cons (fe_n (fn_lst (fa_cons fe_int (fa_cons fe_int (fa_cons fe_int (fa_cons fe_int (fa_cons (fe_call (ok_law_pick T) (hr.mono (by decide)) T.f_law_pick T.k_law_pick T.B_law_pick (fa_cons (fe_v 0) (fa_cons fe_int fa_nil))) fa_nil))))))) fa_nil))) fa_nil)))) fa_nil)))))))
    (fss_frz 4 (fss_one (fs_ret (fe_tup (fa_cons (fe_v 3) (fa_cons (fe_v 4) (fa_cons (fe_call (ok_law_of T) (hr.mono (by decide)) T.f_law_of T.k_law_of T.B_law_of (fa_cons (fe_v 0) (fa_cons (fe_n (fn_lst (fa_cons fe_non (fa_cons fe_non (fa_cons fe_int (fa_cons fe_int (fa_cons fe_int (fa_cons fe_int fa_nil)))))))) fa_nil))) fa_nil))))))))))
theorem ok_is_name {a ca : Nat → Addr} {fd : Nat → FuncData} (T : Txt P K mg a fd cl ca) : FnOk P w K mg base CX0 1 (a 6) (fd 6) ["text"] (spD ⟨K, cl, tb, none⟩ 1 m_is_name) :=
  ok_defG (n := 2) (np := 1) (fb := b_is_name) T.F_is_name sc_is_name rfl rfl rfl fun cdv A outer s H hr => (fss_one (fs_ret (fe_and (fe_chain o_le o_le (fe_b fe_int) (fe_b (fe_call1 (c_len rfl) T.b_len (fa1 (fe_u (fe_v 0))) (hv := bt_len))) (fe_u (fe_gint T.g_MOST_SIGNS))) (fe_one (fe_call1 (c_all rfl rfl) T.b_all (fa1 (fe_u (fe_n (fn_lc [("sign", 1)] rfl rfl sc_is_name.nd (fi_any rfl (fe_v 0)) (blkOk_by (own := [("sign", 1)]) (N := ["text", "sign"]) (sc := (defScope s_is_name)) (by decide +kernel)) (fun _ _ _ _ _ => (fg_nm sc_is_name.nd)) (fun _ _ _ _ _ => fts_nil) (fun _ _ _ _ _ => (fe_cmp (o_in rfl hr.units) (fe_b (fe_v 1)) (fe_u (fe_gstr T.g_LETTERS)) (by rfl))))))) (hv := bt_all))))))
theorem ok_is_word_row {a ca : Nat → Addr} {fd : Nat → FuncData} (T : Txt P K mg a fd cl ca) : FnOk P w K mg base CX0 2 (a 7) (fd 7) ["row", "sort_names", "earlier"] (spD ⟨K, cl, tb, none⟩ 3 m_is_word_row) :=
  ok_defG (n := 7) (np := 3) (fb := b_is_word_row) T.F_is_word_row sc_is_word_row rfl rfl rfl fun cdv A outer s H hr => (fss_cons (fs_asg rfl (ps_asg (fe_v 0) (fg_tp rfl (fgs_cons (fg_nm sc_is_word_row.nd) (fgs_cons (fg_nm sc_is_word_row.nd) (fgs_cons (fg_nm sc_is_word_row.nd) fgs_nil))))))
    (fss_cons (fs_if (ft_w (fw_or (ft_not (ft_tru rfl (fe_u (fe_call (ok_is_name T) (hr.mono (by decide)) T.f_is_name T.k_is_name T.B_is_name (fa_cons (fe_v 3) fa_nil))))) (fw_or (ft_cmp (o_in rfl hr.units) (fe_b (fe_v 3)) (fu_dr (fe_v 2)) (by rfl)) (fw_or1 (ft_not (ft_chain o_le o_le (fe_b fe_int) (fe_b (fe_v 5)) (fe_u (fe_cval rfl T.g_Book T.r_Book (T.v_Book_MOST_PRICE.choose_spec))))))))) (fss_one (fs_ret fe_bl)) fss_nil)
    (fss_cons (fs_if (ft_w (fw_or (ft_cmp (o_eq rfl hr.units) (fe_b (fe_call1 (c_len rfl) T.b_len (fa1 (fe_u (fe_v 4))) (hv := bt_len))) (fe_u fe_int) (nomark _)) (fw_or1 (ft_not (ft_tru rfl (fe_u (fe_call1 (c_all rfl rfl) T.b_all (fa1 (fe_u (fe_n (fn_lc [("sort", 6)] rfl rfl sc_is_word_row.nd (fi_any rfl (fe_v 4)) (blkOk_by (own := [("sort", 6)]) (N := ["row", "sort_names", "earlier", "name", "stands", "price", "sort"]) (sc := (defScope s_is_word_row)) (by decide +kernel)) (fun _ _ _ _ _ => (fg_nm sc_is_word_row.nd)) (fun _ _ _ _ _ => fts_nil) (fun _ _ _ _ _ => (fe_cmp (o_in rfl hr.units) (fe_b (fe_v 6)) (fe_u (fe_v 1)) (by rfl))))))) (hv := bt_all)))))))) (fss_one (fs_ret fe_bl)) fss_nil)
    (fss_one (fs_ret (fe_cmp (o_eq rfl hr.units) (fe_b (fe_lenSet rfl rfl T.b_len T.b_set (fe_n (fn_list rfl T.b_list (fe_u (fe_v 4)) (hv := bt_list))))) (fe_u (fe_call1 (c_len rfl) T.b_len (fa1 (fe_u (fe_v 4))) (hv := bt_len))) (nomark _)))))))
theorem ok_Book___init__ {a ca : Nat → Addr} {fd : Nat → FuncData} (T : Txt P K mg a fd cl ca) : FnOk P w K mg base (L2.CX P w) 3 (a 8) (fd 8) ["self", "sorts", "words", "memory"] (spX ⟨K, cl, tb, none⟩ 4 m_Book___init__) :=
  ok_defX (n := 12) (np := 4) (fb := b_Book___init__) T.F_Book___init__ sc_Book___init__ rfl rfl rfl fun cdv A outer s H E hr tk => (fss_cons (fs_if (ft_not (ft_chain o_le o_le (fe_b fe_int) (fe_b (fe_call1 (c_len rfl) T.b_len (fa1 (fe_u (fe_v 1))) (hv := bt_len))) (fe_u (fe_cval rfl T.g_Book T.r_Book (T.v_Book_MOST_SORTS.choose_spec))))) (fss_one (fs_raise1 (c := 20) rfl tk T.x_WrongCount hr (fe_str (x := "sorts")))) fss_nil)
    (fss_cons (fs_own (ps_set (i := 4) sc_Book___init__.nd rfl (by first | exact Or.inl rfl | exact Or.inr rfl) (fn_lst fa_nil)))
    (fss_cons (fs_for rfl (passes_of rfl) rfl (fi_enum rfl T.b_enumerate (fe_v 1)) (fg_tp rfl (fgs_cons (fg_nm sc_Book___init__.nd) (fgs_cons (fg_tp rfl (fgs_cons (fg_nm sc_Book___init__.nd) (fgs_cons (fg_nm sc_Book___init__.nd) fgs_nil))) fgs_nil))) (fss_cons (fs_if (ft_w (fw_or (ft_not (ft_tru rfl (fe_u (fe_call (ok_is_name T) (hr.mono (by decide)) T.f_is_name T.k_is_name T.B_is_name (fa_cons (fe_v 6) fa_nil))))) (fw_or (ft_cmp (o_in rfl hr.units) (fe_b (fe_v 6)) (fb_u (fb_v 4)) (by rfl)) (fw_or1 (ft_not (ft_chain o_le o_le (fe_b fe_int) (fe_b (fe_v 7)) (fe_u (fe_cval rfl T.g_Book T.r_Book (T.v_Book_MOST_PRICE.choose_spec))))))))) (fss_one (fs_raise1 (c := 21) rfl tk T.x_InvalidSort hr (fe_v 5))) fss_nil)
    (fss_one (fs_mut 4 mu_app (pe_bm PySem.F.plainAttrs_list PySem.F.slot_list_append PySem.F.type_list_append L2.mt_append (pv 4) (fa_cons (fe_v 6) fa_nil))))))
    (fss_frz 4 (fss_cons (fs_if (ft_cmp o_gt (fe_b (fe_call1 (c_len rfl) T.b_len (fa1 (fe_u (fe_v 2))) (hv := bt_len))) (fe_u (fe_cval rfl T.g_Book T.r_Book (T.v_Book_MOST_WORDS.choose_spec))) (nomark _)) (fss_one (fs_raise1 (c := 20) rfl tk T.x_WrongCount hr (fe_str (x := "words")))) fss_nil)
    (fss_cons (fs_set (ps_set (i := 8) sc_Book___init__.nd rfl (by first | exact Or.inl rfl | exact Or.inr rfl) (fe_newO (fn_lst fa_nil))))
    (fss_cons (fs_for rfl (passes_of rfl) rfl (fi_enum rfl T.b_enumerate (fe_v 2)) (fg_tp rfl (fgs_cons (fg_nm sc_Book___init__.nd) (fgs_cons (fg_nm sc_Book___init__.nd) fgs_nil))) (fss_cons (fs_if (ft_not (ft_tru rfl (fe_u (fe_call (ok_is_word_row T) (hr.mono (by decide)) T.f_is_word_row T.k_is_word_row T.B_is_word_row (fa_cons (fe_v 9) (fa_cons (fe_v 4) (fa_cons (fe_v 8) fa_nil))))))) (fss_one (fs_raise1 (c := 22) rfl tk T.x_InvalidWord hr (fe_v 5))) fss_nil)
    (fss_one (fs_mutO mu_app (pe_bm PySem.F.plainAttrs_list PySem.F.slot_list_append PySem.F.type_list_append L2.mt_append (fe_v 8) (fa_cons (fe_ix rfl (fe_b (fe_v 9)) (fe_u fe_int) (fun _ _ => rfl)) fa_nil))))))
    (fss_cons (fs_if (ft_w (fw_and (ft_cmp o_notN (fe_b (fe_v 3)) (fe_u fe_non) (nomark _)) (fw_and1 (ft_not (ft_chain o_le o_le (fe_b fe_int) (fe_b (fe_v 3)) (fe_u (fe_gint T.g_MOST_MEMORY))))))) (fss_one (fs_raise1 (c := 23) rfl tk T.x_InvalidMemory hr (fe_v 3))) fss_nil)
    (fss_cons (fs_fldN (NS := []) (NS' := ["sort_rows"]) (ps_fld (fe_v 0) (fe_n (fn_lc [("name", 6), ("price", 7)] rfl rfl sc_Book___init__.nd (fi_any rfl (fe_v 1)) (blkOk_by (own := [("name", 6), ("price", 7)]) (N := ["self", "sorts", "words", "memory", "names", "at", "name", "price", "earlier", "row", "stands", "sort"]) (sc := (defScope s_Book___init__)) (by decide +kernel)) (fun _ _ _ _ _ => (fg_tp rfl (fgs_cons (fg_nm sc_Book___init__.nd) (fgs_cons (fg_nm sc_Book___init__.nd) fgs_nil)))) (fun _ _ _ _ _ => fts_nil) (fun _ _ _ _ _ => (fe_tup (fa_cons (fe_v 6) (fa_cons (fe_v 7) fa_nil)))))) rfl) T.c_Book T.n_Book_sort_rows (by decide +kernel) rfl (by decide))
    (fss_cons (fs_fldN (NS := ["sort_rows"]) (NS' := ["sort_rows", "word_rows"]) (ps_fld (fe_v 0) (fe_n (fn_lc [("name", 6), ("stands", 10), ("price", 7)] rfl rfl sc_Book___init__.nd (fi_any rfl (fe_v 2)) (blkOk_by (own := [("name", 6), ("stands", 10), ("price", 7)]) (N := ["self", "sorts", "words", "memory", "names", "at", "name", "price", "earlier", "row", "stands", "sort"]) (sc := (defScope s_Book___init__)) (by decide +kernel)) (fun _ _ _ _ _ => (fg_tp rfl (fgs_cons (fg_nm sc_Book___init__.nd) (fgs_cons (fg_nm sc_Book___init__.nd) (fgs_cons (fg_nm sc_Book___init__.nd) fgs_nil))))) (fun _ _ _ _ _ => fts_nil) (fun _ _ _ _ _ => (fe_tup (fa_cons (fe_v 6) (fa_cons (fe_callT1 (c_tup rfl) T.b_tuple (fa1 (fe_u (fe_n (fn_lc [("sort", 11)] rfl rfl sc_Book___init__.nd (fi_any rfl (fe_v 4)) (blkOk_by (by rfl)) (fun _ _ _ _ _ => (fg_nm sc_Book___init__.nd)) (fun _ _ _ _ _ => (fts_one (ft_cmp (o_in rfl hr.units) (fe_b (fe_v 11)) (fe_u (fe_v 10)) (by rfl)))) (fun _ _ _ _ _ => (fe_v 11)))))) (hv := bt_tuple)) (fa_cons (fe_v 7) fa_nil))))))) rfl) T.c_Book T.n_Book_word_rows (by decide +kernel) rfl (by decide))
    (fss_one (fs_fldN (NS := ["sort_rows", "word_rows"]) (NS' := ["sort_rows", "word_rows", "own_memory"]) (ps_fld (fe_v 0) (fe_v 3) rfl) T.c_Book T.n_Book_own_memory (by decide +kernel) rfl (by decide)))))))))))))
theorem ok_law_made {a ca : Nat → Addr} {fd : Nat → FuncData} (T : Txt P K mg a fd cl ca) : FnOk P w K mg base (L2.CX P w) 5 (a 9) (fd 9) ["_law_b"] (spX ⟨K, cl, tb, none⟩ 1 m_law_made) :=
  ok_defX (n := 1) (np := 1) (fb := b_law_made) T.F_law_made sc_law_made rfl rfl rfl fun cdv A outer s H E hr tk => (fss_one (fs_ret (fe_newX (np := 2) (nk := 1) rfl T.M_Book tk (ok_Book___init__ T) (hr.mono (by decide)) T.g_Book T.D_Book___init___3_memory rfl (fa_cons (fe_n (fn_list rfl T.b_list (fe_u (fe_ix rfl (fe_b (fe_v 0)) (fe_u fe_int) (fun _ _ => rfl))) (hv := bt_list))) (fa_cons (fe_n (fn_list rfl T.b_list (fe_u (fe_ix rfl (fe_b (fe_v 0)) (fe_u fe_int) (fun _ _ => rfl))) (hv := bt_list))) fa_nil)) (fk_cons (fe_ix rfl (fe_b (fe_v 0)) (fe_u fe_int) (fun _ _ => rfl)) fk_nil))))
theorem ok_Book___eq__ {a ca : Nat → Addr} {fd : Nat → FuncData} (T : Txt P K mg a fd cl ca) : FnOk P w K mg base CX0 1 (a 10) (fd 10) ["self", "other"] (spD ⟨K, cl, tb, none⟩ 2 m_Book___eq__) :=
  ok_defG (n := 2) (np := 2) (fb := b_Book___eq__) T.F_Book___eq__ sc_Book___eq__ rfl rfl rfl fun cdv A outer s H hr => (fss_cons (fs_if (ft_not (ft_tru rfl (fe_u (fe_isC T.i_Book T.b_isinstance T.g_Book (fe_v 1))))) (fss_one (fs_ret fe_bl)) fss_nil)
    (fss_one (fs_ret (fe_and (fe_cmp (o_eq rfl hr.units) (fe_b (fe_fld (NS := ["sort_rows", "word_rows", "own_memory"]) (i := 0) rfl (fe_v 0) T.c_Book T.n_Book_sort_rows (by decide +kernel))) (fe_u (fe_fld (NS := ["sort_rows", "word_rows", "own_memory"]) (i := 0) rfl (fe_v 1) T.c_Book T.n_Book_sort_rows (by decide +kernel))) (nomark _)) (fe_and (fe_cmp (o_eq rfl hr.units) (fe_b (fe_fld (NS := ["sort_rows", "word_rows", "own_memory"]) (i := 1) rfl (fe_v 0) T.c_Book T.n_Book_word_rows (by decide +kernel))) (fe_u (fe_fld (NS := ["sort_rows", "word_rows", "own_memory"]) (i := 1) rfl (fe_v 1) T.c_Book T.n_Book_word_rows (by decide +kernel))) (nomark _)) (fe_one (fe_cmp (o_eq rfl hr.units) (fe_b (fe_fld (NS := ["sort_rows", "word_rows", "own_memory"]) (i := 2) rfl (fe_v 0) T.c_Book T.n_Book_own_memory (by decide +kernel))) (fe_u (fe_fld (NS := ["sort_rows", "word_rows", "own_memory"]) (i := 2) rfl (fe_v 1) T.c_Book T.n_Book_own_memory (by decide +kernel))) (nomark _))))))))
def b_law_field : S := (sSeq (sIf (toB (fOp inD (fXf "code" [20, 21, 22, 23, 41] (fV 0)) (fFrz (fLstN (fCons (fC (.str "WrongCount")) fNil))))) (sRet (fXf "what" [20] (fV 0))) SR.nx)
    (sSeq (sIf (toB (fOp inD (fXf "code" [20, 21, 22, 23, 41] (fV 0)) (fFrz (fLstN (fCons (fC (.str "InvalidMemory")) (fCons (fC (.str "InvalidStart")) (fCons (fC (.str "InvalidCount")) (fCons (fC (.str "InvalidSight")) (fCons (fC (.str "UnknownPlace")) fNil))))))))) (sRet (fXf "given" [23] (fV 0))) SR.nx)
    (sSeq (sIf (toB (fOp inD (fXf "code" [20, 21, 22, 23, 41] (fV 0)) (fFrz (fLstN (fCons (fC (.str "InvalidName")) (fCons (fC (.str "AlreadyIn")) (fCons (fC (.str "NotIn")) (fCons (fC (.str "UnknownSort")) (fCons (fC (.str "UnknownWord")) (fCons (fC (.str "UnknownPerson")) fNil)))))))))) (sRet (fXf "name" [41] (fV 0))) SR.nx)
    (sSeq (sIf (toB (fOp inD (fXf "code" [20, 21, 22, 23, 41] (fV 0)) (fFrz (fLstN (fCons (fC (.str "InvalidText")) (fCons (fC (.str "TooMany")) fNil)))))) (sRet (fIf (toB (fOp eqD (fXf "code" [20, 21, 22, 23, 41] (fV 0)) (fC (.str "InvalidText")))) (fXf "line" [] (fV 0)) (fXf "most" [] (fV 0)))) SR.nx)
    (sSeq (sIf (toB (fOp inD (fXf "code" [20, 21, 22, 23, 41] (fV 0)) (fFrz (fLstN (fCons (fC (.str "OtherBook")) (fCons (fC (.str "NothingLeft")) fNil)))))) (sRet (fC .non)) SR.nx)
    (sRet (fIf (toB (fOp eqD (fXf "code" [20, 21, 22, 23, 41] (fV 0)) (fC (.str "UnknownState")))) (fXf "state" [] (fV 0)) (fXf "at" [21, 22] (fV 0)))))))))
def m_law_field : DF := runD 1 b_law_field
theorem okH_law_field {a ca : Nat → Addr} {fd : Nat → FuncData} (T : Txt P K mg a fd cl ca) : FnX P w K mg base ⟨K, cl, tb, none⟩ 1 (a 11) (fd 11) ["_law_e"] 1 m_law_field :=
  ok_hot (n := 1) (fb := b_law_field) T.F_law_field sc_law_field rfl rfl fun cdv A outer s H p hr xp => (fss_cons (fs_if (ft_cmp (o_in rfl hr.units) (fe_b (fe_xf (cs := [20, 21, 22, 23, 41]) rfl xp (all_cons T.xg_WrongCount_code (all_cons T.xg_InvalidSort_code (all_cons T.xg_InvalidWord_code (all_cons T.xg_InvalidMemory_code (all_cons T.xg_UnknownWord_code all_nil))))) (fe_v 0))) (fe_u (fe_n (fn_lst (fa_cons (fe_str (x := "WrongCount")) fa_nil)))) (by rfl)) (fss_one (fs_ret (fe_xf (cs := [20]) rfl xp (all_cons T.xg_WrongCount_what all_nil) (fe_v 0)))) fss_nil)
    (fss_cons (fs_if (ft_cmp (o_in rfl hr.units) (fe_b (fe_xf (cs := [20, 21, 22, 23, 41]) rfl xp (all_cons T.xg_WrongCount_code (all_cons T.xg_InvalidSort_code (all_cons T.xg_InvalidWord_code (all_cons T.xg_InvalidMemory_code (all_cons T.xg_UnknownWord_code all_nil))))) (fe_v 0))) (fe_u (fe_n (fn_lst (fa_cons (fe_str (x := "InvalidMemory")) (fa_cons (fe_str (x := "InvalidStart")) (fa_cons (fe_str (x := "InvalidCount")) (fa_cons (fe_str (x := "InvalidSight")) (fa_cons (fe_str (x := "UnknownPlace")) fa_nil)))))))) (by rfl)) (fss_one (fs_ret (fe_xf (cs := [23]) rfl xp (all_cons T.xg_InvalidMemory_given all_nil) (fe_v 0)))) fss_nil)
    (fss_cons (fs_if (ft_cmp (o_in rfl hr.units) (fe_b (fe_xf (cs := [20, 21, 22, 23, 41]) rfl xp (all_cons T.xg_WrongCount_code (all_cons T.xg_InvalidSort_code (all_cons T.xg_InvalidWord_code (all_cons T.xg_InvalidMemory_code (all_cons T.xg_UnknownWord_code all_nil))))) (fe_v 0))) (fe_u (fe_n (fn_lst (fa_cons (fe_str (x := "InvalidName")) (fa_cons (fe_str (x := "AlreadyIn")) (fa_cons (fe_str (x := "NotIn")) (fa_cons (fe_str (x := "UnknownSort")) (fa_cons (fe_str (x := "UnknownWord")) (fa_cons (fe_str (x := "UnknownPerson")) fa_nil))))))))) (by rfl)) (fss_one (fs_ret (fe_xf (cs := [41]) rfl xp (all_cons T.xg_UnknownWord_name all_nil) (fe_v 0)))) fss_nil)
    (fss_cons (fs_if (ft_cmp (o_in rfl hr.units) (fe_b (fe_xf (cs := [20, 21, 22, 23, 41]) rfl xp (all_cons T.xg_WrongCount_code (all_cons T.xg_InvalidSort_code (all_cons T.xg_InvalidWord_code (all_cons T.xg_InvalidMemory_code (all_cons T.xg_UnknownWord_code all_nil))))) (fe_v 0))) (fe_u (fe_n (fn_lst (fa_cons (fe_str (x := "InvalidText")) (fa_cons (fe_str (x := "TooMany")) fa_nil))))) (by rfl)) (fss_one (fs_ret (fe_if (ft_cmp (o_eq rfl hr.units) (fe_b (fe_xf (cs := [20, 21, 22, 23, 41]) rfl xp (all_cons T.xg_WrongCount_code (all_cons T.xg_InvalidSort_code (all_cons T.xg_InvalidWord_code (all_cons T.xg_InvalidMemory_code (all_cons T.xg_UnknownWord_code all_nil))))) (fe_v 0))) (fe_u (fe_str (x := "InvalidText"))) (nomark _)) (fe_xf (cs := []) rfl xp all_nil (fe_v 0)) (fe_xf (cs := []) rfl xp all_nil (fe_v 0))))) fss_nil)
    (fss_cons (fs_if (ft_cmp (o_in rfl hr.units) (fe_b (fe_xf (cs := [20, 21, 22, 23, 41]) rfl xp (all_cons T.xg_WrongCount_code (all_cons T.xg_InvalidSort_code (all_cons T.xg_InvalidWord_code (all_cons T.xg_InvalidMemory_code (all_cons T.xg_UnknownWord_code all_nil))))) (fe_v 0))) (fe_u (fe_n (fn_lst (fa_cons (fe_str (x := "OtherBook")) (fa_cons (fe_str (x := "NothingLeft")) fa_nil))))) (by rfl)) (fss_one (fs_ret fe_non)) fss_nil)
    (fss_one (fs_ret (fe_if (ft_cmp (o_eq rfl hr.units) (fe_b (fe_xf (cs := [20, 21, 22, 23, 41]) rfl xp (all_cons T.xg_WrongCount_code (all_cons T.xg_InvalidSort_code (all_cons T.xg_InvalidWord_code (all_cons T.xg_InvalidMemory_code (all_cons T.xg_UnknownWord_code all_nil))))) (fe_v 0))) (fe_u (fe_str (x := "UnknownState"))) (nomark _)) (fe_xf (cs := []) rfl xp all_nil (fe_v 0)) (fe_xf (cs := [21, 22]) rfl xp (all_cons T.xg_InvalidSort_at (all_cons T.xg_InvalidWord_at all_nil)) (fe_v 0))))))))))
theorem ok_Book___sub__ {a ca : Nat → Addr} {fd : Nat → FuncData} (T : Txt P K mg a fd cl ca) : FnOk P w K mg base (L2.CX P w) 5 (a 13) (fd 13) ["self", "word"] (spX ⟨K, cl, tb, none⟩ 2 m_Book___sub__) :=
  ok_defX (n := 4) (np := 2) (fb := b_Book___sub__) T.F_Book___sub__ sc_Book___sub__ rfl rfl rfl fun cdv A outer s H E hr tk => (fss_cons (fs_frz (ps_lcN (i := 2)  [("row", 3)] rfl rfl sc_Book___sub__.nd rfl rfl (sw_true rfl rfl rfl (by decide +kernel)) (fi_any rfl (fe_fld (NS := ["sort_rows", "word_rows", "own_memory"]) (i := 1) rfl (fe_v 0) T.c_Book T.n_Book_word_rows (by decide +kernel))) (blkOk_by (own := [("row", 3)]) (N := ["self", "word", "kept", "row"]) (sc := (defScope s_Book___sub__)) (by decide +kernel)) (fun _ _ _ _ _ => (fg_nm sc_Book___sub__.nd)) (fun _ _ _ _ _ => (fts_one (ft_cmp (o_ne rfl hr.units) (fe_b (fe_ix rfl (fe_b (fe_v 3)) (fe_u fe_int) (fun _ _ => rfl))) (fe_u (fe_v 1)) (nomark _)))) (fun _ _ _ _ _ => (fe_v 3))))
    (fss_cons (fs_if (ft_cmp (o_eq rfl hr.units) (fe_b (fe_call1 (c_len rfl) T.b_len (fa1 (fe_u (fe_v 2))) (hv := bt_len))) (fe_u (fe_call1 (c_len rfl) T.b_len (fa1 (fe_u (fe_fld (NS := ["sort_rows", "word_rows", "own_memory"]) (i := 1) rfl (fe_v 0) T.c_Book T.n_Book_word_rows (by decide +kernel)))) (hv := bt_len))) (nomark _)) (fss_one (fs_raise1 (c := 41) rfl tk T.x_UnknownWord hr (fe_v 1))) fss_nil)
    (fss_one (fs_ret (fe_newX (np := 2) (nk := 1) rfl T.M_Book tk (ok_Book___init__ T) (hr.mono (by decide)) T.g_Book T.D_Book___init___3_memory rfl (fa_cons (fe_fld (NS := ["sort_rows", "word_rows", "own_memory"]) (i := 0) rfl (fe_v 0) T.c_Book T.n_Book_sort_rows (by decide +kernel)) (fa_cons (fe_v 2) fa_nil)) (fk_cons (fe_fld (NS := ["sort_rows", "word_rows", "own_memory"]) (i := 2) rfl (fe_v 0) T.c_Book T.n_Book_own_memory (by decide +kernel)) fk_nil))))))
theorem ok_Book___add__ {a ca : Nat → Addr} {fd : Nat → FuncData} (T : Txt P K mg a fd cl ca) : FnOk P w K mg base (L2.CX P w) 5 (a 14) (fd 14) ["self", "row"] (spX ⟨K, cl, tb, none⟩ 2 m_Book___add__) :=
  ok_defX (n := 2) (np := 2) (fb := b_Book___add__) T.F_Book___add__ sc_Book___add__ rfl rfl rfl fun cdv A outer s H E hr tk => (fss_one (fs_ret (fe_newX (np := 2) (nk := 1) rfl T.M_Book tk (ok_Book___init__ T) (hr.mono (by decide)) T.g_Book T.D_Book___init___3_memory rfl (fa_cons (fe_fld (NS := ["sort_rows", "word_rows", "own_memory"]) (i := 0) rfl (fe_v 0) T.c_Book T.n_Book_sort_rows (by decide +kernel)) (fa_cons (fe_n (fn_lst (fa_star rfl (fe_fld (NS := ["sort_rows", "word_rows", "own_memory"]) (i := 1) rfl (fe_v 0) T.c_Book T.n_Book_word_rows (by decide +kernel)) (fa_cons (fe_v 1) fa_nil)))) fa_nil)) (fk_cons (fe_fld (NS := ["sort_rows", "word_rows", "own_memory"]) (i := 2) rfl (fe_v 0) T.c_Book T.n_Book_own_memory (by decide +kernel)) fk_nil))))
theorem ok_Book_with_memory {a ca : Nat → Addr} {fd : Nat → FuncData} (T : Txt P K mg a fd cl ca) : FnOk P w K mg base (L2.CX P w) 5 (a 15) (fd 15) ["self", "value"] (spX ⟨K, cl, tb, none⟩ 2 m_Book_with_memory) :=
  ok_defX (n := 2) (np := 2) (fb := b_Book_with_memory) T.F_Book_with_memory sc_Book_with_memory rfl rfl rfl fun cdv A outer s H E hr tk => (fss_one (fs_ret (fe_newX (np := 2) (nk := 1) rfl T.M_Book tk (ok_Book___init__ T) (hr.mono (by decide)) T.g_Book T.D_Book___init___3_memory rfl (fa_cons (fe_fld (NS := ["sort_rows", "word_rows", "own_memory"]) (i := 0) rfl (fe_v 0) T.c_Book T.n_Book_sort_rows (by decide +kernel)) (fa_cons (fe_fld (NS := ["sort_rows", "word_rows", "own_memory"]) (i := 1) rfl (fe_v 0) T.c_Book T.n_Book_word_rows (by decide +kernel)) fa_nil)) (fk_cons (fe_v 1) fk_nil))))
theorem ok_law_same {a ca : Nat → Addr} {fd : Nat → FuncData} (T : Txt P K mg a fd cl ca) : ∀ n : Nat, FnOk P w K mg base CX0 (n + 1) (a 16) (fd 16) ["_law_found", "_law_due"] (spD ⟨K, cl, tb, none⟩ 2 (m_law_same n))
  | 0 => ok_bot
  | n + 1 => by
    have ih := ok_law_same T n
    exact ok_defG (n := 4) (np := 2) (k := n + 1) T.F_law_same sc_law_same rfl rfl rfl fun cdv A outer s H hr => (fss_cons (fs_if (ft_tru rfl (fe_u (fe_is2 rfl T.b_isinstance T.b_list T.b_tuple (fe_v 1) (hvT := bt_list) (hvT2 := bt_tuple)))) (fss_cons (fs_if (ft_w (fw_or (ft_cmp (o_ne rfl hr.units) (fe_b (fe_is rfl T.b_isinstance T.b_list (fe_v 0) (hvT := bt_list))) (fe_u (fe_is rfl T.b_isinstance T.b_list (fe_v 1) (hvT := bt_list))) (nomark _)) (fw_or1 (ft_cmp (o_ne rfl hr.units) (fe_b (fe_is rfl T.b_isinstance T.b_tuple (fe_v 0) (hvT := bt_tuple))) (fe_u (fe_is rfl T.b_isinstance T.b_tuple (fe_v 1) (hvT := bt_tuple))) (nomark _))))) (fss_one (fs_ret fe_bl)) fss_nil)
    (fss_one (fs_ret (fe_and (fe_cmp (o_eq rfl hr.units) (fe_b (fe_call1 (c_len rfl) T.b_len (fa1 (fe_u (fe_v 0))) (hv := bt_len))) (fe_u (fe_call1 (c_len rfl) T.b_len (fa1 (fe_u (fe_v 1))) (hv := bt_len))) (nomark _)) (fe_one (fe_call1 (c_all rfl rfl) T.b_all (fa1 (fe_u (fe_n (fn_lc [("_law_one", 2), ("_law_two", 3)] rfl rfl sc_law_same.nd (fi_zip rfl T.b_zip (fe_v 0) (fe_v 1)) (blkOk_by (own := [("_law_one", 2), ("_law_two", 3)]) (N := ["_law_found", "_law_due", "_law_one", "_law_two"]) (sc := (defScope s_law_same)) (by decide +kernel)) (fun _ _ _ _ _ => (fg_tp rfl (fgs_cons (fg_nm sc_law_same.nd) (fgs_cons (fg_nm sc_law_same.nd) fgs_nil)))) (fun _ _ _ _ _ => fts_nil) (fun _ _ _ _ _ => (fe_call ih (hr.mono (Nat.le_refl _)) T.f_law_same T.k_law_same T.B_law_same (fa_cons (fe_v 2) (fa_cons (fe_v 3) fa_nil)))))))) (hv := bt_all))))))) fss_nil)
    (fss_cons (fs_if (ft_w (fw_or (ft_tru rfl (fe_u (fe_is2 rfl T.b_isinstance T.b_list T.b_tuple (fe_v 0) (hvT := bt_list) (hvT2 := bt_tuple)))) (fw_or1 (ft_cmp (o_ne rfl hr.units) (fe_b (fe_is rfl T.b_isinstance T.b_bool (fe_v 0) (hvT := bt_bool))) (fe_u (fe_is rfl T.b_isinstance T.b_bool (fe_v 1) (hvT := bt_bool))) (nomark _))))) (fss_one (fs_ret fe_bl)) fss_nil)
    (fss_cons (fs_if (ft_w (fw_or (ft_cmp o_isN (fe_b (fe_v 1)) (fe_u fe_non) (nomark _)) (fw_or1 (ft_cmp o_isN (fe_b (fe_v 0)) (fe_u fe_non) (nomark _))))) (fss_one (fs_ret (fe_and (fe_cmp o_isN (fe_b (fe_v 1)) (fe_u fe_non) (nomark _)) (fe_one (fe_cmp o_isN (fe_b (fe_v 0)) (fe_u fe_non) (nomark _)))))) fss_nil)
    (fss_one (fs_ret (fe_and (fe_cmp (o_eq rfl hr.units) (fe_b (fe_is rfl T.b_isinstance T.b_str (fe_v 0) (hvT := bt_str))) (fe_u (fe_is rfl T.b_isinstance T.b_str (fe_v 1) (hvT := bt_str))) (nomark _)) (fe_one (fe_cmp (o_eq rfl hr.units) (fe_b (fe_v 0)) (fe_u (fe_v 1)) (nomark _)))))))))
theorem ok_Book_sorts {a ca : Nat → Addr} {fd : Nat → FuncData} (T : Txt P K mg a fd cl ca) : FnOk P w K mg base CX0 1 (a 17) (fd 17) ["self"] (spD ⟨K, cl, tb, none⟩ 1 m_Book_sorts) :=
  ok_defG (n := 1) (np := 1) (fb := b_Book_sorts) T.F_Book_sorts sc_Book_sorts rfl rfl rfl fun cdv A outer s H hr => (fss_one (fs_ret (fe_n (fn_list rfl T.b_list (fe_u (fe_fld (NS := ["sort_rows", "word_rows", "own_memory"]) (i := 0) rfl (fe_v 0) T.c_Book T.n_Book_sort_rows (by decide +kernel))) (hv := bt_list)))))
theorem ok_Book_words {a ca : Nat → Addr} {fd : Nat → FuncData} (T : Txt P K mg a fd cl ca) : FnOk P w K mg base CX0 1 (a 18) (fd 18) ["self"] (spD ⟨K, cl, tb, none⟩ 1 m_Book_words) :=
  ok_defG (n := 1) (np := 1) (fb := b_Book_words) T.F_Book_words sc_Book_words rfl rfl rfl fun cdv A outer s H hr => (fss_one (fs_ret (fe_n (fn_list rfl T.b_list (fe_u (fe_fld (NS := ["sort_rows", "word_rows", "own_memory"]) (i := 1) rfl (fe_v 0) T.c_Book T.n_Book_word_rows (by decide +kernel))) (hv := bt_list)))))
theorem ok_Book_memory {a ca : Nat → Addr} {fd : Nat → FuncData} (T : Txt P K mg a fd cl ca) : FnOk P w K mg base CX0 1 (a 19) (fd 19) ["self"] (spD ⟨K, cl, tb, none⟩ 1 m_Book_memory) :=
  ok_defG (n := 1) (np := 1) (fb := b_Book_memory) T.F_Book_memory sc_Book_memory rfl rfl rfl fun cdv A outer s H hr => (fss_one (fs_ret (fe_fld (NS := ["sort_rows", "word_rows", "own_memory"]) (i := 2) rfl (fe_v 0) T.c_Book T.n_Book_own_memory (by decide +kernel))))
def b_law : S := (sSeq (sSet 1 (fCall 1 m_law_feed (fCons (fV 0) fNil)))
    (sSeq (sFor (fiR1 (fC (.int 4))) (.nm 2) (sSeq (sSet 3 (fCall 2 m_law_names (fCons (fV 1) (fCons (fC (.int 10)) fNil))))
    (sSeq (sSet 4 (fCall 3 m_law_book (fCons (fV 1) (fCons (fV 3) (fCons (fC (.int 4)) fNil)))))
    (sSeq (sSet 5 (fCall 1 m_law_made (fCons (fV 4) fNil)))
    (sSeq (sPar 6 7 (fOp ixD (fOp ixD (fOp ixD (fV 4) (fC (.int 0))) (fC (.int 0))) (fC (.int 0))) (fFrz (fLc [8, 14, 15] (fiA (fOp ixD (fV 4) (fC (.int 1)))) (.tp [(.nm 8), (.nm 14), (.nm 15)]) fYes (fV 8))))
    (sSeq (sFor (fiA (fV 3)) (.nm 8) (sSeq (sFrz 9 (fLc [16] (fiA (fOp ixD (fV 4) (fC (.int 1)))) (.nm 16) (toB (fOp neD (fOp ixD (fV 16) (fC (.int 0))) (fV 8))) (fV 16)))
    (sSeq (sSet 10 (fIf (toB (fOp inD (fV 8) (fV 7))) (fTup (fCons (fC (.str "")) (fCons (fCall 1 m_law_made (fCons (fTup (fCons (fOp ixD (fV 4) (fC (.int 0))) (fCons (fV 9) (fCons (fOp ixD (fV 4) (fC (.int 2))) fNil)))) fNil)) fNil))) (fTup (fCons (fC (.str "UnknownWord")) (fCons (fV 8) fNil)))))
    (sIf (toB (fCmpT 0 2 m_Book___eq__ true (fWhy 0 "law.<locals>.<lambda>" [20, 21, 22, 23, 41] m_law_field (fBinMX 0 2 m_Book___sub__ ["str", "list", "tuple"] (fV 5) (fV 8))) (fV 10))) (sRet (fC (.bl false))) SR.nx))))
    (sSeq (sSet 11 (fTup (fCons (fCall 2 m_law_of (fCons (fV 1) (fCons (fOp addD (fSl (fV 3) (fPt (fC (.int 8))) fNoP) (fV 7)) fNil))) (fCons (fCall 2 m_law_of (fCons (fV 1) (fCons (fFrz (fLstN (fCons (fTup (fCons (fV 6) fNil)) (fCons (fTup (fCons (fV 6) fNil)) (fCons (fTup fNil) (fCons (fTup (fCons (fC (.str "A")) fNil)) fNil)))))) fNil))) (fCons (fC (.int 7)) fNil)))))
    (sSeq (sSet 12 (fWhy 0 "law.<locals>.<lambda>" [20, 21, 22, 23, 41] m_law_field (fBinMX 0 2 m_Book___add__ ["str", "list", "tuple"] (fV 5) (fV 11))))
    (sSeq (sSet 10 (fIf (toB (fOp gtD (fCall1 lenD (fOp ixD (fV 4) (fC (.int 1)))) (fC (.int 3)))) (fTup (fCons (fC (.str "WrongCount")) (fCons (fC (.str "words")) fNil))) (fTup (fCons (fC (.str "InvalidWord")) (fCons (fCall1 lenD (fOp ixD (fV 4) (fC (.int 1)))) fNil)))))
    (sSeq (sIf (fAndB (toB (fOp ltD (fCall1 lenD (fOp ixD (fV 4) (fC (.int 1)))) (fC (.int 4)))) (fAndB (toB (fOp notInD (fOp ixD (fV 11) (fC (.int 0))) (fV 7))) (toB (fOp eqD (fOp ixD (fV 11) (fC (.int 1))) (fTup (fCons (fV 6) fNil)))))) (sSet 10 (fTup (fCons (fC (.str "")) (fCons (fCall 1 m_law_made (fCons (fTup (fCons (fOp ixD (fV 4) (fC (.int 0))) (fCons (fOp addD (fOp ixD (fV 4) (fC (.int 1))) (fFrz (fLstN (fCons (fV 11) fNil)))) (fCons (fOp ixD (fV 4) (fC (.int 2))) fNil)))) fNil)) fNil)))) SR.nx)
    (sSeq (sIf (toB (fCmpT 0 2 m_Book___eq__ true (fV 12) (fV 10))) (sRet (fC (.bl false))) SR.nx)
    (sSeq (sSet 13 (fCall 2 m_law_of (fCons (fV 1) (fCons (fFrz (fLstN (fCons (fC .non) (fCons (fC (.int 1)) (fCons (fC (.int 4)) (fCons (fC (.int 0)) (fCons (fC (.int 5)) fNil))))))) fNil))))
    (sSeq (sSet 12 (fWhy 0 "law.<locals>.<lambda>" [20, 21, 22, 23, 41] m_law_field (fMethX 0 ["sort_rows", "word_rows", "own_memory"] 1 1 2 m_Book_with_memory [0, 1] [] (fV 5) fNil (fCons (fV 13) fNil))))
    (sSeq (sIf (toB (fCmpT 0 2 m_Book___eq__ true (fV 12) (fIf (toB (fOp inD (fV 13) (fFrz (fLstN (fCons (fC (.int 0)) (fCons (fC (.int 5)) fNil)))))) (fTup (fCons (fC (.str "InvalidMemory")) (fCons (fV 13) fNil))) (fTup (fCons (fC (.str "")) (fCons (fCall 1 m_law_made (fCons (fTup (fCons (fOp ixD (fV 4) (fC (.int 0))) (fCons (fOp ixD (fV 4) (fC (.int 1))) (fCons (fV 13) fNil)))) fNil)) fNil)))))) (sRet (fC (.bl false))) SR.nx)
    (sSeq (sIf (toB (fNot (fEqM 0 2 m_Book___eq__ (fV 5) (fCall 1 m_law_made (fCons (fV 4) fNil))))) (sRet (fC (.bl false))) SR.nx)
    (sIf (fNotB (fTru (fCall 2 (m_law_same 12) (fCons (fFrz (fLstN (fCons (fMeth 0 ["sort_rows", "word_rows", "own_memory"] 1 0 1 m_Book_sorts [0] [] (fV 5) fNil fNil) (fCons (fMeth 0 ["sort_rows", "word_rows", "own_memory"] 1 0 1 m_Book_words [0] [] (fV 5) fNil fNil) (fCons (fProp 0 1 m_Book_memory (fV 5)) fNil))))) (fCons (fFrz (fLstN (fCons (fOp ixD (fV 4) (fC (.int 0))) (fCons (fOp ixD (fV 4) (fC (.int 1))) (fCons (fOp ixD (fV 4) (fC (.int 2))) fNil))))) fNil))))) (sRet (fC (.bl false))) SR.nx))))))))))))))))
    (sRet (fC (.bl true)))))
def m_law : DF := runD 17 b_law
theorem ok_law {a ca : Nat → Addr} {fd : Nat → FuncData} (T : Txt P K mg a fd cl ca) (U : Tbs base mg ca tb) : FnOk P w K mg base CX0 22 (a 20) (fd 20) ["_law_script"] (spD ⟨K, cl, tb, none⟩ 1 m_law) :=
  ok_defGL (n := 17) (np := 1) (fb := b_law) T.F_law sc_law rfl rfl rfl fun A outer s H hr => (fss_cons (fs_set (ps_set (i := 1) sc_law.nd rfl (by first | exact Or.inl rfl | exact Or.inr rfl) (fe_call (ok_law_feed T) (hr.mono (by decide)) T.f_law_feed T.k_law_feed T.B_law_feed (fa_cons (fe_v 0) fa_nil))))
    (fss_cons (fs_for rfl PassesOwn.never rfl (fi_rng1 T.b_range fe_int) (fg_nm sc_law.nd) (fss_cons (fs_set (ps_set (i := 3) sc_law.nd rfl (by first | exact Or.inl rfl | exact Or.inr rfl) (fe_call (ok_law_names T) (hr.mono (by decide)) T.f_law_names T.k_law_names T.B_law_names (fa_cons (fe_v 1) (fa_cons fe_int fa_nil)))))
    (fss_cons (fs_set (ps_set (i := 4) sc_law.nd rfl (by first | exact Or.inl rfl | exact Or.inr rfl) (fe_call (ok_law_book T) (hr.mono (by decide)) T.f_law_book T.k_law_book T.B_law_book (fa_cons (fe_v 1) (fa_cons (fe_v 3) (fa_cons fe_int fa_nil))))))
    (fss_cons (fs_set (ps_set (i := 5) sc_law.nd rfl (by first | exact Or.inl rfl | exact Or.inr rfl) (fe_call (ok_calm (ok_law_made T)) (hr.mono (by decide)) T.f_law_made T.k_law_made T.B_law_made (fa_cons (fe_v 4) fa_nil))))
    (fss_cons (fs_par (ps_par rfl sc_law.nd rfl rfl (by decide) rfl rfl (pa_cons (fe_ix rfl (fe_b (fe_ix rfl (fe_b (fe_ix rfl (fe_b (fe_v 4)) (fe_u fe_int) (fun _ _ => rfl))) (fe_u fe_int) (fun _ _ => rfl))) (fe_u fe_int) (fun _ _ => rfl)) (pa_cons (fe_n (fn_lc [("_law_name", 8), ("_law_stands", 14), ("_law_price", 15)] rfl rfl sc_law.nd (fi_any rfl (fe_ix rfl (fe_b (fe_v 4)) (fe_u fe_int) (fun _ _ => rfl))) (blkOk_by (own := [("_law_name", 8), ("_law_stands", 14), ("_law_price", 15)]) (N := ["_law_script", "_law_feed_here", "_law_turn", "_law_labels", "_law_b", "_law_made_here", "_law_known", "_law_tokens", "_law_name", "_law_kept", "_law_due", "_law_more", "_law_told", "_law_keep", "_law_stands", "_law_price", "_law_triple"]) (sc := (defScope s_law)) (by decide +kernel)) (fun _ _ _ _ _ => (fg_tp rfl (fgs_cons (fg_nm sc_law.nd) (fgs_cons (fg_nm sc_law.nd) (fgs_cons (fg_nm sc_law.nd) fgs_nil))))) (fun _ _ _ _ _ => fts_nil) (fun _ _ _ _ _ => (fe_v 8)))) pa_nil)) rfl))
    (fss_cons (fs_for rfl PassesOwn.never rfl (fi_any rfl (fe_v 3)) (fg_nm sc_law.nd) (fss_cons (fs_frz (ps_lcN (i := 9)  [("_law_triple", 16)] rfl rfl sc_law.nd rfl rfl (sw_true rfl rfl rfl (by decide +kernel)) (fi_any rfl (fe_ix rfl (fe_b (fe_v 4)) (fe_u fe_int) (fun _ _ => rfl))) (blkOk_by (own := [("_law_triple", 16)]) (N := ["_law_script", "_law_feed_here", "_law_turn", "_law_labels", "_law_b", "_law_made_here", "_law_known", "_law_tokens", "_law_name", "_law_kept", "_law_due", "_law_more", "_law_told", "_law_keep", "_law_stands", "_law_price", "_law_triple"]) (sc := (defScope s_law)) (by decide +kernel)) (fun _ _ _ _ _ => (fg_nm sc_law.nd)) (fun _ _ _ _ _ => (fts_one (ft_cmp (o_ne rfl hr.units) (fe_b (fe_ix rfl (fe_b (fe_v 16)) (fe_u fe_int) (fun _ _ => rfl))) (fe_u (fe_v 8)) (nomark _)))) (fun _ _ _ _ _ => (fe_v 16))))
    (fss_cons (fs_set (ps_set (i := 10) sc_law.nd rfl (by first | exact Or.inl rfl | exact Or.inr rfl) (fe_if (ft_cmp (o_in rfl hr.units) (fe_b (fe_v 8)) (fe_u (fe_v 7)) (by rfl)) (fe_tup (fa_cons (fe_str (x := "")) (fa_cons (fe_call (ok_calm (ok_law_made T)) (hr.mono (by decide)) T.f_law_made T.k_law_made T.B_law_made (fa_cons (fe_tup (fa_cons (fe_ix rfl (fe_b (fe_v 4)) (fe_u fe_int) (fun _ _ => rfl)) (fa_cons (fe_v 9) (fa_cons (fe_ix rfl (fe_b (fe_v 4)) (fe_u fe_int) (fun _ _ => rfl)) fa_nil)))) fa_nil)) fa_nil))) (fe_tup (fa_cons (fe_str (x := "UnknownWord")) (fa_cons (fe_v 8) fa_nil))))))
    (fss_one (fs_if (ft_cmpT (o_neT rfl (ok_Book___eq__ T) (hr.mono (by decide)) T.m_Book___eq__.at_ T.m_Book___eq__.fn T.B_Book___eq__) (fe_why (i := 0) (k := 5) (q := "law.<locals>.<lambda>") (cs := [20, 21, 22, 23, 41]) rfl T.F_law_why sc_law_why T.f_law_why T.B_law_why (fun cdv => why_gives rfl (okH_law_field T) T.f_law_field T.k_law_field T.B_law_field (hr.mono (by decide)) (all_cons T.xg_WrongCount_code (all_cons T.xg_InvalidSort_code (all_cons T.xg_InvalidWord_code (all_cons T.xg_InvalidMemory_code (all_cons T.xg_UnknownWord_code all_nil))))) rfl rfl rfl rfl rfl rfl rfl rfl T.f_TellError T.f_Missing T.f_NothingLeft) (.inl rfl) (all_cons T.xm_WrongCount (all_cons T.xm_InvalidSort (all_cons T.xm_InvalidWord (all_cons T.xm_InvalidMemory (all_cons T.xm_UnknownWord all_nil))))) U.u_law rfl rfl (hr.mono (by decide)) (LamX.lamS_by (sc := defScope s_law) (by decide +kernel)) rfl (fun _ _ _ _ _ => rfl) (fun A outer s H E f c hr2 => (fe_binMX (o_binMX rfl (takes_of rfl rfl rfl rfl) (ok_Book___sub__ T) (hr2.mono (by decide)) T.m_Book___sub__.at_ T.m_Book___sub__.fn T.B_Book___sub__ T.s_Book hT_sub) (fe_v 5) (fe_v 8)))) (fe_v 10)) (fss_one (fs_ret fe_bl)) fss_nil)))))
    (fss_cons (fs_set (ps_set (i := 11) sc_law.nd rfl (by first | exact Or.inl rfl | exact Or.inr rfl) (fe_tup (fa_cons (fe_call (ok_law_of T) (hr.mono (by decide)) T.f_law_of T.k_law_of T.B_law_of (fa_cons (fe_v 1) (fa_cons (fe_op (o_add rfl) (fe_b (fe_sl rfl (fe_b (fe_v 3)) (fo_some fe_int) fo_none)) (fe_u (fe_v 7))) fa_nil))) (fa_cons (fe_call (ok_law_of T) (hr.mono (by decide)) T.f_law_of T.k_law_of T.B_law_of (fa_cons (fe_v 1) (fa_cons (fe_n (fn_lst (fa_cons (fe_tup (fa_cons (fe_v 6) fa_nil)) (fa_cons (fe_tup (fa_cons (fe_v 6) fa_nil)) (fa_cons (fe_tup fa_nil) (fa_cons (fe_tup (fa_cons (fe_str (x := "A")) fa_nil)) fa_nil)))))) fa_nil))) (fa_cons fe_int fa_nil))))))
    (fss_cons (fs_set (ps_set (i := 12) sc_law.nd rfl (by first | exact Or.inl rfl | exact Or.inr rfl) (fe_why (i := 0) (k := 5) (q := "law.<locals>.<lambda>") (cs := [20, 21, 22, 23, 41]) rfl T.F_law_why sc_law_why T.f_law_why T.B_law_why (fun cdv => why_gives rfl (okH_law_field T) T.f_law_field T.k_law_field T.B_law_field (hr.mono (by decide)) (all_cons T.xg_WrongCount_code (all_cons T.xg_InvalidSort_code (all_cons T.xg_InvalidWord_code (all_cons T.xg_InvalidMemory_code (all_cons T.xg_UnknownWord_code all_nil))))) rfl rfl rfl rfl rfl rfl rfl rfl T.f_TellError T.f_Missing T.f_NothingLeft) (.inl rfl) (all_cons T.xm_WrongCount (all_cons T.xm_InvalidSort (all_cons T.xm_InvalidWord (all_cons T.xm_InvalidMemory (all_cons T.xm_UnknownWord all_nil))))) U.u_law rfl rfl (hr.mono (by decide)) (LamX.lamS_by (sc := defScope s_law) (by decide +kernel)) rfl (fun _ _ _ _ _ => rfl) (fun A outer s H E f c hr2 => (fe_binMX (o_binMX rfl (takes_of rfl rfl rfl rfl) (ok_Book___add__ T) (hr2.mono (by decide)) T.m_Book___add__.at_ T.m_Book___add__.fn T.B_Book___add__ T.s_Book hT_add) (fe_v 5) (fe_v 11))))))
    (fss_cons (fs_set (ps_set (i := 10) sc_law.nd rfl (by first | exact Or.inl rfl | exact Or.inr rfl) (fe_if (ft_cmp o_gt (fe_b (fe_call1 (c_len rfl) T.b_len (fa1 (fe_u (fe_ix rfl (fe_b (fe_v 4)) (fe_u fe_int) (fun _ _ => rfl)))) (hv := bt_len))) (fe_u fe_int) (nomark _)) (fe_tup (fa_cons (fe_str (x := "WrongCount")) (fa_cons (fe_str (x := "words")) fa_nil))) (fe_tup (fa_cons (fe_str (x := "InvalidWord")) (fa_cons (fe_call1 (c_len rfl) T.b_len (fa1 (fe_u (fe_ix rfl (fe_b (fe_v 4)) (fe_u fe_int) (fun _ _ => rfl)))) (hv := bt_len)) fa_nil))))))
    (fss_cons (fs_if (ft_w (fw_and (ft_cmp o_lt (fe_b (fe_call1 (c_len rfl) T.b_len (fa1 (fe_u (fe_ix rfl (fe_b (fe_v 4)) (fe_u fe_int) (fun _ _ => rfl)))) (hv := bt_len))) (fe_u fe_int) (nomark _)) (fw_and (ft_cmp (o_notIn rfl hr.units) (fe_b (fe_ix rfl (fe_b (fe_v 11)) (fe_u fe_int) (fun _ _ => rfl))) (fe_u (fe_v 7)) (by rfl)) (fw_and1 (ft_cmp (o_eq rfl hr.units) (fe_b (fe_ix rfl (fe_b (fe_v 11)) (fe_u fe_int) (fun _ _ => rfl))) (fe_u (fe_tup (fa_cons (fe_v 6) fa_nil))) (nomark _)))))) (fss_one (fs_set (ps_set (i := 10) sc_law.nd rfl (by first | exact Or.inl rfl | exact Or.inr rfl) (fe_tup (fa_cons (fe_str (x := "")) (fa_cons (fe_call (ok_calm (ok_law_made T)) (hr.mono (by decide)) T.f_law_made T.k_law_made T.B_law_made (fa_cons (fe_tup (fa_cons (fe_ix rfl (fe_b (fe_v 4)) (fe_u fe_int) (fun _ _ => rfl)) (fa_cons (fe_op (o_add rfl) (fe_b (fe_ix rfl (fe_b (fe_v 4)) (fe_u fe_int) (fun _ _ => rfl))) (fe_u (fe_n (fn_lst (fa_cons (fe_v 11) fa_nil))))) (fa_cons (fe_ix rfl (fe_b (fe_v 4)) (fe_u fe_int) (fun _ _ => rfl)) fa_nil)))) fa_nil)) fa_nil)))))) fss_nil)
    (fss_cons (fs_if (ft_cmpT (o_neT rfl (ok_Book___eq__ T) (hr.mono (by decide)) T.m_Book___eq__.at_ T.m_Book___eq__.fn T.B_Book___eq__) (fe_v 12) (fe_v 10)) (fss_one (fs_ret fe_bl)) fss_nil)
    (fss_cons (fs_set (ps_set (i := 13) sc_law.nd rfl (by first | exact Or.inl rfl | exact Or.inr rfl) (fe_call (ok_law_of T) (hr.mono (by decide)) T.f_law_of T.k_law_of T.B_law_of (fa_cons (fe_v 1) (fa_cons (fe_n (fn_lst (fa_cons fe_non (fa_cons fe_int (fa_cons fe_int (fa_cons fe_int (fa_cons fe_int fa_nil))))))) fa_nil)))))
    (fss_cons (fs_set (ps_set (i := 12) sc_law.nd rfl (by first | exact Or.inl rfl | exact Or.inr rfl) (fe_why (i := 0) (k := 5) (q := "law.<locals>.<lambda>") (cs := [20, 21, 22, 23, 41]) rfl T.F_law_why sc_law_why T.f_law_why T.B_law_why (fun cdv => why_gives rfl (okH_law_field T) T.f_law_field T.k_law_field T.B_law_field (hr.mono (by decide)) (all_cons T.xg_WrongCount_code (all_cons T.xg_InvalidSort_code (all_cons T.xg_InvalidWord_code (all_cons T.xg_InvalidMemory_code (all_cons T.xg_UnknownWord_code all_nil))))) rfl rfl rfl rfl rfl rfl rfl rfl T.f_TellError T.f_Missing T.f_NothingLeft) (.inl rfl) (all_cons T.xm_WrongCount (all_cons T.xm_InvalidSort (all_cons T.xm_InvalidWord (all_cons T.xm_InvalidMemory (all_cons T.xm_UnknownWord all_nil))))) U.u_law rfl rfl (hr.mono (by decide)) (LamX.lamS_by (sc := defScope s_law) (by decide +kernel)) rfl (fun _ _ _ _ _ => rfl) (fun A outer s H E f c hr2 => (fe_methN0X (np := 1) (nk := 1) (NS := ["sort_rows", "word_rows", "own_memory"]) rfl (takes_of rfl rfl rfl rfl) (ok_Book_with_memory T) (hr2.mono (by decide)) T.c_Book T.m_Book_with_memory T.D_Book_with_memory_1_value rfl (by decide +kernel) (fe_v 5) (fk_cons (fe_v 13) fk_nil))))))
    (fss_cons (fs_if (ft_cmpT (o_neT rfl (ok_Book___eq__ T) (hr.mono (by decide)) T.m_Book___eq__.at_ T.m_Book___eq__.fn T.B_Book___eq__) (fe_v 12) (fe_if (ft_cmp (o_in rfl hr.units) (fe_b (fe_v 13)) (fe_u (fe_n (fn_lst (fa_cons fe_int (fa_cons fe_int fa_nil))))) (by rfl)) (fe_tup (fa_cons (fe_str (x := "InvalidMemory")) (fa_cons (fe_v 13) fa_nil))) (fe_tup (fa_cons (fe_str (x := "")) (fa_cons (fe_call (ok_calm (ok_law_made T)) (hr.mono (by decide)) T.f_law_made T.k_law_made T.B_law_made (fa_cons (fe_tup (fa_cons (fe_ix rfl (fe_b (fe_v 4)) (fe_u fe_int) (fun _ _ => rfl)) (fa_cons (fe_ix rfl (fe_b (fe_v 4)) (fe_u fe_int) (fun _ _ => rfl)) (fa_cons (fe_v 13) fa_nil)))) fa_nil)) fa_nil))))) (fss_one (fs_ret fe_bl)) fss_nil)
    (fss_cons (fs_if (ft_neM (o_neM (ok_Book___eq__ T) (hr.mono (by decide)) T.m_Book___eq__.at_ T.m_Book___eq__.fn T.B_Book___eq__ T.c_Book.po T.ne_Book) (fe_v 5) (fe_call (ok_calm (ok_law_made T)) (hr.mono (by decide)) T.f_law_made T.k_law_made T.B_law_made (fa_cons (fe_v 4) fa_nil))) (fss_one (fs_ret fe_bl)) fss_nil)
    (fss_one (fs_if (ft_not (ft_tru rfl (fe_u (fe_call (ok_law_same T 12) (hr.mono (by decide)) T.f_law_same T.k_law_same T.B_law_same (fa_cons (fe_n (fn_lst (fa_cons (fe_methN0 (np := 1) (nk := 0) (NS := ["sort_rows", "word_rows", "own_memory"]) rfl (ok_Book_sorts T) (hr.mono (by decide)) T.c_Book T.m_Book_sorts T.D_Book_sorts_1 rfl (by decide +kernel) (fe_v 5) fk_nil) (fa_cons (fe_methN0 (np := 1) (nk := 0) (NS := ["sort_rows", "word_rows", "own_memory"]) rfl (ok_Book_words T) (hr.mono (by decide)) T.c_Book T.m_Book_words T.D_Book_words_1 rfl (by decide +kernel) (fe_v 5) fk_nil) (fa_cons (fe_prop (ok_Book_memory T) (hr.mono (by decide)) T.c_Book (T.p_Book_memory.choose_spec) T.B_Book_memory (fe_v 5) pass0) fa_nil))))) (fa_cons (fe_n (fn_lst (fa_cons (fe_ix rfl (fe_b (fe_v 4)) (fe_u fe_int) (fun _ _ => rfl)) (fa_cons (fe_ix rfl (fe_b (fe_v 4)) (fe_u fe_int) (fun _ _ => rfl)) (fa_cons (fe_ix rfl (fe_b (fe_v 4)) (fe_u fe_int) (fun _ _ => rfl)) fa_nil))))) fa_nil)))))) (fss_one (fs_ret fe_bl)) fss_nil)))))))))))))))))
    (fss_one (fs_ret fe_bl))))
end
theorem bx_WrongCount {cc cda : Addr} (kV doc pm : Value) (an : Option Addr) (ct u w : Value) : bindArgs (PySem.W.ksFn "__init__" "WrongCount.__init__" (defArgs sx_WrongCount) (defBody sx_WrongCount) (defScope sx_WrongCount) .none kV doc pm an (.ref cda) ct cc) ⟨[u, w], []⟩ = pure [(("self" : Str), u), (("what" : Str), w)] := rfl

theorem bx_InvalidSort {cc cda : Addr} (kV doc pm : Value) (an : Option Addr) (ct u w : Value) : bindArgs (PySem.W.ksFn "__init__" "InvalidSort.__init__" (defArgs sx_InvalidSort) (defBody sx_InvalidSort) (defScope sx_InvalidSort) .none kV doc pm an (.ref cda) ct cc) ⟨[u, w], []⟩ = pure [(("self" : Str), u), (("at" : Str), w)] := rfl

theorem bx_InvalidWord {cc cda : Addr} (kV doc pm : Value) (an : Option Addr) (ct u w : Value) : bindArgs (PySem.W.ksFn "__init__" "InvalidWord.__init__" (defArgs sx_InvalidWord) (defBody sx_InvalidWord) (defScope sx_InvalidWord) .none kV doc pm an (.ref cda) ct cc) ⟨[u, w], []⟩ = pure [(("self" : Str), u), (("at" : Str), w)] := rfl

theorem bx_InvalidMemory {cc cda : Addr} (kV doc pm : Value) (an : Option Addr) (ct u w : Value) : bindArgs (PySem.W.ksFn "__init__" "InvalidMemory.__init__" (defArgs sx_InvalidMemory) (defBody sx_InvalidMemory) (defScope sx_InvalidMemory) .none kV doc pm an (.ref cda) ct cc) ⟨[u, w], []⟩ = pure [(("self" : Str), u), (("given" : Str), w)] := rfl

theorem bx_UnknownWord {cc cda : Addr} (kV doc pm : Value) (an : Option Addr) (ct u w : Value) : bindArgs (PySem.W.ksFn "__init__" "UnknownWord.__init__" (defArgs sx_UnknownWord) (defBody sx_UnknownWord) (defScope sx_UnknownWord) .none kV doc pm an (.ref cda) ct cc) ⟨[u, w], []⟩ = pure [(("self" : Str), u), (("name" : Str), w)] := rfl

theorem bd_law_feed {K : PySem.W.Frag} {kV dc pm cd ct : Value} {an : Option Addr} : Binds K (PySem.W.fnOf "_law_feed" "_law_feed" (defArgs s_law_feed) (defBody s_law_feed) (defScope s_law_feed) .none kV dc pm an cd ct) ["_law_script"] [] := .all fun us hl => match us, hl with | [_], _ => rfl
theorem bd_law_pick {K : PySem.W.Frag} {kV dc pm cd ct : Value} {an : Option Addr} : Binds K (PySem.W.fnOf "_law_pick" "_law_pick" (defArgs s_law_pick) (defBody s_law_pick) (defScope s_law_pick) .none kV dc pm an cd ct) ["_law_feed_here", "_law_many"] [] := .all fun us hl => match us, hl with | [_, _], _ => rfl
theorem bd_law_mixed {K : PySem.W.Frag} {kV dc pm cd ct : Value} {an : Option Addr} : Binds K (PySem.W.fnOf "_law_mixed" "_law_mixed" (defArgs s_law_mixed) (defBody s_law_mixed) (defScope s_law_mixed) .none kV dc pm an cd ct) ["_law_feed_here", "_law_some"] [] := .all fun us hl => match us, hl with | [_, _], _ => rfl
theorem bd_law_of {K : PySem.W.Frag} {kV dc pm cd ct : Value} {an : Option Addr} : Binds K (PySem.W.fnOf "_law_of" "_law_of" (defArgs s_law_of) (defBody s_law_of) (defScope s_law_of) .none kV dc pm an cd ct) ["_law_feed_here", "_law_some"] [] := .all fun us hl => match us, hl with | [_, _], _ => rfl
theorem bd_law_names {K : PySem.W.Frag} {kV dc pm cd ct : Value} {an : Option Addr} : Binds K (PySem.W.fnOf "_law_names" "_law_names" (defArgs s_law_names) (defBody s_law_names) (defScope s_law_names) .none kV dc pm an cd ct) ["_law_feed_here", "_law_many"] [] := .all fun us hl => match us, hl with | [_, _], _ => rfl
theorem bd_law_book {K : PySem.W.Frag} {kV dc pm cd ct : Value} {an : Option Addr} : Binds K (PySem.W.fnOf "_law_book" "_law_book" (defArgs s_law_book) (defBody s_law_book) (defScope s_law_book) .none kV dc pm an cd ct) ["_law_feed_here", "_law_names_here", "_law_most"] [] := .all fun us hl => match us, hl with | [_, _, _], _ => rfl
theorem bd_is_name {K : PySem.W.Frag} {kV dc pm cd ct : Value} {an : Option Addr} : Binds K (PySem.W.fnOf "is_name" "is_name" (defArgs s_is_name) (defBody s_is_name) (defScope s_is_name) .none kV dc pm an cd ct) ["text"] [] := .all fun us hl => match us, hl with | [_], _ => rfl
theorem bd_is_word_row {K : PySem.W.Frag} {kV dc pm cd ct : Value} {an : Option Addr} : Binds K (PySem.W.fnOf "is_word_row" "is_word_row" (defArgs s_is_word_row) (defBody s_is_word_row) (defScope s_is_word_row) .none kV dc pm an cd ct) ["row", "sort_names", "earlier"] [] := .all fun us hl => match us, hl with | [_, _, _], _ => rfl
theorem bd_law_made {K : PySem.W.Frag} {kV dc pm cd ct : Value} {an : Option Addr} : Binds K (PySem.W.fnOf "_law_made" "_law_made" (defArgs s_law_made) (defBody s_law_made) (defScope s_law_made) .none kV dc pm an cd ct) ["_law_b"] [] := .all fun us hl => match us, hl with | [_], _ => rfl
theorem bd_Book___eq__ {K : PySem.W.Frag} {kV dc pm cd ct : Value} {an : Option Addr} : Binds K (PySem.W.fnOf "__eq__" "Book.__eq__" (defArgs s_Book___eq__) (defBody s_Book___eq__) (defScope s_Book___eq__) .none kV dc pm an cd ct) ["self", "other"] [] := .all fun us hl => match us, hl with | [_, _], _ => rfl
theorem bd_law_field {K : PySem.W.Frag} {kV dc pm cd ct : Value} {an : Option Addr} : Binds K (PySem.W.fnOf "_law_field" "_law_field" (defArgs s_law_field) (defBody s_law_field) (defScope s_law_field) .none kV dc pm an cd ct) ["_law_e"] [] := .all fun us hl => match us, hl with | [_], _ => rfl
theorem bd_law_why {K : PySem.W.Frag} {kV dc pm cd ct : Value} {an : Option Addr} : Binds K (PySem.W.fnOf "_law_why" "_law_why" (defArgs s_law_why) (defBody s_law_why) (defScope s_law_why) .none kV dc pm an cd ct) ["_law_deed"] [] := .all fun us hl => match us, hl with | [_], _ => rfl
theorem bd_Book___sub__ {K : PySem.W.Frag} {kV dc pm cd ct : Value} {an : Option Addr} : Binds K (PySem.W.fnOf "__sub__" "Book.__sub__" (defArgs s_Book___sub__) (defBody s_Book___sub__) (defScope s_Book___sub__) .none kV dc pm an cd ct) ["self", "word"] [] := .all fun us hl => match us, hl with | [_, _], _ => rfl
theorem bd_Book___add__ {K : PySem.W.Frag} {kV dc pm cd ct : Value} {an : Option Addr} : Binds K (PySem.W.fnOf "__add__" "Book.__add__" (defArgs s_Book___add__) (defBody s_Book___add__) (defScope s_Book___add__) .none kV dc pm an cd ct) ["self", "row"] [] := .all fun us hl => match us, hl with | [_, _], _ => rfl
theorem bd_Book_with_memory {K : PySem.W.Frag} {kV dc pm cd ct : Value} {an : Option Addr} : Binds K (PySem.W.fnOf "with_memory" "Book.with_memory" (defArgs s_Book_with_memory) (defBody s_Book_with_memory) (defScope s_Book_with_memory) .none kV dc pm an cd ct) ["self", "value"] [] := .all fun us hl => match us, hl with | [_, _], _ => rfl
theorem bd_law_same {K : PySem.W.Frag} {kV dc pm cd ct : Value} {an : Option Addr} : Binds K (PySem.W.fnOf "_law_same" "_law_same" (defArgs s_law_same) (defBody s_law_same) (defScope s_law_same) .none kV dc pm an cd ct) ["_law_found", "_law_due"] [] := .all fun us hl => match us, hl with | [_, _], _ => rfl
theorem bd_Book_sorts {K : PySem.W.Frag} {kV dc pm cd ct : Value} {an : Option Addr} : Binds K (PySem.W.fnOf "sorts" "Book.sorts" (defArgs s_Book_sorts) (defBody s_Book_sorts) (defScope s_Book_sorts) .none kV dc pm an cd ct) ["self"] [] := .all fun us hl => match us, hl with | [_], _ => rfl
theorem bd_Book_words {K : PySem.W.Frag} {kV dc pm cd ct : Value} {an : Option Addr} : Binds K (PySem.W.fnOf "words" "Book.words" (defArgs s_Book_words) (defBody s_Book_words) (defScope s_Book_words) .none kV dc pm an cd ct) ["self"] [] := .all fun us hl => match us, hl with | [_], _ => rfl
theorem bd_Book_memory {K : PySem.W.Frag} {kV dc pm cd ct : Value} {an : Option Addr} : Binds K (PySem.W.fnOf "memory" "Book.memory" (defArgs s_Book_memory) (defBody s_Book_memory) (defScope s_Book_memory) .none kV dc pm an cd ct) ["self"] [] := .all fun us hl => match us, hl with | [_], _ => rfl
theorem bd_law {K : PySem.W.Frag} {kV dc pm cd ct : Value} {an : Option Addr} : Binds K (PySem.W.fnOf "law" "law" (defArgs s_law) (defBody s_law) (defScope s_law) .none kV dc pm an cd ct) ["_law_script"] [] := .all fun us hl => match us, hl with | [_], _ => rfl
theorem kd_Book___init___3_memory {K : PySem.W.Frag} {kV dc pm cd ct : Value} {an : Option Addr} {T : Addr} {o : Obj} {v0 : Value} {m : Nat} (lT : K.lookup T = some o) (oT : o.data = .seq #[v0] m) : KDx K (PySem.W.fnOf "__init__" "Book.__init__" (defArgs s_Book___init__) (defBody s_Book___init__) (defScope s_Book___init__) (.ref T) kV dc pm an cd ct) ["self", "sorts", "words", "memory"] 3 ["memory"] [0, 1, 2, 3] [] := kd_all lT oT (fun us ws h1 h2 => match us, ws, h1, h2 with | [_, _, _], [_], _, _ => ⟨_, rfl, rfl⟩)
theorem kd_Book_with_memory_1_value {K : PySem.W.Frag} {kV dc pm cd ct : Value} {an : Option Addr} : KDx K (PySem.W.fnOf "with_memory" "Book.with_memory" (defArgs s_Book_with_memory) (defBody s_Book_with_memory) (defScope s_Book_with_memory) .none kV dc pm an cd ct) ["self", "value"] 1 ["value"] [0, 1] [] := KB.kd ⟨fun s us ws _ h1 h2 => match us, ws, h1, h2 with | [_], [_], _, _ => .of_eq rfl⟩
theorem kd_Book_words_1 {K : PySem.W.Frag} {kV dc pm cd ct : Value} {an : Option Addr} : KDx K (PySem.W.fnOf "words" "Book.words" (defArgs s_Book_words) (defBody s_Book_words) (defScope s_Book_words) .none kV dc pm an cd ct) ["self"] 1 [] [0] [] := KB.kd ⟨fun s us ws _ h1 h2 => match us, ws, h1, h2 with | [_], [], _, _ => .of_eq rfl⟩
theorem kd_Book_sorts_1 {K : PySem.W.Frag} {kV dc pm cd ct : Value} {an : Option Addr} : KDx K (PySem.W.fnOf "sorts" "Book.sorts" (defArgs s_Book_sorts) (defBody s_Book_sorts) (defScope s_Book_sorts) .none kV dc pm an cd ct) ["self"] 1 [] [0] [] := KB.kd ⟨fun s us ws _ h1 h2 => match us, ws, h1, h2 with | [_], [], _, _ => .of_eq rfl⟩
set_option maxHeartbeats 0 in
theorem all_mk {l : PySem.W.OpenLaw} {w : World} {K : PySem.W.Frag} {h : Heap} {mg : Str → Option Value} {fa f0 f1 f2 f3 f4 f5 f6 f7 f8 f9 f10 f11 f12 f13 f14 f15 f16 f17 f18 f19 f20 c0 c20 c21 c22 c23 c41 c45 c46 c47 k20_ P20_ T8 p19 xf20 xcd20 xcc20 xf21 xcd21 xcc21 xf22 xcd22 xcc22 xf23 xcd23 xcc23 xf41 xcd41 xcc41 : Addr} {od0 an0 od1 an1 od2 an2 od3 an3 od4 an4 od5 an5 od6 an6 od7 an7 od8 an8 od9 an9 od10 an10 od11 an11 od12 an12 od13 an13 od14 an14 od15 an15 od16 an16 od17 an17 od18 an18 od19 an19 od20 an20 td8 xod20 xan20 xld20 xqb20 xod21 xan21 xld21 xqb21 xod22 xan22 xld22 xqb22 xod23 xan23 xld23 xqb23 xod41 xan41 xld41 xqb41 lqb20 : Option Addr} {sl0 sl1 sl2 sl3 sl4 sl5 sl6 sl7 sl8 sl9 sl10 sl11 sl12 sl13 sl14 sl15 sl16 sl17 sl18 sl19 sl20 ts8 xsl20 xls20 xqd20 xsl21 xls21 xqd21 xsl22 xls22 xqd22 xsl23 xls23 xqd23 xsl41 xls41 xqd41 lqd20 : Array (Option Value)} {oc0 kV0 dc0 pm0 cd0 ct0 oc1 kV1 dc1 pm1 cd1 ct1 oc2 kV2 dc2 pm2 cd2 ct2 oc3 kV3 dc3 pm3 cd3 ct3 oc4 kV4 dc4 pm4 cd4 ct4 oc5 kV5 dc5 pm5 cd5 ct5 oc6 kV6 dc6 pm6 cd6 ct6 oc7 kV7 dc7 pm7 cd7 ct7 oc8 kV8 dc8 pm8 cd8 ct8 oc9 kV9 dc9 pm9 cd9 ct9 oc10 kV10 dc10 pm10 cd10 ct10 oc11 kV11 dc11 pm11 cd11 ct11 oc12 kV12 dc12 pm12 cd12 ct12 oc13 kV13 dc13 pm13 cd13 ct13 oc14 kV14 dc14 pm14 cd14 ct14 oc15 kV15 dc15 pm15 cd15 ct15 oc16 kV16 dc16 pm16 cd16 ct16 oc17 kV17 dc17 pm17 cd17 ct17 oc18 kV18 dc18 pm18 cd18 ct18 oc19 kV19 dc19 pm19 cd19 ct19 oc20 kV20 dc20 pm20 ct20 to8 tv8_0 xoc20 xkV20 xdc20 xpm20 xct20 xcl20 xqa20 xoc21 xkV21 xdc21 xpm21 xct21 xcl21 xqa21 xoc22 xkV22 xdc22 xpm22 xct22 xcl22 xqa22 xoc23 xkV23 xdc23 xpm23 xct23 xcl23 xqa23 xoc41 xkV41 xdc41 xpm41 xct41 xcl41 xqa41 lqa20 : Value} {tn8 : Nat} {rs19 : List Value} {xqc20 : Array Value} {xqe20 : Str} {xqc21 : Array Value} {xqe21 : Str} {xqc22 : Array Value} {xqe22 : Str} {xqc23 : Array Value} {xqe23 : Str} {xqc41 : Array Value} {xqe41 : Str} {lqc20 : Array Value} {t_LETTERS t_MOST_SIGNS t_MOST_MEMORY t_Book_MOST_PRICE t_Book_MOST_SORTS t_Book_MOST_WORDS xqf20 xqf21 xqf22 xqf23 xqf41 : Tok} {q : Program} {loose : List Str} {mean : ExcName → Option Value} {mb : Str → Option Value} (X : K.In h) (GT : PyProof.Rows.Top q (PySem.W.looseW q loose) mean mg mb h) (hfa : mg "law" = some (.ref fa)) (true_ : ∀ ns : List Int, ns.length ≤ 63 → ∃ η, m_law [.lst (ns.map .int)] [.tbl "law.<locals>.<lambda>"] = .ok (.bl true) η)
    (C0 : PySem.W.nsIn K mainGlobals "Book" = some (some (.ref c0)))
    (a0 : PySem.W.nsIn K mainGlobals "_law_feed" = some (some (.ref f0)))
    (l0 : K.lookup f0 = some ⟨oc0, od0, .func (PySem.W.fnOf "_law_feed" "_law_feed" (defArgs s_law_feed) (defBody s_law_feed) (defScope s_law_feed) .none kV0 dc0 pm0 an0 cd0 ct0), sl0⟩)
    (c0_ : PySem.W.codeIn K cd0 "_law_feed" = true)
    (k0 : PySem.W.keepIn K (.ref f0) = true)
    (a1 : PySem.W.nsIn K mainGlobals "_law_pick" = some (some (.ref f1)))
    (l1 : K.lookup f1 = some ⟨oc1, od1, .func (PySem.W.fnOf "_law_pick" "_law_pick" (defArgs s_law_pick) (defBody s_law_pick) (defScope s_law_pick) .none kV1 dc1 pm1 an1 cd1 ct1), sl1⟩)
    (c1_ : PySem.W.codeIn K cd1 "_law_pick" = true)
    (k1 : PySem.W.keepIn K (.ref f1) = true)
    (a2 : PySem.W.nsIn K mainGlobals "_law_mixed" = some (some (.ref f2)))
    (l2 : K.lookup f2 = some ⟨oc2, od2, .func (PySem.W.fnOf "_law_mixed" "_law_mixed" (defArgs s_law_mixed) (defBody s_law_mixed) (defScope s_law_mixed) .none kV2 dc2 pm2 an2 cd2 ct2), sl2⟩)
    (c2_ : PySem.W.codeIn K cd2 "_law_mixed" = true)
    (k2 : PySem.W.keepIn K (.ref f2) = true)
    (a3 : PySem.W.nsIn K mainGlobals "_law_of" = some (some (.ref f3)))
    (l3 : K.lookup f3 = some ⟨oc3, od3, .func (PySem.W.fnOf "_law_of" "_law_of" (defArgs s_law_of) (defBody s_law_of) (defScope s_law_of) .none kV3 dc3 pm3 an3 cd3 ct3), sl3⟩)
    (c3_ : PySem.W.codeIn K cd3 "_law_of" = true)
    (k3 : PySem.W.keepIn K (.ref f3) = true)
    (a4 : PySem.W.nsIn K mainGlobals "_law_names" = some (some (.ref f4)))
    (l4 : K.lookup f4 = some ⟨oc4, od4, .func (PySem.W.fnOf "_law_names" "_law_names" (defArgs s_law_names) (defBody s_law_names) (defScope s_law_names) .none kV4 dc4 pm4 an4 cd4 ct4), sl4⟩)
    (c4_ : PySem.W.codeIn K cd4 "_law_names" = true)
    (k4 : PySem.W.keepIn K (.ref f4) = true)
    (a5 : PySem.W.nsIn K mainGlobals "_law_book" = some (some (.ref f5)))
    (l5 : K.lookup f5 = some ⟨oc5, od5, .func (PySem.W.fnOf "_law_book" "_law_book" (defArgs s_law_book) (defBody s_law_book) (defScope s_law_book) .none kV5 dc5 pm5 an5 cd5 ct5), sl5⟩)
    (c5_ : PySem.W.codeIn K cd5 "_law_book" = true)
    (k5 : PySem.W.keepIn K (.ref f5) = true)
    (a6 : PySem.W.nsIn K mainGlobals "is_name" = some (some (.ref f6)))
    (l6 : K.lookup f6 = some ⟨oc6, od6, .func (PySem.W.fnOf "is_name" "is_name" (defArgs s_is_name) (defBody s_is_name) (defScope s_is_name) .none kV6 dc6 pm6 an6 cd6 ct6), sl6⟩)
    (c6_ : PySem.W.codeIn K cd6 "is_name" = true)
    (k6 : PySem.W.keepIn K (.ref f6) = true)
    (a7 : PySem.W.nsIn K mainGlobals "is_word_row" = some (some (.ref f7)))
    (l7 : K.lookup f7 = some ⟨oc7, od7, .func (PySem.W.fnOf "is_word_row" "is_word_row" (defArgs s_is_word_row) (defBody s_is_word_row) (defScope s_is_word_row) .none kV7 dc7 pm7 an7 cd7 ct7), sl7⟩)
    (c7_ : PySem.W.codeIn K cd7 "is_word_row" = true)
    (k7 : PySem.W.keepIn K (.ref f7) = true)
    (a8 : PySem.W.findIn K (.ref c0) "__init__" = some (some (.ref f8)))
    (i8 : PySem.W.isFn K (.ref f8) = true)
    (l8 : K.lookup f8 = some ⟨oc8, od8, .func (PySem.W.fnOf "__init__" "Book.__init__" (defArgs s_Book___init__) (defBody s_Book___init__) (defScope s_Book___init__) (.ref T8) kV8 dc8 pm8 an8 cd8 ct8), sl8⟩)
    (c8_ : PySem.W.codeIn K cd8 "Book.__init__" = true)
    (k8 : PySem.W.keepIn K (.ref f8) = true)
    (T8_ : K.lookup T8 = some ⟨to8, td8, .seq #[tv8_0] tn8, ts8⟩)
    (a9 : PySem.W.nsIn K mainGlobals "_law_made" = some (some (.ref f9)))
    (l9 : K.lookup f9 = some ⟨oc9, od9, .func (PySem.W.fnOf "_law_made" "_law_made" (defArgs s_law_made) (defBody s_law_made) (defScope s_law_made) .none kV9 dc9 pm9 an9 cd9 ct9), sl9⟩)
    (c9_ : PySem.W.codeIn K cd9 "_law_made" = true)
    (k9 : PySem.W.keepIn K (.ref f9) = true)
    (a10 : PySem.W.findIn K (.ref c0) "__eq__" = some (some (.ref f10)))
    (i10 : PySem.W.isFn K (.ref f10) = true)
    (l10 : K.lookup f10 = some ⟨oc10, od10, .func (PySem.W.fnOf "__eq__" "Book.__eq__" (defArgs s_Book___eq__) (defBody s_Book___eq__) (defScope s_Book___eq__) .none kV10 dc10 pm10 an10 cd10 ct10), sl10⟩)
    (c10_ : PySem.W.codeIn K cd10 "Book.__eq__" = true)
    (k10 : PySem.W.keepIn K (.ref f10) = true)
    (a11 : PySem.W.nsIn K mainGlobals "_law_field" = some (some (.ref f11)))
    (l11 : K.lookup f11 = some ⟨oc11, od11, .func (PySem.W.fnOf "_law_field" "_law_field" (defArgs s_law_field) (defBody s_law_field) (defScope s_law_field) .none kV11 dc11 pm11 an11 cd11 ct11), sl11⟩)
    (c11_ : PySem.W.codeIn K cd11 "_law_field" = true)
    (k11 : PySem.W.keepIn K (.ref f11) = true)
    (a12 : PySem.W.nsIn K mainGlobals "_law_why" = some (some (.ref f12)))
    (l12 : K.lookup f12 = some ⟨oc12, od12, .func (PySem.W.fnOf "_law_why" "_law_why" (defArgs s_law_why) (defBody s_law_why) (defScope s_law_why) .none kV12 dc12 pm12 an12 cd12 ct12), sl12⟩)
    (c12_ : PySem.W.codeIn K cd12 "_law_why" = true)
    (k12 : PySem.W.keepIn K (.ref f12) = true)
    (a13 : PySem.W.findIn K (.ref c0) "__sub__" = some (some (.ref f13)))
    (i13 : PySem.W.isFn K (.ref f13) = true)
    (l13 : K.lookup f13 = some ⟨oc13, od13, .func (PySem.W.fnOf "__sub__" "Book.__sub__" (defArgs s_Book___sub__) (defBody s_Book___sub__) (defScope s_Book___sub__) .none kV13 dc13 pm13 an13 cd13 ct13), sl13⟩)
    (c13_ : PySem.W.codeIn K cd13 "Book.__sub__" = true)
    (k13 : PySem.W.keepIn K (.ref f13) = true)
    (a14 : PySem.W.findIn K (.ref c0) "__add__" = some (some (.ref f14)))
    (i14 : PySem.W.isFn K (.ref f14) = true)
    (l14 : K.lookup f14 = some ⟨oc14, od14, .func (PySem.W.fnOf "__add__" "Book.__add__" (defArgs s_Book___add__) (defBody s_Book___add__) (defScope s_Book___add__) .none kV14 dc14 pm14 an14 cd14 ct14), sl14⟩)
    (c14_ : PySem.W.codeIn K cd14 "Book.__add__" = true)
    (k14 : PySem.W.keepIn K (.ref f14) = true)
    (a15 : PySem.W.findIn K (.ref c0) "with_memory" = some (some (.ref f15)))
    (i15 : PySem.W.isFn K (.ref f15) = true)
    (l15 : K.lookup f15 = some ⟨oc15, od15, .func (PySem.W.fnOf "with_memory" "Book.with_memory" (defArgs s_Book_with_memory) (defBody s_Book_with_memory) (defScope s_Book_with_memory) .none kV15 dc15 pm15 an15 cd15 ct15), sl15⟩)
    (c15_ : PySem.W.codeIn K cd15 "Book.with_memory" = true)
    (k15 : PySem.W.keepIn K (.ref f15) = true)
    (a16 : PySem.W.nsIn K mainGlobals "_law_same" = some (some (.ref f16)))
    (l16 : K.lookup f16 = some ⟨oc16, od16, .func (PySem.W.fnOf "_law_same" "_law_same" (defArgs s_law_same) (defBody s_law_same) (defScope s_law_same) .none kV16 dc16 pm16 an16 cd16 ct16), sl16⟩)
    (c16_ : PySem.W.codeIn K cd16 "_law_same" = true)
    (k16 : PySem.W.keepIn K (.ref f16) = true)
    (a17 : PySem.W.findIn K (.ref c0) "sorts" = some (some (.ref f17)))
    (i17 : PySem.W.isFn K (.ref f17) = true)
    (l17 : K.lookup f17 = some ⟨oc17, od17, .func (PySem.W.fnOf "sorts" "Book.sorts" (defArgs s_Book_sorts) (defBody s_Book_sorts) (defScope s_Book_sorts) .none kV17 dc17 pm17 an17 cd17 ct17), sl17⟩)
    (c17_ : PySem.W.codeIn K cd17 "Book.sorts" = true)
    (k17 : PySem.W.keepIn K (.ref f17) = true)
    (a18 : PySem.W.findIn K (.ref c0) "words" = some (some (.ref f18)))
    (i18 : PySem.W.isFn K (.ref f18) = true)
    (l18 : K.lookup f18 = some ⟨oc18, od18, .func (PySem.W.fnOf "words" "Book.words" (defArgs s_Book_words) (defBody s_Book_words) (defScope s_Book_words) .none kV18 dc18 pm18 an18 cd18 ct18), sl18⟩)
    (c18_ : PySem.W.codeIn K cd18 "Book.words" = true)
    (k18 : PySem.W.keepIn K (.ref f18) = true)
    (a19 : PySem.W.findIn K (.ref c0) "memory" = some (some (.ref p19)))
    (g19 : PySem.W.specialIn K (.ref p19) "__get__" = some (some (.builtin "property.__get__")))
    (t19 : PySem.W.takesIn K (.ref p19) = some true)
    (r19 : PySem.W.recIn K p19 "property" = some (.ref f19 :: rs19))
    (l19 : K.lookup f19 = some ⟨oc19, od19, .func (PySem.W.fnOf "memory" "Book.memory" (defArgs s_Book_memory) (defBody s_Book_memory) (defScope s_Book_memory) .none kV19 dc19 pm19 an19 cd19 ct19), sl19⟩)
    (c19_ : PySem.W.codeIn K cd19 "Book.memory" = true)
    (k19 : PySem.W.keepIn K (.ref f19) = true)
    (a20 : PySem.W.nsIn K mainGlobals "law" = some (some (.ref f20)))
    (l20 : K.lookup f20 = some ⟨oc20, od20, .func (PySem.W.fnOf "law" "law" (defArgs s_law) (defBody s_law) (defScope s_law) .none kV20 dc20 pm20 an20 (.ref k20_) ct20), sl20⟩)
    (c20_ : PySem.W.codeIn K (.ref k20_) "law" = true)
    (k20 : PySem.W.keepIn K (.ref f20) = true)
    (pg0 : PySem.W.plainGet K c0 Str.empty = true)
    (hd0 : PySem.W.hasDictIn K c0 = true)
    (po0 : PySem.W.plainOver K c0 = true)
    (sa0 : PySem.W.findIn K (.ref c0) "__setattr__" = some (some (.builtin "object.__setattr__")))
    (mk0 : PySem.W.makesIn K c0 = true)
    (kc0 : PySem.W.keepIn K (.ref c0) = true)
    (ya0 : PySem.W.findIn K (.ref c0) "__class__" = some (some (.builtin "object.__class__")))
    (yn0 : PySem.W.specialIn K (.builtin "object.__class__") "__get__" = some (some (.builtin "getset_descriptor.__get__")))
    (yt0 : PySem.W.takesIn K (.builtin "object.__class__") = some true)
    (ym0 : PySem.W.mroIn K c0 (.type "object") = some true)
    (ye0 : PySem.W.kitOne K (.ref c0) (.ref c0) = some true)
    (rd0 : PySem.W.readsIn K c0 (.type "type") = true)
    (ga0 : PySem.W.specialIn K (.ref c0) "__getattribute__" = some (some (.builtin "type.__getattribute__")))
    (sf0 : PySem.W.selfFirst K c0 = true)
    (ne0 : PySem.W.findIn K (.ref c0) "__ne__" = some (some (.builtin "object.__ne__")))
    (n0_own_memory : PySem.W.findIn K (.ref c0) "own_memory" = some none)
    (n0_sort_rows : PySem.W.findIn K (.ref c0) "sort_rows" = some none)
    (n0_word_rows : PySem.W.findIn K (.ref c0) "word_rows" = some none)
    (v0_MOST_PRICE : PySem.W.findCls K (.ref c0) (.type "type") "MOST_PRICE" = some (.val (.int 99 t_Book_MOST_PRICE)))
    (v0_MOST_SORTS : PySem.W.findCls K (.ref c0) (.type "type") "MOST_SORTS" = some (.val (.int 4 t_Book_MOST_SORTS)))
    (v0_MOST_WORDS : PySem.W.findCls K (.ref c0) (.type "type") "MOST_WORDS" = some (.val (.int 4 t_Book_MOST_WORDS)))
    (z_all : PySem.W.nsIn K mainGlobals "all" = some none)
    (z_bool : PySem.W.nsIn K mainGlobals "bool" = some none)
    (z_enumerate : PySem.W.nsIn K mainGlobals "enumerate" = some none)
    (z_int : PySem.W.nsIn K mainGlobals "int" = some none)
    (z_isinstance : PySem.W.nsIn K mainGlobals "isinstance" = some none)
    (z_len : PySem.W.nsIn K mainGlobals "len" = some none)
    (z_list : PySem.W.nsIn K mainGlobals "list" = some none)
    (z_range : PySem.W.nsIn K mainGlobals "range" = some none)
    (z_set : PySem.W.nsIn K mainGlobals "set" = some none)
    (z_str : PySem.W.nsIn K mainGlobals "str" = some none)
    (z_tuple : PySem.W.nsIn K mainGlobals "tuple" = some none)
    (z_zip : PySem.W.nsIn K mainGlobals "zip" = some none)
    (e_LETTERS : PySem.W.nsIn K mainGlobals "LETTERS" = some (some (.str "abcdefghijklmnopqrstuvwxyz" t_LETTERS)))
    (e_MOST_SIGNS : PySem.W.nsIn K mainGlobals "MOST_SIGNS" = some (some (.int 8 t_MOST_SIGNS)))
    (e_MOST_MEMORY : PySem.W.nsIn K mainGlobals "MOST_MEMORY" = some (some (.int 4 t_MOST_MEMORY)))
    (C46 : PySem.W.nsIn K mainGlobals "TellError" = some (some (.ref c46)))
    (C47 : PySem.W.nsIn K mainGlobals "Missing" = some (some (.ref c47)))
    (C20 : PySem.W.nsIn K mainGlobals "WrongCount" = some (some (.ref c20)))
    (C21 : PySem.W.nsIn K mainGlobals "InvalidSort" = some (some (.ref c21)))
    (C22 : PySem.W.nsIn K mainGlobals "InvalidWord" = some (some (.ref c22)))
    (C23 : PySem.W.nsIn K mainGlobals "InvalidMemory" = some (some (.ref c23)))
    (C41 : PySem.W.nsIn K mainGlobals "UnknownWord" = some (some (.ref c41)))
    (C45 : PySem.W.nsIn K mainGlobals "NothingLeft" = some (some (.ref c45)))
    (xany : PySem.W.nsIn K cStatics "thirdparty.any" = some none)
    (xsup : PySem.W.nsIn K mainGlobals "super" = some none)
    (xtop : (l.prog.main.scope.names.lookup ("super" : Str)).isSome = false)
    (xa20 : PySem.W.findIn K (.ref c20) "__init__" = some (some (.ref xf20)))
    (xl20 : K.lookup xf20 = some ⟨xoc20, xod20, .func (PySem.W.ksFn "__init__" "WrongCount.__init__" (defArgs sx_WrongCount) (defBody sx_WrongCount) (defScope sx_WrongCount) .none xkV20 xdc20 xpm20 xan20 (.ref xcd20) xct20 xcc20), xsl20⟩)
    (xb20 : PySem.W.excInitIn K c20 [.type "ValueError", .type "Exception", .type "BaseException", .type "object"] "ValueError.__new__" = true)
    (xc20 : PySem.W.excOver K c20 [.type "ValueError", .type "Exception", .type "BaseException", .type "object"] = true)
    (xd20 : PySem.W.isFn K (.ref xf20) = true)
    (xe20 : PySem.W.ks_superIn K c20 c20 "__init__" = some (some (.builtin "ValueError.__init__")))
    (xg20 : PySem.W.subIn K (.ref c20) (.type "ValueError") = some true)
    (xh20 : PySem.W.mroIn K c20 (.ref c20) = some true)
    (xi20 : K.lookup xcc20 = some ⟨xcl20, xld20, .cell (some (.ref c20)), xls20⟩)
    (xj20 : PySem.W.findIn K (.ref c20) "__setattr__" = some (some (.builtin "object.__setattr__")))
    (xk20 : PySem.W.hasDictIn K c20 = true)
    (xm20 : PySem.W.keepIn K (.ref c20) = true)
    (xn20 : PySem.W.subIn K (.ref c20) (.type "BaseException") = some true)
    (xo20 : PySem.W.typeIn K (.ref c20) = some (.type "type"))
    (xp20 : PySem.W.codeIn K (.ref xcd20) "WrongCount.__init__" = true)
    (xq20 : K.lookup xcd20 = some ⟨xqa20, xqb20, .fields xqc20, xqd20⟩)
    (xr20 : xqc20[2]? = some (.str xqe20 xqf20))
    (xs20 : ((l.prog.main.file : Str) == xqe20) = true)
    (xt20_what : PySem.W.takerIn K c20 "what" = some none)
    (xt20_code : PySem.W.takerIn K c20 "code" = some none)
    (xa21 : PySem.W.findIn K (.ref c21) "__init__" = some (some (.ref xf21)))
    (xl21 : K.lookup xf21 = some ⟨xoc21, xod21, .func (PySem.W.ksFn "__init__" "InvalidSort.__init__" (defArgs sx_InvalidSort) (defBody sx_InvalidSort) (defScope sx_InvalidSort) .none xkV21 xdc21 xpm21 xan21 (.ref xcd21) xct21 xcc21), xsl21⟩)
    (xb21 : PySem.W.excInitIn K c21 [.type "ValueError", .type "Exception", .type "BaseException", .type "object"] "ValueError.__new__" = true)
    (xc21 : PySem.W.excOver K c21 [.type "ValueError", .type "Exception", .type "BaseException", .type "object"] = true)
    (xd21 : PySem.W.isFn K (.ref xf21) = true)
    (xe21 : PySem.W.ks_superIn K c21 c21 "__init__" = some (some (.builtin "ValueError.__init__")))
    (xg21 : PySem.W.subIn K (.ref c21) (.type "ValueError") = some true)
    (xh21 : PySem.W.mroIn K c21 (.ref c21) = some true)
    (xi21 : K.lookup xcc21 = some ⟨xcl21, xld21, .cell (some (.ref c21)), xls21⟩)
    (xj21 : PySem.W.findIn K (.ref c21) "__setattr__" = some (some (.builtin "object.__setattr__")))
    (xk21 : PySem.W.hasDictIn K c21 = true)
    (xm21 : PySem.W.keepIn K (.ref c21) = true)
    (xn21 : PySem.W.subIn K (.ref c21) (.type "BaseException") = some true)
    (xo21 : PySem.W.typeIn K (.ref c21) = some (.type "type"))
    (xp21 : PySem.W.codeIn K (.ref xcd21) "InvalidSort.__init__" = true)
    (xq21 : K.lookup xcd21 = some ⟨xqa21, xqb21, .fields xqc21, xqd21⟩)
    (xr21 : xqc21[2]? = some (.str xqe21 xqf21))
    (xs21 : ((l.prog.main.file : Str) == xqe21) = true)
    (xt21_at : PySem.W.takerIn K c21 "at" = some none)
    (xt21_code : PySem.W.takerIn K c21 "code" = some none)
    (xa22 : PySem.W.findIn K (.ref c22) "__init__" = some (some (.ref xf22)))
    (xl22 : K.lookup xf22 = some ⟨xoc22, xod22, .func (PySem.W.ksFn "__init__" "InvalidWord.__init__" (defArgs sx_InvalidWord) (defBody sx_InvalidWord) (defScope sx_InvalidWord) .none xkV22 xdc22 xpm22 xan22 (.ref xcd22) xct22 xcc22), xsl22⟩)
    (xb22 : PySem.W.excInitIn K c22 [.type "ValueError", .type "Exception", .type "BaseException", .type "object"] "ValueError.__new__" = true)
    (xc22 : PySem.W.excOver K c22 [.type "ValueError", .type "Exception", .type "BaseException", .type "object"] = true)
    (xd22 : PySem.W.isFn K (.ref xf22) = true)
    (xe22 : PySem.W.ks_superIn K c22 c22 "__init__" = some (some (.builtin "ValueError.__init__")))
    (xg22 : PySem.W.subIn K (.ref c22) (.type "ValueError") = some true)
    (xh22 : PySem.W.mroIn K c22 (.ref c22) = some true)
    (xi22 : K.lookup xcc22 = some ⟨xcl22, xld22, .cell (some (.ref c22)), xls22⟩)
    (xj22 : PySem.W.findIn K (.ref c22) "__setattr__" = some (some (.builtin "object.__setattr__")))
    (xk22 : PySem.W.hasDictIn K c22 = true)
    (xm22 : PySem.W.keepIn K (.ref c22) = true)
    (xn22 : PySem.W.subIn K (.ref c22) (.type "BaseException") = some true)
    (xo22 : PySem.W.typeIn K (.ref c22) = some (.type "type"))
    (xp22 : PySem.W.codeIn K (.ref xcd22) "InvalidWord.__init__" = true)
    (xq22 : K.lookup xcd22 = some ⟨xqa22, xqb22, .fields xqc22, xqd22⟩)
    (xr22 : xqc22[2]? = some (.str xqe22 xqf22))
    (xs22 : ((l.prog.main.file : Str) == xqe22) = true)
    (xt22_at : PySem.W.takerIn K c22 "at" = some none)
    (xt22_code : PySem.W.takerIn K c22 "code" = some none)
    (xa23 : PySem.W.findIn K (.ref c23) "__init__" = some (some (.ref xf23)))
    (xl23 : K.lookup xf23 = some ⟨xoc23, xod23, .func (PySem.W.ksFn "__init__" "InvalidMemory.__init__" (defArgs sx_InvalidMemory) (defBody sx_InvalidMemory) (defScope sx_InvalidMemory) .none xkV23 xdc23 xpm23 xan23 (.ref xcd23) xct23 xcc23), xsl23⟩)
    (xb23 : PySem.W.excInitIn K c23 [.type "ValueError", .type "Exception", .type "BaseException", .type "object"] "ValueError.__new__" = true)
    (xc23 : PySem.W.excOver K c23 [.type "ValueError", .type "Exception", .type "BaseException", .type "object"] = true)
    (xd23 : PySem.W.isFn K (.ref xf23) = true)
    (xe23 : PySem.W.ks_superIn K c23 c23 "__init__" = some (some (.builtin "ValueError.__init__")))
    (xg23 : PySem.W.subIn K (.ref c23) (.type "ValueError") = some true)
    (xh23 : PySem.W.mroIn K c23 (.ref c23) = some true)
    (xi23 : K.lookup xcc23 = some ⟨xcl23, xld23, .cell (some (.ref c23)), xls23⟩)
    (xj23 : PySem.W.findIn K (.ref c23) "__setattr__" = some (some (.builtin "object.__setattr__")))
    (xk23 : PySem.W.hasDictIn K c23 = true)
    (xm23 : PySem.W.keepIn K (.ref c23) = true)
    (xn23 : PySem.W.subIn K (.ref c23) (.type "BaseException") = some true)
    (xo23 : PySem.W.typeIn K (.ref c23) = some (.type "type"))
    (xp23 : PySem.W.codeIn K (.ref xcd23) "InvalidMemory.__init__" = true)
    (xq23 : K.lookup xcd23 = some ⟨xqa23, xqb23, .fields xqc23, xqd23⟩)
    (xr23 : xqc23[2]? = some (.str xqe23 xqf23))
    (xs23 : ((l.prog.main.file : Str) == xqe23) = true)
    (xt23_given : PySem.W.takerIn K c23 "given" = some none)
    (xt23_code : PySem.W.takerIn K c23 "code" = some none)
    (xa41 : PySem.W.findIn K (.ref c41) "__init__" = some (some (.ref xf41)))
    (xl41 : K.lookup xf41 = some ⟨xoc41, xod41, .func (PySem.W.ksFn "__init__" "UnknownWord.__init__" (defArgs sx_UnknownWord) (defBody sx_UnknownWord) (defScope sx_UnknownWord) .none xkV41 xdc41 xpm41 xan41 (.ref xcd41) xct41 xcc41), xsl41⟩)
    (xb41 : PySem.W.excInitIn K c41 [.type "LookupError", .type "Exception", .type "BaseException", .type "object"] "LookupError.__new__" = true)
    (xc41 : PySem.W.excOver K c41 [.type "LookupError", .type "Exception", .type "BaseException", .type "object"] = true)
    (xd41 : PySem.W.isFn K (.ref xf41) = true)
    (xe41 : PySem.W.ks_superIn K c41 c41 "__init__" = some (some (.builtin "LookupError.__init__")))
    (xg41 : PySem.W.subIn K (.ref c41) (.type "LookupError") = some true)
    (xh41 : PySem.W.mroIn K c41 (.ref c41) = some true)
    (xi41 : K.lookup xcc41 = some ⟨xcl41, xld41, .cell (some (.ref c41)), xls41⟩)
    (xj41 : PySem.W.findIn K (.ref c41) "__setattr__" = some (some (.builtin "object.__setattr__")))
    (xk41 : PySem.W.hasDictIn K c41 = true)
    (xm41 : PySem.W.keepIn K (.ref c41) = true)
    (xn41 : PySem.W.subIn K (.ref c41) (.type "BaseException") = some true)
    (xo41 : PySem.W.typeIn K (.ref c41) = some (.type "type"))
    (xp41 : PySem.W.codeIn K (.ref xcd41) "UnknownWord.__init__" = true)
    (xq41 : K.lookup xcd41 = some ⟨xqa41, xqb41, .fields xqc41, xqd41⟩)
    (xr41 : xqc41[2]? = some (.str xqe41 xqf41))
    (xs41 : ((l.prog.main.file : Str) == xqe41) = true)
    (xt41_name : PySem.W.takerIn K c41 "name" = some none)
    (xt41_code : PySem.W.takerIn K c41 "code" = some none)
    (xu23_code : PySem.W.findIn K (.ref c23) "code" = some none)
    (xu23_given : PySem.W.findIn K (.ref c23) "given" = some none)
    (xu21_at : PySem.W.findIn K (.ref c21) "at" = some none)
    (xu21_code : PySem.W.findIn K (.ref c21) "code" = some none)
    (xu22_at : PySem.W.findIn K (.ref c22) "at" = some none)
    (xu22_code : PySem.W.findIn K (.ref c22) "code" = some none)
    (xu41_code : PySem.W.findIn K (.ref c41) "code" = some none)
    (xu41_name : PySem.W.findIn K (.ref c41) "name" = some none)
    (xu20_code : PySem.W.findIn K (.ref c20) "code" = some none)
    (xu20_what : PySem.W.findIn K (.ref c20) "what" = some none)
    (xv23 : PySem.W.findIn K (.ref c23) "__getattribute__" = some (some (.builtin "BaseException.__getattribute__")))
    (xw23 : PySem.W.findIn K (.ref c23) "__getattr__" = some none)
    (xv21 : PySem.W.findIn K (.ref c21) "__getattribute__" = some (some (.builtin "BaseException.__getattribute__")))
    (xw21 : PySem.W.findIn K (.ref c21) "__getattr__" = some none)
    (xv22 : PySem.W.findIn K (.ref c22) "__getattribute__" = some (some (.builtin "BaseException.__getattribute__")))
    (xw22 : PySem.W.findIn K (.ref c22) "__getattr__" = some none)
    (xv41 : PySem.W.findIn K (.ref c41) "__getattribute__" = some (some (.builtin "BaseException.__getattribute__")))
    (xw41 : PySem.W.findIn K (.ref c41) "__getattr__" = some none)
    (xv20 : PySem.W.findIn K (.ref c20) "__getattribute__" = some (some (.builtin "BaseException.__getattribute__")))
    (xw20 : PySem.W.findIn K (.ref c20) "__getattr__" = some none)
    (xx20_TellError : PySem.W.exmOne K (.ref c20) (.ref c46) = some true)
    (xx20_Missing : PySem.W.exmOne K (.ref c20) (.ref c47) = some false)
    (xx20_NothingLeft : PySem.W.exmOne K (.ref c20) (.ref c45) = some false)
    (xx21_TellError : PySem.W.exmOne K (.ref c21) (.ref c46) = some true)
    (xx21_Missing : PySem.W.exmOne K (.ref c21) (.ref c47) = some false)
    (xx21_NothingLeft : PySem.W.exmOne K (.ref c21) (.ref c45) = some false)
    (xx22_TellError : PySem.W.exmOne K (.ref c22) (.ref c46) = some true)
    (xx22_Missing : PySem.W.exmOne K (.ref c22) (.ref c47) = some false)
    (xx22_NothingLeft : PySem.W.exmOne K (.ref c22) (.ref c45) = some false)
    (xx23_TellError : PySem.W.exmOne K (.ref c23) (.ref c46) = some true)
    (xx23_Missing : PySem.W.exmOne K (.ref c23) (.ref c47) = some false)
    (xx23_NothingLeft : PySem.W.exmOne K (.ref c23) (.ref c45) = some false)
    (xx41_TellError : PySem.W.exmOne K (.ref c41) (.ref c46) = some false)
    (xx41_Missing : PySem.W.exmOne K (.ref c41) (.ref c47) = some true)
    (xx41_NothingLeft : PySem.W.exmOne K (.ref c41) (.ref c45) = some false)
    (lq20 : K.lookup k20_ = some ⟨lqa20, lqb20, .fields lqc20, lqd20⟩)
    (lv20 : lqc20[11]? = some (.ref P20_))
    (lr20 : ((PyProof.Rows.recsOf q).find? fun e => e.name == ("law" : Str)).isSome = true)
    (ln20 : K.lookup P20_ = none) :
    LamX.LawAtS l w K CX0 22 63 "_law_script" mg fa h := by
  have G := GT.g
  have e := hfa.symm.trans (PySem.W.mg_of X G a20)
  obtain rfl : f20 = fa := by cases e; rfl
  let A : Nat → Addr := fun i => [f0, f1, f2, f3, f4, f5, f6, f7, f8, f9, f10, f11, f12, f13, f14, f15, f16, f17, f18, f19, f20].getD i 0
  let FD : Nat → FuncData := fun i => [PySem.W.fnOf "_law_feed" "_law_feed" (defArgs s_law_feed) (defBody s_law_feed) (defScope s_law_feed) .none kV0 dc0 pm0 an0 cd0 ct0, PySem.W.fnOf "_law_pick" "_law_pick" (defArgs s_law_pick) (defBody s_law_pick) (defScope s_law_pick) .none kV1 dc1 pm1 an1 cd1 ct1, PySem.W.fnOf "_law_mixed" "_law_mixed" (defArgs s_law_mixed) (defBody s_law_mixed) (defScope s_law_mixed) .none kV2 dc2 pm2 an2 cd2 ct2, PySem.W.fnOf "_law_of" "_law_of" (defArgs s_law_of) (defBody s_law_of) (defScope s_law_of) .none kV3 dc3 pm3 an3 cd3 ct3, PySem.W.fnOf "_law_names" "_law_names" (defArgs s_law_names) (defBody s_law_names) (defScope s_law_names) .none kV4 dc4 pm4 an4 cd4 ct4, PySem.W.fnOf "_law_book" "_law_book" (defArgs s_law_book) (defBody s_law_book) (defScope s_law_book) .none kV5 dc5 pm5 an5 cd5 ct5, PySem.W.fnOf "is_name" "is_name" (defArgs s_is_name) (defBody s_is_name) (defScope s_is_name) .none kV6 dc6 pm6 an6 cd6 ct6, PySem.W.fnOf "is_word_row" "is_word_row" (defArgs s_is_word_row) (defBody s_is_word_row) (defScope s_is_word_row) .none kV7 dc7 pm7 an7 cd7 ct7, PySem.W.fnOf "__init__" "Book.__init__" (defArgs s_Book___init__) (defBody s_Book___init__) (defScope s_Book___init__) (.ref T8) kV8 dc8 pm8 an8 cd8 ct8, PySem.W.fnOf "_law_made" "_law_made" (defArgs s_law_made) (defBody s_law_made) (defScope s_law_made) .none kV9 dc9 pm9 an9 cd9 ct9, PySem.W.fnOf "__eq__" "Book.__eq__" (defArgs s_Book___eq__) (defBody s_Book___eq__) (defScope s_Book___eq__) .none kV10 dc10 pm10 an10 cd10 ct10, PySem.W.fnOf "_law_field" "_law_field" (defArgs s_law_field) (defBody s_law_field) (defScope s_law_field) .none kV11 dc11 pm11 an11 cd11 ct11, PySem.W.fnOf "_law_why" "_law_why" (defArgs s_law_why) (defBody s_law_why) (defScope s_law_why) .none kV12 dc12 pm12 an12 cd12 ct12, PySem.W.fnOf "__sub__" "Book.__sub__" (defArgs s_Book___sub__) (defBody s_Book___sub__) (defScope s_Book___sub__) .none kV13 dc13 pm13 an13 cd13 ct13, PySem.W.fnOf "__add__" "Book.__add__" (defArgs s_Book___add__) (defBody s_Book___add__) (defScope s_Book___add__) .none kV14 dc14 pm14 an14 cd14 ct14, PySem.W.fnOf "with_memory" "Book.with_memory" (defArgs s_Book_with_memory) (defBody s_Book_with_memory) (defScope s_Book_with_memory) .none kV15 dc15 pm15 an15 cd15 ct15, PySem.W.fnOf "_law_same" "_law_same" (defArgs s_law_same) (defBody s_law_same) (defScope s_law_same) .none kV16 dc16 pm16 an16 cd16 ct16, PySem.W.fnOf "sorts" "Book.sorts" (defArgs s_Book_sorts) (defBody s_Book_sorts) (defScope s_Book_sorts) .none kV17 dc17 pm17 an17 cd17 ct17, PySem.W.fnOf "words" "Book.words" (defArgs s_Book_words) (defBody s_Book_words) (defScope s_Book_words) .none kV18 dc18 pm18 an18 cd18 ct18, PySem.W.fnOf "memory" "Book.memory" (defArgs s_Book_memory) (defBody s_Book_memory) (defScope s_Book_memory) .none kV19 dc19 pm19 an19 cd19 ct19, PySem.W.fnOf "law" "law" (defArgs s_law) (defBody s_law) (defScope s_law) .none kV20 dc20 pm20 an20 (.ref k20_) ct20].getD i (PySem.W.fnOf "law" "law" (defArgs s_law) (defBody s_law) (defScope s_law) .none kV20 dc20 pm20 an20 (.ref k20_) ct20)
  let CL : Nat → Addr := fun i => [c0, 0, 0, 0, 0, 0, 0, 0, 0, 0, 0, 0, 0, 0, 0, 0, 0, 0, 0, 0, c20, c21, c22, c23, 0, 0, 0, 0, 0, 0, 0, 0, 0, 0, 0, 0, 0, 0, 0, 0, 0, c41, 0, 0, 0, c45, c46, c47].getD i 0
  let CA : Nat → Addr := fun i => [k20_, 0].getD i 0
  have T : Txt l.prog K mg A FD CL CA := ⟨PySem.W.mg_of X G C46,
    PySem.W.mg_of X G C47,
    PySem.W.mg_of X G C45,
    (exR1 DX.exB_Value ⟨xb20, xc20, xa20, xd20, xe20, xg20, xh20, xany, xsup, ⟨_, _, _, xi20⟩, xj20, xk20, xm20, xn20, xo20⟩ (PySem.W.mg_of X G C20) (PySem.W.mg_none_of X G xsup) ⟨⟨_, _, _, _, _, _, _, _, xl20⟩, xp20, ⟨_, _, _, _, _, _, xq20, xr20, xs20⟩, xtop⟩ (st := sx_WrongCount) ⟨rfl, rfl, rfl, by decide +kernel, by decide +kernel, rfl, rfl⟩ rfl rfl rfl (fun L => ⟨_, rfl⟩) xt20_what xt20_code bx_WrongCount),
    (exR1 DX.exB_Value ⟨xb21, xc21, xa21, xd21, xe21, xg21, xh21, xany, xsup, ⟨_, _, _, xi21⟩, xj21, xk21, xm21, xn21, xo21⟩ (PySem.W.mg_of X G C21) (PySem.W.mg_none_of X G xsup) ⟨⟨_, _, _, _, _, _, _, _, xl21⟩, xp21, ⟨_, _, _, _, _, _, xq21, xr21, xs21⟩, xtop⟩ (st := sx_InvalidSort) ⟨rfl, rfl, rfl, by decide +kernel, by decide +kernel, rfl, rfl⟩ rfl rfl rfl (fun L => ⟨_, rfl⟩) xt21_at xt21_code bx_InvalidSort),
    (exR1 DX.exB_Value ⟨xb22, xc22, xa22, xd22, xe22, xg22, xh22, xany, xsup, ⟨_, _, _, xi22⟩, xj22, xk22, xm22, xn22, xo22⟩ (PySem.W.mg_of X G C22) (PySem.W.mg_none_of X G xsup) ⟨⟨_, _, _, _, _, _, _, _, xl22⟩, xp22, ⟨_, _, _, _, _, _, xq22, xr22, xs22⟩, xtop⟩ (st := sx_InvalidWord) ⟨rfl, rfl, rfl, by decide +kernel, by decide +kernel, rfl, rfl⟩ rfl rfl rfl (fun L => ⟨_, rfl⟩) xt22_at xt22_code bx_InvalidWord),
    (exR1 DX.exB_Value ⟨xb23, xc23, xa23, xd23, xe23, xg23, xh23, xany, xsup, ⟨_, _, _, xi23⟩, xj23, xk23, xm23, xn23, xo23⟩ (PySem.W.mg_of X G C23) (PySem.W.mg_none_of X G xsup) ⟨⟨_, _, _, _, _, _, _, _, xl23⟩, xp23, ⟨_, _, _, _, _, _, xq23, xr23, xs23⟩, xtop⟩ (st := sx_InvalidMemory) ⟨rfl, rfl, rfl, by decide +kernel, by decide +kernel, rfl, rfl⟩ rfl rfl rfl (fun L => ⟨_, rfl⟩) xt23_given xt23_code bx_InvalidMemory),
    (exR1 DX.exB_Lookup ⟨xb41, xc41, xa41, xd41, xe41, xg41, xh41, xany, xsup, ⟨_, _, _, xi41⟩, xj41, xk41, xm41, xn41, xo41⟩ (PySem.W.mg_of X G C41) (PySem.W.mg_none_of X G xsup) ⟨⟨_, _, _, _, _, _, _, _, xl41⟩, xp41, ⟨_, _, _, _, _, _, xq41, xr41, xs41⟩, xtop⟩ (st := sx_UnknownWord) ⟨rfl, rfl, rfl, by decide +kernel, by decide +kernel, rfl, rfl⟩ rfl rfl rfl (fun L => ⟨_, rfl⟩) xt41_name xt41_code bx_UnknownWord),
    ⟨xv23, xw23, xn23, xk23, xu23_code⟩,
    ⟨xv23, xw23, xn23, xk23, xu23_given⟩,
    ⟨xv21, xw21, xn21, xk21, xu21_at⟩,
    ⟨xv21, xw21, xn21, xk21, xu21_code⟩,
    ⟨xv22, xw22, xn22, xk22, xu22_at⟩,
    ⟨xv22, xw22, xn22, xk22, xu22_code⟩,
    ⟨xv41, xw41, xn41, xk41, xu41_code⟩,
    ⟨xv41, xw41, xn41, xk41, xu41_name⟩,
    ⟨xv20, xw20, xn20, xk20, xu20_code⟩,
    ⟨xv20, xw20, xn20, xk20, xu20_what⟩,
    (exm3 xx20_TellError xx20_Missing xx20_NothingLeft rfl),
    (exm3 xx21_TellError xx21_Missing xx21_NothingLeft rfl),
    (exm3 xx22_TellError xx22_Missing xx22_NothingLeft rfl),
    (exm3 xx23_TellError xx23_Missing xx23_NothingLeft rfl),
    (exm3 xx41_TellError xx41_Missing xx41_NothingLeft rfl),
    PySem.W.mg_none_of X G z_all,
    PySem.W.mg_none_of X G z_bool,
    PySem.W.mg_none_of X G z_enumerate,
    PySem.W.mg_none_of X G z_int,
    PySem.W.mg_none_of X G z_isinstance,
    PySem.W.mg_none_of X G z_len,
    PySem.W.mg_none_of X G z_list,
    PySem.W.mg_none_of X G z_range,
    PySem.W.mg_none_of X G z_set,
    PySem.W.mg_none_of X G z_str,
    PySem.W.mg_none_of X G z_tuple,
    PySem.W.mg_none_of X G z_zip,
    ⟨_, PySem.W.mg_of X G e_LETTERS⟩,
    ⟨_, PySem.W.mg_of X G e_MOST_SIGNS⟩,
    ⟨_, PySem.W.mg_of X G e_MOST_MEMORY⟩,
    PySem.W.mg_of X G C0,
    ⟨pg0, hd0, po0, sa0⟩,
    ⟨mk0, a8, i8, kc0⟩,
    ⟨⟨pg0, hd0, po0, sa0⟩, ya0, yn0, yt0, ym0, ye0⟩,
    ⟨rd0, ga0⟩,
    sf0,
    ne0,
    n0_own_memory,
    n0_sort_rows,
    n0_word_rows,
    ⟨_, v0_MOST_PRICE, ⟨_, rfl⟩⟩,
    ⟨_, v0_MOST_SORTS, ⟨_, rfl⟩⟩,
    ⟨_, v0_MOST_WORDS, ⟨_, rfl⟩⟩,
    PySem.W.mg_of X G a0,
    FunG.mk' (st := s_law_feed) l0 c0_ k0,
    bd_law_feed,
    PySem.W.mg_of X G a1,
    FunG.mk' (st := s_law_pick) l1 c1_ k1,
    bd_law_pick,
    PySem.W.mg_of X G a2,
    FunG.mk' (st := s_law_mixed) l2 c2_ k2,
    bd_law_mixed,
    PySem.W.mg_of X G a3,
    FunG.mk' (st := s_law_of) l3 c3_ k3,
    bd_law_of,
    PySem.W.mg_of X G a4,
    FunG.mk' (st := s_law_names) l4 c4_ k4,
    bd_law_names,
    PySem.W.mg_of X G a5,
    FunG.mk' (st := s_law_book) l5 c5_ k5,
    bd_law_book,
    PySem.W.mg_of X G a6,
    FunG.mk' (st := s_is_name) l6 c6_ k6,
    bd_is_name,
    PySem.W.mg_of X G a7,
    FunG.mk' (st := s_is_word_row) l7 c7_ k7,
    bd_is_word_row,
    ⟨a8, i8, k8⟩,
    FunG.mk' (st := s_Book___init__) l8 c8_ k8,
    PySem.W.mg_of X G a9,
    FunG.mk' (st := s_law_made) l9 c9_ k9,
    bd_law_made,
    ⟨a10, i10, k10⟩,
    FunG.mk' (st := s_Book___eq__) l10 c10_ k10,
    bd_Book___eq__,
    PySem.W.mg_of X G a11,
    FunG.mk' (st := s_law_field) l11 c11_ k11,
    bd_law_field,
    PySem.W.mg_of X G a12,
    FunG.mk' (st := s_law_why) l12 c12_ k12,
    bd_law_why,
    ⟨a13, i13, k13⟩,
    FunG.mk' (st := s_Book___sub__) l13 c13_ k13,
    bd_Book___sub__,
    ⟨a14, i14, k14⟩,
    FunG.mk' (st := s_Book___add__) l14 c14_ k14,
    bd_Book___add__,
    ⟨a15, i15, k15⟩,
    FunG.mk' (st := s_Book_with_memory) l15 c15_ k15,
    bd_Book_with_memory,
    PySem.W.mg_of X G a16,
    FunG.mk' (st := s_law_same) l16 c16_ k16,
    bd_law_same,
    ⟨a17, i17, k17⟩,
    FunG.mk' (st := s_Book_sorts) l17 c17_ k17,
    bd_Book_sorts,
    ⟨a18, i18, k18⟩,
    FunG.mk' (st := s_Book_words) l18 c18_ k18,
    bd_Book_words,
    ⟨p19, a19, g19, t19, _, r19⟩,
    FunG.mk' (st := s_Book_memory) l19 c19_ k19,
    bd_Book_memory,
    PySem.W.mg_of X G a20,
    FunL.mk' (st := s_law) l20 c20_ k20,
    bd_law,
    (kd_Book___init___3_memory T8_ rfl),
    kd_Book_with_memory_1_value,
    kd_Book_words_1,
    kd_Book_sorts_1⟩
  let TB : Str → Addr := fun s => if s = ("law.<locals>.<lambda>" : Str) then P20_ else 0
  have tbe20 : TB "law.<locals>.<lambda>" = P20_ := if_pos rfl
  obtain ⟨dr20, hdr20⟩ := Option.isSome_iff_exists.mp lr20
  have tf20 := PySem.W.tab_of GT X hdr20 (tabIn_of a20 l20 rfl lq20 lv20)
  exact ⟨FD 20, [(k20_, P20_)], spT K TB m_law, (fun p hp => by
    simp only [List.mem_cons, List.not_mem_nil, or_false] at hp
    rcases hp with rfl
    · exact tf20.2), (fun p hp => by
    simp only [List.mem_cons, List.not_mem_nil, or_false] at hp
    rcases hp with rfl
    · exact ln20), (fun p hp => by
    simp only [List.mem_cons, List.not_mem_nil, or_false] at hp
    rcases hp with rfl
    · exact tf20.1), fun s v => .of_eq rfl, fun H a ns hl _ hT hS cl => law_spT (qs := ["law.<locals>.<lambda>"]) true_ hl (by simp) (fun z hz => by
    simp only [List.mem_cons, List.not_mem_nil, or_false] at hz
    rcases hz with rfl
    · rw [tbe20]; exact hT (k20_, P20_) (by simp)) hS, fun base _ _ hU => (ok_law T ⟨by rw [tbe20]; exact hU (k20_, P20_) (by simp)⟩).imp fun vs H Q E z => z CL⟩
theorem walk {l : PySem.W.OpenLaw} {q : Program} {loose : List Str} {XP : (Str → Option Value) → Heap → Prop} {YP : World → Heap → Prop} {d : DefRec} {K : Params → PySem.W.Frag} (hn : l.most = some 63) (hdf : d.params.defaults = [])
    (hY : ∀ (w : World) (h : Heap), YP w h → (K w.params).In h)
    (F : ∀ (w : World) (mg mb : Str → Option Value) (mean : ExcName → Option Value) (fa : Addr) (h : Heap), (K w.params).In h → PyProof.Rows.Top q (PySem.W.looseW q loose) mean mg mb h → mg d.name = some (.ref fa) → LamX.LawAtS l w (K w.params) CX0 22 63 "_law_script" mg fa h) :
    PySem.W.WalkO q loose XP YP l.row.toRowW d [] (fun f vs => PySem.call f vs) :=
  walk_T (n := 63) (k := 22) (x := "_law_script") (CX := fun _ => CX0) hn (by decide) hdf ⟨rfl, by decide, by decide⟩ hY F fun _ _ _ _ _ z => z
end Law
namespace Law
open PySem L2 DL
abbrev L1 : S := (sSet 1 (fCall 1 m_law_feed (fCons (fV 0) fNil)))
abbrev L2b1 : S := (sSet 3 (fCall 2 m_law_names (fCons (fV 1) (fCons (fC (.int 10)) fNil))))
abbrev L2b2 : S := (sSet 4 (fCall 3 m_law_book (fCons (fV 1) (fCons (fV 3) (fCons (fC (.int 4)) fNil)))))
abbrev L2b3 : S := (sSet 5 (fCall 1 m_law_made (fCons (fV 4) fNil)))
abbrev L2b4 : S := (sPar 6 7 (fOp ixD (fOp ixD (fOp ixD (fV 4) (fC (.int 0))) (fC (.int 0))) (fC (.int 0))) (fFrz (fLc [8, 14, 15] (fiA (fOp ixD (fV 4) (fC (.int 1)))) (.tp [(.nm 8), (.nm 14), (.nm 15)]) fYes (fV 8))))
abbrev L2b5b1 : S := (sFrz 9 (fLc [16] (fiA (fOp ixD (fV 4) (fC (.int 1)))) (.nm 16) (toB (fOp neD (fOp ixD (fV 16) (fC (.int 0))) (fV 8))) (fV 16)))
abbrev L2b5b2 : S := (sSet 10 (fIf (toB (fOp inD (fV 8) (fV 7))) (fTup (fCons (fC (.str "")) (fCons (fCall 1 m_law_made (fCons (fTup (fCons (fOp ixD (fV 4) (fC (.int 0))) (fCons (fV 9) (fCons (fOp ixD (fV 4) (fC (.int 2))) fNil)))) fNil)) fNil))) (fTup (fCons (fC (.str "UnknownWord")) (fCons (fV 8) fNil)))))
abbrev L2b5b3t1 : S := (sRet (fC (.bl false)))
abbrev L2b5b3t : S := L2b5b3t1
abbrev L2b5b3 : S := (sIf (toB (fCmpT 0 2 m_Book___eq__ true (fWhy 0 "law.<locals>.<lambda>" [20, 21, 22, 23, 41] m_law_field (fBinMX 0 2 m_Book___sub__ ["str", "list", "tuple"] (fV 5) (fV 8))) (fV 10))) L2b5b3t SR.nx)
abbrev L2b5b : S := (sSeq L2b5b1 (sSeq L2b5b2 L2b5b3))
abbrev L2b5 : S := (sFor (fiA (fV 3)) (.nm 8) L2b5b)
abbrev L2b6 : S := (sSet 11 (fTup (fCons (fCall 2 m_law_of (fCons (fV 1) (fCons (fOp addD (fSl (fV 3) (fPt (fC (.int 8))) fNoP) (fV 7)) fNil))) (fCons (fCall 2 m_law_of (fCons (fV 1) (fCons (fFrz (fLstN (fCons (fTup (fCons (fV 6) fNil)) (fCons (fTup (fCons (fV 6) fNil)) (fCons (fTup fNil) (fCons (fTup (fCons (fC (.str "A")) fNil)) fNil)))))) fNil))) (fCons (fC (.int 7)) fNil)))))
abbrev L2b7 : S := (sSet 12 (fWhy 0 "law.<locals>.<lambda>" [20, 21, 22, 23, 41] m_law_field (fBinMX 0 2 m_Book___add__ ["str", "list", "tuple"] (fV 5) (fV 11))))
abbrev L2b8 : S := (sSet 10 (fIf (toB (fOp gtD (fCall1 lenD (fOp ixD (fV 4) (fC (.int 1)))) (fC (.int 3)))) (fTup (fCons (fC (.str "WrongCount")) (fCons (fC (.str "words")) fNil))) (fTup (fCons (fC (.str "InvalidWord")) (fCons (fCall1 lenD (fOp ixD (fV 4) (fC (.int 1)))) fNil)))))
abbrev L2b9t1 : S := (sSet 10 (fTup (fCons (fC (.str "")) (fCons (fCall 1 m_law_made (fCons (fTup (fCons (fOp ixD (fV 4) (fC (.int 0))) (fCons (fOp addD (fOp ixD (fV 4) (fC (.int 1))) (fFrz (fLstN (fCons (fV 11) fNil)))) (fCons (fOp ixD (fV 4) (fC (.int 2))) fNil)))) fNil)) fNil))))
abbrev L2b9t : S := L2b9t1
abbrev L2b9 : S := (sIf (fAndB (toB (fOp ltD (fCall1 lenD (fOp ixD (fV 4) (fC (.int 1)))) (fC (.int 4)))) (fAndB (toB (fOp notInD (fOp ixD (fV 11) (fC (.int 0))) (fV 7))) (toB (fOp eqD (fOp ixD (fV 11) (fC (.int 1))) (fTup (fCons (fV 6) fNil)))))) L2b9t SR.nx)
abbrev L2b10t1 : S := (sRet (fC (.bl false)))
abbrev L2b10t : S := L2b10t1
abbrev L2b10 : S := (sIf (toB (fCmpT 0 2 m_Book___eq__ true (fV 12) (fV 10))) L2b10t SR.nx)
abbrev L2b11 : S := (sSet 13 (fCall 2 m_law_of (fCons (fV 1) (fCons (fFrz (fLstN (fCons (fC .non) (fCons (fC (.int 1)) (fCons (fC (.int 4)) (fCons (fC (.int 0)) (fCons (fC (.int 5)) fNil))))))) fNil))))
abbrev L2b12 : S := (sSet 12 (fWhy 0 "law.<locals>.<lambda>" [20, 21, 22, 23, 41] m_law_field (fMethX 0 ["sort_rows", "word_rows", "own_memory"] 1 1 2 m_Book_with_memory [0, 1] [] (fV 5) fNil (fCons (fV 13) fNil))))
abbrev L2b13t1 : S := (sRet (fC (.bl false)))
abbrev L2b13t : S := L2b13t1
abbrev L2b13 : S := (sIf (toB (fCmpT 0 2 m_Book___eq__ true (fV 12) (fIf (toB (fOp inD (fV 13) (fFrz (fLstN (fCons (fC (.int 0)) (fCons (fC (.int 5)) fNil)))))) (fTup (fCons (fC (.str "InvalidMemory")) (fCons (fV 13) fNil))) (fTup (fCons (fC (.str "")) (fCons (fCall 1 m_law_made (fCons (fTup (fCons (fOp ixD (fV 4) (fC (.int 0))) (fCons (fOp ixD (fV 4) (fC (.int 1))) (fCons (fV 13) fNil)))) fNil)) fNil)))))) L2b13t SR.nx)
abbrev L2b14t1 : S := (sRet (fC (.bl false)))
abbrev L2b14t : S := L2b14t1
abbrev L2b14 : S := (sIf (toB (fNot (fEqM 0 2 m_Book___eq__ (fV 5) (fCall 1 m_law_made (fCons (fV 4) fNil))))) L2b14t SR.nx)
abbrev L2b15t1 : S := (sRet (fC (.bl false)))
abbrev L2b15t : S := L2b15t1
abbrev L2b15 : S := (sIf (fNotB (fTru (fCall 2 (m_law_same 12) (fCons (fFrz (fLstN (fCons (fMeth 0 ["sort_rows", "word_rows", "own_memory"] 1 0 1 m_Book_sorts [0] [] (fV 5) fNil fNil) (fCons (fMeth 0 ["sort_rows", "word_rows", "own_memory"] 1 0 1 m_Book_words [0] [] (fV 5) fNil fNil) (fCons (fProp 0 1 m_Book_memory (fV 5)) fNil))))) (fCons (fFrz (fLstN (fCons (fOp ixD (fV 4) (fC (.int 0))) (fCons (fOp ixD (fV 4) (fC (.int 1))) (fCons (fOp ixD (fV 4) (fC (.int 2))) fNil))))) fNil))))) L2b15t SR.nx)
abbrev L2b : S := (sSeq L2b1 (sSeq L2b2 (sSeq L2b3 (sSeq L2b4 (sSeq L2b5 (sSeq L2b6 (sSeq L2b7 (sSeq L2b8 (sSeq L2b9 (sSeq L2b10 (sSeq L2b11 (sSeq L2b12 (sSeq L2b13 (sSeq L2b14 L2b15))))))))))))))
abbrev L2 : S := (sFor (fiR1 (fC (.int 4))) (.nm 2) L2b)
abbrev L3 : S := (sRet (fC (.bl true)))
abbrev L : S := (sSeq L1 (sSeq L2 L3))
theorem L_eq : b_law = L := rfl

abbrev LQ : Str := "law.<locals>.<lambda>"
section
variable {ks : List (Str × Int)} {rs : List Row} {m : D} {a : Nat} {η : List O} {ls : List Str} {kn z : Str}
variable {x0 x1 x2 x3 x4 x5 x6 x7 x8 x9 x10 x11 x12 x13 x14 x15 x16 : Option DL.L}
theorem why_unk : whyM [20, 21, 22, 23, 41] m_law_field (.exc 41 ["name", "code"] [.str z, .str "UnknownWord"] η) = .ok (.tup [.str "UnknownWord", .str z]) η := by with_unfolding_all rfl
theorem why_ok {d : D} : whyM [20, 21, 22, 23, 41] m_law_field (.ok d η) = .ok (.tup [.str "", d]) η := rfl
def dueE : BErr → D
  | .cnt s => .tup [.str "WrongCount", .str s]
  | .sort k => .tup [.str "InvalidSort", .int k]
  | .word k => .tup [.str "InvalidWord", .int k]
  | .mem m => .tup [.str "InvalidMemory", m]
theorem why_err (e : BErr) (he : ∀ m, e = .mem m → MemAny m) : whyM [20, 21, 22, 23, 41] m_law_field (.exc (excB e).1 (excB e).2.1 (excB e).2.2 η) = .ok (dueE e) η := by
  cases e with
  | cnt z => with_unfolding_all rfl
  | sort k => with_unfolding_all rfl
  | word k => with_unfolding_all rfl
  | mem m =>
    cases he m rfl with
    | non => with_unfolding_all rfl
    | int => with_unfolding_all rfl
/-- two books with the same fields -/
theorem cmp_books {i j : Nat} {A B q : D} (hi : η[i]? = some (.ins 0 NSB [A, B, q])) (hj : η[j]? = some (.ins 0 NSB [A, B, q])) (ne : i ≠ j) (kA : OkD A) (kB : OkD B) (kq : OkD q) :
    cmpT2 0 2 m_Book___eq__ (.tup [.str "", .obj i]) (.tup [.str "", .obj j]) η = .ok true η := by
  have e := book_eq_raw hi hj kA kB kq kA kB kq
  simp only [decide_true, Bool.and_true] at e
  have o1 : okq (.obj i) = false := rfl
  have c1 : insC η 0 (.obj i) = true := by simp [hi]
  have c2 : insC η 0 (.obj j) = true := by simp [hj]
  simp [cmpT2, o1, c1, c2, ne, e]
theorem cmp_pure {s t : Str} {d e : D} (hd : OkD d) (he : d = e) (hs : s = t) : cmpT2 0 2 m_Book___eq__ (.tup [.str s, d]) (.tup [.str t, e]) η = .ok true η := by
  subst he hs
  have : eqvD d d = true := by rw [eqvD_dat hd.d hd.d]; simp
  simp [cmpT2, hd.p, this]
theorem name_turn (h : BookDrawn ks rs m) (ha : η[a]? = some (.ins 0 NSB [.lst (ks.map kd2), .lst (rs.map Row.d), m])) (ht : isTbl η 0 LQ = true) :
    ∃ y9 y10 y16 t, L2b5b [x0, some (.val (.obj 1)), x2, some (.val (.lst (ls.map .str))), some (.val (bkT ks rs m)), some (.val (.obj a)), some (.val (.str kn)), some (.val (.lst ((rs.map (·.n)).map .str))), some (.val (.str z)), x9, x10, x11, x12, x13, x14, x15, x16] η = .nx [x0, some (.val (.obj 1)), x2, some (.val (.lst (ls.map .str))), some (.val (bkT ks rs m)), some (.val (.obj a)), some (.val (.str kn)), some (.val (.lst ((rs.map (·.n)).map .str))), some (.val (.str z)), y9, y10, x11, x12, x13, x14, x15, y16] (η ++ t) := by
  have hc : compF (.nm 16) (toB (fOp neD (fOp ixD (fV 16) (fC (.int 0))) (fV 8))) (fV 16) (wipeD [x0, some (.val (.obj 1)), x2, some (.val (.lst (ls.map .str))), some (.val (bkT ks rs m)), some (.val (.obj a)), some (.val (.str kn)), some (.val (.lst ((rs.map (·.n)).map .str))), some (.val (.str z)), x9, x10, x11, x12, x13, x14, x15, x16] [16]) (rs.map Row.d) η = .ok ((rowsNot rs z).map Row.d) η :=
    not_comp fun x => ⟨_, asg_nm, by simp [wipeD], by simp [wipeD]⟩
  have b1 : ixD (bkT ks rs m) (.int 1) = some (.lst (rs.map Row.d)) := rfl
  have s1 : L2b5b1 [x0, some (.val (.obj 1)), x2, some (.val (.lst (ls.map .str))), some (.val (bkT ks rs m)), some (.val (.obj a)), some (.val (.str kn)), some (.val (.lst ((rs.map (·.n)).map .str))), some (.val (.str z)), x9, x10, x11, x12, x13, x14, x15, x16] η = .nx [x0, some (.val (.obj 1)), x2, some (.val (.lst (ls.map .str))), some (.val (bkT ks rs m)), some (.val (.obj a)), some (.val (.str kn)), some (.val (.lst ((rs.map (·.n)).map .str))), some (.val (.str z)), some (.val (.lst ((rowsNot rs z).map Row.d))), x10, x11, x12, x13, x14, x15, x16] η := by
    generalize (rowsNot rs z).map Row.d = R2 at *
    generalize hR : rs.map Row.d = R at *
    simp [-List.map_map, b1, hc]
  have rn := rowsNot_ok h.r (z := z)
  obtain ⟨sub1, sub2⟩ := book_sub_ok (η := η) ha (z := z) h.k h.r h.m
  by_cases hz : z ∈ rs.map (·.n)
  · have e1 := (law_made_any (η := η) (ks := ks) (rs := rowsNot rs z) (m := m) h.m.any (kinds_len h.k) (rows_len rn)).1 (err_none h.k rn h.m)
    obtain ⟨t1, ht1⟩ : ∃ t1, t1 = [O.ins 0 NSB (bookD ks (rowsNot rs z) m), .lst (((rowsNot rs z).map (·.n)).map .str)] := ⟨_, rfl⟩
    rw [← ht1] at e1
    have e2 := (book_sub_ok (η := η ++ t1) (ins_old ha) (z := z) h.k h.r h.m).1 hz
    rw [← ht1] at e2
    have s2 : L2b5b2 [x0, some (.val (.obj 1)), x2, some (.val (.lst (ls.map .str))), some (.val (bkT ks rs m)), some (.val (.obj a)), some (.val (.str kn)), some (.val (.lst ((rs.map (·.n)).map .str))), some (.val (.str z)), some (.val (.lst ((rowsNot rs z).map Row.d))), x10, x11, x12, x13, x14, x15, x16] η = .nx [x0, some (.val (.obj 1)), x2, some (.val (.lst (ls.map .str))), some (.val (bkT ks rs m)), some (.val (.obj a)), some (.val (.str kn)), some (.val (.lst ((rs.map (·.n)).map .str))), some (.val (.str z)), some (.val (.lst ((rowsNot rs z).map Row.d))), some (.val (.tup [.str "", .obj η.length])), x11, x12, x13, x14, x15, x16] (η ++ t1) := by
      have hin : inD (.str z) (.lst ((rs.map (·.n)).map .str)) = some (.bl true) := by rw [inD_ls]; simp only [hz, decide_true]
      have e1 : m_law_made [.tup [.lst (ks.map kd2), .lst ((rowsNot rs z).map Row.d), m]] η = .ok (.obj η.length) (η ++ t1) := e1
      generalize (rowsNot rs z).map Row.d = R2 at *
      generalize (rs.map (·.n)).map D.str = RN at *
      simp [-List.map_map, hin, bk0, bk2, sz, e1]
    have g1 : (η ++ t1 ++ t1)[η.length]? = some (.ins 0 NSB (bookD ks (rowsNot rs z) m)) := ins_old (by rw [ht1]; simp)
    have g2 : (η ++ t1 ++ t1)[(η ++ t1).length]? = some (.ins 0 NSB (bookD ks (rowsNot rs z) m)) := by rw [ht1]; simp
    have ne : (η ++ t1).length ≠ η.length := by rw [ht1]; simp
    have cm := cmp_books g2 g1 ne (okD_kinds _) (okD_rows _) (okD_mem h.m)
    refine ⟨some (.val (.lst ((rowsNot rs z).map Row.d))), some (.val (.tup [.str "", .obj η.length])), x16, t1 ++ t1, ?_⟩
    have ht2 : isTbl (η ++ t1) 0 LQ = true := by unfold isTbl at ht ⊢; split at ht <;> rename_i q hq <;> first | (rw [ins_old hq]; exact ht) | cases ht
    have i1 : insC (η ++ t1) 0 (.obj a) = true := by simp [ins_old (t := t1) ha]
    have i2 : okT ["str", "list", "tuple"] (.str z) = true := rfl
    rw [show L2b5b = sSeq L2b5b1 (sSeq L2b5b2 L2b5b3) from rfl, sSeq_a, s1, seq_nx, sSeq_a, s2, seq_nx]
    generalize (η ++ t1).length = A2 at *
    generalize η.length = A1 at *
    generalize (rowsNot rs z).map Row.d = R2 at *
    rw [← List.append_assoc]
    generalize η ++ t1 = H at *
    generalize H ++ t1 = H2 at *
    simp [-List.map_map, -insC_a, ht2, i1, i2, e2, why_ok, cm]
  · refine ⟨some (.val (.lst ((rowsNot rs z).map Row.d))), some (.val (.tup [.str "UnknownWord", .str z])), x16, [], ?_⟩
    have s2 : L2b5b2 [x0, some (.val (.obj 1)), x2, some (.val (.lst (ls.map .str))), some (.val (bkT ks rs m)), some (.val (.obj a)), some (.val (.str kn)), some (.val (.lst ((rs.map (·.n)).map .str))), some (.val (.str z)), some (.val (.lst ((rowsNot rs z).map Row.d))), x10, x11, x12, x13, x14, x15, x16] η = .nx [x0, some (.val (.obj 1)), x2, some (.val (.lst (ls.map .str))), some (.val (bkT ks rs m)), some (.val (.obj a)), some (.val (.str kn)), some (.val (.lst ((rs.map (·.n)).map .str))), some (.val (.str z)), some (.val (.lst ((rowsNot rs z).map Row.d))), some (.val (.tup [.str "UnknownWord", .str z])), x11, x12, x13, x14, x15, x16] η := by
      have hin : inD (.str z) (.lst ((rs.map (·.n)).map .str)) = some (.bl false) := by rw [inD_ls]; simp only [hz, decide_false]
      generalize (rowsNot rs z).map Row.d = R2 at *
      generalize (rs.map (·.n)).map D.str = RN at *
      simp [hin, sz]
    have i1 : insC η 0 (.obj a) = true := by simp [ha]
    have i2 : okT ["str", "list", "tuple"] (.str z) = true := rfl
    have cm := cmp_pure (η := η) (s := "UnknownWord") (t := "UnknownWord") (d := .str z) (e := .str z) ⟨rfl, rfl⟩ rfl rfl
    have e2 := sub2 hz
    rw [show L2b5b = sSeq L2b5b1 (sSeq L2b5b2 L2b5b3) from rfl, sSeq_a, s1, seq_nx, sSeq_a, s2, seq_nx, List.append_nil]
    generalize (rowsNot rs z).map Row.d = R2 at *
    simp [-List.map_map, -insC_a, ht, i1, i2, e2, why_unk, cm]
theorem tbl_old {t : List O} (ht : isTbl η 0 LQ = true) : isTbl (η ++ t) 0 LQ = true := by
  unfold isTbl at ht ⊢
  split at ht <;> rename_i q hq <;> first | (rw [ins_old hq]; exact ht) | cases ht
theorem names_loop (h : BookDrawn ks rs m) (ha : η[a]? = some (.ins 0 NSB [.lst (ks.map kd2), .lst (rs.map Row.d), m])) (ht : isTbl η 0 LQ = true) :
    ∃ y8 y9 y10 y16 t, L2b5 [x0, some (.val (.obj 1)), x2, some (.val (.lst (ls.map .str))), some (.val (bkT ks rs m)), some (.val (.obj a)), some (.val (.str kn)), some (.val (.lst ((rs.map (·.n)).map .str))), x8, x9, x10, x11, x12, x13, x14, x15, x16] η = .nx [x0, some (.val (.obj 1)), x2, some (.val (.lst (ls.map .str))), some (.val (bkT ks rs m)), some (.val (.obj a)), some (.val (.str kn)), some (.val (.lst ((rs.map (·.n)).map .str))), y8, y9, y10, x11, x12, x13, x14, x15, y16] (η ++ t) := by
  obtain ⟨δ', η', el, y8, y9, y10, y16, t, rfl, rfl⟩ := loop_mem (t := .nm 8) (b := L2b5b) (fun δ η' => ∃ y8 y9 y10 y16 t, δ = [x0, some (.val (.obj 1)), x2, some (.val (.lst (ls.map .str))), some (.val (bkT ks rs m)), some (.val (.obj a)), some (.val (.str kn)), some (.val (.lst ((rs.map (·.n)).map .str))), y8, y9, y10, x11, x12, x13, x14, x15, y16] ∧ η' = η ++ t) (ds := ls.map .str)
    (δ := [x0, some (.val (.obj 1)), x2, some (.val (.lst (ls.map .str))), some (.val (bkT ks rs m)), some (.val (.obj a)), some (.val (.str kn)), some (.val (.lst ((rs.map (·.n)).map .str))), x8, x9, x10, x11, x12, x13, x14, x15, x16]) (η := η) ⟨x8, x9, x10, x16, [], rfl, by rw [List.append_nil]⟩ fun x hx δ η1 ⟨y8, y9, y10, y16, t, e1, e2⟩ => by
      subst e1 e2
      obtain ⟨z, _, rfl⟩ := List.mem_map.mp hx
      obtain ⟨z9, z10, z16, t2, e⟩ := name_turn (ls := ls) (kn := kn) (z := z) (x0 := x0) (x2 := x2) (x9 := y9) (x10 := y10) (x11 := x11) (x12 := x12) (x13 := x13) (x14 := x14) (x15 := x15) (x16 := y16) h (ins_old (t := t) ha) (tbl_old ht)
      exact ⟨_, asg_nm, _, _, .inl e, _, _, _, _, t ++ t2, rfl, by rw [List.append_assoc]⟩
  refine ⟨y8, y9, y10, y16, t, ?_⟩
  generalize ls.map D.str = LS at *
  simp [-List.map_map, el]

/-! ### a word more -/
def moreR (z : Str) (st : List Str) : Row := ⟨z, st, 7⟩
structure MoreOk (kn : Str) (ks : List (Str × Int)) (z : Str) (st : List Str) : Prop where
  z : nameB z = true ∧ z.length ≤ 8
  s : st = [kn] ∨ st = [] ∨ st = [("A" : Str)]
  k : kn ∈ ks.map (·.1)
theorem A_not (hk : KindsOk ks) : ("A" : Str) ∉ ks.map (·.1) := fun h => by
  obtain ⟨k, h1, h2⟩ := List.mem_map.mp h
  have := (hk.ok k h1).1
  rw [h2] at this
  exact absurd this (by decide +kernel)
theorem more_cases {st : List Str} (h : BookDrawn ks rs m) (hm : MoreOk kn ks z st) :
    ((rs.length ≤ 3 ∧ z ∉ rs.map (·.n) ∧ st = [kn]) → bookErr ks (rs ++ [moreR z st]) m = none ∧ RowsOk (ks.map (·.1)) (rs ++ [moreR z st])) ∧
    (¬ (rs.length ≤ 3 ∧ z ∉ rs.map (·.n) ∧ st = [kn]) → bookErr ks (rs ++ [moreR z st]) m = some (if rs.length ≤ 3 then .word rs.length else .cnt "words")) := by
  have er := err_add (r' := moreR z st) h.k h.r h.m
  refine ⟨fun ⟨a1, a2, a3⟩ => ?_, fun hn => ?_⟩
  · have row : RowOk (ks.map (·.1)) (rs.map (·.n)) (moreR z st) := ⟨hm.z, a2, by show (0:Int) ≤ 7; decide, by show (7:Int) ≤ 99; decide, by show st ≠ []; rw [a3]; simp, fun s hs => by
      have hs : s ∈ st := hs
      rw [a3, List.mem_singleton] at hs; rw [hs]; exact hm.k, by show st.Nodup; rw [a3]; simp, by show st.length ≤ 100; rw [a3]; simp⟩
    refine ⟨by rw [er, if_pos a1, if_pos (wordB_ok row)], by simp; omega, ?_, fun r hr => ?_⟩
    · rw [List.map_append, List.nodup_append]
      refine ⟨h.r.nd, by simp, fun x hx y hy => ?_⟩
      have hy : y = z := by simpa [moreR] using hy
      rw [hy]; intro e; rw [e] at hx; exact a2 hx
    · rcases List.mem_append.mp hr with z1 | z1
      · exact h.r.ok r z1
      · rw [List.mem_singleton] at z1
        rw [z1]
        exact ⟨row.nm, by simp, row.p0, row.p1, row.ne, row.mem, row.nd, row.few⟩
  · rw [er]
    by_cases a1 : rs.length ≤ 3
    · rw [if_pos a1, if_pos a1]
      have w : ¬ wordB (ks.map (·.1)) (rs.map (·.n)) (moreR z st) = true := fun w => by
        unfold wordB moreR at w
        simp only [Bool.and_eq_true, Bool.not_eq_true', decide_eq_false_iff_not, decide_eq_true_eq, List.all_eq_true] at w
        refine hn ⟨a1, w.1.1.2, ?_⟩
        rcases hm.s with s | s | s
        · exact s
        · exact absurd s w.2.1.1
        · exact absurd (w.2.1.2 "A" (by rw [s]; simp)) (A_not h.k)
      rw [if_neg w]
    · rw [if_neg a1, if_neg a1]
theorem isTbl_ins (ha : η[a]? = some (.ins 0 NSB [.lst (ks.map kd2), .lst (rs.map Row.d), m])) : insC η 0 (.obj a) = true := by simp [ha]
theorem dec_ts {a b : List Str} : eqD (.tup (a.map .str)) (.tup (b.map .str)) = some (.bl (decide (a = b))) := by
  rw [eqD_dat (by rw [datD]; exact dat_strs _) (by rw [datD]; exact dat_strs _) (by show pureDs 19 _ = true; exact pure_strsN _ _) (by show pureDs 19 _ = true; exact pure_strsN _ _)]
  congr 2
  by_cases e : a = b
  · simp [e]
  · have : ¬ D.tup (a.map .str) = .tup (b.map .str) := fun w => e (strs_inj.mp (D.tup.inj w))
    simp [e, this]
theorem notIn_ls {z : Str} {zs : List Str} : notInD (.str z) (.lst (zs.map .str)) = some (.bl (!decide (z ∈ zs))) := by unfold notInD; rw [inD_ls]; rfl
abbrev L2b79 : S := sSeq L2b7 (sSeq L2b8 (sSeq L2b9 L2b10))
theorem more_turn {st : List Str} (h : BookDrawn ks rs m) (hm : MoreOk kn ks z st) (ha : η[a]? = some (.ins 0 NSB [.lst (ks.map kd2), .lst (rs.map Row.d), m])) (ht : isTbl η 0 LQ = true) :
    ∃ y10 y12 t, L2b79 [x0, some (.val (.obj 1)), x2, some (.val (.lst (ls.map .str))), some (.val (bkT ks rs m)), some (.val (.obj a)), some (.val (.str kn)), some (.val (.lst ((rs.map (·.n)).map .str))), x8, x9, x10, some (.val ((moreR z st).d)), x12, x13, x14, x15, x16] η = .nx [x0, some (.val (.obj 1)), x2, some (.val (.lst (ls.map .str))), some (.val (bkT ks rs m)), some (.val (.obj a)), some (.val (.str kn)), some (.val (.lst ((rs.map (·.n)).map .str))), x8, x9, y10, some (.val ((moreR z st).d)), y12, x13, x14, x15, x16] (η ++ t) := by
  obtain ⟨c1, c2⟩ := more_cases (m := m) h hm
  have l4 := h.r.l1
  have zl : ∀ k ∈ ks, k.1.length ≤ 1000 := kinds_len h.k
  have zr : ∀ r ∈ rs ++ [moreR z st], r.n.length ≤ 1000 ∧ r.st.length ≤ 100 := fun r hr => by
    rcases List.mem_append.mp hr with q | q
    · exact rows_len h.r r q
    · rw [List.mem_singleton] at q
      rw [q]
      refine ⟨by show z.length ≤ 1000; have := hm.z.2; omega, ?_⟩
      show st.length ≤ 100
      rcases hm.s with s | s | s <;> rw [s] <;> simp
  obtain ⟨ad1, ad2⟩ := book_add_any (η := η) ha (r' := moreR z st) (by omega) h.m.any zl zr
  have ic := isTbl_ins ha
  have io : okT ["str", "list", "tuple"] (moreR z st).d = true := rfl
  have b1 : ixD (bkT ks rs m) (.int 1) = some (.lst (rs.map Row.d)) := rfl
  have i0 : ixD (moreR z st).d (.int 0) = some (.str z) := rfl
  have i1 : ixD (moreR z st).d (.int 1) = some (.tup (st.map .str)) := rfl
  have hl : ((rs.map Row.d).length : Int) = rs.length := by rw [List.length_map]
  have ni := notIn_ls (z := z) (zs := rs.map (·.n))
  have de := dec_ts (a := st) (b := [kn])
  rw [show ([kn] : List Str).map D.str = [.str kn] from rfl] at de
  by_cases ok : rs.length ≤ 3 ∧ z ∉ rs.map (·.n) ∧ st = [kn]
  · obtain ⟨e0, rok⟩ := c1 ok
    have e1 := ad1 e0
    obtain ⟨t1, ht1⟩ : ∃ t1, t1 = [O.ins 0 NSB (bookD ks (rs ++ [moreR z st]) m), .lst (((rs ++ [moreR z st]).map (·.n)).map .str)] := ⟨_, rfl⟩
    rw [← ht1] at e1
    have e2 := (law_made_any (η := η ++ t1) (ks := ks) (rs := rs ++ [moreR z st]) (m := m) h.m.any zl zr).1 e0
    rw [← ht1] at e2
    have e2 : m_law_made [.tup [.lst (ks.map kd2), .lst (rs.map Row.d ++ [(moreR z st).d]), m]] (η ++ t1) = .ok (.obj (η ++ t1).length) (η ++ t1 ++ t1) := by
      have : rs.map Row.d ++ [(moreR z st).d] = (rs ++ [moreR z st]).map Row.d := by simp
      rw [this]; exact e2
    have g1 : (η ++ t1 ++ t1)[η.length]? = some (.ins 0 NSB (bookD ks (rs ++ [moreR z st]) m)) := ins_old (by rw [ht1]; simp)
    have g2 : (η ++ t1 ++ t1)[(η ++ t1).length]? = some (.ins 0 NSB (bookD ks (rs ++ [moreR z st]) m)) := by rw [ht1]; simp
    have ne : η.length ≠ (η ++ t1).length := by rw [ht1]; simp
    have cm := cmp_books g1 g2 ne (okD_kinds _) (okD_rows _) (okD_mem h.m)
    refine ⟨some (.val (.tup [.str "", .obj (η ++ t1).length])), some (.val (.tup [.str "", .obj η.length])), t1 ++ t1, ?_⟩
    have g3 : gtD (.int (rs.length : Int)) (.int 3) = some (.bl false) := by rw [gtD_ii]; simp; omega
    have g4 : ltD (.int (rs.length : Int)) (.int 4) = some (.bl true) := by rw [ltD_ii]; simp; omega
    simp only [ok.2.1, decide_false, Bool.not_false] at ni
    rw [ok.2.2] at de
    simp only [decide_true] at de
    rw [← ok.2.2] at de
    have zz : ((rs.map Row.d).length + [(moreR z st).d].length) ≤ sizeLine := sz _ (by simp; omega)
    have ad : addD (.lst (rs.map Row.d)) (.lst [(moreR z st).d]) = some (.lst (rs.map Row.d ++ [(moreR z st).d])) := addD_ll.trans (if_pos zz)
    generalize (moreR z st).d = MR at *
    generalize (η ++ t1).length = A2 at *
    generalize η.length = A1 at *
    rw [← List.append_assoc]
    generalize η ++ t1 = H at *
    generalize H ++ t1 = H2 at *
    generalize (rs.map (·.n)).map D.str = RN at *
    generalize rs.map Row.d = R at *
    generalize rs.length = RL at *
    have hl : (R.length : Int) = RL := hl
    have nw : ∀ d : D, whyM [20, 21, 22, 23, 41] m_law_field (.ok d H) = .ok (.tup [.str "", d]) H := fun d => why_ok
    simp [-insC_a, -addD_ll, ht, ic, io, e1, nw, b1, hl, g3, g4, sz, i0, ni, i1, de, bk0, bk2, ad, e2, cm]
  · have er := c2 ok
    obtain ⟨t1, e1⟩ := ad2 _ er
    have du : dueE (if rs.length ≤ 3 then BErr.word rs.length else .cnt "words") = if rs.length ≤ 3 then .tup [.str "InvalidWord", .int rs.length] else .tup [.str "WrongCount", .str "words"] := by split <;> rfl
    have wy : whyM [20, 21, 22, 23, 41] m_law_field (.exc (excB (if rs.length ≤ 3 then BErr.word rs.length else .cnt "words")).1 (excB (if rs.length ≤ 3 then BErr.word rs.length else .cnt "words")).2.1 (excB (if rs.length ≤ 3 then BErr.word rs.length else .cnt "words")).2.2 (η ++ t1)) = .ok (dueE (if rs.length ≤ 3 then BErr.word rs.length else .cnt "words")) (η ++ t1) :=
      why_err _ fun q hq => by split at hq <;> cases hq
    rw [du, ← e1] at wy
    have g3 : gtD (.int (rs.length : Int)) (.int 3) = some (.bl (!decide (rs.length ≤ 3))) := by rw [gtD_ii]; congr 2; by_cases q : rs.length ≤ 3 <;> simp [q] <;> omega
    have g4 : ltD (.int (rs.length : Int)) (.int 4) = some (.bl (decide (rs.length ≤ 3))) := by rw [ltD_ii]; congr 2; by_cases q : rs.length ≤ 3 <;> simp [q] <;> omega
    refine ⟨some (.val (if rs.length ≤ 3 then .tup [.str "InvalidWord", .int rs.length] else .tup [.str "WrongCount", .str "words"])), some (.val (if rs.length ≤ 3 then .tup [.str "InvalidWord", .int rs.length] else .tup [.str "WrongCount", .str "words"])), t1, ?_⟩
    have cm : cmpT2 0 2 m_Book___eq__ (if rs.length ≤ 3 then .tup [.str "InvalidWord", .int rs.length] else .tup [.str "WrongCount", .str "words"]) (if rs.length ≤ 3 then .tup [.str "InvalidWord", .int rs.length] else .tup [.str "WrongCount", .str "words"]) (η ++ t1) = .ok true (η ++ t1) := by
      split
      · exact cmp_pure ⟨rfl, rfl⟩ rfl rfl
      · exact cmp_pure ⟨rfl, rfl⟩ rfl rfl
    have ht2 := tbl_old (t := t1) ht
    generalize hMR : (moreR z st).d = MR at *
    generalize η ++ t1 = H at *
    generalize (rs.map (·.n)).map D.str = RN at *
    generalize rs.map Row.d = R at *
    have hl : (R.length : Int) = rs.length := hl
    generalize rs.map (·.n) = RS at *
    by_cases q1 : rs.length ≤ 3
    · simp only [q1, decide_true, Bool.not_true, if_true] at *
      by_cases q2 : z ∈ RS
      · simp only [q2, decide_true, Bool.not_true] at ni
        simp [-insC_a, ht, ic, io, wy, b1, hl, g3, g4, sz, i0, ni, i1, de, cm]
      · have q3 : ¬ st = [kn] := fun q3 => ok ⟨trivial, q2, q3⟩
        simp only [q2, q3, decide_false, Bool.not_false] at ni de
        simp [-insC_a, ht, ic, io, wy, b1, hl, g3, g4, sz, i0, ni, i1, de, cm]
    · simp only [q1, decide_false, Bool.not_false, if_false] at *
      simp [-insC_a, ht, ic, io, wy, b1, hl, g3, g4, sz, cm]

/-! ### another memory -/
abbrev L2b1213 : S := sSeq L2b12 L2b13
theorem mem_turn (h : BookDrawn ks rs m) {k : D} (hk : k ∈ [D.non, .int 1, .int 4, .int 0, .int 5]) (ha : η[a]? = some (.ins 0 NSB [.lst (ks.map kd2), .lst (rs.map Row.d), m])) (ht : isTbl η 0 LQ = true) :
    ∃ y12 t, L2b1213 [x0, some (.val (.obj 1)), x2, some (.val (.lst (ls.map .str))), some (.val (bkT ks rs m)), some (.val (.obj a)), some (.val (.str kn)), some (.val (.lst ((rs.map (·.n)).map .str))), x8, x9, x10, x11, x12, some (.val (k)), x14, x15, x16] η = .nx [x0, some (.val (.obj 1)), x2, some (.val (.lst (ls.map .str))), some (.val (bkT ks rs m)), some (.val (.obj a)), some (.val (.str kn)), some (.val (.lst ((rs.map (·.n)).map .str))), x8, x9, x10, x11, y12, some (.val (k)), x14, x15, x16] (η ++ t) := by
  have any : MemAny k := by
    simp only [List.mem_cons, List.not_mem_nil, or_false] at hk
    rcases hk with rfl | rfl | rfl | rfl | rfl <;> constructor
  have hin : inD k (.lst [.int 0, .int 5]) = some (.bl (!memB k)) := by
    simp only [List.mem_cons, List.not_mem_nil, or_false] at hk
    rcases hk with rfl | rfl | rfl | rfl | rfl <;> rfl
  have okk : OkD k := by cases any <;> exact ⟨rfl, rfl⟩
  obtain ⟨m1, m2⟩ := book_mem_any (η := η) ha (m' := k) any (kinds_len h.k) (rows_len h.r)
  have er := err_mem (m' := k) h.k h.r
  have ic := isTbl_ins ha
  have id : insD η 0 NSB (.obj a) = some (a, [.lst (ks.map kd2), .lst (rs.map Row.d), m]) := by simp [insD, ha]
  have b1 : ixD (bkT ks rs m) (.int 1) = some (.lst (rs.map Row.d)) := rfl
  by_cases hb : memB k = true
  · rw [if_pos hb] at er
    have e1 := m1 er
    obtain ⟨t1, ht1⟩ : ∃ t1, t1 = [O.ins 0 NSB (bookD ks rs k), .lst ((rs.map (·.n)).map .str)] := ⟨_, rfl⟩
    rw [← ht1] at e1
    have e2 := (law_made_any (η := η ++ t1) (ks := ks) (rs := rs) (m := k) any (kinds_len h.k) (rows_len h.r)).1 er
    rw [← ht1] at e2
    have e2 : m_law_made [.tup [.lst (ks.map kd2), .lst (rs.map Row.d), k]] (η ++ t1) = .ok (.obj (η ++ t1).length) (η ++ t1 ++ t1) := e2
    have g1 : (η ++ t1 ++ t1)[η.length]? = some (.ins 0 NSB (bookD ks rs k)) := ins_old (by rw [ht1]; simp)
    have g2 : (η ++ t1 ++ t1)[(η ++ t1).length]? = some (.ins 0 NSB (bookD ks rs k)) := by rw [ht1]; simp
    have ne : η.length ≠ (η ++ t1).length := by rw [ht1]; simp
    have cm := cmp_books g1 g2 ne (okD_kinds _) (okD_rows _) okk
    refine ⟨some (.val (.tup [.str "", .obj η.length])), t1 ++ t1, ?_⟩
    rw [hb] at hin
    have wy : whyM [20, 21, 22, 23, 41] m_law_field (m_Book_with_memory [.obj a, k] η) = .ok (.tup [.str "", .obj η.length]) (η ++ t1) := by rw [e1]; rfl
    generalize (η ++ t1).length = A2 at *
    generalize η.length = A1 at *
    rw [← List.append_assoc]
    generalize η ++ t1 = H at *
    generalize H ++ t1 = H2 at *
    generalize (rs.map (·.n)).map D.str = RN at *
    simp [ht, id, wy, ha, hin, bk0, b1, sz, e2, cm]
  · rw [if_neg hb] at er
    obtain ⟨t1, e1⟩ := m2 _ er
    have wy := why_err (η := η ++ t1) (.mem k) (fun q hq => by cases hq; exact any)
    rw [← e1] at wy
    refine ⟨some (.val (.tup [.str "InvalidMemory", k])), t1, ?_⟩
    have cm := cmp_pure (η := η ++ t1) (s := "InvalidMemory") (t := "InvalidMemory") okk (e := k) rfl rfl
    simp only [Bool.not_eq_true] at hb
    rw [hb] at hin
    have wy : whyM [20, 21, 22, 23, 41] m_law_field (m_Book_with_memory [.obj a, k] η) = .ok (.tup [.str "InvalidMemory", k]) (η ++ t1) := wy
    generalize η ++ t1 = H at *
    generalize (rs.map (·.n)).map D.str = RN at *
    simp [ht, id, wy, ha, hin, sz, cm]
theorem b14 (h : BookDrawn ks rs m) (ha : η[a]? = some (.ins 0 NSB [.lst (ks.map kd2), .lst (rs.map Row.d), m])) : ∃ t, L2b14 [x0, some (.val (.obj 1)), x2, some (.val (.lst (ls.map .str))), some (.val (bkT ks rs m)), some (.val (.obj a)), some (.val (.str kn)), some (.val (.lst ((rs.map (·.n)).map .str))), x8, x9, x10, x11, x12, x13, x14, x15, x16] η = .nx [x0, some (.val (.obj 1)), x2, some (.val (.lst (ls.map .str))), some (.val (bkT ks rs m)), some (.val (.obj a)), some (.val (.str kn)), some (.val (.lst ((rs.map (·.n)).map .str))), x8, x9, x10, x11, x12, x13, x14, x15, x16] (η ++ t) := by
  have e1 := law_made_ok (η := η) h
  obtain ⟨t1, ht1⟩ : ∃ t1, t1 = [O.ins 0 NSB [.lst (ks.map kd2), .lst (rs.map Row.d), m], .lst ((rs.map (·.n)).map .str)] := ⟨_, rfl⟩
  rw [← ht1] at e1
  have g1 : (η ++ t1)[a]? = some (.ins 0 NSB [.lst (ks.map kd2), .lst (rs.map Row.d), m]) := ins_old ha
  have g2 : (η ++ t1)[η.length]? = some (.ins 0 NSB [.lst (ks.map kd2), .lst (rs.map Row.d), m]) := by rw [ht1]; simp
  have h1 := book_eq_raw g1 g2 (okD_kinds _) (okD_rows _) (okD_mem h.m) (okD_kinds _) (okD_rows _) (okD_mem h.m)
  simp only [decide_true, Bool.and_true] at h1
  refine ⟨t1, ?_⟩
  simp [-List.map_map, e1, g1, g2, h1]
theorem b15 (h : BookDrawn ks rs m) (ha : η[a]? = some (.ins 0 NSB [.lst (ks.map kd2), .lst (rs.map Row.d), m])) : L2b15 [x0, some (.val (.obj 1)), x2, some (.val (.lst (ls.map .str))), some (.val (bkT ks rs m)), some (.val (.obj a)), some (.val (.str kn)), some (.val (.lst ((rs.map (·.n)).map .str))), x8, x9, x10, x11, x12, x13, x14, x15, x16] η = .nx [x0, some (.val (.obj 1)), x2, some (.val (.lst (ls.map .str))), some (.val (bkT ks rs m)), some (.val (.obj a)), some (.val (.str kn)), some (.val (.lst ((rs.map (·.n)).map .str))), x8, x9, x10, x11, x12, x13, x14, x15, x16] η := by
  have e1 := book_sorts_ok ha
  have e2 := book_words_ok ha
  have e3 := memory_ok ha
  have b1 : ixD (bkT ks rs m) (.int 1) = some (.lst (rs.map Row.d)) := rfl
  have sm : samB 12 (.lst [.lst (ks.map kd2), .lst (rs.map Row.d), m]) = true := by
    refine sam12 ?_
    rw [pureD, pureDs, pureDs, pureDs, pureDs, pureD, pureD, pureDs_map (n := 9) fun k _ => pure_kd2 8 k, pureDs_map (n := 9) fun k _ => pure_row 7 k]
    cases h.m <;> rfl
  have q := same0 (η := η) sm rfl
  have b0 := bk0 (ks := ks) (rs := rs) (m := m)
  have b2 := bk2 (ks := ks) (rs := rs) (m := m)
  generalize ks.map kd2 = KD at *
  generalize rs.map Row.d = R at *
  generalize (rs.map (·.n)).map D.str = RN at *
  generalize bkT ks rs m = BK at *
  simp [ha, e1, e2, e3, sz, q, b0, b1, b2]

theorem known_at (h : BookDrawn ks rs m) : ∃ kn p l, ks = (kn, p) :: l := by
  cases hk : ks with
  | nil => have := h.k.l0; rw [hk] at this; simp at this
  | cons k l => exact ⟨k.1, k.2, l, rfl⟩
theorem turn {o : O} {r : List O} (hf : Feed o) : ∃ y3 y4 y5 y6 y7 y8 y9 y10 y11 y12 y13 y14 y15 y16 o' r', Feed o' ∧ L2b [x0, some (.val (.obj 1)), x2, x3, x4, x5, x6, x7, x8, x9, x10, x11, x12, x13, x14, x15, x16] (.tbl LQ :: o :: r) = .nx [x0, some (.val (.obj 1)), x2, y3, y4, y5, y6, y7, y8, y9, y10, y11, y12, y13, y14, y15, y16] (.tbl LQ :: o' :: r') := by
  obtain ⟨ls, o1, e1, f1, l1, hN⟩ := names_ok (fp := [.tbl LQ]) (r := r) hf (m := 10) (by decide)
  obtain ⟨ks, rs, m, o2, e2, f2, hB⟩ := law_book_ok (fp := [.tbl LQ]) (r := r) f1 hN (by omega) (by omega) (most := 4) (by decide)
  obtain ⟨kn, kp, kl, hk0⟩ := known_at hB
  have e4 := law_made_ok (η := .tbl LQ :: o2 :: r) hB
  obtain ⟨r2, hr2⟩ : ∃ r2, r2 = r ++ [.ins 0 NSB [.lst (ks.map kd2), .lst (rs.map Row.d), m], .lst ((rs.map (·.n)).map .str)] := ⟨_, rfl⟩
  have hH : O.tbl LQ :: o2 :: r ++ [.ins 0 NSB [.lst (ks.map kd2), .lst (rs.map Row.d), m], .lst ((rs.map (·.n)).map .str)] = .tbl LQ :: o2 :: r2 := by rw [hr2]; rfl
  rw [hH] at e4
  have ga : (O.tbl LQ :: o2 :: r2)[(O.tbl LQ :: o2 :: r).length]? = some (.ins 0 NSB [.lst (ks.map kd2), .lst (rs.map Row.d), m]) := by rw [hr2]; simp
  generalize hA : (O.tbl LQ :: o2 :: r).length = a at *
  have tb : ∀ (o : O) (r : List O), isTbl (.tbl LQ :: o :: r) 0 LQ = true := fun _ _ => rfl
  have ea : [O.tbl LQ] ++ o :: r = .tbl LQ :: o :: r := rfl
  have eb : [O.tbl LQ] ++ o1 :: r = .tbl LQ :: o1 :: r := rfl
  have ec : [O.tbl LQ] ++ o2 :: r = .tbl LQ :: o2 :: r := rfl
  rw [ea, eb] at e1
  rw [eb, ec] at e2
  have b1 : ixD (bkT ks rs m) (.int 1) = some (.lst (rs.map Row.d)) := rfl
  have b0 : ixD (bkT ks rs m) (.int 0) = some (.lst (.tup [.str kn, .int kp] :: kl.map kd2)) := by rw [bk0, hk0]; rfl
  have s1 : L2b1 [x0, some (.val (.obj 1)), x2, x3, x4, x5, x6, x7, x8, x9, x10, x11, x12, x13, x14, x15, x16] (.tbl LQ :: o :: r) = .nx [x0, some (.val (.obj 1)), x2, some (.val (.lst (ls.map .str))), x4, x5, x6, x7, x8, x9, x10, x11, x12, x13, x14, x15, x16] (.tbl LQ :: o1 :: r) := by
    have e1 : m_law_names [.obj 1, .int 10] (.tbl LQ :: o :: r) = .ok (.lst (ls.map .str)) (.tbl LQ :: o1 :: r) := e1
    generalize ls.map D.str = LS at *
    simp [e1]
  have s2 : L2b2 [x0, some (.val (.obj 1)), x2, some (.val (.lst (ls.map .str))), x4, x5, x6, x7, x8, x9, x10, x11, x12, x13, x14, x15, x16] (.tbl LQ :: o1 :: r) = .nx [x0, some (.val (.obj 1)), x2, some (.val (.lst (ls.map .str))), some (.val (bkT ks rs m)), x5, x6, x7, x8, x9, x10, x11, x12, x13, x14, x15, x16] (.tbl LQ :: o2 :: r) := by
    have e2 : m_law_book [.obj 1, .lst (ls.map .str), .int 4] (.tbl LQ :: o1 :: r) = .ok (bkT ks rs m) (.tbl LQ :: o2 :: r) := e2
    generalize ls.map D.str = LS at *
    simp [e2]
  have s3 : L2b3 [x0, some (.val (.obj 1)), x2, some (.val (.lst (ls.map .str))), some (.val (bkT ks rs m)), x5, x6, x7, x8, x9, x10, x11, x12, x13, x14, x15, x16] (.tbl LQ :: o2 :: r) = .nx [x0, some (.val (.obj 1)), x2, some (.val (.lst (ls.map .str))), some (.val (bkT ks rs m)), some (.val (.obj a)), x6, x7, x8, x9, x10, x11, x12, x13, x14, x15, x16] (.tbl LQ :: o2 :: r2) := by
    generalize ls.map D.str = LS at *
    simp [e4]
  have hc : compF (.tp [(.nm 8), (.nm 14), (.nm 15)]) fYes (fV 8) (wipeD [x0, some (.val (.obj 1)), x2, some (.val (.lst (ls.map .str))), some (.val (bkT ks rs m)), some (.val (.obj a)), x6, x7, x8, x9, x10, x11, x12, x13, x14, x15, x16] [8, 14, 15]) (rs.map Row.d) (.tbl LQ :: o2 :: r2) = .ok ((rs.map (·.n)).map .str) (.tbl LQ :: o2 :: r2) := by
    have := comp_map (t := .tp [(.nm 8), (.nm 14), (.nm 15)]) (ft := fYes) (fe := fV 8) (δw := wipeD [x0, some (.val (.obj 1)), x2, some (.val (.lst (ls.map .str))), some (.val (bkT ks rs m)), some (.val (.obj a)), x6, x7, x8, x9, x10, x11, x12, x13, x14, x15, x16] [8, 14, 15]) (η := .tbl LQ :: o2 :: r2) (fun d => match d with | .tup (z :: _) => z | _ => d) (ds := rs.map Row.d) fun x hx => by
      obtain ⟨q, _, rfl⟩ := List.mem_map.mp hx
      refine ⟨_, rfl, rfl, by simp [wipeD, Row.d]⟩
    rw [this, List.map_map, List.map_map]
    rfl
  have s4 : L2b4 [x0, some (.val (.obj 1)), x2, some (.val (.lst (ls.map .str))), some (.val (bkT ks rs m)), some (.val (.obj a)), x6, x7, x8, x9, x10, x11, x12, x13, x14, x15, x16] (.tbl LQ :: o2 :: r2) = .nx [x0, some (.val (.obj 1)), x2, some (.val (.lst (ls.map .str))), some (.val (bkT ks rs m)), some (.val (.obj a)), some (.val (.str kn)), some (.val (.lst ((rs.map (·.n)).map .str))), x8, x9, x10, x11, x12, x13, x14, x15, x16] (.tbl LQ :: o2 :: r2) := by
    have x0' : L2.atI (D.tup [.str kn, .int kp] :: kl.map kd2) 0 = some (D.tup [.str kn, .int kp]) := by rw [atI_of (Int.le_refl 0) (by rw [List.length_cons]; omega)]; rfl
    have x1' : L2.atI [D.str kn, .int kp] 0 = some (D.str kn) := rfl
    generalize (rs.map (·.n)).map D.str = RN at *
    generalize ls.map D.str = LS at *
    simp [b0, b1, x0', x1', hc]
  obtain ⟨y8, y9, y10, y16, t1, s5⟩ := names_loop (ls := ls) (kn := kn) (x0 := x0) (x2 := x2) (x8 := x8) (x9 := x9) (x10 := x10) (x11 := x11) (x12 := x12) (x13 := x13) (x14 := x14) (x15 := x15) (x16 := x16) hB ga (tb _ _)
  -- a word more
  have hls : ls.drop 8 ≠ [] := fun z => by have := congrArg List.length z; simp [l1] at this
  have len6 : (ls.drop 8 ++ rs.map (·.n)).length ≤ 100 := by have := hB.r.l1; simp [l1]; omega
  have len0 : 0 < (ls.drop 8 ++ rs.map (·.n)).length := by cases h8 : ls.drop 8 with | nil => exact absurd h8 hls | cons => simp
  obtain ⟨d6, o3, e6, f3, hd6⟩ := of0 (fp := [.tbl LQ]) (r := r2 ++ t1) f2 ((ls.drop 8 ++ rs.map (·.n)).map .str) (by rw [List.length_map]; exact len0) (by rw [List.length_map]; omega)
  obtain ⟨z, hz, rfl⟩ := List.mem_map.mp hd6
  obtain ⟨d7, o4, e7, f4, hd7⟩ := of0 (fp := [.tbl LQ]) (r := r2 ++ t1) f3 [.tup [.str kn], .tup [.str kn], .tup [], .tup [.str "A"]] (by simp) (by simp)
  obtain ⟨st, rfl, hst⟩ : ∃ st : List Str, d7 = .tup (st.map .str) ∧ (st = [kn] ∨ st = [] ∨ st = [("A" : Str)]) := by
    simp only [List.mem_cons, List.not_mem_nil, or_false] at hd7
    rcases hd7 with rfl | rfl | rfl | rfl
    · exact ⟨[kn], rfl, .inl rfl⟩
    · exact ⟨[kn], rfl, .inl rfl⟩
    · exact ⟨[], rfl, .inr (.inl rfl)⟩
    · exact ⟨["A"], rfl, .inr (.inr rfl)⟩
  have mo : MoreOk kn ks z st := by
    refine ⟨?_, hst, by rw [hk0]; simp⟩
    rcases List.mem_append.mp hz with q | q
    · exact hN.nm z (List.mem_of_mem_drop q)
    · obtain ⟨w, hw, e⟩ := List.mem_map.mp q
      rw [← e]; exact (hB.r.ok w hw).nm
  have hH2 : O.tbl LQ :: o2 :: r2 ++ t1 = .tbl LQ :: o2 :: (r2 ++ t1) := rfl
  rw [hH2] at s5
  have s6 : L2b6 [x0, some (.val (.obj 1)), x2, some (.val (.lst (ls.map .str))), some (.val (bkT ks rs m)), some (.val (.obj a)), some (.val (.str kn)), some (.val (.lst ((rs.map (·.n)).map .str))), y8, y9, y10, x11, x12, x13, x14, x15, y16] (.tbl LQ :: o2 :: (r2 ++ t1)) = .nx [x0, some (.val (.obj 1)), x2, some (.val (.lst (ls.map .str))), some (.val (bkT ks rs m)), some (.val (.obj a)), some (.val (.str kn)), some (.val (.lst ((rs.map (·.n)).map .str))), y8, y9, y10, some (.val ((moreR z st).d)), x12, x13, x14, x15, y16] (.tbl LQ :: o4 :: (r2 ++ t1)) := by
    have e6 : m_law_of [.obj 1, .lst ((ls.drop 8 ++ rs.map (·.n)).map .str)] (.tbl LQ :: o2 :: (r2 ++ t1)) = .ok (.str z) (.tbl LQ :: o3 :: (r2 ++ t1)) := e6
    have e7 : m_law_of [.obj 1, .lst [.tup [.str kn], .tup [.str kn], .tup [], .tup [.str "A"]]] (.tbl LQ :: o3 :: (r2 ++ t1)) = .ok (.tup (st.map .str)) (.tbl LQ :: o4 :: (r2 ++ t1)) := e7
    have c8 : cutD (ls.map D.str) (some 8) none = (ls.drop 8).map .str := by
      have := cut_drop (l := ls.map D.str) (m := 8) (by rw [List.length_map, l1]; decide)
      rw [List.map_drop]; exact this
    have zz : (((ls.drop 8).map D.str).length + ((rs.map (·.n)).map D.str).length) ≤ sizeLine := sz _ (by rw [List.length_map, List.length_map]; rw [List.length_append] at len6; omega)
    have ad : addD (.lst ((ls.drop 8).map .str)) (.lst ((rs.map (·.n)).map .str)) = some (.lst ((ls.drop 8 ++ rs.map (·.n)).map .str)) := (addD_ll.trans (if_pos zz)).trans (by rw [List.map_append])
    have hm : (moreR z st).d = .tup [.str z, .tup (st.map .str), .int 7] := rfl
    rw [hm]
    generalize (ls.drop 8 ++ rs.map (·.n)).map D.str = W at *
    generalize (ls.drop 8).map D.str = L8 at *
    generalize (rs.map (·.n)).map D.str = RN at *
    generalize ls.map D.str = LS at *
    simp [-addD_ll, c8, ad, e6, e7, sz]
  have ga4 : (O.tbl LQ :: o4 :: (r2 ++ t1))[a]? = some (.ins 0 NSB [.lst (ks.map kd2), .lst (rs.map Row.d), m]) := by
    have h2 : 2 ≤ a := by rw [← hA]; simp
    obtain ⟨a', rfl⟩ : ∃ a', a = a' + 2 := ⟨a - 2, by omega⟩
    have := ins_old (t := t1) ga
    simpa using this
  obtain ⟨y10', y12, t2, s7⟩ := more_turn (ls := ls) (x0 := x0) (x2 := x2) (x8 := y8) (x9 := y9) (x10 := y10) (x12 := x12) (x13 := x13) (x14 := x14) (x15 := x15) (x16 := y16) hB mo ga4 (tb _ _)
  have hH3 : O.tbl LQ :: o4 :: (r2 ++ t1) ++ t2 = .tbl LQ :: o4 :: (r2 ++ t1 ++ t2) := rfl
  rw [hH3] at s7
  obtain ⟨k, o5, e8, f5, hk⟩ := of0 (fp := [.tbl LQ]) (r := r2 ++ t1 ++ t2) f4 [.non, .int 1, .int 4, .int 0, .int 5] (by decide) (by decide)
  have s8 : L2b11 [x0, some (.val (.obj 1)), x2, some (.val (.lst (ls.map .str))), some (.val (bkT ks rs m)), some (.val (.obj a)), some (.val (.str kn)), some (.val (.lst ((rs.map (·.n)).map .str))), y8, y9, y10', some (.val ((moreR z st).d)), y12, x13, x14, x15, y16] (.tbl LQ :: o4 :: (r2 ++ t1 ++ t2)) = .nx [x0, some (.val (.obj 1)), x2, some (.val (.lst (ls.map .str))), some (.val (bkT ks rs m)), some (.val (.obj a)), some (.val (.str kn)), some (.val (.lst ((rs.map (·.n)).map .str))), y8, y9, y10', some (.val ((moreR z st).d)), y12, some (.val (k)), x14, x15, y16] (.tbl LQ :: o5 :: (r2 ++ t1 ++ t2)) := by
    have e8 : m_law_of [.obj 1, .lst [.non, .int 1, .int 4, .int 0, .int 5]] (.tbl LQ :: o4 :: (r2 ++ t1 ++ t2)) = .ok k (.tbl LQ :: o5 :: (r2 ++ t1 ++ t2)) := e8
    generalize (moreR z st).d = MR at *
    generalize (rs.map (·.n)).map D.str = RN at *
    generalize ls.map D.str = LS at *
    generalize r2 ++ t1 ++ t2 = RR at *
    simp [e8, sz]
  have ga5 : (O.tbl LQ :: o5 :: (r2 ++ t1 ++ t2))[a]? = some (.ins 0 NSB [.lst (ks.map kd2), .lst (rs.map Row.d), m]) := by
    have h2 : 2 ≤ a := by rw [← hA]; simp
    obtain ⟨a', rfl⟩ : ∃ a', a = a' + 2 := ⟨a - 2, by omega⟩
    have := ins_old (t := t2) ga4
    simpa using this
  obtain ⟨y12', t3, s9⟩ := mem_turn (ls := ls) (kn := kn) (x0 := x0) (x2 := x2) (x8 := y8) (x9 := y9) (x10 := y10') (x11 := some (.val ((moreR z st).d))) (x12 := y12) (x14 := x14) (x15 := x15) (x16 := y16) hB hk ga5 (tb _ _)
  obtain ⟨t4, s10⟩ := b14 (ls := ls) (kn := kn) (x0 := x0) (x2 := x2) (x8 := y8) (x9 := y9) (x10 := y10') (x11 := some (.val ((moreR z st).d))) (x12 := y12') (x13 := some (.val (k))) (x14 := x14) (x15 := x15) (x16 := y16) hB (ins_old (t := t3) ga5)
  have s11 := b15 (ls := ls) (kn := kn) (x0 := x0) (x2 := x2) (x8 := y8) (x9 := y9) (x10 := y10') (x11 := some (.val ((moreR z st).d))) (x12 := y12') (x13 := some (.val (k))) (x14 := x14) (x15 := x15) (x16 := y16) hB (ins_old (t := t4) (ins_old (t := t3) ga5))
  refine ⟨some (.val (.lst (ls.map .str))), some (.val (bkT ks rs m)), some (.val (.obj a)), some (.val (.str kn)), some (.val (.lst ((rs.map (·.n)).map .str))), y8, y9, y10', some (.val ((moreR z st).d)), y12', some (.val (k)), x14, x15, y16, o5, r2 ++ t1 ++ t2 ++ t3 ++ t4, f5, ?_⟩
  have a7 : ∀ δ η, (sSeq L2b7 (sSeq L2b8 (sSeq L2b9 (sSeq L2b10 (sSeq L2b11 (sSeq L2b12 (sSeq L2b13 (sSeq L2b14 L2b15)))))))) δ η = (L2b79 δ η).seq (sSeq L2b11 (sSeq L2b12 (sSeq L2b13 (sSeq L2b14 L2b15)))) := fun δ η => by
    simp only [L2b79, sSeq_a]
    cases L2b7 δ η with
    | nx δ η => simp only [seq_nx, sSeq_a]; cases L2b8 δ η with
      | nx δ η => simp only [seq_nx, sSeq_a]; cases L2b9 δ η <;> rfl
      | _ => rfl
    | _ => rfl
  have a12 : ∀ δ η, (sSeq L2b12 (sSeq L2b13 (sSeq L2b14 L2b15))) δ η = (L2b1213 δ η).seq (sSeq L2b14 L2b15) := fun δ η => by
    simp only [L2b1213, sSeq_a]
    cases L2b12 δ η <;> rfl
  rw [show L2b = sSeq L2b1 (sSeq L2b2 (sSeq L2b3 (sSeq L2b4 (sSeq L2b5 (sSeq L2b6 (sSeq L2b7 (sSeq L2b8 (sSeq L2b9 (sSeq L2b10 (sSeq L2b11 (sSeq L2b12 (sSeq L2b13 (sSeq L2b14 L2b15))))))))))))) from rfl,
    sSeq_a, s1, seq_nx, sSeq_a, s2, seq_nx, sSeq_a, s3, seq_nx, sSeq_a, s4, seq_nx, sSeq_a, s5, seq_nx, sSeq_a, s6, seq_nx, a7, s7, seq_nx, sSeq_a, s8, seq_nx, a12, s9, seq_nx, sSeq_a, s10, seq_nx, s11]
  rfl
theorem law_true : ∀ ns : List Int, ns.length ≤ 63 → ∃ η, m_law [DL.D.lst (ns.map DL.D.int)] [DL.O.tbl "law.<locals>.<lambda>"] = DL.R.ok (DL.D.bl true) η := by
  intro ns hl
  obtain ⟨o, e0, f0⟩ := feed_ok (η := [.tbl LQ]) hl
  obtain ⟨δ', η', el, o', r', y, rfl, f', hd⟩ := loop_rng (t := .nm 2) (b := L2b) (n := 4) (fun _ δ η => ∃ o r y, η = .tbl LQ :: o :: r ∧ Feed o ∧ ∃ y2 y3 y4 y5 y6 y7 y8 y9 y10 y11 y12 y13 y14 y15 y16, δ = [y, some (.val (.obj 1)), y2, y3, y4, y5, y6, y7, y8, y9, y10, y11, y12, y13, y14, y15, y16])
    (δ := [some (.val (.lst (ns.map .int))), some (.val (.obj 1)), none, none, none, none, none, none, none, none, none, none, none, none, none, none, none]) (η := [.tbl LQ, o]) ⟨o, [], _, rfl, f0, _, _, _, _, _, _, _, _, _, _, _, _, _, _, _, rfl⟩ fun k δ η hk ⟨o, r, y, e1, f, y2, y3, y4, y5, y6, y7, y8, y9, y10, y11, y12, y13, y14, y15, y16, e2⟩ => by
      subst e1 e2
      obtain ⟨z3, z4, z5, z6, z7, z8, z9, z10, z11, z12, z13, z14, z15, z16, o', r', f', e⟩ := turn (x0 := y) (x2 := some (.val (.int k))) (x3 := y3) (x4 := y4) (x5 := y5) (x6 := y6) (x7 := y7) (x8 := y8) (x9 := y9) (x10 := y10) (x11 := y11) (x12 := y12) (x13 := y13) (x14 := y14) (x15 := y15) (x16 := y16) (r := r) f
      exact ⟨_, asg_nm, _, _, .inl e, o', r', _, rfl, f', _, _, _, _, _, _, _, _, _, _, _, _, _, _, _, rfl⟩
  refine ⟨.tbl LQ :: o' :: r', run_rt (n := 17) (b := b_law) ?_⟩
  rw [L_eq]
  have e0 : m_law_feed [.lst (ns.map .int)] [.tbl LQ] = .ok (.obj 1) [.tbl LQ, o] := e0
  generalize ns.map D.int = N at *
  simp [e0, el]
end
end Law
open PySem PySem.W PyProof.Rows in
set_option maxRecDepth 100000 in
set_option maxHeartbeats 0 in
theorem PySem.Challenge.cw_lastheard_k05_books_changed_holds : PySem.Challenge.rw_lastheard_k05_books_changed.Holds := by
  w_on; o_law; k_head; (case hw => w_witness2)
  k_fill
  refine Law.walk (l := PySem.Challenge.rw_lastheard_k05_books_changed) rfl rfl (fun w h Y => PySem.W.km_in_of Y) ?F
  case F =>
    intro w mg mb mean fa h KX G hmg
    refine' Law.all_mk KX G hmg Law.law_true ?C0 ?a0 ?l0 ?c0_ ?k0 ?a1 ?l1 ?c1_ ?k1 ?a2 ?l2 ?c2_ ?k2 ?a3 ?l3 ?c3_ ?k3 ?a4 ?l4 ?c4_ ?k4 ?a5 ?l5 ?c5_ ?k5 ?a6 ?l6 ?c6_ ?k6 ?a7 ?l7 ?c7_ ?k7 ?a8 ?i8 ?l8 ?c8_ ?k8 ?T8_ ?a9 ?l9 ?c9_ ?k9 ?a10 ?i10 ?l10 ?c10_ ?k10 ?a11 ?l11 ?c11_ ?k11 ?a12 ?l12 ?c12_ ?k12 ?a13 ?i13 ?l13 ?c13_ ?k13 ?a14 ?i14 ?l14 ?c14_ ?k14 ?a15 ?i15 ?l15 ?c15_ ?k15 ?a16 ?l16 ?c16_ ?k16 ?a17 ?i17 ?l17 ?c17_ ?k17 ?a18 ?i18 ?l18 ?c18_ ?k18 ?a19 ?g19 ?t19 ?r19 ?l19 ?c19_ ?k19 ?a20 ?l20 ?c20_ ?k20 ?pg0 ?hd0 ?po0 ?sa0 ?mk0 ?kc0 ?ya0 ?yn0 ?yt0 ?ym0 ?ye0 ?rd0 ?ga0 ?sf0 ?ne0 ?n0_own_memory ?n0_sort_rows ?n0_word_rows ?v0_MOST_PRICE ?v0_MOST_SORTS ?v0_MOST_WORDS ?z_all ?z_bool ?z_enumerate ?z_int ?z_isinstance ?z_len ?z_list ?z_range ?z_set ?z_str ?z_tuple ?z_zip ?e_LETTERS ?e_MOST_SIGNS ?e_MOST_MEMORY ?C46 ?C47 ?C20 ?C21 ?C22 ?C23 ?C41 ?C45 ?xany ?xsup ?xtop ?xa20 ?xl20 ?xb20 ?xc20 ?xd20 ?xe20 ?xg20 ?xh20 ?xi20 ?xj20 ?xk20 ?xm20 ?xn20 ?xo20 ?xp20 ?xq20 ?xr20 ?xs20 ?xt20_what ?xt20_code ?xa21 ?xl21 ?xb21 ?xc21 ?xd21 ?xe21 ?xg21 ?xh21 ?xi21 ?xj21 ?xk21 ?xm21 ?xn21 ?xo21 ?xp21 ?xq21 ?xr21 ?xs21 ?xt21_at ?xt21_code ?xa22 ?xl22 ?xb22 ?xc22 ?xd22 ?xe22 ?xg22 ?xh22 ?xi22 ?xj22 ?xk22 ?xm22 ?xn22 ?xo22 ?xp22 ?xq22 ?xr22 ?xs22 ?xt22_at ?xt22_code ?xa23 ?xl23 ?xb23 ?xc23 ?xd23 ?xe23 ?xg23 ?xh23 ?xi23 ?xj23 ?xk23 ?xm23 ?xn23 ?xo23 ?xp23 ?xq23 ?xr23 ?xs23 ?xt23_given ?xt23_code ?xa41 ?xl41 ?xb41 ?xc41 ?xd41 ?xe41 ?xg41 ?xh41 ?xi41 ?xj41 ?xk41 ?xm41 ?xn41 ?xo41 ?xp41 ?xq41 ?xr41 ?xs41 ?xt41_name ?xt41_code ?xu23_code ?xu23_given ?xu21_at ?xu21_code ?xu22_at ?xu22_code ?xu41_code ?xu41_name ?xu20_code ?xu20_what ?xv23 ?xw23 ?xv21 ?xw21 ?xv22 ?xw22 ?xv41 ?xw41 ?xv20 ?xw20 ?xx20_TellError ?xx20_Missing ?xx20_NothingLeft ?xx21_TellError ?xx21_Missing ?xx21_NothingLeft ?xx22_TellError ?xx22_Missing ?xx22_NothingLeft ?xx23_TellError ?xx23_Missing ?xx23_NothingLeft ?xx41_TellError ?xx41_Missing ?xx41_NothingLeft ?lq20 ?lv20 ?lr20 ?ln20
    (case C0 => k_is)
    (case a0 => k_is)
    (case l0 => k_is)
    (case c0_ => k_is)
    (case k0 => k_is)
    (case a1 => k_is)
    (case l1 => k_is)
    (case c1_ => k_is)
    (case k1 => k_is)
    (case a2 => k_is)
    (case l2 => k_is)
    (case c2_ => k_is)
    (case k2 => k_is)
    (case a3 => k_is)
    (case l3 => k_is)
    (case c3_ => k_is)
    (case k3 => k_is)
    (case a4 => k_is)
    (case l4 => k_is)
    (case c4_ => k_is)
    (case k4 => k_is)
    (case a5 => k_is)
    (case l5 => k_is)
    (case c5_ => k_is)
    (case k5 => k_is)
    (case a6 => k_is)
    (case l6 => k_is)
    (case c6_ => k_is)
    (case k6 => k_is)
    (case a7 => k_is)
    (case l7 => k_is)
    (case c7_ => k_is)
    (case k7 => k_is)
    (case a8 => k_is)
    (case i8 => k_is)
    (case l8 => k_is)
    (case c8_ => k_is)
    (case k8 => k_is)
    (case T8_ => k_is)
    (case a9 => k_is)
    (case l9 => k_is)
    (case c9_ => k_is)
    (case k9 => k_is)
    (case a10 => k_is)
    (case i10 => k_is)
    (case l10 => k_is)
    (case c10_ => k_is)
    (case k10 => k_is)
    (case a11 => k_is)
    (case l11 => k_is)
    (case c11_ => k_is)
    (case k11 => k_is)
    (case a12 => k_is)
    (case l12 => k_is)
    (case c12_ => k_is)
    (case k12 => k_is)
    (case a13 => k_is)
    (case i13 => k_is)
    (case l13 => k_is)
    (case c13_ => k_is)
    (case k13 => k_is)
    (case a14 => k_is)
    (case i14 => k_is)
    (case l14 => k_is)
    (case c14_ => k_is)
    (case k14 => k_is)
    (case a15 => k_is)
    (case i15 => k_is)
    (case l15 => k_is)
    (case c15_ => k_is)
    (case k15 => k_is)
    (case a16 => k_is)
    (case l16 => k_is)
    (case c16_ => k_is)
    (case k16 => k_is)
    (case a17 => k_is)
    (case i17 => k_is)
    (case l17 => k_is)
    (case c17_ => k_is)
    (case k17 => k_is)
    (case a18 => k_is)
    (case i18 => k_is)
    (case l18 => k_is)
    (case c18_ => k_is)
    (case k18 => k_is)
    (case a19 => k_is)
    (case g19 => k_is)
    (case t19 => k_is)
    (case r19 => k_is)
    (case l19 => k_is)
    (case c19_ => k_is)
    (case k19 => k_is)
    (case a20 => k_is)
    (case l20 => k_is)
    (case c20_ => k_is)
    (case k20 => k_is)
    (case pg0 => k_is)
    (case hd0 => k_is)
    (case po0 => k_is)
    (case sa0 => k_is)
    (case mk0 => k_is)
    (case kc0 => k_is)
    (case ya0 => k_is)
    (case yn0 => k_is)
    (case yt0 => k_is)
    (case ym0 => k_is)
    (case ye0 => exact if_pos (beq_self_eq_true _))
    (case rd0 => k_is)
    (case ga0 => k_is)
    (case sf0 => k_is)
    (case ne0 => k_is)
    (case n0_own_memory => k_is)
    (case n0_sort_rows => k_is)
    (case n0_word_rows => k_is)
    (case v0_MOST_PRICE => k_is)
    (case v0_MOST_SORTS => k_is)
    (case v0_MOST_WORDS => k_is)
    (case z_all => k_is)
    (case z_bool => k_is)
    (case z_enumerate => k_is)
    (case z_int => k_is)
    (case z_isinstance => k_is)
    (case z_len => k_is)
    (case z_list => k_is)
    (case z_range => k_is)
    (case z_set => k_is)
    (case z_str => k_is)
    (case z_tuple => k_is)
    (case z_zip => k_is)
    (case e_LETTERS => k_is)
    (case e_MOST_SIGNS => k_is)
    (case e_MOST_MEMORY => k_is)
    (case C46 => k_is)
    (case C47 => k_is)
    (case C20 => k_is)
    (case C21 => k_is)
    (case C22 => k_is)
    (case C23 => k_is)
    (case C41 => k_is)
    (case C45 => k_is)
    (case xany => k_is)
    (case xsup => k_is)
    (case xtop => first | rfl | decide +kernel)
    (case xa20 => k_is)
    (case xl20 => k_is)
    (case xb20 => kx_is)
    (case xc20 => kx_is)
    (case xd20 => k_is)
    (case xe20 => ks_is)
    (case xg20 => k_is)
    (case xh20 => k_is)
    (case xi20 => k_is)
    (case xj20 => k_is)
    (case xk20 => k_is)
    (case xm20 => k_is)
    (case xn20 => k_is)
    (case xo20 => k_is)
    (case xp20 => k_is)
    (case xq20 => k_is)
    (case xr20 => first | rfl | decide +kernel)
    (case xs20 => first | rfl | decide +kernel)
    (case xt20_what => k_is)
    (case xt20_code => k_is)
    (case xa21 => k_is)
    (case xl21 => k_is)
    (case xb21 => kx_is)
    (case xc21 => kx_is)
    (case xd21 => k_is)
    (case xe21 => ks_is)
    (case xg21 => k_is)
    (case xh21 => k_is)
    (case xi21 => k_is)
    (case xj21 => k_is)
    (case xk21 => k_is)
    (case xm21 => k_is)
    (case xn21 => k_is)
    (case xo21 => k_is)
    (case xp21 => k_is)
    (case xq21 => k_is)
    (case xr21 => first | rfl | decide +kernel)
    (case xs21 => first | rfl | decide +kernel)
    (case xt21_at => k_is)
    (case xt21_code => k_is)
    (case xa22 => k_is)
    (case xl22 => k_is)
    (case xb22 => kx_is)
    (case xc22 => kx_is)
    (case xd22 => k_is)
    (case xe22 => ks_is)
    (case xg22 => k_is)
    (case xh22 => k_is)
    (case xi22 => k_is)
    (case xj22 => k_is)
    (case xk22 => k_is)
    (case xm22 => k_is)
    (case xn22 => k_is)
    (case xo22 => k_is)
    (case xp22 => k_is)
    (case xq22 => k_is)
    (case xr22 => first | rfl | decide +kernel)
    (case xs22 => first | rfl | decide +kernel)
    (case xt22_at => k_is)
    (case xt22_code => k_is)
    (case xa23 => k_is)
    (case xl23 => k_is)
    (case xb23 => kx_is)
    (case xc23 => kx_is)
    (case xd23 => k_is)
    (case xe23 => ks_is)
    (case xg23 => k_is)
    (case xh23 => k_is)
    (case xi23 => k_is)
    (case xj23 => k_is)
    (case xk23 => k_is)
    (case xm23 => k_is)
    (case xn23 => k_is)
    (case xo23 => k_is)
    (case xp23 => k_is)
    (case xq23 => k_is)
    (case xr23 => first | rfl | decide +kernel)
    (case xs23 => first | rfl | decide +kernel)
    (case xt23_given => k_is)
    (case xt23_code => k_is)
    (case xa41 => k_is)
    (case xl41 => k_is)
    (case xb41 => kx_is)
    (case xc41 => kx_is)
    (case xd41 => k_is)
    (case xe41 => ks_is)
    (case xg41 => k_is)
    (case xh41 => k_is)
    (case xi41 => k_is)
    (case xj41 => k_is)
    (case xk41 => k_is)
    (case xm41 => k_is)
    (case xn41 => k_is)
    (case xo41 => k_is)
    (case xp41 => k_is)
    (case xq41 => k_is)
    (case xr41 => first | rfl | decide +kernel)
    (case xs41 => first | rfl | decide +kernel)
    (case xt41_name => k_is)
    (case xt41_code => k_is)
    (case xu23_code => k_is)
    (case xu23_given => k_is)
    (case xu21_at => k_is)
    (case xu21_code => k_is)
    (case xu22_at => k_is)
    (case xu22_code => k_is)
    (case xu41_code => k_is)
    (case xu41_name => k_is)
    (case xu20_code => k_is)
    (case xu20_what => k_is)
    (case xv23 => k_is)
    (case xw23 => k_is)
    (case xv21 => k_is)
    (case xw21 => k_is)
    (case xv22 => k_is)
    (case xw22 => k_is)
    (case xv41 => k_is)
    (case xw41 => k_is)
    (case xv20 => k_is)
    (case xw20 => k_is)
    (case xx20_TellError => exact PySem.W.exm_ref (by k_is) (by k_is) (by k_is) (by k_is))
    (case xx20_Missing => exact PySem.W.exm_ref (by k_is) (by k_is) (by k_is) (by k_is))
    (case xx20_NothingLeft => exact PySem.W.exm_ref (by k_is) (by k_is) (by k_is) (by k_is))
    (case xx21_TellError => exact PySem.W.exm_ref (by k_is) (by k_is) (by k_is) (by k_is))
    (case xx21_Missing => exact PySem.W.exm_ref (by k_is) (by k_is) (by k_is) (by k_is))
    (case xx21_NothingLeft => exact PySem.W.exm_ref (by k_is) (by k_is) (by k_is) (by k_is))
    (case xx22_TellError => exact PySem.W.exm_ref (by k_is) (by k_is) (by k_is) (by k_is))
    (case xx22_Missing => exact PySem.W.exm_ref (by k_is) (by k_is) (by k_is) (by k_is))
    (case xx22_NothingLeft => exact PySem.W.exm_ref (by k_is) (by k_is) (by k_is) (by k_is))
    (case xx23_TellError => exact PySem.W.exm_ref (by k_is) (by k_is) (by k_is) (by k_is))
    (case xx23_Missing => exact PySem.W.exm_ref (by k_is) (by k_is) (by k_is) (by k_is))
    (case xx23_NothingLeft => exact PySem.W.exm_ref (by k_is) (by k_is) (by k_is) (by k_is))
    (case xx41_TellError => exact PySem.W.exm_ref (by k_is) (by k_is) (by k_is) (by k_is))
    (case xx41_Missing => exact PySem.W.exm_ref (by k_is) (by k_is) (by k_is) (by k_is))
    (case xx41_NothingLeft => exact PySem.W.exm_ref (by k_is) (by k_is) (by k_is) (by k_is))
    (case lq20 => k_is)
    (case lv20 => first | rfl | decide +kernel)
    (case lr20 => first | rfl | decide +kernel)
    (case ln20 => first | rfl | decide +kernel)
