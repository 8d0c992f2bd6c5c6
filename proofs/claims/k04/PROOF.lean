import PyProof.Rows.All
import Wide.All
import OpenK.AllK
import Wide.FinOn
import HandS.ForMost
import HandS.Lambda
import HandS.IsInst
import HandS.TupAny
import PyProof.Draws
import PyProof.EnumFor
import PyProof.TupleIter
import HandS.Zip
import PyProof.P3Eq
import HandS.Defaults
import HandS.MakeKwOnly
import HandS.ClsMeth
import HandS.Property
import HandS.OwnEq
import HandS.Strs
import HandS.Star
import HandS.Style
import HandS.FStr
import HandS.RaiseMore
import HandS.Codes
import HandS.SetFor
import KE.KExcSuper
import HandS.Base
import HandS.Call
import HandS.Exc
import HandS.ExcInit
import HandS.ExcOwn
import HandS.HotCalls
import KE.KTryMore
import HandS.EndTab
import PyProof.ListMulRoad
import PyProof.Rows.SeqMore
import PyProof.InstNe
import KE.KEqNest
import PyProof.NeKinds
import PyProof.ZipIter
import KE.KDflt
import KE.KIndexOf
import HandS.NoneIn
import KE.SortData
import KE.SortLaws
import HandS.Dict
import KE.KExcLine
import KE.KNestM
import HandS.ExcIs
import PySem.Challenge.RW_lastheard_k04_prices_and_words_for_sorts
set_option Elab.async false
set_option linter.all false
set_option autoImplicit false
set_option maxRecDepth 100000
namespace DL
open PySem L2

inductive D where
  | non | bl (b : Bool) | int (i : Int) | str (s : Str)
  | tup (l : List D) | lst (l : List D)
  | ins (c : Nat) (ns : List Str) (l : List D)
  | obj (n : Nat)
  | exn (c : Nat) (ns : List Str) (l : List D)
  | cls (c : Nat)
inductive L where
  | val (d : D) | own (l : List D) | oins (c : Nat) (ns : List Str) (l : List D)
def L.owns : L → Bool
  | .val _ => false
  | _ => true
inductive O where
  | lst (l : List D)
  | ins (c : Nat) (ns : List Str) (l : List D)
  | tbl (q : Str)

structure Gh where
  ads : List Addr
  M : Addr → Prop
/-- the written part; the classes; the tables of the lambdas' code objects; the exception that is handled -/
structure Ct where
  K : PySem.W.Frag
  cl : Nat → Addr
  tb : Str → Addr := fun _ => 0
  xp : Option (Addr × Obj) := none
/-- an exception's dict -/
def Xd (G : Gh) (H : Hp) (x : Addr) (fs : List (Str × V)) : Prop := H x = some (.xd fs) ∧ ¬ G.M x

abbrev H0 : Hp := fun _ => none
def LAt (C : Ct) (G : Gh) (H : Hp) (a : Addr) (vs : List V) : Prop := (Rd H a (.lst vs) ∧ ¬ G.M a) ∨ SqL C.K H0 a vs
def TAt (C : Ct) (G : Gh) (H : Hp) (a : Addr) (vs : List V) : Prop := (Rd H a (.tup vs) ∧ ¬ G.M a) ∨ SqT C.K H0 a vs
theorem noRd {a : Addr} {u : HO} (h : Rd H0 a u) : False := by
  rcases h with h | ⟨_, h⟩ <;> cases h
theorem LAt.sq {C : Ct} {G : Gh} {H : Hp} {a : Addr} {vs : List V} (h : LAt C G H a vs) : SqL C.K H a vs := by
  rcases h with ⟨h, _⟩ | h | h
  · exact .inl h
  · exact (noRd h).elim
  · exact .inr h
theorem TAt.sq {C : Ct} {G : Gh} {H : Hp} {a : Addr} {vs : List V} (h : TAt C G H a vs) : SqT C.K H a vs := by
  rcases h with ⟨h, _⟩ | h | h
  · exact .inl h
  · exact (noRd h).elim
  · exact .inr h

mutual
inductive Rp (C : Ct) (G : Gh) (H : Hp) : D → V → Prop
  | non : Rp C G H .non .non
  | bl (b : Bool) : Rp C G H (.bl b) (.bl b)
  | int (i : Int) : Rp C G H (.int i) (.int i)
  | str (x : Str) : PySem.PyData.strOk x = true → Rp C G H (.str x) (.str x)
  | lst {a : Addr} {vs : List V} {l : List D} : LAt C G H a vs → l.length ≤ sizeLine → Rps C G H l vs → Rp C G H (.lst l) (.ref a)
  | tup {a : Addr} {vs : List V} {l : List D} : TAt C G H a vs → l.length ≤ sizeLine → Rps C G H l vs → Rp C G H (.tup l) (.ref a)
  | ins {a dx : Addr} {c : Nat} {ns : List Str} {vs : List V} {l : List D} : H a = some (.ins (C.cl c) dx (ns.zip vs)) → ¬ G.M a → ns.length = vs.length → Rps C G H l vs → Rp C G H (.ins c ns l) (.ref a)
  | obj {n : Nat} {a : Addr} : G.ads[n]? = some a → Rp C G H (.obj n) (.ref a)
  | exn {a d : Addr} {oe : Obj} {c : Nat} {ns : List Str} {vs : List V} {l : List D} : C.xp = some (a, oe) → Zc (.ref (C.cl c)) (some d) oe → Xd G H d (ns.zip vs) → Rps C G H l vs → Rp C G H (.exn c ns l) (.ref a)
  | cls (c : Nat) : Rp C G H (.cls c) (.ref (C.cl c))
inductive Rps (C : Ct) (G : Gh) (H : Hp) : List D → List V → Prop
  | nil : Rps C G H [] []
  | cons {d : D} {v : V} {l : List D} {vs : List V} : Rp C G H d v → Rps C G H l vs → Rps C G H (d :: l) (v :: vs)
end

structure Stab (G : Gh) (H : Hp) (G' : Gh) (H' : Hp) : Prop where
  ads : ∀ (n : Nat) (a : Addr), G.ads[n]? = some a → G'.ads[n]? = some a
  keep : ∀ a o, H a = some o → ¬ G.M a → H' a = some o ∧ ¬ G'.M a

section
variable {C : Ct} {G G' G2 : Gh} {H H' H2 : Hp}
theorem Stab.rd (s : Stab G H G' H') {a : Addr} {u : HO} (h : Rd H a u ∧ ¬ G.M a) : Rd H' a u ∧ ¬ G'.M a := by
  obtain ⟨h | ⟨o, h⟩, m⟩ := h
  · exact ⟨.inl (s.keep _ _ h m).1, (s.keep _ _ h m).2⟩
  · exact ⟨.inr ⟨o, (s.keep _ _ h m).1⟩, (s.keep _ _ h m).2⟩
theorem LAt.stab {a : Addr} {vs : List V} (h : LAt C G H a vs) (s : Stab G H G' H') : LAt C G' H' a vs := h.elim (fun h => .inl (s.rd h)) .inr
theorem TAt.stab {a : Addr} {vs : List V} (h : TAt C G H a vs) (s : Stab G H G' H') : TAt C G' H' a vs := h.elim (fun h => .inl (s.rd h)) .inr
mutual
theorem Rp.stab (s : Stab G H G' H') : ∀ {d : D} {v : V}, Rp C G H d v → Rp C G' H' d v
  | _, _, .non => .non
  | _, _, .bl b => .bl b
  | _, _, .int i => .int i
  | _, _, .str x h => .str x h
  | _, _, .lst h z r => .lst (h.stab s) z (Rps.stab s r)
  | _, _, .tup h z r => .tup (h.stab s) z (Rps.stab s r)
  | _, _, .ins h m e r => .ins (s.keep _ _ h m).1 (s.keep _ _ h m).2 e (Rps.stab s r)
  | _, _, .obj h => .obj (s.ads _ _ h)
  | _, _, .exn e z h r => .exn e z (s.keep _ _ h.1 h.2) (Rps.stab s r)
  | _, _, .cls c => .cls c
theorem Rps.stab (s : Stab G H G' H') : ∀ {l : List D} {vs : List V}, Rps C G H l vs → Rps C G' H' l vs
  | _, _, .nil => .nil
  | _, _, .cons r q => .cons (Rp.stab s r) (Rps.stab s q)
end
theorem Rps.length : ∀ {l : List D} {vs : List V}, Rps C G H l vs → l.length = vs.length
  | _, _, .nil => rfl
  | _, _, .cons _ q => by rw [List.length_cons, List.length_cons, q.length]
theorem Rps.get : ∀ {l : List D} {vs : List V} {i : Nat} {d : D}, Rps C G H l vs → l[i]? = some d → ∃ v, vs[i]? = some v ∧ Rp C G H d v
  | _, _, _, _, .nil, h => by simp at h
  | _, _, 0, _, .cons r _, h => by simp at h; subst h; exact ⟨_, rfl, r⟩
  | _, _, i + 1, _, .cons _ q, h => by
    obtain ⟨v, h1, h2⟩ := q.get (i := i) (by simpa using h)
    exact ⟨v, by simpa using h1, h2⟩
theorem Rps.append : ∀ {l m : List D} {vs ws : List V}, Rps C G H l vs → Rps C G H m ws → Rps C G H (l ++ m) (vs ++ ws)
  | _, _, _, _, .nil, h => h
  | _, _, _, _, .cons r q, h => .cons r (q.append h)
theorem Rps.set {d : D} {v : V} (h : Rp C G H d v) : ∀ {l : List D} {vs : List V} (i : Nat), Rps C G H l vs → Rps C G H (l.set i d) (vs.set i v)
  | _, _, _, .nil => .nil
  | _, _, 0, .cons _ q => .cons h q
  | _, _, i + 1, .cons r q => .cons r (Rps.set h i q)
theorem Rps.take : ∀ {l : List D} {vs : List V} (n : Nat), Rps C G H l vs → Rps C G H (l.take n) (vs.take n)
  | _, _, 0, _ => .nil
  | _, _, _ + 1, .nil => .nil
  | _, _, n + 1, .cons r q => .cons r (q.take n)
theorem Rps.drop : ∀ {l : List D} {vs : List V} (n : Nat), Rps C G H l vs → Rps C G H (l.drop n) (vs.drop n)
  | _, _, 0, r => r
  | _, _, _ + 1, .nil => .nil
  | _, _, n + 1, .cons _ q => q.drop n
/-- an object's state -/
inductive Ro (C : Ct) (G : Gh) (H : Hp) : O → Addr → Prop
  | lst {a : Addr} {vs : List V} {l : List D} : H a = some (.lst vs) → l.length ≤ sizeLine → Rps C G H l vs → Ro C G H (.lst l) a
  | ins {a dx : Addr} {c : Nat} {ns : List Str} {vs : List V} {l : List D} : H a = some (.ins (C.cl c) dx (ns.zip vs)) → ns.length = vs.length → Rps C G H l vs → Ro C G H (.ins c ns l) a
  | tbl {a : Addr} {q : Str} {ps : Array Value} : C.tb q = a → H a = some (.tbl ps) → TriplesOk ps.toList → (∀ (pos : Pos) (cv : Value), codeAmong pos ps.toList = some cv → ∃ c, cv = .ref c ∧ H c = some (LamX.CodeO c q) ∧ ¬ G.M c) → Ro C G H (.tbl q) a
/-- a slot's -/
inductive Rl (C : Ct) (G : Gh) (H : Hp) : L → V → Prop
  | val {d : D} {v : V} : Rp C G H d v → Rl C G H (.val d) v
  | own {a : Addr} {vs : List V} {l : List D} : G.M a → H a = some (.lst vs) → l.length ≤ sizeLine → Rps C G H l vs → Rl C G H (.own l) (.ref a)
  | oins {a dx : Addr} {c : Nat} {ns : List Str} {vs : List V} {l : List D} : G.M a → H a = some (.ins (C.cl c) dx (ns.zip vs)) → ns.length = vs.length → Rps C G H l vs → Rl C G H (.oins c ns l) (.ref a)
structure Rh (C : Ct) (G : Gh) (H : Hp) (η : List O) : Prop where
  len : G.ads.length = η.length
  nd : G.ads.Nodup
  ob : ∀ (n : Nat) (o : O) (a : Addr), η[n]? = some o → G.ads[n]? = some a → G.M a ∧ Ro C G H o a
  mh : ∀ a, G.M a → H a ≠ none

abbrev En := List (Option L)
structure At (C : Ct) (G : Gh) (H : Hp) (δ : En) (σ : St) (η : List O) : Prop where
  len : δ.length = σ.length
  sl : ∀ (i : Nat) (l : L), δ[i]? = some (some l) → ∃ v, σ[i]? = some (some v) ∧ Rl C G H l v
  un : ∀ (i j : Nat) (l l' : L) (v : V), i ≠ j → δ[i]? = some (some l) → δ[j]? = some (some l') → l.owns = true → l'.owns = true → σ[i]? = some (some v) → σ[j]? = some (some v) → False
  nad : ∀ (i : Nat) (l : L) (a : Addr), δ[i]? = some (some l) → l.owns = true → σ[i]? = some (some (.ref a)) → a ∉ G.ads
  he : Rh C G H η

structure Nx (G : Gh) (H : Hp) (G' : Gh) (H' : Hp) : Prop where
  ads : ∀ (n : Nat) (a : Addr), G.ads[n]? = some a → G'.ads[n]? = some a
  keep : ∀ a o, H a = some o → a ∉ G.ads → H' a = some o
  mu : ∀ a o, H a = some o → (G'.M a ↔ G.M a)
  new : ∀ a, a ∈ G'.ads → a ∈ G.ads ∨ H a = none
  there : ∀ a, H' a = none → H a = none

theorem Rh.adsM {η : List O} (h : Rh C G H η) {a : Addr} (ha : a ∈ G.ads) : G.M a := by
  obtain ⟨n, hn⟩ := List.mem_iff_getElem?.mp ha
  obtain ⟨h1, _⟩ := List.getElem?_eq_some_iff.mp hn
  have h2 : n < η.length := by rw [← h.len]; exact h1
  exact (h.ob n η[n] a (by simp [h2]) hn).1
theorem Nx.refl : Nx G H G H := ⟨fun _ _ h => h, fun _ _ h _ => h, fun _ _ _ => Iff.rfl, fun _ h => .inl h, fun _ h => h⟩
theorem Nx.trans (x : Nx G H G' H') (y : Nx G' H' G2 H2) : Nx G H G2 H2 := by
  refine ⟨fun n a h => y.ads n a (x.ads n a h), fun a o h m => ?_, fun a o h => ?_, fun a h => ?_, fun a h => x.there a (y.there a h)⟩
  · refine y.keep a o (x.keep a o h m) fun h' => ?_
    rcases x.new a h' with z | z
    · exact m z
    · rw [h] at z; cases z
  · cases q : H' a with
    | none => rw [x.there a q] at h; cases h
    | some o' => exact (y.mu a o' q).trans (x.mu a o h)
  · rcases y.new a h with z | z
    · exact x.new a z
    · exact .inr (x.there a z)
theorem Nx.stab {η : List O} (x : Nx G H G' H') (h : Rh C G H η) : Stab G H G' H' :=
  ⟨x.ads, fun a o ha m => ⟨x.keep a o ha fun z => m (h.adsM z), fun z => m ((x.mu a o ha).mp z)⟩⟩

/-- behind a step: the slots stand -/
theorem At.next {δ : En} {σ : St} {η η' : List O} (a : At C G H δ σ η) (x : Nx G H G' H') (h : Rh C G' H' η') : At C G' H' δ σ η' := by
  have st := x.stab a.he
  have kp : ∀ {i : Nat} {l : L} {b : Addr}, δ[i]? = some (some l) → l.owns = true → σ[i]? = some (some (V.ref b)) → ∀ o, H b = some o → H' b = some o := fun h1 h2 h3 o h4 => x.keep _ o h4 (a.nad _ _ _ h1 h2 h3)
  refine ⟨a.len, fun i l hl => ?_, a.un, fun i l b h1 h2 h3 => ?_, h⟩
  · obtain ⟨v, h1, h2⟩ := a.sl i l hl
    refine ⟨v, h1, ?_⟩
    cases h2 with
    | val r => exact .val (r.stab st)
    | own m e z r => exact .own ((x.mu _ _ e).mpr m) (kp hl rfl h1 _ e) z (r.stab st)
    | oins m e n r => exact .oins ((x.mu _ _ e).mpr m) (kp hl rfl h1 _ e) n (r.stab st)
  · intro z
    have q := a.nad i l b h1 h2 h3
    rcases x.new b z with w | w
    · exact q w
    · obtain ⟨v, e1, e2⟩ := a.sl i l h1
      rw [h3] at e1
      cases e1
      cases e2 with
      | val r => cases h2
      | own m e z r => rw [w] at e; cases e
      | oins m e n r => rw [w] at e; cases e
end

/-! ### results -/
inductive R (α : Type) where
  | ok (a : α) (η : List O)
  | exc (c : Nat) (ns : List Str) (l : List D) (η : List O)
  | bad
def R.bind {α β : Type} (r : R α) (k : α → List O → R β) : R β := match r with
  | .ok a η => k a η
  | .exc c ns l η => .exc c ns l η
  | .bad => .bad
abbrev F (α : Type) := En → List O → R α

def FinR {α β : Type} (C : Ct) (Rel : Gh → Hp → α → β → Prop) (E : XK) (G : Gh) (H : Hp) (r : R α) (Q : β → Hp → Prop) : Prop := match r with
  | .ok d η' => ∀ v G' H', Nx G H G' H' → Rh C G' H' η' → Rel G' H' d v → Q v H'
  | .exc c ns l η' => ∀ x vs G' H', Nx G H G' H' → Rh C G' H' η' → Xd G' H' x (ns.zip vs) → Rps C G' H' l vs → E (.ref (C.cl c)) (some x) H'
  | .bad => False
/-- the reading of a function of the data -/
def tG {α β : Type} (C : Ct) (Rel : Gh → Hp → α → β → Prop) (W : Value → Option Addr → St → Hp → Prop) (f : F α) : St → Hp → (β → Hp → Prop) → Prop := fun σ H Q =>
  ∃ G δ η, At C G H δ σ η ∧ FinR C Rel (fun c d H' => W c d σ H') G H (f δ η) Q

section
variable {α β γ κ : Type} {C : Ct} {G G' : Gh} {H H' : Hp} {δ : En} {σ : St} {η η' : List O} {E : XK} {W : Value → Option Addr → St → Hp → Prop}
variable {Rel : Gh → Hp → α → β → Prop} {Rel2 : Gh → Hp → γ → κ → Prop} {Q : β → Hp → Prop} {Q2 : κ → Hp → Prop}
theorem FinR.next {r : R α} (h : FinR C Rel E G H r Q) (x : Nx G H G' H') : FinR C Rel E G' H' r Q := by
  cases r with
  | ok d η' => exact fun v G2 H2 y q1 q2 => h v G2 H2 (x.trans y) q1 q2
  | exc c ns l η' => exact fun a vs G2 H2 y q1 q2 q3 => h a vs G2 H2 (x.trans y) q1 q2 q3
  | bad => exact h
theorem tG.bind {f : F α} {k : α → List O → R γ} (a : At C G H δ σ η) (fin : FinR C Rel2 (fun c d H' => W c d σ H') G H ((f δ η).bind k) Q2)
    (h : ∀ x v G1 H1 η1, At C G1 H1 δ σ η1 → Nx G H G1 H1 → Rel G1 H1 x v → FinR C Rel2 (fun c d H' => W c d σ H') G1 H1 (k x η1) Q2 → Q v H1) : tG C Rel W f σ H Q := by
  refine ⟨G, δ, η, a, ?_⟩
  cases hf : f δ η with
  | ok d η1 =>
    rw [hf] at fin
    have fin' : FinR C Rel2 (fun c d H' => W c d σ H') G H (k d η1) Q2 := fin
    exact fun v G1 H1 x q1 q2 => h d v G1 H1 η1 (a.next x q1) x q2 (fin'.next x)
  | exc c ns l η1 =>
    rw [hf] at fin
    exact fun b vs G1 H1 x q1 q2 q3 => fin b vs G1 H1 x q1 q2 q3
  | bad =>
    rw [hf] at fin
    exact fin
end
end DL
namespace DL
open PySem L2

/-! ### borrowed values -/
/-- stable: a list of the frame's own; loose: any list that stands now -/
def Rpb (C : Ct) (G : Gh) (H : Hp) (d : D) (v : V) : Prop := Rp C G H d v ∨ ∃ a vs l, d = .lst l ∧ v = .ref a ∧ H a = some (.lst vs) ∧ (Rps C G H l vs ∧ l.length ≤ sizeLine) ∧ a ∉ G.ads
def Rpu (C : Ct) (G : Gh) (H : Hp) (d : D) (v : V) : Prop := Rp C G H d v ∨ ∃ a vs l, d = .lst l ∧ v = .ref a ∧ H a = some (.lst vs) ∧ (Rps C G H l vs ∧ l.length ≤ sizeLine)
def RB (G : Gh) (H : Hp) (b c : Bool) : Prop := b = c
section
variable {C : Ct} {G G' G2 : Gh} {H H' H2 : Hp} {d : D} {v : V} {η : List O}
theorem Rp.b (h : Rp C G H d v) : Rpb C G H d v := .inl h
theorem Rpb.u (h : Rpb C G H d v) : Rpu C G H d v := h.elim .inl fun ⟨a, vs, l, h1, h2, h3, h4, _⟩ => .inr ⟨a, vs, l, h1, h2, h3, h4⟩
theorem Rpb.next (h : Rpb C G H d v) (x : Nx G H G' H') (r : Rh C G H η) : Rpb C G' H' d v := by
  rcases h with h | ⟨a, vs, l, h1, h2, h3, h4, h5⟩
  · exact .inl (h.stab (x.stab r))
  · refine .inr ⟨a, vs, l, h1, h2, x.keep _ _ h3 h5, ⟨h4.1.stab (x.stab r), h4.2⟩, fun z => ?_⟩
    rcases x.new a z with w | w
    · exact h5 w
    · rw [h3] at w; cases w
/-- a list that is read -/
theorem Rpu.lst {l : List D} (h : Rpu C G H (.lst l) v) : ∃ a vs, v = .ref a ∧ SqL C.K H a vs ∧ Rps C G H l vs := by
  rcases h with h | ⟨a, vs, l', h1, h2, h3, h4, _⟩
  · cases h with
    | lst h1 _ h2 => exact ⟨_, _, rfl, h1.sq, h2⟩
  · cases h1
    exact ⟨a, vs, h2, SqL.of h3, h4⟩
theorem Rpu.lstZ {l : List D} (h : Rpu C G H (.lst l) v) : l.length ≤ sizeLine := by
  rcases h with h | ⟨a, vs, l', h1, h2, h3, h4, z⟩
  · cases h with
    | lst _ z _ => exact z
  · cases h1
    exact z
theorem Rpu.tupZ {l : List D} (h : Rpu C G H (.tup l) v) : l.length ≤ sizeLine := by
  rcases h with h | ⟨a, vs, l', h1, h2, h3, h4, z⟩
  · cases h with
    | tup _ z _ => exact z
  · cases h1
theorem Rpu.tup {l : List D} (h : Rpu C G H (.tup l) v) : ∃ a vs, v = .ref a ∧ SqT C.K H a vs ∧ Rps C G H l vs := by
  rcases h with h | ⟨a, vs, l', h1, h2, h3, h4⟩
  · cases h with
    | tup h1 _ h2 => exact ⟨_, _, rfl, h1.sq, h2⟩
  · cases h1
theorem Rpu.int {i : Int} (h : Rpu C G H (.int i) v) : v = .int i := by
  rcases h with h | ⟨a, vs, l', h1, _⟩
  · cases h; rfl
  · cases h1
theorem Rpu.str {i : Str} (h : Rpu C G H (.str i) v) : v = .str i := by
  rcases h with h | ⟨a, vs, l', h1, _⟩
  · cases h; rfl
  · cases h1
theorem Rpu.strOk {i : Str} (h : Rpu C G H (.str i) v) : PySem.PyData.strOk i = true := by
  rcases h with h | ⟨a, vs, l', h1, _⟩
  · cases h with
    | str _ h => exact h
  · cases h1
theorem Rpu.bl {i : Bool} (h : Rpu C G H (.bl i) v) : v = .bl i := by
  rcases h with h | ⟨a, vs, l', h1, _⟩
  · cases h; rfl
  · cases h1
theorem Rpu.non (h : Rpu C G H .non v) : v = .non := by
  rcases h with h | ⟨a, vs, l', h1, _⟩
  · cases h; rfl
  · cases h1
theorem Rpu.obj {n : Nat} (h : Rpu C G H (.obj n) v) : ∃ a, v = .ref a ∧ G.ads[n]? = some a := by
  rcases h with h | ⟨a, vs, l', h1, _⟩
  · cases h with
    | obj h => exact ⟨_, rfl, h⟩
  · cases h1

/-! ### a new object that will not change -/
theorem Nx.alloc {p : Addr} {o : HO} (hp : H p = none) : Nx G H G (upd H p o) := by
  refine ⟨fun _ _ h => h, fun a u h _ => ?_, fun _ _ _ => Iff.rfl, fun _ h => .inl h, fun a h => ?_⟩
  · rw [upd_ne (ne_of_none h hp)]; exact h
  · by_cases e : a = p
    · subst e; exact hp
    · rw [upd_ne e] at h; exact h
theorem Ro.stab {o : O} {a : Addr} (s : Stab G H G' H') (k : ∀ u, H a = some u → H' a = some u) (r : Ro C G H o a) : Ro C G' H' o a := by
  cases r with
  | lst h z r => exact .lst (k _ h) z (r.stab s)
  | ins h e r => exact .ins (k _ h) e (r.stab s)
  | tbl e h t c => exact .tbl e (k _ h) t fun pos cv hc => (c pos cv hc).elim fun b z => ⟨b, z.1, (s.keep _ _ z.2.1 z.2.2).1, (s.keep _ _ z.2.1 z.2.2).2⟩
theorem Ro.at {o : O} {a : Addr} (r : Ro C G H o a) : H a ≠ none := by
  cases r with
  | lst h z r => rw [h]; exact fun z => by cases z
  | ins h e r => rw [h]; exact fun z => by cases z
  | tbl e h t c => rw [h]; exact fun z => by cases z
theorem Rh.alloc {p : Addr} {o : HO} (r : Rh C G H η) (hp : H p = none) : Rh C G (upd H p o) η := by
  have x : Nx G H G (upd H p o) := Nx.alloc hp
  refine ⟨r.len, r.nd, fun n o' a h1 h2 => ?_, fun a m => ?_⟩
  · obtain ⟨m, q⟩ := r.ob n o' a h1 h2
    refine ⟨m, q.stab (x.stab r) fun u hu => ?_⟩
    rw [upd_ne (ne_of_none hu hp)]; exact hu
  · exact fun z => r.mh a m (x.there a z)
theorem Rh.fresh {p : Addr} (r : Rh C G H η) (hp : H p = none) : ¬ G.M p := fun m => r.mh p m hp
end

/-! ### lifting -/
def lift {α : Type} (o : Option α) (η : List O) : R α := match o with
  | some a => .ok a η
  | none => .bad
@[simp] theorem lift_some {α : Type} {a : α} {η : List O} : lift (some a) η = .ok a η := rfl
@[simp] theorem bind_ok {α β : Type} {a : α} {η : List O} {k : α → List O → R β} : (R.ok a η).bind k = k a η := rfl
@[simp] theorem bind_exc {α β : Type} {c : Nat} {ns : List Str} {l : List D} {η : List O} {k : α → List O → R β} : (R.exc c ns l η : R α).bind k = .exc c ns l η := rfl
abbrev WX0 : Value → Option Addr → St → Hp → Prop := fun _ _ _ _ => False
section
variable {X : Cx} {C : Ct} {W : Value → Option Addr → St → Hp → Prop}
abbrev FE (C : Ct) (W : Value → Option Addr → St → Hp → Prop) (X : Cx) (e : Expr) (f : F D) : Prop := PE X e (tG C (Rp C) W f)
abbrev FB (C : Ct) (W : Value → Option Addr → St → Hp → Prop) (X : Cx) (e : Expr) (f : F D) : Prop := PE X e (tG C (Rpb C) W f)
abbrev FU (C : Ct) (W : Value → Option Addr → St → Hp → Prop) (X : Cx) (e : Expr) (f : F D) : Prop := PE X e (tG C (Rpu C) W f)
abbrev FT (C : Ct) (W : Value → Option Addr → St → Hp → Prop) (X : Cx) (e : Expr) (f : F Bool) : Prop := PT X e (tG C RB W f)
abbrev FA (C : Ct) (W : Value → Option Addr → St → Hp → Prop) (X : Cx) (es : List Expr) (f : F (List D)) : Prop := PA X es (tG C (Rps C) W f)

theorem PE.imp {X : Cx} {e : Expr} {t t' : TE} (h : PE X e t) (i : ∀ σ H Q, t' σ H Q → t σ H Q) : PE X e t' := ⟨fun pins s σ H Q I q => h.run pins s σ H Q I (i _ _ _ q)⟩
theorem PT.imp {X : Cx} {e : Expr} {t t' : TT} (h : PT X e t) (i : ∀ σ H Q, t' σ H Q → t σ H Q) : PT X e t' := ⟨fun pins s σ H Q I q => h.run pins s σ H Q I (i _ _ _ q)⟩
theorem PA.imp {X : Cx} {e : List Expr} {t t' : TA} (h : PA X e t) (i : ∀ σ H Q, t' σ H Q → t σ H Q) : PA X e t' := ⟨fun pos pins s σ H Q I q => h.run pos pins s σ H Q I (i _ _ _ q)⟩
theorem PS.imp {X : Cx} {e : Stmt} {t t' : TS} (h : PS X e t) (i : ∀ D σ H, t' D σ H → t D σ H) : PS X e t' := ⟨fun pins s σ H Q I q => h.run pins s σ H Q I (i _ _ _ q)⟩
theorem PSs.imp {X : Cx} {e : List Stmt} {t t' : TS} (h : PSs X e t) (i : ∀ D σ H, t' D σ H → t D σ H) : PSs X e t' := ⟨fun pins s σ H Q I q => h.run pins s σ H Q I (i _ _ _ q)⟩

theorem tG.rel {α β : Type} {Rel Rel' : Gh → Hp → α → β → Prop} {f : F α} (h : ∀ G H d v, Rel G H d v → Rel' G H d v) {σ : St} {H : Hp} {Q : β → Hp → Prop} (q : tG C Rel' W f σ H Q) : tG C Rel W f σ H Q := by
  obtain ⟨G, δ, η, a, fin⟩ := q
  refine ⟨G, δ, η, a, ?_⟩
  cases hf : f δ η with
  | ok d η1 => rw [hf] at fin; exact fun v G1 H1 x q1 q2 => fin v G1 H1 x q1 (h _ _ _ _ q2)
  | exc c ns l η1 => rw [hf] at fin; exact fin
  | bad => rw [hf] at fin; exact fin
theorem fe_b {e : Expr} {f : F D} (h : FE C W X e f) : FB C W X e f := PE.imp h fun _ _ _ q => tG.rel (fun _ _ _ _ z => Rp.b z) q
theorem fb_u {e : Expr} {f : F D} (h : FB C W X e f) : FU C W X e f := PE.imp h fun _ _ _ q => tG.rel (fun _ _ _ _ z => Rpb.u z) q
theorem fe_u {e : Expr} {f : F D} (h : FE C W X e f) : FU C W X e f := fb_u (fe_b h)

/-! ### names, constants -/
def fV (i : Nat) : F D := fun δ η => match δ[i]? with
  | some (some (.val d)) => .ok d η
  | _ => .bad
theorem fe_v (i : Nat) {x : Str} {pos : Pos} (hN : X.N[i]? = some x := by rfl) (hv : Vis X.env.scope x := by first | exact Or.inl rfl | exact Or.inr (Or.inl rfl) | exact Or.inr (Or.inr rfl)) (hd : (x == ("__debug__" : Str)) = false := by decide)
    (hcd : (x == ("__classdict__" : Str)) = false := by decide) : FE C W X (.Name x pos) (fV i) := by
  refine PE.imp (pe_var hN hv hd hcd) fun σ H Q ⟨G, δ, η, a, fin⟩ => ?_
  unfold fV at fin
  split at fin
  · rename_i d h
    obtain ⟨v, h1, h2⟩ := a.sl i _ h
    cases h2 with
    | val r => exact ⟨v, h1, fin v G H Nx.refl a.he r⟩
  · exact fin.elim
/-- a list of the frame's own is read -/
def fVo (i : Nat) : F D := fun δ η => match δ[i]? with
  | some (some (.own l)) => .ok (.lst l) η
  | _ => .bad
theorem fb_v (i : Nat) {x : Str} {pos : Pos} (hN : X.N[i]? = some x := by rfl) (hv : Vis X.env.scope x := by first | exact Or.inl rfl | exact Or.inr (Or.inl rfl) | exact Or.inr (Or.inr rfl)) (hd : (x == ("__debug__" : Str)) = false := by decide)
    (hcd : (x == ("__classdict__" : Str)) = false := by decide) : FB C W X (.Name x pos) (fVo i) := by
  refine PE.imp (pe_var hN hv hd hcd) fun σ H Q ⟨G, δ, η, a, fin⟩ => ?_
  unfold fVo at fin
  split at fin
  · rename_i l h
    obtain ⟨v, h1, h2⟩ := a.sl i _ h
    cases h2 with
    | own m e z r => exact ⟨_, h1, fin _ G H Nx.refl a.he (.inr ⟨_, _, _, rfl, rfl, e, ⟨r, z⟩, a.nad i _ _ h rfl h1⟩)⟩
  · exact fin.elim
def fC (d : D) : F D := fun _ η => .ok d η
theorem fe_c {e : Expr} {d : D} {v : V} (h : PE X e (tC v)) (r : ∀ G H, Rp C G H d v) : FE C W X e (fC d) :=
  PE.imp h fun σ H Q ⟨G, δ, η, a, fin⟩ => fin v G H Nx.refl a.he (r G H)
theorem fe_int {i : Int} {j pos} : FE C W X (.Constant (.int i) j pos) (fC (.int i)) := fe_c pe_int fun _ _ => .int i
theorem fe_bl {b : Bool} {j pos} : FE C W X (.Constant (.bool b) j pos) (fC (.bl b)) := fe_c pe_bl fun _ _ => .bl b
theorem fe_non {j pos} : FE C W X (.Constant .none j pos) (fC .non) := fe_c pe_non fun _ _ => .non
theorem fe_str {x : Str} {j pos} (h : PySem.PyData.strOk x = true := by decide +kernel) : FE C W X (.Constant (.str x) j pos) (fC (.str x)) := fe_c pe_str fun _ _ => .str x h
theorem fe_gint {x : Str} {i : Int} {t : Tok} {pos : Pos} (hm : X.mg x = some (.int i t)) (hg : Gl X x := by rfl) (hd : (x == ("__debug__" : Str)) = false := by decide) : FE C W X (.Name x pos) (fC (.int i)) := fe_c (pe_glob (v := .int i) hg hm ⟨t, rfl⟩ hd) fun _ _ => .int i
theorem fe_gstr {x : Str} {i : Str} {t : Tok} {pos : Pos} (hm : X.mg x = some (.str i t)) (hg : Gl X x := by rfl) (hd : (x == ("__debug__" : Str)) = false := by decide) (hok : PySem.PyData.strOk i = true := by decide +kernel) : FE C W X (.Name x pos) (fC (.str i)) := fe_c (pe_glob (v := .str i) hg hm ⟨t, rfl⟩ hd) fun _ _ => .str i hok

/-! ### two-place operations -/
/-- what follows a value that an operation has made -/
def Gives (C : Ct) (G : Gh) (H : Hp) (η : List O) (o : Option D) (Q : VK) : Prop := match o with
  | some r => ∀ z G' H', Nx G H G' H' → Rh C G' H' η → Rp C G' H' r z → Q z H'
  | none => False
def rD (C : Ct) (g : D → D → Option D) : R2 := fun x y H Q => ∃ G η d e, Rh C G H η ∧ Rpu C G H d x ∧ Rpu C G H e y ∧ Gives C G H η (g d e) Q
def fOp (g : D → D → Option D) (fa fb : F D) : F D := fun δ η => (fa δ η).bind fun d η => (fb δ η).bind fun e η => lift (g d e) η
theorem FinR.gives {G : Gh} {H : Hp} {η : List O} {o : Option D} {E : XK} {Q : VK} (r : Rh C G H η) (h : FinR C (Rp C) E G H (lift o η) Q) : Gives C G H η o Q := by
  cases o with
  | none => exact h
  | some d => exact fun z G' H' x q1 q2 => h z G' H' x q1 q2
theorem tOp_of {g : D → D → Option D} {fa fb : F D} {σ : St} {H : Hp} {Q : VK} (h : tG C (Rp C) W (fOp g fa fb) σ H Q) : tOp (rD C g) (tG C (Rpb C) W fa) (tG C (Rpu C) W fb) σ H Q := by
  obtain ⟨G, δ, η, a, fin⟩ := h
  refine tG.bind (Rel2 := Rp C) a fin fun d v G1 H1 η1 a1 x1 r1 fin1 => ?_
  refine tG.bind (Rel2 := Rp C) a1 fin1 fun e w G2 H2 η2 a2 x2 r2 fin2 => ?_
  exact ⟨G2, η2, d, e, a2.he, (r1.next x2 a1.he).u, r2, fin2.gives a2.he⟩
variable {a b c : Expr} {fa fb fc : F D} {pos : Pos} {g g' : D → D → Option D}
theorem fe_op {op : Operator} (ho : OpR X (binaryOp op) (rD C g)) (ha : FB C W X a fa) (hb : FU C W X b fb) : FE C W X (.BinOp a op b pos) (fOp g fa fb) := PE.imp (pe_op ho ha hb) fun _ _ _ q => tOp_of q
theorem fe_cmp {op : CmpOp} (ho : OpR X (compareOp op) (rD C g)) (ha : FB C W X a fa) (hb : FU C W X b fb) (hm : behindInMarks op b = false) : FE C W X (.Compare a [op] [b] pos) (fOp g fa fb) := PE.imp (pe_cmpR ho ha hb hm) fun _ _ _ q => tOp_of q

/-- a test by a value: True or False -/
def toB (f : F D) : F Bool := fun δ η => (f δ η).bind fun d η => match d with
  | .bl b => .ok b η
  | _ => .bad
theorem tTest_of {f : F D} {t : TE} (h : ∀ σ H Q, tG C (Rp C) W f σ H Q → t σ H Q) (mono : True) {σ : St} {H : Hp} {Q : Bool → Hp → Prop} (q : tG C RB W (toB f) σ H Q) : tTest t σ H Q := by
  obtain ⟨G, δ, η, a, fin⟩ := q
  refine h _ _ _ (tG.bind (Rel2 := RB) a fin fun d v G1 H1 η1 a1 x1 r1 fin1 => ?_)
  cases r1 with
  | bl b => exact ⟨b, rfl, fin1 b G1 H1 Nx.refl a1.he rfl⟩
  | _ => exact fin1.elim
theorem ft_cmp {op : CmpOp} (ho : OpR X (compareOp op) (rD C g)) (ha : FB C W X a fa) (hb : FU C W X b fb) (hm : behindInMarks op b = false) : FT C W X (.Compare a [op] [b] pos) (toB (fOp g fa fb)) := PT.imp (pt_cmpR ho ha hb hm) fun _ _ _ q => tTest_of (fun _ _ _ z => tOp_of z) trivial q
/-- a < b < c -/
def fCh (g g' : D → D → Option D) (fa fb fc : F D) : F D := fun δ η => (fa δ η).bind fun d η => (fb δ η).bind fun e η => match g d e with
  | some (.bl true) => (fc δ η).bind fun k η => lift (g' e k) η
  | some (.bl false) => .ok (.bl false) η
  | _ => .bad
theorem tChain_of {σ : St} {H : Hp} {Q : VK} (h : tG C (Rp C) W (fCh g g' fa fb fc) σ H Q) : tChain (rD C g) (rD C g') (tG C (Rpb C) W fa) (tG C (Rpb C) W fb) (tG C (Rpu C) W fc) σ H Q := by
  obtain ⟨G, δ, η, a, fin⟩ := h
  refine tG.bind (Rel2 := Rp C) a fin fun d v G1 H1 η1 a1 x1 r1 fin1 => ?_
  refine tG.bind (Rel2 := Rp C) a1 fin1 fun e w G2 H2 η2 a2 x2 r2 fin2 => ?_
  refine ⟨G2, η2, d, e, a2.he, (r1.next x2 a1.he).u, r2.u, ?_⟩
  cases hg : g d e with
  | none => rw [hg] at fin2; exact fin2
  | some k =>
    rw [hg] at fin2
    intro z G3 H3 x3 h3 r3
    cases r3 with
    | bl b =>
      refine ⟨b, rfl, ?_⟩
      cases b with
      | false => rw [if_neg Bool.false_ne_true]; exact fin2 _ G3 H3 x3 h3 (.bl false)
      | true =>
        rw [if_pos rfl]
        refine tG.bind (Rel2 := Rp C) (a2.next x3 h3) (fin2.next x3) fun k w' G4 H4 η4 a4 x4 r4 fin4 => ?_
        exact ⟨G4, η4, e, k, a4.he, ((r2.next x3 a2.he).next x4 h3).u, r4, fin4.gives a4.he⟩
    | _ => exact fin2.elim
theorem fe_chain {op op' : CmpOp} (ho : OpR X (compareOp op) (rD C g)) (ho' : OpR X (compareOp op') (rD C g')) (ha : FB C W X a fa) (hb : FB C W X b fb) (hc : FU C W X c fc) (hm : lastMarks [op, op'] [b, c] = false := by with_unfolding_all rfl) :
    FE C W X (.Compare a [op, op'] [b, c] pos) (fCh g g' fa fb fc) := PE.imp (pe_chain ho ho' ha hb hc hm) fun _ _ _ q => tChain_of q
theorem ft_chain {op op' : CmpOp} (ho : OpR X (compareOp op) (rD C g)) (ho' : OpR X (compareOp op') (rD C g')) (ha : FB C W X a fa) (hb : FB C W X b fb) (hc : FU C W X c fc) (hm : lastMarks [op, op'] [b, c] = false := by with_unfolding_all rfl) :
    FT C W X (.Compare a [op, op'] [b, c] pos) (toB (fCh g g' fa fb fc)) := PT.imp (pt_chain ho ho' ha hb hc hm) fun _ _ _ q => tTest_of (fun _ _ _ z => tChain_of z) trivial q

/-! ### truth, and, or, not, if -/
def truD : D → Option Bool
  | .non => some false
  | .bl b => some b
  | .int i => some (i != 0)
  | .str x => if x.length ≤ sizeLine then some ((x.length : Int) != 0) else none
  | .lst l => some (!l.isEmpty)
  | .tup l => some (!l.isEmpty)
  | _ => none
def fTru (f : F D) : F Bool := fun δ η => (f δ η).bind fun d η => lift (truD d) η
theorem Rps.emp {G : Gh} {H : Hp} {l : List D} {vs : List V} (h : Rps C G H l vs) : l.isEmpty = vs.isEmpty := by cases h <;> rfl
theorem ft_tru (hK : X.K = C.K) (ha : FU C W X a fa) (he : ∀ whole, isTrue a X.env whole = (do let v ← whole; standAt a.pos; holding [v] (truthy v)) := by intro _; rfl) : FT C W X a (fTru fa) := by
  refine PT.imp (pt_truth ha he) fun σ H Q ⟨G, δ, η, at0, fin⟩ => ?_
  refine tG.bind (Rel2 := RB) at0 fin fun d v G1 H1 η1 a1 x1 r1 fin1 => ?_
  have go : ∀ {k : Bool}, FinR C RB (fun c d H' => W c d σ H') G1 H1 (lift (some k) η1) Q → Q k H1 := fun z => z _ G1 H1 Nx.refl a1.he rfl
  cases d with
  | non => rw [r1.non]; exact ⟨_, rfl, go fin1⟩
  | bl b => rw [r1.bl]; exact ⟨_, rfl, go fin1⟩
  | int i => rw [r1.int]; exact ⟨_, rfl, go fin1⟩
  | str x =>
    rw [r1.str]
    unfold truD at fin1
    dsimp only at fin1
    split at fin1
    · rename_i h; exact ⟨_, ⟨h, rfl⟩, go fin1⟩
    · exact fin1.elim
  | lst l =>
    obtain ⟨p, vs, rfl, h1, h2⟩ := r1.lst
    rw [← hK] at h1
    exact ⟨_, .inl ⟨vs, h1, rfl⟩, by rw [← h2.emp]; exact go fin1⟩
  | tup l =>
    obtain ⟨p, vs, rfl, h1, h2⟩ := r1.tup
    rw [← hK] at h1
    exact ⟨_, .inr (.inl ⟨vs, h1, rfl⟩), by rw [← h2.emp]; exact go fin1⟩
  | _ => exact fin1.elim
def fAndB (f u : F Bool) : F Bool := fun δ η => (f δ η).bind fun c η => if c = true then u δ η else .ok false η
def fOrB (f u : F Bool) : F Bool := fun δ η => (f δ η).bind fun c η => if c = true then .ok true η else u δ η
def fNotB (f : F Bool) : F Bool := fun δ η => (f δ η).bind fun c η => .ok (!c) η
variable {rest : List Expr} {tA tB' : F Bool}
abbrev FW (C : Ct) (W : Value → Option Addr → St → Hp → Prop) (X : Cx) (e : Expr) (f : F Bool) : Prop := PW X e (tG C RB W f)
theorem PW.imp {X : Cx} {e : Expr} {t t' : TT} (h : PW X e t) (i : ∀ σ H Q, t' σ H Q → t σ H Q) : PW X e t' := ⟨fun wh pins s σ H Q I q => h.run wh pins s σ H Q I (i _ _ _ q)⟩
theorem fw_and1 (ha : FT C W X a tA) : FW C W X (.BoolOp .And [a] pos) tA := pw_and1 ha
theorem fw_or1 (ha : FT C W X a tA) : FW C W X (.BoolOp .Or [a] pos) tA := pw_or1 ha
theorem fw_and (ha : FT C W X a tA) (hb : FW C W X (.BoolOp .And (b :: rest) pos) tB') : FW C W X (.BoolOp .And (a :: b :: rest) pos) (fAndB tA tB') := by
  refine PW.imp (pw_and ha hb) fun σ H Q ⟨G, δ, η, at0, fin⟩ => ?_
  refine tG.bind (Rel2 := RB) at0 fin fun d v G1 H1 η1 a1 x1 r1 fin1 => ?_
  have r1 : d = v := r1
  subst r1
  cases d with
  | true => rw [if_pos rfl] at fin1 ⊢; exact ⟨G1, δ, η1, a1, fin1⟩
  | false => rw [if_neg Bool.false_ne_true] at fin1 ⊢; exact fin1 _ G1 H1 Nx.refl a1.he rfl
theorem fw_or (ha : FT C W X a tA) (hb : FW C W X (.BoolOp .Or (b :: rest) pos) tB') : FW C W X (.BoolOp .Or (a :: b :: rest) pos) (fOrB tA tB') := by
  refine PW.imp (pw_or ha hb) fun σ H Q ⟨G, δ, η, at0, fin⟩ => ?_
  refine tG.bind (Rel2 := RB) at0 fin fun d v G1 H1 η1 a1 x1 r1 fin1 => ?_
  have r1 : d = v := r1
  subst r1
  cases d with
  | false => rw [if_neg Bool.false_ne_true] at fin1 ⊢; exact ⟨G1, δ, η1, a1, fin1⟩
  | true => rw [if_pos rfl] at fin1 ⊢; exact fin1 _ G1 H1 Nx.refl a1.he rfl
theorem ft_w {f : F Bool} (h : FW C W X a f) : FT C W X a f := h.pt
theorem ft_not (ha : FT C W X a tA) : FT C W X (.UnaryOp .Not a pos) (fNotB tA) := by
  refine PT.imp (pt_not ha) fun σ H Q ⟨G, δ, η, at0, fin⟩ => ?_
  refine tG.bind (Rel2 := RB) at0 fin fun d v G1 H1 η1 a1 x1 r1 fin1 => ?_
  have r1 : d = v := r1
  subst r1
  exact fin1 _ G1 H1 Nx.refl a1.he rfl
/-- as values -/
def fAnd (fa fb : F D) : F D := fun δ η => (fa δ η).bind fun d η => match d with
  | .bl true => fb δ η
  | .bl false => .ok (.bl false) η
  | _ => .bad
def fOr (fa fb : F D) : F D := fun δ η => (fa δ η).bind fun d η => match d with
  | .bl true => .ok (.bl true) η
  | .bl false => fb δ η
  | _ => .bad
def fNot (fa : F D) : F D := fun δ η => (fa δ η).bind fun d η => match d with
  | .bl b => .ok (.bl (!b)) η
  | _ => .bad
theorem fe_one {op} (h : FE C W X a fa) : FE C W X (.BoolOp op [a] pos) fa := pe_one h
theorem fe_and (ha : FE C W X a fa) (hb : FE C W X (.BoolOp .And (b :: rest) pos) fb) : FE C W X (.BoolOp .And (a :: b :: rest) pos) (fAnd fa fb) := by
  refine PE.imp (pe_and ha hb) fun σ H Q ⟨G, δ, η, at0, fin⟩ => ?_
  refine tG.bind (Rel2 := Rp C) at0 fin fun d v G1 H1 η1 a1 x1 r1 fin1 => ?_
  cases r1 with
  | bl b =>
    refine ⟨b, rfl, ?_⟩
    cases b with
    | true => rw [if_pos rfl]; exact ⟨G1, δ, η1, a1, fin1⟩
    | false => rw [if_neg Bool.false_ne_true]; exact fin1 _ G1 H1 Nx.refl a1.he (.bl false)
  | _ => exact fin1.elim
def fIf (t : F Bool) (fa fb : F D) : F D := fun δ η => (t δ η).bind fun c η => if c = true then fa δ η else fb δ η
theorem fe_if (hc : FT C W X c tA) (ha : FE C W X a fa) (hb : FE C W X b fb) : FE C W X (.IfExp c a b pos) (fIf tA fa fb) := by
  refine PE.imp (pe_ifExp hc ha hb) fun σ H Q ⟨G, δ, η, at0, fin⟩ => ?_
  refine tG.bind (Rel2 := Rp C) at0 fin fun d v G1 H1 η1 a1 x1 r1 fin1 => ?_
  have r1 : d = v := r1
  subst r1
  cases d with
  | true => rw [if_pos rfl] at fin1 ⊢; exact ⟨G1, δ, η1, a1, fin1⟩
  | false => rw [if_neg Bool.false_ne_true] at fin1 ⊢; exact ⟨G1, δ, η1, a1, fin1⟩

/-! ### argument lists, displays -/
def fNil : F (List D) := fun _ η => .ok [] η
def fCons (fa : F D) (fr : F (List D)) : F (List D) := fun δ η => (fa δ η).bind fun d η => (fr δ η).bind fun ds η => .ok (d :: ds) η
variable {es : List Expr} {fs : F (List D)} {e : Expr} {fe : F D}
theorem fa_nil : FA C W X [] fNil := PA.imp pa_nil fun σ H Q ⟨G, δ, η, a, fin⟩ => fin [] G H Nx.refl a.he .nil
theorem fa_cons (ha : FE C W X e fe) (hr : FA C W X es fs) (hs : starEach (e :: es) X.env = (false, eval e X.env) :: starEach es X.env := by rfl) : FA C W X (e :: es) (fCons fe fs) := by
  refine PA.imp (pa_cons ha hr hs) fun σ H Q ⟨G, δ, η, at0, fin⟩ => ?_
  refine tG.bind (Rel2 := Rps C) at0 fin fun d v G1 H1 η1 a1 x1 r1 fin1 => ?_
  refine tG.bind (Rel2 := Rps C) a1 fin1 fun ds vs G2 H2 η2 a2 x2 r2 fin2 => ?_
  exact fin2 _ G2 H2 Nx.refl a2.he (.cons (r1.stab (x2.stab a1.he)) r2)
def fTup (fs : F (List D)) : F D := fun δ η => (fs δ η).bind fun ds η => if ds.length ≤ sizeLine then .ok (.tup ds) η else .bad
def fLst (fs : F (List D)) : F D := fun δ η => (fs δ η).bind fun ds η => if ds.length ≤ sizeLine then .ok (.lst ds) η else .bad
theorem Rp.newTup {G : Gh} {H : Hp} {η : List O} {p : Addr} {l : List D} {vs : List V} (r : Rh C G H η) (hp : H p = none) (z : l.length ≤ sizeLine) (h : Rps C G H l vs) : Rp C G (upd H p (.tup vs)) (.tup l) (.ref p) :=
  .tup (.inl ⟨.inl upd_same, r.fresh hp⟩) z (h.stab ((Nx.alloc hp).stab r))
theorem Rp.newLst {G : Gh} {H : Hp} {η : List O} {p : Addr} {l : List D} {vs : List V} (r : Rh C G H η) (hp : H p = none) (z : l.length ≤ sizeLine) (h : Rps C G H l vs) : Rp C G (upd H p (.lst vs)) (.lst l) (.ref p) :=
  .lst (.inl ⟨.inl upd_same, r.fresh hp⟩) z (h.stab ((Nx.alloc hp).stab r))
theorem fe_tup {x1} (h : FA C W X es fs) : FE C W X (.Tuple es x1 pos) (fTup fs) := by
  refine PE.imp (pe_tup h) fun σ H Q ⟨G, δ, η, at0, fin⟩ => ?_
  refine tG.bind (Rel2 := Rp C) at0 fin fun d v G1 H1 η1 a1 x1 r1 fin1 => ?_
  split at fin1
  · rename_i hz
    exact ⟨by rw [← r1.length]; exact hz, fun p hp => fin1 _ G1 _ (Nx.alloc hp) (a1.he.alloc hp) (.newTup a1.he hp hz r1)⟩
  · exact fin1.elim
end
end DL
namespace DL
open PySem L2
section
variable {X : Cx} {C : Ct} {W : Value → Option Addr → St → Hp → Prop}
theorem Gives.same {G : Gh} {H : Hp} {η : List O} {r : D} {Q : VK} {z : V} (h : Gives C G H η (some r) Q) (hr : Rh C G H η) (q : Rp C G H r z) : Q z H := h z G H Nx.refl hr q
theorem Gives.lst {G : Gh} {H : Hp} {η : List O} {l : List D} {vs : List V} {Q : VK} {p : Addr} (h : Gives C G H η (some (.lst l)) Q) (hr : Rh C G H η) (hp : H p = none) (z : l.length ≤ sizeLine) (q : Rps C G H l vs) : Q (.ref p) (upd H p (.lst vs)) :=
  h _ G _ (Nx.alloc hp) (hr.alloc hp) (.newLst hr hp z q)
theorem Gives.tup {G : Gh} {H : Hp} {η : List O} {l : List D} {vs : List V} {Q : VK} {p : Addr} (h : Gives C G H η (some (.tup l)) Q) (hr : Rh C G H η) (hp : H p = none) (z : l.length ≤ sizeLine) (q : Rps C G H l vs) : Q (.ref p) (upd H p (.tup vs)) :=
  h _ G _ (Nx.alloc hp) (hr.alloc hp) (.newTup hr hp z q)
/-- an operation by what it does on values -/
theorem opD {f : Value → Value → Sem Value} {r : R2} {g : D → D → Option D} (h : OpR X f r) (i : ∀ x y H Q, rD C g x y H Q → r x y H Q) : OpR X f (rD C g) := fun pins s σ H x y v u Q I rx ry q => h pins s σ H x y v u Q I rx ry (i _ _ _ _ q)
theorem ok_app {a b : Str} (h1 : PySem.PyData.strOk a = true) (h2 : PySem.PyData.strOk b = true) : PySem.PyData.strOk (a ++ b) = true := by
  unfold PySem.PyData.strOk at *
  show (a.cps ++ b.cps).all _ = true
  rw [Array.all_append, h1, h2]; rfl
theorem ok_list {a : Str} : PySem.PyData.strOk a = true ↔ ∀ c ∈ a.cps.toList, c < 0x110000 := by
  unfold PySem.PyData.strOk
  rw [← Array.all_toList, List.all_eq_true]
  simp
theorem ok_one {a : Str} {c : Nat} (h : PySem.PyData.strOk a = true) (hc : c ∈ a.cps.toList) : PySem.PyData.strOk ⟨#[c]⟩ = true := ok_list.mpr fun d hd => by
  have : d = c := by simpa using hd
  rw [this]; exact ok_list.mp h c hc
theorem ok_cut {z : Str} {lo hi : Option Int} (h : PySem.PyData.strOk z = true) : PySem.PyData.strOk (cutS z lo hi) = true := ok_list.mpr fun d hd => by
  unfold cutS at hd
  simp only [List.toList_toArray] at hd
  exact ok_list.mp h d (List.mem_of_mem_drop (List.mem_of_mem_take hd))
/-- a list and a list -/
def rCatL (K : PySem.W.Frag) : R2 := fun x y H Q => ∃ l b xs zs, x = .ref l ∧ y = .ref b ∧ SqL K H l xs ∧ SqL K H b zs ∧ xs.length + zs.length ≤ sizeLine ∧ ∀ p, H p = none → Q (.ref p) (upd H p (.lst (xs ++ zs)))
theorem op_catL : OpR X (binaryOp .Add) (rCatL X.K) := by
  intro pins s σ H x y v u Q I rx ry h
  obtain ⟨l, b, xs, zs, rfl, rfl, hl, hb, hz, q⟩ := h
  cases rx
  cases ry
  obtain ⟨is, r, ⟨⟨_, _, _, sl⟩, n, e, rfl, rfl, rfl⟩, _⟩ := I.list hl
  obtain ⟨js, r2, ⟨⟨_, _, _, sl2⟩, n2, e2, rfl, rfl, rfl⟩, _⟩ := I.list hb
  have len : is.toArray.size + js.toArray.size ≤ sizeLine := by rw [List.size_toArray, List.size_toArray, ← r.length, ← r2.length]; exact hz
  have cat : is.toArray ++ js.toArray = (is ++ js).toArray := by simp
  refine concat_meets ⟨_, e, rfl⟩ ⟨_, e2, rfl⟩ noFill_list_add seq_list_add PySem.F.slot_list_add PySem.F.entry_list_add (PySem.F.args_list_add_2 _ _) (PyProof.Rows.list_addW l b is.toArray js.toArray n n2 none none sl sl2 len) ⟨e, e2, ?_⟩
  rw [cat]
  exact ⟨.ref _, _, I.lnew (t' := s.toks) (r.append r2) (by rw [List.length_append]; exact hz), rfl, q _ I.fresh⟩
def addD : D → D → Option D
  | .int i, .int j => some (.int (i + j))
  | .str a, .str b => if a.length + b.length ≤ sizeLine then some (.str (a ++ b)) else none
  | .lst a, .lst b => if a.length + b.length ≤ sizeLine then some (.lst (a ++ b)) else none
  | .tup a, .tup b => if a.length + b.length ≤ sizeLine then some (.tup (a ++ b)) else none
  | _, _ => none
theorem opD4 {f : Value → Value → Sem Value} {r r' r3 r4 : R2} {g : D → D → Option D} (h : OpR X f r) (h' : OpR X f r') (h3 : OpR X f r3) (h4 : OpR X f r4) (i : ∀ x y H Q, rD C g x y H Q → r x y H Q ∨ r' x y H Q ∨ r3 x y H Q ∨ r4 x y H Q) : OpR X f (rD C g) := fun pins s σ H x y v u Q I rx ry q =>
  (i _ _ _ _ q).elim (h pins s σ H x y v u Q I rx ry) fun q => q.elim (h' pins s σ H x y v u Q I rx ry) fun q => q.elim (h3 pins s σ H x y v u Q I rx ry) (h4 pins s σ H x y v u Q I rx ry)
theorem Rpu.tupRp {G : Gh} {H : Hp} {l : List D} {v : V} (h : Rpu C G H (.tup l) v) : Rp C G H (.tup l) v := by
  rcases h with h | ⟨a, vs, l', h1, _⟩
  · exact h
  · cases h1
theorem o_add (hK : X.K = C.K) : OpR X (binaryOp .Add) (rD C addD) := opD4 op_add op_add_str op_catL op_catA fun x y H Q ⟨G, η, d, e, hr, h1, h2, q⟩ => by
  unfold addD at q
  split at q
  · exact .inl ⟨_, _, h1.int, h2.int, q.same hr (.int _)⟩
  · split at q
    · rename_i hz; exact .inr (.inl ⟨_, _, h1.str, h2.str, hz, q.same hr (.str _ (ok_app h1.strOk h2.strOk))⟩)
    · exact q.elim
  · split at q
    · rename_i hz
      obtain ⟨l, vs, e1, s1, r1⟩ := h1.lst
      obtain ⟨l2, vs2, e2, s2, r2⟩ := h2.lst
      rw [← hK] at s1 s2
      exact .inr (.inr (.inl ⟨l, l2, vs, vs2, e1, e2, s1, s2, by rw [← r1.length, ← r2.length]; exact hz, fun p hp => q.lst hr hp (by rw [List.length_append]; exact hz) (r1.append r2)⟩))
    · exact q.elim
  · split at q
    · rename_i hz
      have t1 := h1.tupRp
      have t2 := h2.tupRp
      obtain ⟨l, vs, e1, s1, r1⟩ := h1.tup
      obtain ⟨l2, vs2, e2, s2, r2⟩ := h2.tup
      rw [← hK] at s1 s2
      subst e1 e2
      refine .inr (.inr (.inr ⟨l, l2, vs, vs2, rfl, rfl, s1, s2, by rw [← r1.length, ← r2.length]; exact hz, fun z => ?_, fun _ z => ?_, fun _ _ p hp => q.tup hr hp (by rw [List.length_append]; exact hz) (r1.append r2)⟩))
      · subst z
        cases r1
        exact q.same hr t2
      · subst z
        cases r2
        rw [List.append_nil] at q
        exact q.same hr t1
    · exact q.elim
  · exact q.elim
def intD (c : Int → Int → Bool) (g : Int → Int → D) : D → D → Option D
  | .int i, .int j => if c i j = true then some (g i j) else none
  | _, _ => none
theorem o_intI {f : Value → Value → Sem Value} {c : Int → Int → Bool} {P : Int → Int → Prop} {g : Int → Int → Int} (h : OpR X f (rI P fun i j => .int (g i j))) (hc : ∀ i j, c i j = true → P i j) : OpR X f (rD C (intD c fun i j => .int (g i j))) :=
  opD h fun x y H Q ⟨G, η, d, e, hr, h1, h2, q⟩ => by
    unfold intD at q
    split at q
    · split at q
      · rename_i hz; exact ⟨_, _, h1.int, h2.int, hc _ _ hz, q.same hr (.int _)⟩
      · exact q.elim
    · exact q.elim
theorem o_intB0 {f : Value → Value → Sem Value} {g : Int → Int → Bool} (h : OpR X f (rI0 fun i j => .bl (g i j))) : OpR X f (rD C (intD (fun _ _ => true) fun i j => .bl (g i j))) :=
  opD h fun x y H Q ⟨G, η, d, e, hr, h1, h2, q⟩ => by
    unfold intD at q
    split at q
    · exact ⟨_, _, h1.int, h2.int, Gives.same (r := .bl (g _ _)) q hr (.bl _)⟩
    · exact q.elim
def cmulB (i j : Int) : Bool := (decide (-(2 ^ 64) < i) && decide (i < 2 ^ 64)) || (decide (-(2 ^ 64) < j) && decide (j < 2 ^ 64))
def cdivB (_ j : Int) : Bool := decide (0 < j) && decide (j < 1073741824)
def cpowB (i j : Int) : Bool := decide (0 ≤ j) && decide (j ≤ 1000000) && decide (i.natAbs < 2 ^ 64)
def subD := intD (fun _ _ => true) fun i j => .int (i - j)
def mulD := intD cmulB fun i j => .int (i * j)
def modD := intD (fun _ j => decide (0 < j)) fun i j => .int (i % j)
def fdivD := intD cdivB fun i j => .int (i / j)
def powD := intD cpowB fun i j => .int (i ^ j.toNat)
theorem o_mul : OpR X (binaryOp .Mult) (rD C mulD) := o_intI op_mul fun i j h => by simpa [cmulB, CMul] using h
theorem o_mod : OpR X (binaryOp .Mod) (rD C modD) := o_intI op_mod fun i j h => by simpa using h
theorem o_fdiv : OpR X (binaryOp .FloorDiv) (rD C fdivD) := o_intI op_fdiv fun i j h => by simpa [cdivB, CDiv] using h
theorem o_pow : OpR X (binaryOp .Pow) (rD C powD) := o_intI op_pow fun i j h => by
  simp only [cpowB, Bool.and_eq_true, decide_eq_true_eq] at h
  exact ⟨h.1.1, h.1.2, h.2⟩
def ltD := intD (fun _ _ => true) fun i j => .bl (decide (i < j))
def leD := intD (fun _ _ => true) fun i j => .bl (decide (i ≤ j))
def gtD := intD (fun _ _ => true) fun i j => .bl (decide (j < i))
def geD := intD (fun _ _ => true) fun i j => .bl (decide (j ≤ i))
theorem o_lt : OpR X (compareOp .Lt) (rD C ltD) := o_intB0 op_lt
theorem o_le : OpR X (compareOp .LtE) (rD C leD) := o_intB0 op_le
theorem o_gt : OpR X (compareOp .Gt) (rD C gtD) := o_intB0 op_gt
theorem o_ge : OpR X (compareOp .GtE) (rD C geD) := o_intB0 op_ge

/-- is None -/
def D.isNon : D → Bool
  | .non => true
  | _ => false
def isN (d e : D) : Option D := if e.isNon = true then some (.bl d.isNon) else none
def notN (d e : D) : Option D := if e.isNon = true then some (.bl (!d.isNon)) else none
theorem isNon_eq {e : D} (h : e.isNon = true) : e = .non := by cases e <;> first | rfl | cases h
theorem Rpu.none_iff {G : Gh} {H : Hp} {d : D} {x : V} (h : Rpu C G H d x) : decide (x = .non) = d.isNon := by
  rcases h with h | ⟨a, vs, l, rfl, rfl, _⟩
  · cases h <;> simp [D.isNon]
  · simp [D.isNon]
theorem o_notN : OpR X (compareOp .IsNot) (rD C notN) := opD op_notN fun x y H Q ⟨G, η, d, e, hr, h1, h2, q⟩ => by
  have k := h1.none_iff
  unfold notN at q
  split at q
  · rename_i hn
    rw [isNon_eq hn] at h2
    exact ⟨h2.non, by rw [k]; exact q.same hr (.bl _)⟩
  · exact q.elim
/-! ### subscripts, slices -/
def ixD : D → D → Option D
  | .lst l, .int i => atI l i
  | .tup l, .int i => atI l i
  | .str z, .int i => if z.length ≤ sizeLine then (atI z.cps.toList i).map fun c => .str ⟨#[c]⟩ else none
  | _, _ => none
theorem Rps.atI {G : Gh} {H : Hp} {l : List D} {vs : List V} {i : Int} {d : D} (r : Rps C G H l vs) (h : L2.atI l i = some d) : ∃ v, L2.atI vs i = some v ∧ Rp C G H d v := by
  unfold L2.atI at h ⊢
  rw [← r.length]
  cases hx : ixN l.length i with
  | none => rw [hx] at h; cases h
  | some j =>
    rw [hx] at h
    exact r.get h
theorem atI_mem {α : Type} {l : List α} {i : Int} {c : α} (h : L2.atI l i = some c) : c ∈ l := by
  unfold L2.atI at h
  cases hx : ixN l.length i with
  | none => rw [hx] at h; cases h
  | some j => rw [hx] at h; exact List.mem_of_getElem? h
theorem x_ix (hK : X.K = C.K) : IxR X (rD C ixD) := fun value slice pins s σ H x y v u Q I rx ry ⟨G, η, d, e, hr, h1, h2, q⟩ hsb => by
  refine ix_seq value slice pins s σ H x y v u Q I rx ry ?_ hsb
  unfold ixD at q
  split at q
  · rename_i l i
    obtain ⟨a, vs, ex, hs, hrs⟩ := h1.lst
    rw [← hK] at hs
    cases hd : atI l i with
    | none => rw [hd] at q; exact q.elim
    | some d =>
      rw [hd] at q
      obtain ⟨w, k1, k2⟩ := hrs.atI hd
      exact .inl ⟨a, vs, i, w, ex, h2.int, hs, k1, q.same hr k2⟩
  · rename_i l i
    obtain ⟨a, vs, ex, hs, hrs⟩ := h1.tup
    rw [← hK] at hs
    cases hd : atI l i with
    | none => rw [hd] at q; exact q.elim
    | some d =>
      rw [hd] at q
      obtain ⟨w, k1, k2⟩ := hrs.atI hd
      exact .inr (.inl ⟨a, vs, i, w, ex, h2.int, hs, k1, q.same hr k2⟩)
  · rename_i z i
    split at q
    · rename_i hz
      cases hd : atI z.cps.toList i with
      | none => rw [hd] at q; exact q.elim
      | some c =>
        rw [hd] at q
        exact .inr (.inr ⟨z, i, c, h1.str, h2.int, hz, hd, q.same hr (.str _ (ok_one h1.strOk (atI_mem hd)))⟩)
    · exact q.elim
  · exact q.elim
variable {a b c : Expr} {fa fb fc : F D} {pos p2 : Pos}
theorem fe_ix (hK : X.K = C.K) (ha : FB C W X a fa) (hb : FU C W X b fb) (hs : PlainIx b) : FE C W X (.Subscript a b pos) (fOp ixD fa fb) := PE.imp (pe_ix (x_ix hK) ha hb hs) fun _ _ _ q => tOp_of q
/-- an item of a mutable list at index n of the store -/
def fIxO (fa fb : F D) : F D := fun δ η => (fa δ η).bind fun d η => (fb δ η).bind fun e η => match d with
  | .obj n => match η[n]? with
    | some (.lst l) => lift (ixD (.lst l) e) η
    | _ => .bad
  | _ => .bad
theorem fe_ixO (hK : X.K = C.K) (ha : FE C W X a fa) (hb : FE C W X b fb) (hs : PlainIx b) : FE C W X (.Subscript a b pos) (fIxO fa fb) := by
  refine PE.imp (pe_ix (x_ix hK) ha hb hs) fun σ H Q ⟨G, δ, η, at0, fin⟩ => ?_
  refine tG.bind (Rel2 := Rp C) at0 fin fun d v G1 H1 η1 a1 x1 r1 fin1 => ?_
  refine tG.bind (Rel2 := Rp C) a1 fin1 fun e w G2 H2 η2 a2 x2 r2 fin2 => ?_
  split at fin2
  · rename_i n
    split at fin2
    · rename_i l hl
      cases (r1.stab (x2.stab a1.he)) with
      | obj ho =>
        obtain ⟨m, q⟩ := a2.he.ob n _ _ hl ho
        cases q with
        | lst h3 z h4 => exact ⟨G2, η2, .lst l, e, a2.he, .inr ⟨_, _, l, rfl, rfl, h3, h4, z⟩, .inl r2, fin2.gives a2.he⟩
    · exact fin2.elim
  · exact fin2.elim
def cutD (l : List D) (lo hi : Option Int) : List D := (l.drop (HT.sIx l.length 0 lo)).take (HT.sIx l.length l.length hi - HT.sIx l.length 0 lo)
def slD : D → Option Int → Option Int → Option D
  | .lst l, lo, hi => some (.lst (cutD l lo hi))
  | .str z, lo, hi => if z.length ≤ sizeLine then some (.str (cutS z lo hi)) else none
  | .tup l, lo, hi => some (.tup (cutD l lo hi))
  | _, _, _ => none
def rSlD (C : Ct) : V → Option Int → Option Int → Hp → VK → Prop := fun x lo hi H Q => ∃ G η d, Rh C G H η ∧ Rpu C G H d x ∧ Gives C G H η (slD d lo hi) Q
theorem s_sl (hK : X.K = C.K) : SlR X (rSlD C) := by
  have h := ((sl_list (X := X)).or sl_str).or sl_tupA
  intro pins s σ H x v vl vu lo hi sl Q I rx hs pl pu ⟨G, η, d, hr, h1, q⟩
  refine h pins s σ H x v vl vu lo hi sl Q I rx hs pl pu ?_
  unfold slD at q
  split at q
  · rename_i l lo hi
    obtain ⟨a, vs, ex, hq, hrs⟩ := h1.lst
    rw [← hK] at hq
    have hz := h1.lstZ
    refine .inl (.inl ⟨a, vs, ex, hq, fun p hp => ?_⟩)
    refine q.lst hr hp (by unfold cutD; rw [List.length_take, List.length_drop]; omega) ?_
    unfold cutD cutV
    rw [← hrs.length]
    exact (hrs.drop _).take _
  · split at q
    · rename_i hz; exact .inl (.inr ⟨_, h1.str, hz, q.same hr (.str _ (ok_cut h1.strOk))⟩)
    · exact q.elim
  · rename_i l
    have t1 := h1.tupRp
    obtain ⟨a, vs, ex, hq, hrs⟩ := h1.tup
    subst ex
    rw [← hK] at hq
    have hz := h1.tupZ
    refine .inr ⟨a, vs, rfl, hq, fun hw => ?_, fun _ p hp => ?_⟩
    · have e : cutD l lo hi = l := by
        unfold cutD
        rw [hrs.length, hw.1, hw.2, List.drop_zero, Nat.sub_zero, List.take_of_length_le (by rw [hrs.length]; exact Nat.le_refl _)]
      rw [e] at q
      exact q.same hr t1
    · refine q.tup hr hp (by unfold cutD; rw [List.length_take, List.length_drop]; omega) ?_
      unfold cutD cutV
      rw [← hrs.length]
      exact (hrs.drop _).take _
  · exact q.elim
/-- a part of a slice -/
abbrev FO (C : Ct) (W : Value → Option Addr → St → Hp → Prop) (X : Cx) (e : Option Expr) (f : F (Option Int)) : Prop := PO X e (tG C (fun _ _ a b => a = b) W f)
theorem PO.imp {X : Cx} {e : Option Expr} {t t' : TO} (h : PO X e t) (i : ∀ σ H Q, t' σ H Q → t σ H Q) : PO X e t' := ⟨fun pins s σ H Q I q => h.run pins s σ H Q I (i _ _ _ q)⟩
def fNoP : F (Option Int) := fun _ η => .ok none η
def fPt (f : F D) : F (Option Int) := fun δ η => (f δ η).bind fun d η => match d with
  | .int i => .ok (some i) η
  | _ => .bad
theorem fo_none : FO C W X none fNoP := PO.imp po_none fun σ H Q ⟨G, δ, η, a, fin⟩ => fin none G H Nx.refl a.he rfl
theorem fo_some (h : FE C W X a fa) : FO C W X (some a) (fPt fa) := PO.imp (po_some h) fun σ H Q ⟨G, δ, η, at0, fin⟩ => by
  refine tG.bind (Rel2 := fun _ _ a b => a = b) at0 fin fun d v G1 H1 η1 a1 x1 r1 fin1 => ?_
  cases r1 with
  | int i => exact ⟨i, rfl, fin1 _ G1 H1 Nx.refl a1.he rfl⟩
  | _ => exact fin1.elim
def fSl (fa : F D) (fl fh : F (Option Int)) : F D := fun δ η => (fa δ η).bind fun d η => (fl δ η).bind fun lo η => (fh δ η).bind fun hi η => lift (slD d lo hi) η
variable {lo hi : Option Expr} {fl fh : F (Option Int)}
theorem fe_sl (hK : X.K = C.K) (ha : FB C W X a fa) (hl : FO C W X lo fl) (hh : FO C W X hi fh) : FE C W X (.Subscript a (.Slice lo hi none p2) pos) (fSl fa fl fh) := by
  refine PE.imp (pe_slice (s_sl hK) ha hl hh) fun σ H Q ⟨G, δ, η, at0, fin⟩ => ?_
  refine tG.bind (Rel2 := Rp C) at0 fin fun d v G1 H1 η1 a1 x1 r1 fin1 => ?_
  refine tG.bind (Rel2 := Rp C) a1 fin1 fun i j G2 H2 η2 a2 x2 r2 fin2 => ?_
  refine tG.bind (Rel2 := Rp C) a2 fin2 fun i' j' G3 H3 η3 a3 x3 r3 fin3 => ?_
  have r2 : i = j := r2
  have r3 : i' = j' := r3
  subst r2 r3
  exact ⟨G3, η3, d, a3.he, ((r1.next x2 a1.he).next x3 a2.he).u, fin3.gives a3.he⟩

/-! ### built-ins by name -/
/-- one argument, also a list that may change -/
def rC1 (C : Ct) (g : D → Option D) : List V → Hp → VK → Prop := fun vs H Q => ∃ G η d v, vs = [v] ∧ Rh C G H η ∧ Rpu C G H d v ∧ Gives C G H η (g d) Q
def fCall1 (g : D → Option D) (fa : F D) : F D := fun δ η => (fa δ η).bind fun d η => lift (g d) η
def Rpu1 (C : Ct) (G : Gh) (H : Hp) (d : D) (vs : List V) : Prop := ∃ v, vs = [v] ∧ Rpu C G H d v
variable {e : Expr} {fe : F D} {es : List Expr} {fs : F (List D)} {x : Str} {p : Pos} {id : String} {g : D → Option D} {gs : List D → Option D}
abbrev FA1 (C : Ct) (W : Value → Option Addr → St → Hp → Prop) (X : Cx) (es : List Expr) (f : F D) : Prop := PA X es (tG C (Rpu1 C) W f)
theorem fa1 (ha : FU C W X e fe) (hs : starEach [e] X.env = [(false, eval e X.env)] := by rfl) : FA1 C W X [e] fe := by
  refine PA.imp (pa_cons ha pa_nil hs) fun σ H Q ⟨G, δ, η, at0, fin⟩ => ?_
  have e1 : (fe δ η).bind (fun d η => R.ok d η) = fe δ η := by cases fe δ η <;> rfl
  rw [← e1] at fin
  refine tG.bind (Rel2 := Rpu1 C) at0 fin fun d v G1 H1 η1 a1 x1 r1 fin1 => ?_
  exact fin1 _ G1 H1 Nx.refl a1.he ⟨v, rfl, r1⟩
theorem fe_call1 (hc : CallR X (.builtin id) (rC1 C g)) (hm : X.mg x = none) (ha : FA1 C W X [e] fe) (hg : Gl X x := by rfl) (hv : bootBuiltins x = some (.builtin id) := by decide +kernel) (hn : x ≠ "__name__" := by decide) (hdb : (x == ("__debug__" : Str)) = false := by decide)
    (he : starEach [e] X.env = (false, eval e X.env) :: starEach [] X.env := by rfl) (hpl : (backTo pos (starEach [] X.env)).any (·.1) = false := by rfl) : FE C W X (.Call (.Name x p) [e] [] pos) (fCall1 g fe) := by
  refine PE.imp (pe_callB hc hg hm hv ha hn hdb he hpl) fun σ H Q ⟨G, δ, η, at0, fin⟩ => ?_
  refine tG.bind (Rel2 := Rp C) at0 fin fun d v G1 H1 η1 a1 x1 r1 fin1 => ?_
  obtain ⟨w, rfl, r1⟩ := r1
  exact ⟨G1, η1, d, w, rfl, a1.he, r1, fin1.gives a1.he⟩
theorem fe_callT1 (hc : CallR X (.type id) (rC1 C g)) (hm : X.mg x = none) (ha : FA1 C W X [e] fe) (hg : Gl X x := by rfl) (hv : bootBuiltins x = some (.type id) := by decide +kernel) (hn : x ≠ "__name__" := by decide) (hdb : (x == ("__debug__" : Str)) = false := by decide)
    (he : starEach [e] X.env = (false, eval e X.env) :: starEach [] X.env := by rfl) (hpl : (backTo pos (starEach [] X.env)).any (·.1) = false := by rfl) : FE C W X (.Call (.Name x p) [e] [] pos) (fCall1 g fe) := by
  refine PE.imp (pe_callTy hc hg hm hv ha hn hdb he hpl) fun σ H Q ⟨G, δ, η, at0, fin⟩ => ?_
  refine tG.bind (Rel2 := Rp C) at0 fin fun d v G1 H1 η1 a1 x1 r1 fin1 => ?_
  obtain ⟨w, rfl, r1⟩ := r1
  exact ⟨G1, η1, d, w, rfl, a1.he, r1, fin1.gives a1.he⟩
def lenD : D → Option D
  | .lst l => some (.int l.length)
  | .tup l => some (.int l.length)
  | .str z => if z.length ≤ sizeLine then some (.int z.length) else none
  | _ => none
theorem c_len (hK : X.K = C.K) : CallR X (.builtin "len") (rC1 C lenD) := fun pins s σ H xs us Q I r ⟨G, η, d, v, e, hr, h1, q⟩ => by
  refine call_len pins s σ H xs us Q I r ?_
  unfold lenD at q
  split at q
  · rename_i l
    obtain ⟨a, vs, rfl, hq, hrs⟩ := h1.lst
    rw [← hK] at hq
    exact ⟨_, vs.length, e, .inl ⟨vs, hq, rfl⟩, by rw [← hrs.length]; exact q.same hr (.int _)⟩
  · rename_i l
    obtain ⟨a, vs, rfl, hq, hrs⟩ := h1.tup
    rw [← hK] at hq
    exact ⟨_, vs.length, e, .inr ⟨vs, hq, rfl⟩, by rw [← hrs.length]; exact q.same hr (.int _)⟩
  · split at q
    · rename_i z hz
      refine ⟨v, z.length, e, ?_, q.same hr (.int _)⟩
      rw [h1.str]
      exact ⟨hz, rfl⟩
    · exact q.elim
  · exact q.elim
def intC : D → Option D
  | .int i => some (.int i)
  | .bl k => some (.int (if k then 1 else 0))
  | _ => none
theorem c_int : CallR X (.type "int") (rC1 C intC) := fun pins s σ H xs us Q I r ⟨G, η, d, v, e, hr, h1, q⟩ => by
  refine call_int1 pins s σ H xs us Q I r ?_
  unfold intC at q
  split at q
  · exact .inl ⟨_, by rw [e, h1.int], q.same hr (.int _)⟩
  · exact .inr ⟨_, by rw [e, h1.bl], q.same hr (.int _)⟩
  · exact q.elim
def tupC : D → Option D
  | .lst l => some (.tup l)
  | .tup l => some (.tup l)
  | _ => none
theorem c_tup (hK : X.K = C.K) : CallR X (.type "tuple") (rC1 C tupC) := fun pins s σ H xs us Q I r ⟨G, η, d, v, e, hr, h1, q⟩ => by
  refine call_tuple_of pins s σ H xs us Q I r ?_
  unfold tupC at q
  split at q
  · have hz := h1.lstZ
    obtain ⟨a, vs, rfl, hq, hrs⟩ := h1.lst
    rw [← hK] at hq
    exact ⟨a, vs, e, .inl ⟨hq, fun l hl => q.tup hr hl hz hrs⟩⟩
  · rename_i l
    have h1' := h1
    obtain ⟨a, vs, rfl, hq, hrs⟩ := h1.tup
    rw [← hK] at hq
    rcases h1' with h | ⟨_, _, _, z, _⟩
    · exact ⟨a, vs, e, .inr ⟨hq, q.same hr h⟩⟩
    · cases z
  · exact q.elim
/-- the items as Bools -/
def blsOf : List D → Option (List Bool)
  | [] => some []
  | .bl b :: r => (blsOf r).map (b :: ·)
  | _ => none
theorem blsOf_r {G : Gh} {H : Hp} : ∀ {l : List D} {vs : List V} {bs : List Bool}, Rps C G H l vs → blsOf l = some bs → vs = bs.map V.bl
  | [], _, _, .nil, h => by cases h; rfl
  | d :: l, _, bs, .cons r q, h => by
    cases r with
    | bl b =>
      have h : (blsOf l).map (b :: ·) = some bs := h
      cases hl : blsOf l with
      | none => rw [hl] at h; cases h
      | some cs =>
        rw [hl] at h
        cases h
        rw [blsOf_r q hl]
        rfl
    | _ => cases h
def allC : D → Option D
  | .lst l => (blsOf l).map fun bs => .bl (bs.all fun b => b)
  | _ => none
def anyC : D → Option D
  | .lst l => (blsOf l).map fun bs => .bl (bs.any fun b => b)
  | _ => none
theorem c_all (hK : X.K = C.K) (hc : X.calm = true) : CallR X (.builtin "all") (rC1 C allC) := fun pins s σ H xs us Q I r ⟨G, η, d, v, e, hr, h1, q⟩ => by
  refine cr_all hc pins s σ H xs us Q I r ?_
  unfold allC at q
  split at q
  · obtain ⟨a, vs, rfl, hq, hrs⟩ := h1.lst
    rw [← hK] at hq
    rename_i l
    cases hb : blsOf l with
    | none => rw [hb] at q; exact q.elim
    | some bs =>
      rw [hb] at q
      rw [blsOf_r hrs hb] at hq
      exact ⟨a, bs, e, hq, q.same hr (.bl _)⟩
  · exact q.elim
/-- texts joined -/
def strsOf : List D → Option (List Str)
  | [] => some []
  | .str b :: r => (strsOf r).map (b :: ·)
  | _ => none
theorem strsOf_r {G : Gh} {H : Hp} : ∀ {l : List D} {vs : List V} {bs : List Str}, Rps C G H l vs → strsOf l = some bs → vs = bs.map V.str
  | [], _, _, .nil, h => by cases h; rfl
  | d :: l, _, bs, .cons r q, h => by
    cases r with
    | str b _ =>
      have h : (strsOf l).map (b :: ·) = some bs := h
      cases hl : strsOf l with
      | none => rw [hl] at h; cases h
      | some cs =>
        rw [hl] at h
        cases h
        rw [strsOf_r q hl]
        rfl
    | _ => cases h
theorem strsOf_ok {G : Gh} {H : Hp} : ∀ {l : List D} {vs : List V} {bs : List Str}, Rps C G H l vs → strsOf l = some bs → ∀ z ∈ bs, PySem.PyData.strOk z = true
  | [], _, _, .nil, h => by cases h; simp
  | d :: l, _, bs, .cons r q, h => by
    cases r with
    | str b hb =>
      have h : (strsOf l).map (b :: ·) = some bs := h
      cases hl : strsOf l with
      | none => rw [hl] at h; cases h
      | some cs =>
        rw [hl] at h
        cases h
        intro z hz
        rcases List.mem_cons.mp hz with e | hz
        · rw [e]; exact hb
        · exact strsOf_ok q hl z hz
    | _ => cases h
theorem ok_join {a : Str} (ha : PySem.PyData.strOk a = true) {ys : List Str} (h : ∀ z ∈ ys, PySem.PyData.strOk z = true) : PySem.PyData.strOk (Txt.join a ys) = true := by
  rw [TL.join_eq]
  induction ys with
  | nil => exact (show PySem.PyData.strOk Str.empty = true by decide +kernel)
  | cons x r ih =>
    cases r with
    | nil => exact h x (by simp)
    | cons z r =>
      show PySem.PyData.strOk (x ++ a ++ Str.join a (z :: r)) = true
      exact ok_app (ok_app (h x (by simp)) ha) (ih fun w hw => h w (List.mem_cons_of_mem _ hw))
def joinS (a : Str) : D → Option D
  | .lst l => match strsOf l with
    | some ys => if (ys.map (·.length)).sum + ys.length * a.length ≤ 16777216 then some (.str (Txt.join a ys)) else none
    | none => none
  | .tup l => match strsOf l with
    | some ys => if (ys.map (·.length)).sum + ys.length * a.length ≤ 16777216 then some (.str (Txt.join a ys)) else none
    | none => none
  | _ => none
def fStrM (g : Str → D → Option D) (fa fb : F D) : F D := fun δ η => (fa δ η).bind fun d η => match d with
  | .str z => (fb δ η).bind fun e η => lift (g z e) η
  | _ => .bad
theorem fe_join {apos : Pos} (hK : X.K = C.K) (ha : FE C W X a fa) (hb : FU C W X b fb) (hs : starEach [b] X.env = [(false, eval b X.env)] := by rfl) (hbase : attributeBase a "join" X.env (eval a X.env) = eval a X.env := by rfl) (hline : (apos.endLine == pos.line) = true := by rfl) :
    FE C W X (.Call (.Attribute a "join" apos) [b] [] pos) (fStrM joinS fa fb) := by
  refine PE.imp (pe_join ha hb hs hbase hline) fun σ H Q ⟨G, δ, η, at0, fin⟩ => ?_
  refine tG.bind (Rel2 := Rp C) at0 fin fun d v G1 H1 η1 a1 x1 r1 fin1 => ?_
  split at fin1
  · rename_i z
    cases r1 with
    | str z okz =>
    refine ⟨⟨z, rfl⟩, ?_⟩
    refine tG.bind (Rel2 := Rp C) a1 fin1 fun e w G2 H2 η2 a2 x2 r2 fin2 => ?_
    have q := fin2.gives a2.he
    unfold joinS at q
    split at q
    · obtain ⟨p, vs, rfl, hq, hrs⟩ := r2.lst
      rw [← hK] at hq
      split at q
      · rename_i ys hy
        split at q
        · rename_i hz
          rw [strsOf_r hrs hy] at hq
          exact ⟨_, p, ys, rfl, rfl, .inl hq, hz, q.same a2.he (.str _ (ok_join okz (strsOf_ok hrs hy)))⟩
        · exact q.elim
      · exact q.elim
    · obtain ⟨p, vs, rfl, hq, hrs⟩ := r2.tup
      rw [← hK] at hq
      split at q
      · rename_i ys hy
        split at q
        · rename_i hz
          rw [strsOf_r hrs hy] at hq
          exact ⟨_, p, ys, rfl, rfl, .inr hq, hz, q.same a2.he (.str _ (ok_join okz (strsOf_ok hrs hy)))⟩
        · exact q.elim
      · exact q.elim
    · exact q.elim
  · exact fin1.elim
end
end DL
namespace DL
open PySem L2
abbrev WX := Value → Option Addr → St → Hp → Prop

/-! ### what a statement does -/
inductive SR where
  | nx (δ : En) (η : List O)
  | rt (d : D) (η : List O)
  | bk (δ : En) (η : List O)
  | ct (δ : En) (η : List O)
  | exc (c : Nat) (ns : List Str) (l : List D) (δ : En) (η : List O)
  | bad
abbrev S := En → List O → SR
def SR.seq (r : SR) (k : S) : SR := match r with
  | .nx δ η => k δ η
  | r => r
def R.toS {α : Type} (r : R α) (δ : En) (k : α → List O → SR) : SR := match r with
  | .ok a η => k a η
  | .exc c ns l η => .exc c ns l δ η
  | .bad => .bad
@[simp] theorem toS_ok {α : Type} {a : α} {δ : En} {η : List O} {k : α → List O → SR} : (R.ok a η).toS δ k = k a η := rfl
@[simp] theorem toS_exc {α : Type} {c : Nat} {ns : List Str} {l : List D} {δ : En} {η : List O} {k : α → List O → SR} : (R.exc c ns l η : R α).toS δ k = .exc c ns l δ η := rfl
@[simp] theorem seq_nx {δ : En} {η : List O} {k : S} : (SR.nx δ η).seq k = k δ η := rfl
@[simp] theorem seq_rt {d : D} {η : List O} {k : S} : (SR.rt d η).seq k = .rt d η := rfl
@[simp] theorem seq_bk {δ : En} {η : List O} {k : S} : (SR.bk δ η).seq k = .bk δ η := rfl
@[simp] theorem seq_ct {δ : En} {η : List O} {k : S} : (SR.ct δ η).seq k = .ct δ η := rfl
@[simp] theorem seq_exc {c : Nat} {ns : List Str} {l : List D} {δ : En} {η : List O} {k : S} : (SR.exc c ns l δ η).seq k = .exc c ns l δ η := rfl
def Own (Hb : Hp) (δ : En) (σ : St) : Prop := ∀ (i : Nat) (l : L) (a : Addr), δ[i]? = some (some l) → l.owns = true → σ[i]? = some (some (V.ref a)) → Hb a = none
/-- the base: the def's entry; the stable base: a loop's start -/
structure Bs where
  G : Gh
  H : Hp
  Gs : Gh
  Hs : Hp
structure Hold (C : Ct) (B : Bs) (G : Gh) (H : Hp) (δ : En) (σ : St) (η : List O) : Prop where
  a : At C G H δ σ η
  o : Own B.H δ σ
  n : Nx B.G B.H G H
  s : Stab B.Gs B.Hs G H
def FinS (C : Ct) (W : WX) (B : Bs) (r : SR) (Dn : Ends) : Prop := match r with
  | .nx δ η => ∀ G H σ, Hold C B G H δ σ η → Dn.nx σ H
  | .bk δ η => ∀ G H σ, Hold C B G H δ σ η → Dn.bk σ H
  | .ct δ η => ∀ G H σ, Hold C B G H δ σ η → Dn.ct σ H
  | .rt d η => ∀ v G H, Nx B.G B.H G H → Rh C G H η → Rp C G H d v → Dn.rt v H
  | .exc c ns l δ η => ∀ x vs G H σ, Hold C B G H δ σ η → Xd G H x (ns.zip vs) → Rps C G H l vs → W (.ref (C.cl c)) (some x) σ H
  | .bad => False
def tS (C : Ct) (W : WX) (f : S) : TS := fun Dn σ H => ∃ B G δ η, Hold C B G H δ σ η ∧ FinS C W B (f δ η) Dn
abbrev FS (C : Ct) (W : WX) (X : Cx) (st : Stmt) (f : S) : Prop := PS X st (tS C W f)
abbrev FSs (C : Ct) (W : WX) (X : Cx) (st : List Stmt) (f : S) : Prop := PSs X st (tS C W f)

section
variable {C : Ct} {W : WX} {B : Bs} {G G' G1 : Gh} {H H' H1 : Hp} {δ : En} {σ : St} {η η' : List O}
theorem Stab.refl : Stab G H G H := ⟨fun _ _ h => h, fun _ _ h m => ⟨h, m⟩⟩
theorem Stab.trans (x : Stab G H G' H') (y : Stab G' H' G1 H1) : Stab G H G1 H1 := ⟨fun n a h => y.ads n a (x.ads n a h), fun a o h m => y.keep a o (x.keep a o h m).1 (x.keep a o h m).2⟩
theorem Hold.next (h : Hold C B G H δ σ η) (x : Nx G H G' H') (r : Rh C G' H' η') : Hold C B G' H' δ σ η' := ⟨h.a.next x r, h.o, h.n.trans x, h.s.trans (x.stab h.a.he)⟩
theorem tG.bindS {α β : Type} {Rel : Gh → Hp → α → β → Prop} {Q : β → Hp → Prop} {f : F α} {k : α → List O → SR} {Dn : Ends} (hd : Hold C B G H δ σ η) (fin : FinS C W B ((f δ η).toS δ k) Dn)
    (h : ∀ x v G1 H1 η1, Hold C B G1 H1 δ σ η1 → Nx G H G1 H1 → Rel G1 H1 x v → FinS C W B (k x η1) Dn → Q v H1) : tG C Rel W f σ H Q := by
  refine ⟨G, δ, η, hd.a, ?_⟩
  cases hf : f δ η with
  | ok d η1 =>
    rw [hf] at fin
    exact fun v G1 H1 x q1 q2 => h d v G1 H1 η1 (hd.next x q1) x q2 fin
  | exc c ns l η1 =>
    rw [hf] at fin
    exact fun b vs G1 H1 x q1 q2 q3 => fin b vs G1 H1 σ (hd.next x q1) q2 q3
  | bad =>
    rw [hf] at fin
    exact fin

/-! ### slots stored -/
theorem getSet {α : Type} {l : List α} {i j : Nat} {x y : α} (h : (l.set i x)[j]? = some y) : (j = i ∧ y = x) ∨ (j ≠ i ∧ l[j]? = some y) := by
  by_cases e : i = j
  · subst e
    left
    rw [List.getElem?_set_self'] at h
    cases q : l[i]? with
    | none => rw [q] at h; cases h
    | some z => rw [q] at h; exact ⟨rfl, (Option.some.inj h).symm⟩
  · right
    rw [List.getElem?_set_ne e] at h
    exact ⟨fun z => e z.symm, h⟩
theorem At.setVal {i : Nat} {d : D} {v : V} (a : At C G H δ σ η) (r : Rp C G H d v) : At C G H (δ.set i (some (.val d))) (σ.set i (some v)) η := by
  refine ⟨by simp [a.len], fun j l h => ?_, fun j k l l' v' hne h1 h2 o1 o2 s1 s2 => ?_, fun j l b h o s => ?_, a.he⟩
  · rcases getSet h with ⟨rfl, z⟩ | ⟨hj, h⟩
    · cases z
      have hlt : j < σ.length := by
        have := (List.getElem?_eq_some_iff.mp ‹_›).1
        rw [List.length_set] at this
        rw [← a.len]; exact this
      exact ⟨v, by rw [List.getElem?_set_self hlt], .val r⟩
    · obtain ⟨w, h1, h2⟩ := a.sl j l h
      exact ⟨w, by rw [List.getElem?_set_ne (Ne.symm hj)]; exact h1, h2⟩
  · rcases getSet h1 with ⟨_, h1⟩ | ⟨e1, h1⟩
    · cases h1; cases o1
    · rcases getSet h2 with ⟨_, h2⟩ | ⟨e2, h2⟩
      · cases h2; cases o2
      · rw [List.getElem?_set_ne (Ne.symm e1)] at s1
        rw [List.getElem?_set_ne (Ne.symm e2)] at s2
        exact a.un j k l l' v' hne h1 h2 o1 o2 s1 s2
  · rcases getSet h with ⟨_, h⟩ | ⟨e, h⟩
    · cases h; cases o
    · rw [List.getElem?_set_ne (Ne.symm e)] at s
      exact a.nad j l b h o s
theorem Own.setVal {Hb : Hp} {i : Nat} {d : D} {v : V} (o : Own Hb δ σ) : Own Hb (δ.set i (some (.val d))) (σ.set i (some v)) := fun j l b h ow s => by
  rcases getSet h with ⟨_, h⟩ | ⟨e, h⟩
  · cases h; cases ow
  · rw [List.getElem?_set_ne (Ne.symm e)] at s
    exact o j l b h ow s
theorem Hold.setVal {i : Nat} {d : D} {v : V} (h : Hold C B G H δ σ η) (r : Rp C G H d v) : Hold C B G H (δ.set i (some (.val d))) (σ.set i (some v)) η := ⟨h.a.setVal r, h.o.setVal, h.n, h.s⟩

/-- a mutable address more -/
def Gh.add (G : Gh) (p : Addr) : Gh := ⟨G.ads, fun a => G.M a ∨ a = p⟩
theorem Stab.add {p : Addr} {o : HO} (hp : H p = none) : Stab G H (G.add p) (upd H p o) := ⟨fun _ _ h => h, fun a u h m => ⟨by rw [upd_ne (ne_of_none h hp)]; exact h, fun z => z.elim m fun e => by subst e; rw [hp] at h; cases h⟩⟩
theorem Nx.add {p : Addr} {o : HO} (hp : H p = none) : Nx G H (G.add p) (upd H p o) := by
  refine ⟨fun _ _ h => h, fun a u h _ => by rw [upd_ne (ne_of_none h hp)]; exact h, fun a u h => ⟨fun z => z.elim (fun z => z) fun e => ?_, .inl⟩, fun _ h => .inl h, fun a h => ?_⟩
  · subst e; rw [hp] at h; cases h
  · by_cases e : a = p
    · subst e; exact hp
    · rw [upd_ne e] at h; exact h
theorem Rh.add {p : Addr} {o : HO} (r : Rh C G H η) (hp : H p = none) : Rh C (G.add p) (upd H p o) η := by
  refine ⟨r.len, r.nd, fun n o' a h1 h2 => ?_, fun a m => ?_⟩
  · obtain ⟨m, q⟩ := r.ob n o' a h1 h2
    refine ⟨.inl m, q.stab (Stab.add hp) fun u hu => ?_⟩
    rw [upd_ne (ne_of_none hu hp)]; exact hu
  · rcases m with m | rfl
    · exact fun z => r.mh a m ((Nx.add (G := G) (o := o) hp).there a z)
    · rw [upd_same]; exact fun z => by cases z
/-- a slot takes a new list as its own -/
theorem Hold.setOwn {i : Nat} {p : Addr} {l : List D} {vs : List V} (h : Hold C B G H δ σ η) (hp : H p = none) (hz : l.length ≤ sizeLine) (r : Rps C G H l vs) :
    Hold C B (G.add p) (upd H p (.lst vs)) (δ.set i (some (.own l))) (σ.set i (some (.ref p))) η := by
  have st : Stab G H (G.add p) (upd H p (.lst vs)) := Stab.add hp
  have a2 : At C (G.add p) (upd H p (.lst vs)) δ σ η := h.a.next (Nx.add hp) (h.a.he.add hp)
  have np : ∀ (j : Nat) (l : L), δ[j]? = some (some l) → l.owns = true → σ[j]? = some (some (V.ref p)) → False := fun j l h1 h2 h3 => by
    obtain ⟨v, e1, e2⟩ := h.a.sl j l h1
    rw [h3] at e1
    cases e1
    cases e2 with
    | val _ => cases h2
    | own m e z r => rw [hp] at e; cases e
    | oins m e n r => rw [hp] at e; cases e
  have npa : p ∉ G.ads := fun hm => h.a.he.mh p (h.a.he.adsM hm) hp
  refine ⟨⟨by simp [h.a.len], fun j l' hl => ?_, fun j k l' l'' v' hne h1 h2 o1 o2 s1 s2 => ?_, fun j l' b hl o s => ?_, a2.he⟩, fun j l' b hl o s => ?_, h.n.trans (Nx.add hp), h.s.trans st⟩
  · rcases getSet hl with ⟨rfl, z⟩ | ⟨hj, hl⟩
    · cases z
      have hlt : j < σ.length := by
        have := (List.getElem?_eq_some_iff.mp ‹_›).1
        rw [List.length_set] at this
        rw [← h.a.len]; exact this
      exact ⟨_, by rw [List.getElem?_set_self hlt], .own (.inr rfl) upd_same hz (r.stab st)⟩
    · obtain ⟨w, h1, h2⟩ := a2.sl j l' hl
      exact ⟨w, by rw [List.getElem?_set_ne (Ne.symm hj)]; exact h1, h2⟩
  · rcases getSet h1 with ⟨q1, y1⟩ | ⟨e1, y1⟩
    · rcases getSet h2 with ⟨q2, y2⟩ | ⟨e2, y2⟩
      · exact hne (q1.trans q2.symm)
      · subst q1
        rcases getSet s1 with ⟨_, w1⟩ | ⟨z, _⟩
        · cases w1
          rw [List.getElem?_set_ne (Ne.symm e2)] at s2
          exact np k l'' y2 o2 s2
        · exact z rfl
    · rw [List.getElem?_set_ne (Ne.symm e1)] at s1
      rcases getSet h2 with ⟨q2, y2⟩ | ⟨e2, y2⟩
      · subst q2
        rcases getSet s2 with ⟨_, w2⟩ | ⟨z, _⟩
        · cases w2
          exact np j l' y1 o1 s1
        · exact z rfl
      · rw [List.getElem?_set_ne (Ne.symm e2)] at s2
        exact h.a.un j k l' l'' v' hne y1 y2 o1 o2 s1 s2
  · rcases getSet hl with ⟨q1, hl⟩ | ⟨e1, hl⟩
    · subst q1
      rcases getSet s with ⟨_, s⟩ | ⟨z, _⟩
      · cases s; exact npa
      · exact absurd rfl z
    · rw [List.getElem?_set_ne (Ne.symm e1)] at s
      exact h.a.nad j l' b hl o s
  · rcases getSet hl with ⟨q1, hl⟩ | ⟨e1, hl⟩
    · subst q1
      rcases getSet s with ⟨_, s⟩ | ⟨z, _⟩
      · cases s; exact h.n.there p hp
      · exact absurd rfl z
    · rw [List.getElem?_set_ne (Ne.symm e1)] at s
      exact h.o j l' b hl o s
/-- a frame's own list is changed -/
theorem Hold.chOwn {i : Nat} {p : Addr} {l l' : List D} {vs vs' : List V} (h : Hold C B G H δ σ η) (hi : δ[i]? = some (some (.own l))) (hs : σ[i]? = some (some (.ref p))) (hm : G.M p) (he : H p = some (.lst vs)) (hz : l'.length ≤ sizeLine) (r : Rps C G H l' vs') :
    Hold C B G (upd H p (.lst vs')) (δ.set i (some (.own l'))) σ η := by
  have st : Stab G H G (upd H p (.lst vs')) := ⟨fun _ _ h => h, fun a o ha m => ⟨by rw [upd_ne (fun e => m (by rw [e]; exact hm))]; exact ha, m⟩⟩
  have npa : p ∉ G.ads := h.a.nad i _ p hi rfl hs
  have keep : ∀ a o, a ≠ p → H a = some o → upd H p (.lst vs') a = some o := fun a o e z => by rw [upd_ne e]; exact z
  have he2 : Rh C G (upd H p (.lst vs')) η := by
    refine ⟨h.a.he.len, h.a.he.nd, fun n o a h1 h2 => ?_, fun a m => ?_⟩
    · obtain ⟨m, q⟩ := h.a.he.ob n o a h1 h2
      exact ⟨m, q.stab st fun u hu => keep a u (fun e => npa (by rw [← e]; exact List.mem_of_getElem? h2)) hu⟩
    · by_cases e : a = p
      · subst e; rw [upd_same]; exact fun z => by cases z
      · rw [upd_ne e]; exact h.a.he.mh a m
  have hii : i < δ.length := (List.getElem?_eq_some_iff.mp hi).1
  have old : ∀ {j : Nat} {k : L}, (δ.set i (some (.own l')))[j]? = some (some k) → k.owns = true → ∃ k', δ[j]? = some (some k') ∧ k'.owns = true := fun {j k} hk ho => by
    rcases getSet hk with ⟨rfl, _⟩ | ⟨_, hk⟩
    · exact ⟨_, hi, rfl⟩
    · exact ⟨_, hk, ho⟩
  refine ⟨⟨by rw [List.length_set]; exact h.a.len, fun j k hk => ?_, fun j k l1 l2 v' hne h1 h2 o1 o2 s1 s2 => ?_, fun j k b hk o s => ?_, he2⟩, fun j k b hk o s => ?_, ?_, h.s.trans st⟩
  · rcases getSet hk with ⟨rfl, z⟩ | ⟨hj, hk⟩
    · cases z
      exact ⟨_, hs, .own hm upd_same hz (r.stab st)⟩
    · obtain ⟨w, h1, h2⟩ := h.a.sl j k hk
      refine ⟨w, h1, ?_⟩
      cases h2 with
      | val r => exact .val (r.stab st)
      | own m e zz r =>
        have q : _ ≠ p := fun z => h.a.un j i _ _ _ hj hk hi rfl rfl h1 (by rw [hs, ← z])
        exact .own m (keep _ _ q e) zz (r.stab st)
      | oins m e n r =>
        have q : _ ≠ p := fun z => h.a.un j i _ _ _ hj hk hi rfl rfl h1 (by rw [hs, ← z])
        exact .oins m (keep _ _ q e) n (r.stab st)
  · obtain ⟨k1, q1, p1⟩ := old h1 o1
    obtain ⟨k2, q2, p2⟩ := old h2 o2
    exact h.a.un j k k1 k2 v' hne q1 q2 p1 p2 s1 s2
  · obtain ⟨k1, q1, p1⟩ := old hk o
    exact h.a.nad j k1 b q1 p1 s
  · obtain ⟨k1, q1, p1⟩ := old hk o
    exact h.o j k1 b q1 p1 s
  · have hb : B.H p = none := h.o i _ p hi rfl hs
    refine ⟨h.n.ads, fun a o ha m => ?_, h.n.mu, h.n.new, fun a z => ?_⟩
    · exact keep a o (fun e => by rw [e, hb] at ha; cases ha) (h.n.keep a o ha m)
    · by_cases e : a = p
      · rw [e]; exact hb
      · rw [upd_ne e] at z; exact h.n.there a z
theorem ndIx {α : Type} {N : List α} (hN : N.Nodup) {i j : Nat} {x : α} (a : N[i]? = some x) (b : N[j]? = some x) : i = j := by
  obtain ⟨h1, e1⟩ := List.getElem?_eq_some_iff.mp a
  obtain ⟨h2, e2⟩ := List.getElem?_eq_some_iff.mp b
  exact (List.getElem_inj hN).mp (e1.trans e2.symm)
/-- an object of the store is changed -/
theorem Nx.chObj {n : Nat} {p : Addr} {o : HO} (hn : G.ads[n]? = some p) (hp : H p ≠ none) : Nx G H G (upd H p o) := by
  have hm : p ∈ G.ads := List.mem_of_getElem? hn
  refine ⟨fun _ _ h => h, fun a u h m => ?_, fun _ _ _ => Iff.rfl, fun _ h => .inl h, fun a h => ?_⟩
  · rw [upd_ne (fun e => m (by rw [e]; exact hm))]; exact h
  · by_cases e : a = p
    · subst e; rw [upd_same] at h; cases h
    · rw [upd_ne e] at h; exact h
theorem Rh.chObj {n : Nat} {p : Addr} {o : HO} {o' : O} (r : Rh C G H η) (hn : G.ads[n]? = some p) (q : Ro C G (upd H p o) o' p) : Rh C G (upd H p o) (η.set n o') := by
  have hm : G.M p := r.adsM (List.mem_of_getElem? hn)
  have st : Stab G H G (upd H p o) := ⟨fun _ _ h => h, fun a u ha m => ⟨by rw [upd_ne (fun e => m (by rw [e]; exact hm))]; exact ha, m⟩⟩
  refine ⟨by rw [List.length_set]; exact r.len, r.nd, fun k u a h1 h2 => ?_, fun a m => ?_⟩
  · rcases getSet h1 with ⟨rfl, rfl⟩ | ⟨hk, h1⟩
    · rw [hn] at h2; cases h2; exact ⟨hm, q⟩
    · obtain ⟨m, z⟩ := r.ob k u a h1 h2
      refine ⟨m, z.stab st fun w hw => ?_⟩
      rw [upd_ne]; exact hw
      intro e
      subst e
      exact hk (ndIx r.nd h2 hn)
  · by_cases e : a = p
    · subst e; rw [upd_same]; exact fun z => by cases z
    · rw [upd_ne e]; exact r.mh a m
end

/-! ### statements -/
section
variable {X : Cx} {C : Ct} {W : WX} {pos : Pos} {st : Stmt} {rest : List Stmt} {f g : S} {e : Expr} {fe : F D}
theorem fss_nil : FSs C W X [] .nx := PSs.imp pss_nil fun Dn σ H ⟨B, G, δ, η, h, fin⟩ => fin G H σ h
def sSeq (f g : S) : S := fun δ η => (f δ η).seq g
theorem fss_cons (h1 : FS C W X st f) (h2 : FSs C W X rest g) : FSs C W X (st :: rest) (sSeq f g) := by
  refine PSs.imp (pss_cons h1 h2) fun Dn σ H ⟨B, G, δ, η, h, fin⟩ => ⟨B, G, δ, η, h, ?_⟩
  unfold sSeq at fin
  cases hf : f δ η with
  | nx δ' η' => rw [hf] at fin; exact fun G' H' σ' h' => ⟨B, G', δ', η', h', fin⟩
  | rt d η' => rw [hf] at fin; exact fin
  | bk δ' η' => rw [hf] at fin; exact fin
  | ct δ' η' => rw [hf] at fin; exact fin
  | exc c ns l δ' η' => rw [hf] at fin; exact fin
  | bad => rw [hf] at fin; exact fin
theorem fss_one (h1 : FS C W X st f) : FSs C W X [st] f := pss_one h1
def sRet (f : F D) : S := fun δ η => (f δ η).toS δ fun d η => .rt d η
theorem fs_ret (he : FE C W X e fe) : FS C W X (.Return (some e) pos) (sRet fe) := PS.imp (ps_ret he) fun Dn σ H ⟨B, G, δ, η, h, fin⟩ =>
  tG.bindS h fin fun d v G1 H1 η1 h1 x1 r1 fin1 => fin1 v G1 H1 h1.n h1.a.he r1
def sRetN : S := fun _ η => .rt .non η
/-- a list of the frame's own is handed back: it will not change any more -/
def sRetO (i : Nat) : S := fun δ η => match δ[i]? with
  | some (some (.own l)) => .rt (.lst l) η
  | _ => .bad
def Gh.sub (G : Gh) (p : Addr) : Gh := ⟨G.ads, fun a => G.M a ∧ a ≠ p⟩
theorem Stab.sub {G : Gh} {H : Hp} {p : Addr} : Stab G H (G.sub p) H := ⟨fun _ _ h => h, fun _ _ h m => ⟨h, fun z => m z.1⟩⟩
def sIf (c : F Bool) (f g : S) : S := fun δ η => (c δ η).toS δ fun b η => if b = true then f δ η else g δ η
theorem fs_if {c : Expr} {a b : List Stmt} {tc : F Bool} (hc : FT C W X c tc) (ha : FSs C W X a f) (hb : FSs C W X b g) : FS C W X (.If c a b pos) (sIf tc f g) :=
  PS.imp (ps_if hc ha hb) fun Dn σ H ⟨B, G, δ, η, h, fin⟩ => tG.bindS h fin fun d v G1 H1 η1 h1 x1 r1 fin1 => by
    have r1 : d = v := r1
    subst r1
    cases d with
    | true => rw [if_pos rfl] at fin1 ⊢; exact ⟨B, G1, δ, η1, h1, fin1⟩
    | false => rw [if_neg Bool.false_ne_true] at fin1 ⊢; exact ⟨B, G1, δ, η1, h1, fin1⟩
def sDrop (f : F D) : S := fun δ η => (f δ η).toS δ fun _ η => .nx δ η
theorem fs_expr (he : FE C W X e fe) (hs : swapsWith e none pos.line X.env = pure false := by rfl) : FS C W X (.Expr e pos) (sDrop fe) := PS.imp (ps_expr he hs) fun Dn σ H ⟨B, G, δ, η, h, fin⟩ =>
  tG.bindS h fin fun d v G1 H1 η1 h1 x1 r1 fin1 => fin1 G1 H1 σ h1

/-! ### targets -/
inductive Tg where
  | nm (i : Nat) | tp (l : List Tg)
mutual
def gV (K : PySem.W.Frag) : Tg → TG
  | .nm i => gName i
  | .tp l => gTup K l.length (gVs K l)
def gVs (K : PySem.W.Frag) : List Tg → TGs
  | [] => gNil
  | t :: l => gCons (gV K t) (gVs K l)
end
mutual
def asg : Tg → D → En → Option En
  | .nm i, d, δ => some (δ.set i (some (.val d)))
  | .tp ts, .tup l, δ => asgs ts l δ
  | .tp _, _, _ => none
def asgs : List Tg → List D → En → Option En
  | [], [], δ => some δ
  | t :: ts, d :: l, δ => (asg t d δ).bind fun δ' => asgs ts l δ'
  | _, _, _ => none
end
mutual
def Tg.sl : Tg → List Nat
  | .nm i => [i]
  | .tp l => Tg.sls l
def Tg.sls : List Tg → List Nat
  | [] => []
  | t :: l => t.sl ++ Tg.sls l
end
theorem asgs_len : ∀ {ts : List Tg} {l : List D} {δ δ' : En}, asgs ts l δ = some δ' → l.length = ts.length
  | [], [], _, _, _ => rfl
  | [], _ :: _, _, _, h => by simp [asgs] at h
  | _ :: _, [], _, _, h => by simp [asgs] at h
  | t :: ts, d :: l, δ, δ', h => by
    rw [asgs] at h
    cases q : asg t d δ with
    | none => rw [q] at h; cases h
    | some δ1 =>
      rw [q] at h
      rw [List.length_cons, List.length_cons, asgs_len (ts := ts) h]
/-- the slots that a target does not name are as before -/
def Same' (vs : List Nat) (σ σ' : St) : Prop := σ'.length = σ.length ∧ ∀ i, i ∉ vs → σ'[i]? = σ[i]?
theorem Same'.refl {vs : List Nat} {σ : St} : Same' vs σ σ := ⟨rfl, fun _ _ => rfl⟩
theorem Same'.trans {vs : List Nat} {σ σ1 σ2 : St} (a : Same' vs σ σ1) (b : Same' vs σ1 σ2) : Same' vs σ σ2 := ⟨b.1.trans a.1, fun i h => (b.2 i h).trans (a.2 i h)⟩
theorem Same'.mono {vs ws : List Nat} {σ σ' : St} (a : Same' vs σ σ') (h : ∀ i ∈ vs, i ∈ ws) : Same' ws σ σ' := ⟨a.1, fun i z => a.2 i fun q => z (h i q)⟩
mutual
theorem gV_ok (hK : X.K = C.K) : ∀ (t : Tg) (d : D) (v : V) (G : Gh) (H : Hp) (δ δ' : En) (σ : St) (η : List O) (Q : St → Hp → Prop), asg t d δ = some δ' → Rp C G H d v →
    (∀ σ', (∀ B, Hold C B G H δ σ η → Hold C B G H δ' σ' η) → (At C G H δ σ η → At C G H δ' σ' η) → Same' t.sl σ σ' → Q σ' H) → gV X.K t v σ H Q
  | .nm i, d, v, G, H, δ, δ', σ, η, Q, h, r, q => by
    rw [asg] at h
    cases h
    rw [gV]
    exact q _ (fun B h => h.setVal r) (fun h => h.setVal r) ⟨by simp, fun j hj => List.getElem?_set_ne (by simpa [Tg.sl, eq_comm] using hj)⟩
  | .tp ts, d, v, G, H, δ, δ', σ, η, Q, h, r, q => by
    cases d with
    | tup l =>
      rw [asg] at h
      obtain ⟨a, vs, rfl, hs, hr⟩ := (Rp.b r).u.tup
      rw [← hK] at hs
      rw [gV]
      refine ⟨a, vs, rfl, hs, by rw [← hr.length]; exact asgs_len h, ?_⟩
      exact gVs_ok hK ts l vs G H δ δ' σ η Q h hr fun σ' h1 h2 h3 => q σ' h1 h2 (by rw [Tg.sl]; exact h3)
    | _ => simp [asg] at h
theorem gVs_ok (hK : X.K = C.K) : ∀ (ts : List Tg) (l : List D) (vs : List V) (G : Gh) (H : Hp) (δ δ' : En) (σ : St) (η : List O) (Q : St → Hp → Prop), asgs ts l δ = some δ' → Rps C G H l vs →
    (∀ σ', (∀ B, Hold C B G H δ σ η → Hold C B G H δ' σ' η) → (At C G H δ σ η → At C G H δ' σ' η) → Same' (Tg.sls ts) σ σ' → Q σ' H) → gVs X.K ts vs σ H Q
  | [], l, vs, G, H, δ, δ', σ, η, Q, h, r, q => by
    cases l with
    | nil =>
      rw [asgs] at h
      cases h
      cases r
      rw [gVs]
      exact ⟨rfl, q _ (fun _ h => h) (fun h => h) .refl⟩
    | cons _ _ => simp [asgs] at h
  | t :: ts, l, vs, G, H, δ, δ', σ, η, Q, h, r, q => by
    cases l with
    | nil => simp [asgs] at h
    | cons d l =>
      rw [asgs] at h
      cases q1 : asg t d δ with
      | none => rw [q1] at h; cases h
      | some δ1 =>
        rw [q1] at h
        cases r with
        | @cons _ v _ vs r rr =>
          rw [gVs]
          refine ⟨v, vs, rfl, ?_⟩
          refine gV_ok hK t d v G H δ δ1 σ η _ q1 r fun σ1 a1 b1 c1 => ?_
          refine gVs_ok hK ts l vs G H δ1 δ' σ1 η _ h rr fun σ2 a2 b2 c2 => ?_
          refine q σ2 (fun B z => a2 B (a1 B z)) (fun z => b2 (b1 z)) ?_
          rw [Tg.sls]
          exact (c1.mono fun i z => List.mem_append_left _ z).trans (c2.mono fun i z => List.mem_append_right _ z)
end
abbrev FG (X : Cx) (e : Expr) (t : Tg) : Prop := PG X e (gV X.K t)
abbrev FGs (X : Cx) (es : List Expr) (t : List Tg) : Prop := PGs X es (gVs X.K t)
theorem fg_nm {i : Nat} {x : Str} (hN : X.N.Nodup) (hi : X.N[i]? = some x := by rfl) (hx : Loc X.env.scope x := by first | exact Or.inl rfl | exact Or.inr rfl) (hf : X.fn x = true ∨ X.env.scope.names.lookup x = some .local := by first | exact .inl rfl | exact .inr rfl | assumption) : FG X (.Name x pos) (.nm i) := by
  show PG X _ (gV X.K (.nm i))
  rw [gV]
  exact pg_name hN hi hx hf
theorem fgs_nil : FGs X [] [] := by
  show PGs X _ (gVs X.K [])
  rw [gVs]
  exact pgs_nil
theorem fgs_cons {e : Expr} {es : List Expr} {t : Tg} {ts : List Tg} (h1 : FG X e t) (h2 : FGs X es ts) (hs : (assignEach (e :: es) X.env).map (·.2) = assign e X.env :: (assignEach es X.env).map (·.2) := by rfl) : FGs X (e :: es) (t :: ts) := by
  show PGs X _ (gVs X.K (t :: ts))
  rw [gVs]
  exact pgs_cons h1 h2 hs
theorem fg_tp {es : List Expr} {k : Nat} {ts : List Tg} (hc : X.calm = true) (h : FGs X es ts) (hn : (assignEach es X.env).length = ts.length := by rfl) (hst : (assignEach es X.env).findIdx? (·.1) = none := by rfl) : FG X (.Tuple es k pos) (.tp ts) := by
  show PG X _ (gV X.K (.tp ts))
  rw [gV]
  exact pg_tup hc h hn hst
/-- target = e -/
def sAsg (f : F D) (t : Tg) : S := fun δ η => (f δ η).toS δ fun d η => match asg t d δ with
  | some δ' => .nx δ' η
  | none => .bad
theorem fs_asg {t : Tg} (hK : X.K = C.K) (h : PS X st (tAsg (tG C (Rp C) W fe) (gV X.K t))) : FS C W X st (sAsg fe t) :=
  PS.imp h fun Dn σ H ⟨B, G, δ, η, h, fin⟩ => tG.bindS h fin fun d v G1 H1 η1 h1 x1 r1 fin1 => by
    cases q : asg t d δ with
    | none => rw [q] at fin1; exact fin1.elim
    | some δ' =>
      rw [q] at fin1
      exact gV_ok hK t d v G1 H1 δ δ' σ η1 Dn.nx q r1 fun σ' a _ _ => fin1 G1 H1 σ' (a B h1)
end
end DL
/-! enumerate(a tuple) -/
namespace EnT
open PySem PySem.Spec
section
variable {prog : Program} {w : World} {A : Around} {E : Value → Shared → Prop} {s : Shared}
theorem drawsT (hh : A.handled = none) (it l : Addr) (hne : l ≠ it) (items : Array Value) :
    Draws prog w A it [it, l] items.size (fun i v => items[i]? = some v) (fun i h => h.IsTupleIter it l i ∧ h.IsTuple l items) where
  live := fun _ _ st => let ⟨o, ho, _⟩ := st.1; ⟨o, ho⟩
  frame := fun _ _ _ st hk => ⟨st.1.at fun o e => hk it (by simp) o e, st.2.at fun o e => hk l (by simp) o e⟩
  item := fun i s Q E hi st hQ => RZ.nextOf_tuple_item st.1 st.2 (x := items[i]) (by simp [hi]) fun h' hit' hs' => hQ _ h' s.toks (by simp [hi]) ⟨hit', st.2.extBut hs'.extBut hne⟩ hs'
  done := fun s Q E st hE => RZ.nextOf_tuple_end hh st.1 st.2 (by simp) hE
abbrev itT (l : Addr) : Obj := { cls := .type "tuple_iterator", data := .fields #[.ref l, .int 0 0] }
abbrev enO (i : Addr) : Obj := { cls := .type "enumerate", data := .fields #[.none, .bool false, .ref i, rawInt 0, .none, .none] }
set_option maxHeartbeats 1000000 in
theorem newT (l : Addr) (items : Array Value) :
    Meets (Builtin.«enumerate.__new__» ⟨[.type "enumerate", .ref l], []⟩) (fun _ R s => s.heap.IsTuple l items ∧
      R (.ok (.ret (.ref (s.heap.push (itT l)).objs.size))) { s with heap := (s.heap.push (itT l)).push (enO s.heap.objs.size) }) :=
  .of_wp fun prog w A R s h => by
    obtain ⟨hp, g, d, tk, os⟩ := s
    obtain ⟨hl, h⟩ := h
    have hsub := sub_enumerate
    have hL : Heap.IsTuple (Shared.heap ⟨hp, g, d, tk, os⟩) l items := hl
    wp_walk using wpAny_pyIter_tuple hL
    refine wpAny_stack_any fun st => wpAny_pure ?_
    split
    · rename_i c _ _ _ _ _
      cases (c == Value.type "enumerate")
      · wp_walk using wpAny_pyIter_tuple hL
        exact ⟨_, rfl, h⟩
      · wp_walk using wpAny_pyIter_tuple hL
        exact ⟨_, rfl, h⟩
    · wp_walk using wpAny_pyIter_tuple hL
      exact ⟨_, rfl, h⟩
theorem callT {l : Addr} {items : Array Value} {Q : Value → Shared → Prop} (hL : s.heap.IsTuple l items)
    (h : ∀ h', IsEnum h' (s.heap.objs.size + 1) s.heap.objs.size 0 .none → h'.IsTupleIter s.heap.objs.size l 0 → (∀ b o, s.heap.get? b = some o → h'.get? b = some o) → Q (.ref (s.heap.objs.size + 1)) { s with heap := h' }) :
    wpAny (model prog w) A (call (.type "enumerate") [.ref l]) Q E s := by
  refine callType_new F.called_enumerate (by decide) (F.typeCall_enumerate_1 _) (F.newCall_enumerate_1 _) (fun obj => F.args_object_init_2 obj _) F.entry_enumerate_new (newT l items) ⟨hL, ?_⟩
  have hz : (s.heap.push (itT l)).objs.size = s.heap.objs.size + 1 := Heap.size_push ..
  have he : ((s.heap.push (itT l)).push (enO s.heap.objs.size)).get? (s.heap.push (itT l)).objs.size = some (enO s.heap.objs.size) := Heap.get?_push_size _ rfl
  rw [hz] at he
  show _ ∧ _
  rw [hz]
  exact ⟨⟨_, he, rfl⟩, h _ he ⟨_, Heap.get?_push_of_some _ (Heap.get?_push_size _ rfl), rfl, rfl⟩ fun b o x => Heap.get?_push_of_some _ (Heap.get?_push_of_some _ x)⟩
end
end EnT
namespace EnT
open PySem PySem.Spec PyProof.Rows L2
/-- the tuple at a as it stands at each turn, each item in a new pair -/
def IteT (K : PySem.W.Frag) (a : Addr) : It :=
  ⟨fun i H => ∃ (xs : List V) (x : V), SqT K H a xs ∧ xs[i]? = some x, fun i H v H' => ∃ T x, v = .ref T ∧ H T = none ∧ H' = upd H T (.tup [.int (i : Nat), x]) ∧ ∀ xs, SqT K H a xs → xs[i]? = some x, fun i H => ∃ xs : List V, SqT K H a xs ∧ xs.length ≤ i⟩
theorem turnT {P : Program} {w : World} {K : PySem.W.Frag} {elts : List Expr} {kk : Nat} {tpos : Pos} (a e it : Addr) (n1 : a ≠ e) (n2 : a ≠ it) (n3 : e ≠ it) :
    Turn P w K (.Tuple elts kk tpos) (IteT K a) [e, it] e (fun i h => (∃ old, IsEnum h e it ((i : Nat) : Int) old) ∧ h.IsTupleIter it a i) where
  mem := by simp
  obj := fun i h st b hb => by
    obtain ⟨⟨old, he⟩, ⟨o, ho, hc, hd⟩⟩ := st
    have e' : b = e ∨ b = it := by simpa using hb
    rcases e' with z | z
    · rw [z]; exact ⟨_, he, fun v q => nomatch q⟩
    · rw [z]; exact ⟨o, ho, fun v q => by rw [hd] at q; cases q⟩
  keep := fun i h h' st k => let ⟨⟨old, he⟩, hi⟩ := st; ⟨⟨old, k e (by simp) _ he⟩, hi.at fun o q => k it (by simp) o q⟩
  item := by
    intro X hP hw hK hc i pins s σ H E I hf st hg
    subst hP hw hK
    obtain ⟨⟨old, he⟩, hit⟩ := st
    obtain ⟨xs, x, hq, hx⟩ := hg
    obtain ⟨its, rv, p, hz⟩ := I.tuple hq
    obtain ⟨u, hu, ru⟩ := rv.get hx
    have hel : e < s.heap.objs.size := Heap.lt_size he
    have hil : it < s.heap.objs.size := by obtain ⟨_, q, _⟩ := hit; exact Heap.lt_size q
    have hlt : i < its.toArray.size := by
      have := (List.getElem?_eq_some_iff.mp hu).1
      simpa using this
    have D : Draws X.prog X.w X.A.in1 it [it, a] its.toArray.size (fun i v => its.toArray[i]? = some v) (fun i h => h.IsTupleIter it a i ∧ h.IsTuple a its.toArray) := drawsT (A := X.A.in1) (show X.A.in1.handled = none from I.ok.hd hc) it a n2 its.toArray
    refine wpAny_pyNext_enum_itemD D he ⟨hit, p⟩ hlt n3 (by simp [n3, Ne.symm n1]) fun v h' tk hv ho st' hT hsz hk => ?_
    have hvu : v = u := by
      have h2 : its.toArray[i]? = some u := by simpa using hu
      rw [hv] at h2
      cases h2
      rfl
    subst hvu
    refine ⟨_, rfl, wpAny_letOwnedTupleGo_enum (s := { s with heap := h', toks := tk + 1 }) ho fun h'' he' sb => ?_⟩
    have hT2 : h''.get? s.heap.objs.size = some { cls := .type "tuple", data := .seq #[.int i tk, v] } := (sb.2 _ (Nat.ne_of_gt hel)).trans hT
    have new : ObjOk X.prog X.w (upd H s.heap.objs.size (.tup [.int (i : Nat), x])) h'' s.heap.objs.size (.tup [.int (i : Nat), x]) :=
      ⟨by show 2 ≤ sizeLine; decide, [.int i tk, v], .cons ⟨_, rfl⟩ (.cons ru .nil), ⟨_, hT2, rfl, _, rfl⟩⟩
    have I1 : Inv X pins σ (upd H s.heap.objs.size (.tup [.int (i : Nat), x])) { s with heap := h'', toks := tk + 1 } :=
      I.turnedNew (ch := [e, it]) (fun b ob hb q => (sb.2 b (fun z => hb (by simp [z]))).trans (hk b ob (fun z => hb (by simp [z])) (fun z => hb (by simp [z])) q)) hf (Nat.le_refl _) new
    refine ⟨.ref s.heap.objs.size, _, I1, rfl, ⟨_, x, rfl, I.hok.fresh (Nat.le_refl _), rfl, fun ys hy => by rw [I.tuple_inj hy hq]; exact hx⟩, ⟨⟨v, ?_⟩, st'.1.at fun o q => (sb.2 it (Ne.symm n3)).trans q⟩, fun b hb => ?_⟩
    · have e1 : ((i + 1 : Nat) : Int) = (i : Int) + 1 := by omega
      rw [e1]; exact he'
    · have hb' : b < s.heap.objs.size := by
        have e' : b = e ∨ b = it := by simpa using hb
        rcases e' with z | z
        · rw [z]; exact hel
        · rw [z]; exact hil
      rw [upd_ne (Nat.ne_of_lt hb')]
      exact (hf b hb).1
  done := by
    intro X hP hw hK hc i pins s σ H E I hf st hg
    subst hP hw hK
    obtain ⟨⟨old, he⟩, hit⟩ := st
    obtain ⟨xs, hq, hx⟩ := hg
    obtain ⟨its, rv, p, hz⟩ := I.tuple hq
    obtain ⟨f0, f1, f2, f3, f4, f5⟩ := hf it (by simp)
    have hl := rv.length
    have D : Draws X.prog X.w X.A.in1 it [it, a] i (fun _ _ => True) (fun j h => j = i ∧ h.IsTupleIter it a i ∧ h.IsTuple a its.toArray) := by
      refine ⟨fun _ _ st => let ⟨o, ho, _⟩ := st.2.1; ⟨o, ho⟩, fun _ _ _ st hk => ⟨st.1, st.2.1.at fun o e => hk it (by simp) o e, st.2.2.at fun o e => hk a (by simp) o e⟩, fun j s Q E hj st _ => ?_, fun s Q E st hE => RZ.nextOf_tuple_end (I.ok.hd hc) st.2.1 st.2.2 (by simp; omega) hE⟩
      have := st.1
      omega
    exact wpAny_pyNext_enum_endD D he ⟨rfl, hit, p⟩ fun h' eb => ⟨rfl, I.turned (t' := s.toks) (fun b o hb q => eb b o hb q) f0 f1 f3 f4 f5⟩
  self := fun A i s Q E st h => let ⟨⟨_, he⟩, _⟩ := st; wpAny_pyIter_enum he h
/-- a list or a tuple -/
def iEnumA (K : PySem.W.Frag) (ta : TA) : TI := fun σ H R => ta σ H fun vs H1 => ∃ a xs, vs = [.ref a] ∧ ((SqL K H1 a xs ∧ R (Ite K a) H1) ∨ (SqT K H1 a xs ∧ R (IteT K a) H1))
theorem pi_enumA {X : Cx} {e : Expr} {ta : TA} {p pos tpos : Pos} {elts : List Expr} {kk : Nat} (hg : Gl X "enumerate") (hm : X.mg "enumerate" = none) (ha : PA X [e] ta) (hs : starEach [e] X.env = [(false, eval e X.env)] := by rfl) :
    PI X (.Tuple elts kk tpos) (.Call (.Name "enumerate" p) [e] [] pos) (iEnumA X.K ta) := by
  refine ⟨fun pins s σ H R I h => ?_⟩
  refine Call_ (ld_blt I hg hm boot_enumerate (PyProof.Rows.callWith_type1 (thn (ha.run pos pins s σ H _ I h) fun us s1 ⟨vs, H1, I1, r1, q1⟩ => ?_) hs rfl))
  obtain ⟨a, xs, ex, hq⟩ := q1
  subst ex
  cases r1 with
  | cons r rr =>
    cases rr
    cases r
    have fin : ∀ {J : It} {tn : Nat → Heap → Prop} {h' : Heap}, IsEnum h' (s1.heap.objs.size + 1) s1.heap.objs.size 0 .none → (∀ b o, s1.heap.get? b = some o → h'.get? b = some o) → Turn X.prog X.w X.K (.Tuple elts kk tpos) J [s1.heap.objs.size + 1, s1.heap.objs.size] (s1.heap.objs.size + 1) tn → tn 0 h' → R J H1 →
        wpAny (model X.prog X.w) X.A (pyIter (.ref (s1.heap.objs.size + 1))) (PIE X pins σ (.Tuple elts kk tpos) R) X.xe { s1 with heap := h' } := fun {J tn h'} he hk T t q => by
      refine wpAny_pyIter_enum he ?_
      have I2 : Inv X pins σ H1 { s1 with heap := h' } := I1.kept (t' := s1.toks) hk
      refine ⟨s1.heap.objs.size + 1, [s1.heap.objs.size + 1, s1.heap.objs.size], _, _, H1, rfl, I2, T, t, fun b hb => ?_, q⟩
      have e' : b = s1.heap.objs.size + 1 ∨ b = s1.heap.objs.size := by simpa using hb
      have hle : s1.heap.objs.size ≤ b := by
        rcases e' with z | z
        · rw [z]; exact Nat.le_add_right _ _
        · rw [z]; exact Nat.le_refl _
      exact I1.fpOk hle (I1.hok.fresh hle)
    rcases hq with ⟨hq, q⟩ | ⟨hq, q⟩
    · obtain ⟨its, rv, p', hz⟩ := I1.list hq
      exact call_enumerate_list p'.isList fun h' he hit hsz hk => fin he hk (turn_enum a (s1.heap.objs.size + 1) s1.heap.objs.size) ⟨⟨.none, he⟩, hit, Nat.succ_ne_self _⟩ q
    · obtain ⟨its, rv, p', hz⟩ := I1.tuple hq
      have la : a < s1.heap.objs.size := by obtain ⟨o, e, _⟩ := p'; exact Heap.lt_size e
      exact callT p' fun h' he hit hk => fin he hk (turnT a (s1.heap.objs.size + 1) s1.heap.objs.size (Nat.ne_of_lt (Nat.lt_succ_of_lt la)) (Nat.ne_of_lt la) (Nat.succ_ne_self _)) ⟨⟨.none, he⟩, hit⟩ q
end EnT
namespace DL
open PySem L2

/-! ### lists just made -/
def FinN (C : Ct) (E : XK) (G : Gh) (H : Hp) (r : R (List D)) (Q : VK) : Prop := match r with
  | .ok l η' => ∀ p vs G' H', Nx G H G' H' → Rh C G' H' η' → Rps C G' H' l vs → l.length ≤ sizeLine → H' p = none → Q (.ref p) (upd H' p (.lst vs))
  | .exc c ns l η' => ∀ x vs G' H', Nx G H G' H' → Rh C G' H' η' → Xd G' H' x (ns.zip vs) → Rps C G' H' l vs → E (.ref (C.cl c)) (some x) H'
  | .bad => False
def tN (C : Ct) (W : WX) (f : F (List D)) : TE := fun σ H Q => ∃ G δ η, At C G H δ σ η ∧ FinN C (fun c d H' => W c d σ H') G H (f δ η) Q
abbrev FN (C : Ct) (W : WX) (X : Cx) (e : Expr) (f : F (List D)) : Prop := PE X e (tN C W f)
section
variable {X : Cx} {C : Ct} {W : WX} {pos p2 : Pos} {e a b : Expr} {es : List Expr} {fe fa fb : F D} {fs fn : F (List D)}
theorem FinN.of {E : XK} {G G1 : Gh} {H H1 : Hp} {η1 : List O} {l : List D} {vs : List V} {Q : VK} (x : Nx G H G1 H1) (h : FinN C E G H (.ok l η1) Q) (r : Rh C G1 H1 η1) (q : Rps C G1 H1 l vs) (hz : l.length ≤ sizeLine) {p : Addr} (hp : H1 p = none) : Q (.ref p) (upd H1 p (.lst vs)) := h p vs G1 H1 x r q hz hp
theorem tN.bind {α β : Type} {Rel : Gh → Hp → α → β → Prop} {G : Gh} {H : Hp} {δ : En} {σ : St} {η : List O} {f : F α} {k : α → List O → R (List D)} {Q : β → Hp → Prop} {Q2 : VK} (a : At C G H δ σ η) (fin : FinN C (fun c d H' => W c d σ H') G H ((f δ η).bind k) Q2)
    (h : ∀ x v G1 H1 η1, At C G1 H1 δ σ η1 → Nx G H G1 H1 → Rel G1 H1 x v → FinN C (fun c d H' => W c d σ H') G1 H1 (k x η1) Q2 → Q v H1) : tG C Rel W f σ H Q := by
  refine ⟨G, δ, η, a, ?_⟩
  cases hf : f δ η with
  | ok d η1 =>
    rw [hf] at fin
    refine fun v G1 H1 x q1 q2 => h d v G1 H1 η1 (a.next x q1) x q2 ?_
    have fin : FinN C (fun c d H' => W c d σ H') G H (k d η1) Q2 := fin
    cases hk : k d η1 with
    | ok l η2 => rw [hk] at fin; exact fun p vs G2 H2 y z1 z2 z4 z3 => fin p vs G2 H2 (x.trans y) z1 z2 z4 z3
    | exc c ns l η2 => rw [hk] at fin; exact fun b vs G2 H2 y z1 z2 z3 => fin b vs G2 H2 (x.trans y) z1 z2 z3
    | bad => rw [hk] at fin; exact fin
  | exc c ns l η1 =>
    rw [hf] at fin
    exact fun b vs G1 H1 x q1 q2 q3 => fin b vs G1 H1 x q1 q2 q3
  | bad => rw [hf] at fin; exact fin
/-- as a value that will not change -/
def fFrz (f : F (List D)) : F D := fun δ η => (f δ η).bind fun l η => .ok (.lst l) η
theorem fe_n (h : FN C W X e fn) : FE C W X e (fFrz fn) := PE.imp h fun σ H Q ⟨G, δ, η, a, fin⟩ => by
  refine ⟨G, δ, η, a, ?_⟩
  unfold fFrz at fin
  cases hf : fn δ η with
  | ok l η1 =>
    rw [hf] at fin
    exact fun p vs G1 H1 x r q hz hp => fin _ G1 _ (x.trans (Nx.alloc hp)) (r.alloc hp) (.newLst r hp hz q)
  | exc c ns l η1 => rw [hf] at fin; exact fin
  | bad => rw [hf] at fin; exact fin
def fLstN (fs : F (List D)) : F (List D) := fun δ η => (fs δ η).bind fun ds η => if ds.length ≤ sizeLine then .ok ds η else .bad
theorem fn_lst (h : FA C W X es fs) : FN C W X (.List es pos) (fLstN fs) := by
  refine PE.imp (pe_lst h) fun σ H Q ⟨G, δ, η, at0, fin⟩ => ?_
  refine tN.bind at0 fin fun d v G1 H1 η1 a1 x1 r1 fin1 => ?_
  split at fin1
  · rename_i hz
    exact ⟨by rw [← r1.length]; exact hz, fun p hp => FinN.of Nx.refl fin1 a1.he r1 hz hp⟩
  · exact fin1.elim
/-- list(e) -/
def itemsD : D → Option (List D)
  | .lst l => some l
  | .tup l => some l
  | _ => none
def fListN (fa : F D) : F (List D) := fun δ η => (fa δ η).bind fun d η => lift (itemsD d) η
theorem fn_list {x : Str} {p : Pos} (hK : X.K = C.K) (hm : X.mg x = none) (ha : FU C W X e fe) (hs : starEach [e] X.env = [(false, eval e X.env)] := by rfl) (hg : Gl X x := by rfl) (hv : bootBuiltins x = some (.type "list") := by decide +kernel) (hn : x ≠ "__name__" := by decide) (hdb : (x == ("__debug__" : Str)) = false := by decide)
    (he : starEach [e] X.env = (false, eval e X.env) :: starEach [] X.env := by rfl) (hpl : (backTo pos (starEach [] X.env)).any (·.1) = false := by rfl) : FN C W X (.Call (.Name x p) [e] [] pos) (fListN fe) := by
  refine PE.imp (pe_callTy call_list_of hg hm hv (pa_cons ha pa_nil hs) hn hdb he hpl) fun σ H Q ⟨G, δ, η, at0, fin⟩ => ?_
  refine tN.bind at0 fin fun d v G1 H1 η1 a1 x1 r1 fin1 => ?_
  unfold itemsD at fin1
  split at fin1
  · have hz := r1.lstZ
    obtain ⟨a, vs, rfl, hq, hrs⟩ := r1.lst
    rw [← hK] at hq
    exact ⟨a, vs, rfl, .inl hq, fun l hl => FinN.of Nx.refl fin1 a1.he hrs hz hl⟩
  · have hz := r1.tupZ
    obtain ⟨a, vs, rfl, hq, hrs⟩ := r1.tup
    rw [← hK] at hq
    exact ⟨a, vs, rfl, .inr hq, fun l hl => FinN.of Nx.refl fin1 a1.he hrs hz hl⟩
  · exact fin1.elim
/-! ### a frame's own lists: made, changed -/
def sOwn (i : Nat) (f : F (List D)) : S := fun δ η => (f δ η).toS δ fun l η => .nx (δ.set i (some (.own l))) η
theorem fs_own {i : Nat} {st : Stmt} (h : PS X st (tAsg (tN C W fn) (gName i))) : FS C W X st (sOwn i fn) := PS.imp h fun Dn σ H ⟨B, G, δ, η, h, fin⟩ => by
  refine ⟨G, δ, η, h.a, ?_⟩
  unfold sOwn at fin
  cases hf : fn δ η with
  | ok l η1 =>
    rw [hf] at fin
    exact fun p vs G1 H1 x r q hz hp => fin _ _ _ ((h.next x r).setOwn hp hz q)
  | exc c ns l η1 => rw [hf] at fin; exact fun b vs G1 H1 x r q1 q2 => fin b vs G1 H1 σ (h.next x r) q1 q2
  | bad => rw [hf] at fin; exact fin
def sApp (i : Nat) (f : F D) : S := fun δ η => match δ[i]? with
  | some (some (.own l)) => (f δ η).toS δ fun d η => if l.length < sizeLine then .nx (δ.set i (some (.own (l ++ [d])))) η else .bad
  | _ => .bad
/-! ### an item of an object of the store: o[i] = e (o a mutable list) -/
def sSetO (fe fa fb : F D) : S := fun δ η => (fe δ η).toS δ fun d η => (fa δ η).toS δ fun o η => (fb δ η).toS δ fun k η => match o, k with
  | .obj n, .int i => match η[n]? with
    | some (.lst l) => match ixN l.length i with
      | some j => .nx δ (η.set n (.lst (l.set j d)))
      | none => .bad
    | _ => .bad
  | _, _ => .bad
theorem fs_setO {st : Stmt} (h : PS X st (tAsg (tG C (Rp C) W fe) (gSub (tG C (Rp C) W fa) (tG C (Rp C) W fb) rSetL))) : FS C W X st (sSetO fe fa fb) := PS.imp h fun Dn σ H ⟨B, G, δ, η, h, fin⟩ => by
  refine tG.bindS h fin fun d v G1 H1 η1 h1 x1 r1 fin1 => ?_
  refine tG.bindS h1 fin1 fun o w G2 H2 η2 h2 x2 r2 fin2 => ?_
  refine tG.bindS h2 fin2 fun k u G3 H3 η3 h3 x3 r3 fin3 => ?_
  have r1' := (r1.stab (x2.stab h1.a.he)).stab (x3.stab h2.a.he)
  have r2' := r2.stab (x3.stab h2.a.he)
  split at fin3
  · rename_i n i
    split at fin3
    · rename_i l hl
      split at fin3
      · rename_i j hj
        cases r3
        cases r2' with
        | @obj _ p ho =>
          obtain ⟨m, q⟩ := h3.a.he.ob n _ _ hl ho
          cases q with
          | @lst _ vs _ e zz rs =>
            refine ⟨p, vs, i, j, rfl, rfl, e, by rw [← rs.length]; exact hj, ?_⟩
            have nx : Nx G3 H3 G3 (upd H3 p (.lst (vs.set j v))) := Nx.chObj ho (by rw [e]; exact fun z => by cases z)
            have st := nx.stab h3.a.he
            exact fin3 G3 _ σ (h3.next nx (h3.a.he.chObj ho (.lst upd_same (by rw [List.length_set]; exact zz) ((rs.set r1' j).stab st))))
      · exact fin3.elim
    · exact fin3.elim
  · exact fin3.elim

/-! ### what is walked -/
/-- the items of a walk, wherever the heap has gone by steps that leave standing things -/
def ItOk (C : Ct) (G : Gh) (H : Hp) (J : It) (ds : List D) : Prop := ds.length ≤ sizeLine ∧ ∀ G2 H2, Stab G H G2 H2 → (∀ a, G2.M a → H2 a ≠ none) → J.stop ds.length H2 ∧
  ∀ (i : Nat) (d : D), ds[i]? = some d → J.go i H2 ∧ ∀ x H3, J.yld i H2 x H3 → (∀ a o, H2 a = some o → H3 a = some o) ∧ Rp C G2 H3 d x
def FinI (C : Ct) (E : XK) (G : Gh) (H : Hp) (r : R (List D)) (K : It → Hp → Prop) : Prop := match r with
  | .ok ds η' => ∀ J G' H', Nx G H G' H' → Rh C G' H' η' → ItOk C G' H' J ds → K J H'
  | .exc c ns l η' => ∀ x vs G' H', Nx G H G' H' → Rh C G' H' η' → Xd G' H' x (ns.zip vs) → Rps C G' H' l vs → E (.ref (C.cl c)) (some x) H'
  | .bad => False
def tI (C : Ct) (W : WX) (f : F (List D)) : TI := fun σ H R => ∃ G δ η, At C G H δ σ η ∧ FinI C (fun c d H' => W c d σ H') G H (f δ η) R
abbrev FI (C : Ct) (W : WX) (X : Cx) (tg e : Expr) (f : F (List D)) : Prop := PI X tg e (tI C W f)
theorem PI.imp {X : Cx} {tg e : Expr} {t t' : TI} (h : PI X tg e t) (i : ∀ σ H Q, t' σ H Q → t σ H Q) : PI X tg e t' := ⟨fun pins s σ H Q I q => h.run pins s σ H Q I (i _ _ _ q)⟩
theorem FinI.next {E : XK} {G G' : Gh} {H H' : Hp} {r : R (List D)} {K : It → Hp → Prop} (h : FinI C E G H r K) (x : Nx G H G' H') : FinI C E G' H' r K := by
  cases r with
  | ok d η' => exact fun v G2 H2 y q1 q2 => h v G2 H2 (x.trans y) q1 q2
  | exc c ns l η' => exact fun a vs G2 H2 y q1 q2 q3 => h a vs G2 H2 (x.trans y) q1 q2 q3
  | bad => exact h
theorem tI.bind {α β : Type} {Rel : Gh → Hp → α → β → Prop} {f : F α} {k : α → List O → R (List D)} {G : Gh} {δ : En} {η : List O} {σ : St} {H : Hp} {R : It → Hp → Prop} {Q : β → Hp → Prop} (a : At C G H δ σ η) (fin : FinI C (fun c d H' => W c d σ H') G H ((f δ η).bind k) R)
    (h : ∀ x v G1 H1 η1, At C G1 H1 δ σ η1 → Nx G H G1 H1 → Rel G1 H1 x v → FinI C (fun c d H' => W c d σ H') G1 H1 (k x η1) R → Q v H1) : tG C Rel W f σ H Q := by
  refine ⟨G, δ, η, a, ?_⟩
  cases hf : f δ η with
  | ok d η1 =>
    rw [hf] at fin
    exact fun v G1 H1 x q1 q2 => h d v G1 H1 η1 (a.next x q1) x q2 (FinI.next (r := k d η1) fin x)
  | exc c ns l η1 => rw [hf] at fin; exact fin
  | bad => rw [hf] at fin; exact fin
/-- a list that stands still -/
theorem itList (hK : X.K = C.K) {G : Gh} {H : Hp} {a : Addr} {vs : List V} {l : List D} (h : LAt C G H a vs) (z : l.length ≤ sizeLine) (r : Rps C G H l vs) : ItOk C G H (Itl X.K a) l := ⟨z, fun G2 H2 st mh => by
  have h2 := (h.stab st).sq
  rw [← hK] at h2
  have r2 := r.stab st
  refine ⟨⟨vs, h2, Nat.le_of_eq r2.length.symm⟩, fun i d hd => ?_⟩
  obtain ⟨v, e1, e2⟩ := r2.get hd
  refine ⟨⟨vs, v, h2, e1⟩, fun x H3 ⟨y1, y2⟩ => ?_⟩
  subst y1
  have := y2 vs h2
  rw [e1] at this
  cases this
  exact ⟨fun _ _ z => z, e2⟩⟩
theorem itTup (hK : X.K = C.K) {G : Gh} {H : Hp} {a : Addr} {vs : List V} {l : List D} (h : TAt C G H a vs) (z : l.length ≤ sizeLine) (r : Rps C G H l vs) : ItOk C G H (Itt X.K a) l := ⟨z, fun G2 H2 st mh => by
  have h2 := (h.stab st).sq
  rw [← hK] at h2
  have r2 := r.stab st
  refine ⟨⟨vs, h2, Nat.le_of_eq r2.length.symm⟩, fun i d hd => ?_⟩
  obtain ⟨v, e1, e2⟩ := r2.get hd
  refine ⟨⟨vs, v, h2, e1⟩, fun x H3 ⟨y1, y2⟩ => ?_⟩
  subst y1
  have := y2 vs h2
  rw [e1] at this
  cases this
  exact ⟨fun _ _ z => z, e2⟩⟩
def lstOf : D → Option (List D)
  | .lst l => some l
  | _ => none
def tupOf : D → Option (List D)
  | .tup l => some l
  | _ => none
def fiL (fa : F D) : F (List D) := fun δ η => (fa δ η).bind fun d η => lift (lstOf d) η
def fiT (fa : F D) : F (List D) := fun δ η => (fa δ η).bind fun d η => lift (tupOf d) η
variable {tg : Expr}
theorem fi_lst (hK : X.K = C.K) (he : FE C W X e fe) : FI C W X tg e (fiL fe) := PI.imp (pi_list he) fun σ H R ⟨G, δ, η, a0, fin0⟩ => tI.bind a0 fin0 fun d v G1 H1 η1 a1 x1 r1 fin => by
  cases r1 with
  | lst h z r =>
    have h2 := h.sq
    rw [← hK] at h2
    exact ⟨_, rfl, ⟨_, h2⟩, fin _ G1 H1 Nx.refl a1.he (itList hK h z r)⟩
  | _ => exact fin.elim
theorem fi_tup (hK : X.K = C.K) (he : FE C W X e fe) : FI C W X tg e (fiT fe) := PI.imp (pi_tup he) fun σ H R ⟨G, δ, η, a0, fin0⟩ => tI.bind a0 fin0 fun d v G1 H1 η1 a1 x1 r1 fin => by
  cases r1 with
  | tup h z r =>
    have h2 := h.sq
    rw [← hK] at h2
    exact ⟨_, rfl, ⟨_, h2⟩, fin _ G1 H1 Nx.refl a1.he (itTup hK h z r)⟩
  | _ => exact fin.elim
/-- range(n) -/
def rngD (lo : Int) (n : Nat) : List D := (List.range n).map fun (k : Nat) => D.int (lo + (k : Int))
def fiR1 (fa : F D) : F (List D) := fun δ η => (fa δ η).bind fun d η => match d with
  | .int j => if j ≤ 16777216 ∧ -16777216 ≤ j then .ok (rngD 0 j.toNat) η else .bad
  | _ => .bad
theorem itRng {G : Gh} {H : Hp} {lo : Int} {n : Nat} (z : n ≤ sizeLine) : ItOk C G H (Itr lo n) (rngD lo n) := ⟨by simpa [rngD] using z, fun G2 H2 st mh => by
  refine ⟨by show n ≤ (rngD lo n).length; simp [rngD], fun i d hd => ?_⟩
  unfold rngD at hd
  rw [List.getElem?_map] at hd
  cases q : (List.range n)[i]? with
  | none => rw [q] at hd; cases hd
  | some k =>
    rw [q] at hd
    have hlt : i < n := by
      have := (List.getElem?_eq_some_iff.mp q).1
      simpa using this
    have hk : k = i := by
      have := (List.getElem?_eq_some_iff.mp q).2
      simpa using this.symm
    subst hk
    cases hd
    refine ⟨hlt, fun x H3 ⟨y1, y2⟩ => ?_⟩
    subst y1 y2
    exact ⟨fun _ _ z => z, .int _⟩⟩
theorem fi_rng1 {p : Pos} (hm : X.mg "range" = none) (he : FE C W X e fe) (hg : Gl X "range" := by rfl) (hs : starEach [e] X.env = [(false, eval e X.env)] := by rfl) : FI C W X tg (.Call (.Name "range" p) [e] [] pos) (fiR1 fe) :=
  PI.imp (pi_range1 hg hm (pa_cons he pa_nil hs) hs) fun σ H R ⟨G, δ, η, a0, fin0⟩ => tI.bind a0 fin0 fun d v G1 H1 η1 a1 x1 r1 fin => by
    cases r1 with
    | int j =>
      dsimp only at fin
      by_cases hz : j ≤ 16777216 ∧ -16777216 ≤ j
      · rw [if_pos hz] at fin
        exact ⟨j, rfl, by omega, by omega, fin _ G1 H1 Nx.refl a1.he (itRng (by rw [sizeLine_eq]; omega))⟩
      · rw [if_neg hz] at fin
        exact fin.elim
    | _ => exact fin.elim
/-- a text, sign by sign -/
def signsD (z : Str) : List D := z.cps.toList.map fun c => .str ⟨#[c]⟩
def fiS (fa : F D) : F (List D) := fun δ η => (fa δ η).bind fun d η => match d with
  | .str z => if z.length ≤ sizeLine then .ok (signsD z) η else .bad
  | _ => .bad
theorem fi_str (he : FE C W X e fe) : FI C W X tg e (fiS fe) := PI.imp (pi_str he) fun σ H R ⟨G, δ, η, a0, fin0⟩ => tI.bind a0 fin0 fun d v G1 H1 η1 a1 x1 r1 fin => by
  cases r1 with
  | str z okz =>
    dsimp only at fin
    by_cases hz : z.length ≤ sizeLine
    case neg => rw [if_neg hz] at fin; exact fin.elim
    rw [if_pos hz] at fin
    refine ⟨z, rfl, fin _ G1 H1 Nx.refl a1.he ⟨by simpa [signsD, Str.length] using hz, fun G2 H2 st mh => ⟨by show z.cps.size ≤ (signsD z).length; simp [signsD], fun i d hd => ?_⟩⟩⟩
    unfold signsD at hd
    rw [List.getElem?_map] at hd
    cases q : z.cps.toList[i]? with
    | none => rw [q] at hd; cases hd
    | some c =>
      rw [q] at hd
      cases hd
      have hlt : i < z.cps.size := by simpa using (List.getElem?_eq_some_iff.mp q).1
      refine ⟨hlt, fun x H3 ⟨y1, c', y2, y3⟩ => ?_⟩
      subst y1 y3
      rw [show z.cps.toList[i]? = z.cps[i]? from by simp] at q
      rw [q] at y2
      cases y2
      exact ⟨fun _ _ z => z, .str _ (ok_one okz (Array.mem_toList_iff.mpr (Array.mem_of_getElem? q)))⟩
  | _ => exact fin.elim
/-- enumerate(a list) -/
def enumD (l : List D) : List D := l.zipIdx.map fun p => .tup [.int (p.2 : Nat), p.1]
def seqOf : D → Option (List D)
  | .lst l => some l
  | .tup l => some l
  | _ => none
def fiE (fa : F D) : F (List D) := fun δ η => (fa δ η).bind fun d η => (lift (seqOf d) η).bind fun l η => .ok (enumD l) η
theorem fi_enum {p tpos : Pos} {elts : List Expr} {kk : Nat} (hK : X.K = C.K) (hm : X.mg "enumerate" = none) (he : FE C W X e fe) (hg : Gl X "enumerate" := by rfl) (hs : starEach [e] X.env = [(false, eval e X.env)] := by rfl) :
    FI C W X (.Tuple elts kk tpos) (.Call (.Name "enumerate" p) [e] [] pos) (fiE fe) :=
  PI.imp (EnT.pi_enumA hg hm (pa_cons he pa_nil hs) hs) fun σ H R ⟨G, δ, η, a0, fin0⟩ => tI.bind a0 fin0 fun d v G1 H1 η1 a1 x1 r1 fin => by
    cases r1 with
    | @lst a vs l h z r =>
      have h2 := h.sq
      rw [← hK] at h2
      refine ⟨a, vs, rfl, .inl ⟨h2, fin _ G1 H1 Nx.refl a1.he ⟨by simpa [enumD] using z, fun G2 H2 st mh => ?_⟩⟩⟩
      have h3 := (h.stab st).sq
      rw [← hK] at h3
      have r3 := r.stab st
      refine ⟨⟨vs, h3, by simp [enumD, r3.length]⟩, fun i d hd => ?_⟩
      unfold enumD at hd
      rw [List.getElem?_map, List.getElem?_zipIdx] at hd
      cases q : l[i]? with
      | none => rw [q] at hd; cases hd
      | some k =>
        rw [q] at hd
        obtain ⟨w, e1, e2⟩ := r3.get q
        refine ⟨⟨vs, w, h3, e1⟩, fun x H3 ⟨T, y, y1, y2, y3, y4⟩ => ?_⟩
        have := y4 vs h3
        rw [e1] at this
        cases this
        subst y1 y3
        refine ⟨fun b o z => by rw [upd_ne (ne_of_none z y2)]; exact z, ?_⟩
        have hd : D.tup [.int ((0 + i : Nat) : Int), k] = d := Option.some.inj hd
        rw [← hd, Nat.zero_add]
        refine .tup (.inl ⟨.inl upd_same, fun m => mh T m y2⟩) (by rw [sizeLine_eq]; simp) (.cons (.int _) (.cons (e2.stab ?_) .nil))
        exact ⟨fun _ _ z => z, fun b o z m => ⟨by rw [upd_ne (ne_of_none z y2)]; exact z, m⟩⟩
    | @tup a vs l h z r =>
      have h2 := h.sq
      rw [← hK] at h2
      refine ⟨a, vs, rfl, .inr ⟨h2, fin _ G1 H1 Nx.refl a1.he ⟨by simpa [enumD] using z, fun G2 H2 st mh => ?_⟩⟩⟩
      have h3 := (h.stab st).sq
      rw [← hK] at h3
      have r3 := r.stab st
      refine ⟨⟨vs, h3, by simp [enumD, r3.length]⟩, fun i d hd => ?_⟩
      unfold enumD at hd
      rw [List.getElem?_map, List.getElem?_zipIdx] at hd
      cases q : l[i]? with
      | none => rw [q] at hd; cases hd
      | some k =>
        rw [q] at hd
        obtain ⟨w, e1, e2⟩ := r3.get q
        refine ⟨⟨vs, w, h3, e1⟩, fun x H3 ⟨T, y, y1, y2, y3, y4⟩ => ?_⟩
        have := y4 vs h3
        rw [e1] at this
        cases this
        subst y1 y3
        refine ⟨fun b o z => by rw [upd_ne (ne_of_none z y2)]; exact z, ?_⟩
        have hd : D.tup [.int ((0 + i : Nat) : Int), k] = d := Option.some.inj hd
        rw [← hd, Nat.zero_add]
        refine .tup (.inl ⟨.inl upd_same, fun m => mh T m y2⟩) (by rw [sizeLine_eq]; simp) (.cons (.int _) (.cons (e2.stab ?_) .nil))
        exact ⟨fun _ _ z => z, fun b o z m => ⟨by rw [upd_ne (ne_of_none z y2)]; exact z, m⟩⟩
    | _ => exact fin.elim
/-- zip(two lists) -/
def zipD (l m : List D) : List D := (l.zip m).map fun p => .tup [p.1, p.2]
def fiZ (fa fb : F D) : F (List D) := fun δ η => (fa δ η).bind fun d η => (fb δ η).bind fun e η => match d, e with
  | .lst l, .lst m => .ok (zipD l m) η
  | .tup l, .tup m => .ok (zipD l m) η
  | _, _ => .bad
/-! ### for -/
def SR.turn (r : SR) (k : S) : SR := match r with
  | .nx δ η => k δ η
  | .ct δ η => k δ η
  | .bk δ η => .nx δ η
  | r => r
def loopF (t : Tg) (fb : S) : List D → S
  | [], δ, η => .nx δ η
  | x :: r, δ, η => match asg t x δ with
    | none => .bad
    | some δ1 => (fb δ1 η).turn (loopF t fb r)
def sFor (fi : F (List D)) (t : Tg) (fb : S) : S := fun δ η => (fi δ η).toS δ fun ds η => loopF t fb ds δ η
/-- the heap grows by things that no one knows -/
theorem Nx.ext {G : Gh} {H H' : Hp} (k : ∀ a o, H a = some o → H' a = some o) : Nx G H G H' := ⟨fun _ _ h => h, fun a o h _ => k a o h, fun _ _ _ => Iff.rfl, fun _ h => .inl h, fun a h => by
  cases q : H a with
  | none => rfl
  | some o => rw [k a o q] at h; cases h⟩
theorem Rh.ext {G : Gh} {H H' : Hp} {η : List O} (r : Rh C G H η) (k : ∀ a o, H a = some o → H' a = some o) : Rh C G H' η := by
  have x : Nx G H G H' := Nx.ext k
  refine ⟨r.len, r.nd, fun n o a h1 h2 => ?_, fun a m z => r.mh a m (x.there a z)⟩
  obtain ⟨m, q⟩ := r.ob n o a h1 h2
  exact ⟨m, q.stab (x.stab r) fun u hu => k a u hu⟩
theorem fs_for {iter : Expr} {t : Tg} {fi : F (List D)} {body : List Stmt} {fb : S} (hK : X.K = C.K) (hp : PassesOwn (model X.prog X.w) X.A X.env X.xe) (hc : X.calm = true) (hi : FI C W X tg iter fi) (hg : FG X tg t) (hb : FSs C W X body fb)
    (hs : ∀ x, foldedSetIterable iter X.env x = pure x := by intro _; rfl) : FS C W X (.For tg iter body [] pos) (sFor fi t fb) := by
  refine PS.imp (ps_for hp hc hi hg hb hs) fun Dn σ H ⟨B, G, δ, η, h, fin⟩ => ?_
  refine ⟨G, δ, η, h.a, ?_⟩
  unfold sFor at fin
  cases hf : fi δ η with
  | exc c ns l η1 => rw [hf] at fin; exact fun b vs G1 H1 x q1 q2 q3 => fin b vs G1 H1 σ (h.next x q1) q2 q3
  | bad => rw [hf] at fin; exact fin
  | ok ds η1 =>
    rw [hf, toS_ok] at fin
    intro J G1 H1 x1 r1 it
    have h1 := h.next x1 r1
    -- the base for the loop: its own start
    refine ⟨fun i m σ H => m = ds.length - i ∧ i ≤ ds.length ∧ ∃ G δ η, Hold C ⟨B.G, B.H, G1, H1⟩ G H δ σ η ∧ FinS C W B (loopF t fb (ds.drop i) δ η) Dn, ⟨ds.length, by simp, Nat.zero_le _, G1, δ, η1, ⟨h1.a, h1.o, h1.n, .refl⟩, by simpa using fin⟩, ?_⟩
    rintro i m σ2 H2 ⟨rfl, hi, G2, δ2, η2, h2, fin2⟩
    obtain ⟨i1, i2⟩ := it.2 G2 H2 h2.s h2.a.he.mh
    have back : ∀ {G H δ σ η}, Hold C ⟨B.G, B.H, G1, H1⟩ G H δ σ η → Hold C B G H δ σ η := fun z => ⟨z.a, z.o, z.n, h1.s.trans z.s⟩
    by_cases hlt : i < ds.length
    · refine .inr ?_
      obtain ⟨j1, j2⟩ := i2 i ds[i] (by simp [hlt])
      refine ⟨j1, fun σ H => ∃ G δ η, Hold C ⟨B.G, B.H, G1, H1⟩ G H δ σ η ∧ FinS C W B (loopF t fb (ds.drop (i + 1)) δ η) Dn, fun σ' H' z => ⟨ds.length - (i + 1), by omega, rfl, hlt, z⟩, fun x H3 y => ?_⟩
      obtain ⟨k1, k2⟩ := j2 x H3 y
      have nx : Nx G2 H2 G2 H3 := Nx.ext k1
      have h3 := h2.next nx (h2.a.he.ext k1)
      rw [List.drop_eq_getElem_cons hlt, loopF] at fin2
      cases q : asg t ds[i] δ2 with
      | none => rw [q] at fin2; exact fin2.elim
      | some δ3 =>
        rw [q] at fin2
        dsimp only at fin2
        refine gV_ok hK t _ x G2 H3 δ2 δ3 σ2 η2 _ q k2 fun σ3 a3 _ _ => ?_
        refine ⟨⟨B.G, B.H, G1, H1⟩, G2, δ3, η2, a3 _ h3, ?_⟩
        cases hb : fb δ3 η2 with
        | nx δ4 η4 => rw [hb] at fin2; exact fun G4 H4 σ4 z => ⟨G4, δ4, η4, z, fin2⟩
        | ct δ4 η4 => rw [hb] at fin2; exact fun G4 H4 σ4 z => ⟨G4, δ4, η4, z, fin2⟩
        | bk δ4 η4 => rw [hb] at fin2; exact fun G4 H4 σ4 z => fin2 G4 H4 σ4 (back z)
        | rt d η4 => rw [hb] at fin2; exact fin2
        | exc c ns l δ4 η4 => rw [hb] at fin2; exact fun x vs G4 H4 σ4 z => fin2 x vs G4 H4 σ4 (back z)
        | bad => rw [hb] at fin2; exact fin2
    · have e : i = ds.length := by omega
      subst e
      refine .inl ⟨i1, ?_⟩
      rw [List.drop_length, loopF] at fin2
      exact fin2 G2 H2 σ2 (back h2)

/-! ### comprehensions -/
def wipeD (δ : En) : List Nat → En
  | [] => δ
  | v :: vs => (wipeD δ vs).set v none
/-- nothing is raised within a comprehension -/
def R.nox {α : Type} (r : R α) : R α := match r with
  | .exc _ _ _ _ => .bad
  | r => r
@[simp] theorem nox_ok {α : Type} {a : α} {η : List O} : (R.ok a η).nox = .ok a η := rfl
@[simp] theorem nox_bad {α : Type} : (R.bad : R α).nox = .bad := rfl
@[simp] theorem nox_exc {α : Type} {c : Nat} {ns : List Str} {l : List D} {η : List O} : (R.exc c ns l η : R α).nox = .bad := rfl
def compF (t : Tg) (ft : F Bool) (fe : F D) (δw : En) : List D → List O → R (List D)
  | [], η => .ok [] η
  | x :: r, η => match asg t x δw with
    | none => .bad
    | some δ1 => (ft δ1 η).nox.bind fun b η => if b = true then (fe δ1 η).nox.bind fun y η => (compF t ft fe δw r η).bind fun ys η => .ok (y :: ys) η else compF t ft fe δw r η
/-- with what has been made -/
def fLc (vs : List Nat) (fi : F (List D)) (t : Tg) (ft : F Bool) (fe : F D) : F (List D) := fun δ η => (fi δ η).bind fun ds η => compF t ft fe (wipeD δ vs) ds η
theorem wipe_at {G : Gh} {H : Hp} {η : List O} : ∀ (vs : List Nat) {δ : En} {σ : St}, At C G H δ σ η → At C G H (wipeD δ vs) (wipe σ vs) η
  | [], _, _, a => a
  | v :: vs, δ, σ, a => by
    have b := wipe_at vs a
    have get : ∀ {j : Nat} {l : L}, (wipeD δ (v :: vs))[j]? = some (some l) → j ≠ v ∧ (wipeD δ vs)[j]? = some (some l) := fun {j l} h => by
      rcases getSet h with ⟨_, z⟩ | z
      · cases z
      · exact z
    have gs : ∀ {j : Nat}, j ≠ v → (wipe σ (v :: vs))[j]? = (wipe σ vs)[j]? := fun {j} h => by
      show ((wipe σ vs).set v none)[j]? = _
      rw [List.getElem?_set_ne (Ne.symm h)]
    refine ⟨?_, fun j l h => ?_, fun j k l l' w hne h1 h2 o1 o2 s1 s2 => ?_, fun j l c h o s => ?_, b.he⟩
    · show ((wipeD δ vs).set v none).length = ((wipe σ vs).set v none).length
      rw [List.length_set, List.length_set]; exact b.len
    · obtain ⟨h1, h2⟩ := get h
      rw [gs h1]; exact b.sl j l h2
    · obtain ⟨e1, h1⟩ := get h1
      obtain ⟨e2, h2⟩ := get h2
      rw [gs e1] at s1
      rw [gs e2] at s2
      exact b.un j k l l' w hne h1 h2 o1 o2 s1 s2
    · obtain ⟨e, h⟩ := get h
      rw [gs e] at s
      exact b.nad j l c h o s
theorem wipe_get (σ : St) : ∀ (vs : List Nat) (i : Nat), (wipe σ vs)[i]? = if i ∈ vs then σ[i]?.map (fun _ => none) else σ[i]?
  | [], i => by simp [wipe]
  | v :: vs, i => by
    show ((wipe σ vs).set v none)[i]? = _
    by_cases e : v = i
    · subst e
      rw [List.getElem?_set_self', wipe_get σ vs v]
      by_cases h : v ∈ vs
      · simp [h]; cases σ[v]? <;> rfl
      · simp [h]; cases σ[v]? <;> rfl
    · rw [List.getElem?_set_ne e, wipe_get σ vs i]
      have : i ∈ v :: vs ↔ i ∈ vs := by simp [Ne.symm e]
      simp only [this]
theorem wipe_same {vs : List Nat} {σ σ' : St} (h : Same' vs (wipe σ vs) σ') : wipe σ' vs = wipe σ vs := by
  apply List.ext_getElem?
  intro i
  rw [wipe_get, wipe_get]
  by_cases hi : i ∈ vs
  · rw [if_pos hi, if_pos hi]
    have hl : σ'.length = σ.length := by rw [h.1, wipe_length]
    by_cases hz : i < σ.length
    · rw [List.getElem?_eq_getElem hz, List.getElem?_eq_getElem (by omega)]; rfl
    · rw [List.getElem?_eq_none (by omega), List.getElem?_eq_none (by omega)]
  · rw [if_neg hi, if_neg hi, h.2 i hi, wipe_get, if_neg hi]
end
end DL
namespace DL
open PySem L2
open PyProof.Rows (envOfC)
section
variable {X : Cx} {C : Ct} {W : WX} {pos p2 : Pos} {e a b : Expr} {es : List Expr} {fe fa fb : F D} {fs fn : F (List D)} {tg : Expr}

/-! ### the new list of a comprehension, taken out of the heap -/
def out (H : Hp) (p : Addr) : Hp := fun b => if b = p then none else H b
theorem out_upd {H : Hp} {p : Addr} {o : HO} (h : H p = some o) : upd (out H p) p o = H := by
  funext b
  by_cases e : b = p
  · subst e; rw [upd_same, h]
  · rw [upd_ne e]; unfold out; rw [if_neg e]
theorem out_ne {H : Hp} {p b : Addr} (h : b ≠ p) : out H p b = H b := by unfold out; rw [if_neg h]
theorem out_same {H : Hp} {p : Addr} : out H p p = none := by unfold out; rw [if_pos rfl]
theorem Stab.out {G : Gh} {H : Hp} {p : Addr} (m : G.M p) : Stab G H (G.sub p) (out H p) := ⟨fun _ _ h => h, fun a o h n => ⟨by rw [out_ne (fun e => n (by rw [e]; exact m))]; exact h, fun z => n z.1⟩⟩
theorem Rh.out {G : Gh} {H : Hp} {η : List O} {p : Addr} (r : Rh C G H η) (m : G.M p) (np : p ∉ G.ads) : Rh C (G.sub p) (out H p) η := by
  refine ⟨r.len, r.nd, fun n o a h1 h2 => ?_, fun a z => ?_⟩
  · obtain ⟨q, h⟩ := r.ob n o a h1 h2
    have ne : a ≠ p := fun e => np (by rw [← e]; exact List.mem_of_getElem? h2)
    exact ⟨⟨q, ne⟩, h.stab (Stab.out m) fun u hu => by rw [out_ne ne]; exact hu⟩
  · rw [out_ne z.2]; exact r.mh a z.1
theorem Nx.out {G G' : Gh} {H H' : Hp} {p : Addr} (x : Nx G H G' H') (hp : H p = none) (m : G'.M p) : Nx G H (G'.sub p) (DL.out H' p) := by
  have ne : ∀ {a o}, H a = some o → a ≠ p := fun h e => by rw [e, hp] at h; cases h
  refine ⟨x.ads, fun a o h n => by rw [out_ne (ne h)]; exact x.keep a o h n, fun a o h => ⟨fun z => (x.mu a o h).mp z.1, fun z => ⟨(x.mu a o h).mpr z, ne h⟩⟩, x.new, fun a h => ?_⟩
  by_cases e : a = p
  · rw [e]; exact hp
  · rw [out_ne e] at h; exact x.there a h

/-- the new list grows -/
theorem Stab.temp {G : Gh} {H : Hp} {p : Addr} {o : HO} (m : G.M p) : Stab G H G (upd H p o) := ⟨fun _ _ h => h, fun b u h n => ⟨by rw [upd_ne (fun e => n (by rw [e]; exact m))]; exact h, n⟩⟩
theorem Nx.temp {G G' : Gh} {H H' : Hp} {p : Addr} {o : HO} (x : Nx G H G' H') (hp : H p = none) : Nx G H G' (upd H' p o) := by
  have ne : ∀ {a u}, H a = some u → a ≠ p := fun h e => by rw [e, hp] at h; cases h
  refine ⟨x.ads, fun a u h n => by rw [upd_ne (ne h)]; exact x.keep a u h n, x.mu, x.new, fun a h => ?_⟩
  by_cases e : a = p
  · rw [e]; exact hp
  · rw [upd_ne e] at h; exact x.there a h
theorem At.temp {G : Gh} {H : Hp} {δ : En} {σ : St} {η : List O} {p : Addr} {o : HO} (a : At C G H δ σ η) (no : ∀ (i : Nat) (l : L), δ[i]? = some (some l) → l.owns = true → σ[i]? ≠ some (some (V.ref p))) (m : G.M p) (np : p ∉ G.ads) : At C G (upd H p o) δ σ η := by
  have st : Stab G H G (upd H p o) := Stab.temp m
  have keep : ∀ a u, a ≠ p → H a = some u → upd H p o a = some u := fun a u e z => by rw [upd_ne e]; exact z
  refine ⟨a.len, fun i l h => ?_, a.un, a.nad, ⟨a.he.len, a.he.nd, fun n u b h1 h2 => ?_, fun b z => ?_⟩⟩
  · obtain ⟨v, h1, h2⟩ := a.sl i l h
    refine ⟨v, h1, ?_⟩
    cases h2 with
    | val r => exact .val (r.stab st)
    | own m e z r => exact .own m (keep _ _ (fun q => no i _ h rfl (by rw [h1, q])) e) z (r.stab st)
    | oins m e n r => exact .oins m (keep _ _ (fun q => no i _ h rfl (by rw [h1, q])) e) n (r.stab st)
  · obtain ⟨q, r⟩ := a.he.ob n u b h1 h2
    exact ⟨q, r.stab st fun w hw => keep _ _ (fun e => np (by rw [← e]; exact List.mem_of_getElem? h2)) hw⟩
  · by_cases e : b = p
    · rw [e, upd_same]; exact fun z => by cases z
    · rw [upd_ne e]; exact a.he.mh b z

/-! ### comprehensions -/
abbrev FTs (C : Ct) (X : Cx) (ifs : List Expr) (f : F Bool) : Prop := PTs X ifs (tG C RB WX0 f)
theorem PTs.imp {X : Cx} {e : List Expr} {t t' : TT} (h : PTs X e t) (i : ∀ σ H Q, t' σ H Q → t σ H Q) : PTs X e t' := ⟨fun pins s σ H Q I q => h.run pins s σ H Q I (i _ _ _ q)⟩
def fYes : F Bool := fun _ η => .ok true η
theorem fts_nil : FTs C X [] fYes := PTs.imp pts_nil fun σ H Q ⟨G, δ, η, a, fin⟩ => fin true G H Nx.refl a.he rfl
theorem fts_one {c : Expr} {f : F Bool} (h : FT C WX0 X c f) : FTs C X [c] f := pts_one h
/-- all but the context's handlers -/
theorem lc_of {t : Tg} {fi : F (List D)} {ft : F Bool} {vs : List Nat} (hK : X.K = C.K) (hvs : ∀ i ∈ t.sl, i ∈ vs) {σ : St} {H : Hp} {Q : VK} (h : tN C W (fLc vs fi t ft fe) σ H Q) :
    tLc (tI C W fi) (gV X.K t) (tG C RB WX0 ft) (tG C (Rp C) WX0 fe) vs σ H Q := by
  obtain ⟨G, δ, η, a, fin⟩ := h
  refine ⟨G, δ, η, a, ?_⟩
  unfold fLc at fin
  cases hf : fi δ η with
  | exc c ns l η1 => rw [hf] at fin; exact fin
  | bad => rw [hf] at fin; exact fin
  | ok ds η1 =>
    rw [hf, bind_ok] at fin
    intro J G1 H1 x1 r1 it D hD
    have a1 := a.next x1 r1
    have noD : ∀ (i : Nat) (l : L), (wipeD δ vs)[i]? = some (some l) → l.owns = true → (wipe σ vs)[i]? ≠ some (some (V.ref D)) := fun i l h1 h2 h3 => by
      obtain ⟨v, e1, e2⟩ := (wipe_at vs a1).sl i l h1
      rw [h3] at e1
      cases e1
      cases e2 with
      | val _ => cases h2
      | own m e z r => rw [hD] at e; cases e
      | oins m e n r => rw [hD] at e; cases e
    -- what remains to be made
    have E1 : ∀ {c d H'}, (fun (c : Value) (d : Option Addr) (H' : Hp) => W c d σ H') c d H' → (fun (c : Value) (d : Option Addr) (H' : Hp) => W c d σ H') c d H' := fun z => z
    refine ⟨fun i m H2 => m = ds.length - i ∧ i ≤ ds.length ∧ ∃ G2 η2 acc avs, At C G2 H2 (wipeD δ vs) (wipe σ vs) η2 ∧ Nx G1 H1 G2 H2 ∧ G2.M D ∧ D ∉ G2.ads ∧ Stab G1 H1 G2 H2 ∧ H2 D = some (.lst avs) ∧ Rps C G2 H2 acc avs ∧ acc.length ≤ i ∧
        FinN C (fun c d H' => W c d σ H') G H ((compF t ft fe (wipeD δ vs) (ds.drop i) η2).bind fun l η => .ok (acc ++ l) η) Q, ?_, ?_⟩
    · refine ⟨ds.length, by simp, Nat.zero_le _, G1.add D, η1, [], [], (wipe_at vs a1).next (Nx.add hD) (a1.he.add hD), Nx.add hD, .inr rfl, fun hm => a1.he.mh D (a1.he.adsM hm) hD, Stab.add hD, upd_same, .nil, Nat.le_refl _, ?_⟩
      have e : (compF t ft fe (wipeD δ vs) (ds.drop 0) η1).bind (fun l η => R.ok ([] ++ l) η) = compF t ft fe (wipeD δ vs) ds η1 := by
        rw [List.drop_zero]
        cases compF t ft fe (wipeD δ vs) ds η1 <;> rfl
      rw [e]
      exact fin
    · rintro i m H2 ⟨rfl, hi, G2, η2, acc, avs, a2, x2, mD, nD, s2, hL, rA, lA, fin2⟩
      obtain ⟨i1, i2⟩ := it.2 G2 H2 s2 a2.he.mh
      by_cases hlt : i < ds.length
      · refine .inr ?_
        obtain ⟨j1, j2⟩ := i2 i ds[i] (by simp [hlt])
        refine ⟨j1, fun H2 => ∃ G2 η2 acc avs, At C G2 H2 (wipeD δ vs) (wipe σ vs) η2 ∧ Nx G1 H1 G2 H2 ∧ G2.M D ∧ D ∉ G2.ads ∧ Stab G1 H1 G2 H2 ∧ H2 D = some (.lst avs) ∧ Rps C G2 H2 acc avs ∧ acc.length ≤ i + 1 ∧
            FinN C (fun c d H' => W c d σ H') G H ((compF t ft fe (wipeD δ vs) (ds.drop (i + 1)) η2).bind fun l η => .ok (acc ++ l) η) Q, fun H' z => ⟨ds.length - (i + 1), by omega, rfl, hlt, z⟩, fun x H3 y => ?_⟩
        obtain ⟨k1, k2⟩ := j2 x H3 y
        have nx3 : Nx G2 H2 G2 H3 := Nx.ext k1
        have a3 := a2.next nx3 (a2.he.ext k1)
        have hL3 := k1 _ _ hL
        have rA3 := rA.stab (nx3.stab a2.he)
        have s3 := s2.trans (nx3.stab a2.he)
        have x3 := x2.trans nx3
        rw [List.drop_eq_getElem_cons hlt, compF] at fin2
        cases q : asg t ds[i] (wipeD δ vs) with
        | none => rw [q] at fin2; exact fin2.elim
        | some δ3 =>
          rw [q] at fin2
          dsimp only at fin2
          refine gV_ok hK t _ x G2 H3 _ δ3 _ η2 _ q k2 fun σ3 _ b3 c3 => ⟨wipe_same (c3.mono hvs), ?_⟩
          have a4 := b3 a3
          -- back from the turn's slots
          have back : ∀ {G' H' η'}, Nx G2 H3 G' H' → Rh C G' H' η' → At C G' H' (wipeD δ vs) (wipe σ vs) η' := fun x r => a3.next x r
          refine ⟨G2, δ3, η2, a4, ?_⟩
          cases ht : ft δ3 η2 with
          | exc c ns l η4 => rw [ht] at fin2; exact fin2.elim
          | bad => rw [ht] at fin2; exact fin2.elim
          | ok bb η4 =>
            rw [ht, nox_ok, bind_ok] at fin2
            intro b' G4 H4 x4 r4 eb
            have eb : bb = b' := eb
            subst eb
            have mD4 := (x4.mu _ _ hL3).mpr mD
            have nD4 : D ∉ G4.ads := fun z => (x4.new D z).elim nD fun z => by rw [hL3] at z; cases z
            have hL4 := x4.keep _ _ hL3 nD
            have st4 := x4.stab a3.he
            cases bb with
            | false =>
              rw [if_neg Bool.false_ne_true] at fin2 ⊢
              exact ⟨G4, η4, acc, avs, back x4 r4, x3.trans x4, mD4, nD4, s3.trans st4, hL4, rA3.stab st4, by omega, fin2⟩
            | true =>
              rw [if_pos rfl] at fin2 ⊢
              refine ⟨G4, δ3, η4, a4.next x4 r4, ?_⟩
              cases he : fe δ3 η4 with
              | exc c ns l η5 => rw [he] at fin2; exact fin2.elim
              | bad => rw [he] at fin2; exact fin2.elim
              | ok yd η5 =>
                rw [he, nox_ok, bind_ok] at fin2
                intro yv G5 H5 x5 r5 ry
                have x45 := x4.trans x5
                have mD5 := (x45.mu _ _ hL3).mpr mD
                have nD5 : D ∉ G5.ads := fun z => (x45.new D z).elim nD fun z => by rw [hL3] at z; cases z
                have hL5 := x45.keep _ _ hL3 nD
                have st5 := x45.stab a3.he
                have a5 := back x45 r5
                have up : Stab G5 H5 G5 (upd H5 D (.lst (avs ++ [yv]))) := ⟨fun _ _ h => h, fun b o h m => ⟨by rw [upd_ne (fun e => m (by rw [e]; exact mD5))]; exact h, m⟩⟩
                refine ⟨avs, hL5, ?_, G5, η5, acc ++ [yd], avs ++ [yv], ?_, ?_, mD5, nD5, (s3.trans st5).trans up, upd_same, ((rA3.stab st5).append (.cons ry .nil)).stab up, by rw [List.length_append, List.length_singleton]; omega, ?_⟩
                · have := rA.length
                  have := it.1
                  omega
                · exact a5.temp noD mD5 nD5
                · exact (x3.trans x45).temp hD
                · have e : ((compF t ft fe (wipeD δ vs) (ds.drop (i + 1)) η5).bind fun ys η => R.ok (yd :: ys) η).bind (fun l η => R.ok (acc ++ l) η) = (compF t ft fe (wipeD δ vs) (ds.drop (i + 1)) η5).bind (fun l η => R.ok ((acc ++ [yd]) ++ l) η) := by
                    cases compF t ft fe (wipeD δ vs) (ds.drop (i + 1)) η5 <;> simp [R.bind]
                  rw [e] at fin2
                  exact fin2
      · have e : i = ds.length := by omega
        subst e
        refine .inl ⟨i1, ?_⟩
        rw [List.drop_length, compF, bind_ok, List.append_nil] at fin2
        have hz : acc.length ≤ sizeLine := Nat.le_trans lA it.1
        have r := fin2 D avs (G2.sub D) (out H2 D) ((x1.trans x2).out (x1.there D hD) mD) (a2.he.out mD nD) (rA.stab (Stab.out mD)) hz out_same
        rw [out_upd hL] at r
        exact r
variable {elt iter : Expr} {ifs : List Expr} {scope : Scope} {own : List (Str × Nat)} {pos' : Pos} {fi : F (List D)} {t : Tg} {ft : F Bool} {felt : F D}
theorem fn_lc (own : List (Str × Nat)) (hK : X.K = C.K) (hc : X.calm = true) (hN : X.N.Nodup) (hi : FI C W X tg iter fi) (ok : BlkOk X.N X.env.scope scope own)
    (hg : ∀ (s : Shared) (H : Hp) (C : Addr) (cl : List (Str × Addr)) (fp : List Addr), FG (X.blk s H scope (compEnvC scope cl C X.env) fp) tg t) (ht : ∀ (s : Shared) (H : Hp) (A : Addr) (cl : List (Str × Addr)) (fp : List Addr), FTs C (X.blk s H scope (compEnvC scope cl A X.env) fp) ifs ft)
    (he : ∀ (s : Shared) (H : Hp) (A : Addr) (cl : List (Str × Addr)) (fp : List Addr), FE C WX0 (X.blk s H scope (compEnvC scope cl A X.env) fp) elt felt) (hvs : ∀ i ∈ t.sl, i ∈ own.map (·.2) := by decide) (hs : ∀ x, foldedSetIterable iter X.env x = pure x := by intro _; rfl) :
    FN C W X (.ListComp elt [⟨tg, iter, ifs, 0⟩] scope pos) (fLc (own.map (·.2)) fi t ft felt) := PE.imp (pe_lc hc hN hi ok hg ht he hs) fun _ _ _ h => lc_of hK hvs h
/-- name = [..] on one line, the name a local: the value will not change, or it is the frame's own -/
theorem ps_lcN {i : Nat} {y : Str} {py spos : Pos} (own : List (Str × Nat)) (hK : X.K = C.K) (hc : X.calm = true) (hN : X.N.Nodup) (hy : X.N[i]? = some y) (hyl : X.env.scope.names.lookup y = some .local)
    (hsw : swapsWith (.ListComp elt [⟨tg, iter, ifs, 0⟩] scope pos) (some (.Name y py)) spos.line X.env = pure true) (hi : FI C W X tg iter fi) (ok : BlkOk X.N X.env.scope scope own)
    (hg : ∀ (s : Shared) (H : Hp) (C : Addr) (cl : List (Str × Addr)) (fp : List Addr), FG (X.blk s H scope (compEnvC scope cl C X.env) fp) tg t) (ht : ∀ (s : Shared) (H : Hp) (A : Addr) (cl : List (Str × Addr)) (fp : List Addr), FTs C (X.blk s H scope (compEnvC scope cl A X.env) fp) ifs ft)
    (he : ∀ (s : Shared) (H : Hp) (A : Addr) (cl : List (Str × Addr)) (fp : List Addr), FE C WX0 (X.blk s H scope (compEnvC scope cl A X.env) fp) elt felt) (hvs : ∀ i ∈ t.sl, i ∈ own.map (·.2) := by decide) (hs : ∀ x, foldedSetIterable iter X.env x = pure x := by intro _; rfl) :
    PS X (.Assign [.Name y py] (.ListComp elt [⟨tg, iter, ifs, 0⟩] scope pos) spos) (tAsg (tN C W (fLc (own.map (·.2)) fi t ft felt)) (gName i)) :=
  PS.imp (ps_setLc hc hN hy hyl hsw hi ok hg ht he hs) fun _ _ _ h => lc_of hK hvs h
/-- name = a new list that will not change -/
def sFrz (i : Nat) (f : F (List D)) : S := fun δ η => (f δ η).toS δ fun l η => .nx (δ.set i (some (.val (.lst l)))) η
theorem fs_frz {i : Nat} {st : Stmt} (h : PS X st (tAsg (tN C W fn) (gName i))) : FS C W X st (sFrz i fn) := PS.imp h fun Dn σ H ⟨B, G, δ, η, h, fin⟩ => by
  refine ⟨G, δ, η, h.a, ?_⟩
  unfold sFrz at fin
  cases hf : fn δ η with
  | ok l η1 =>
    rw [hf] at fin
    exact fun p vs G1 H1 x r q hz hp => fin _ _ _ (((h.next x r).next (Nx.alloc hp) (r.alloc hp)).setVal (.newLst r hp hz q))
  | exc c ns l η1 => rw [hf] at fin; exact fun b vs G1 H1 x r q1 q2 => fin b vs G1 H1 σ (h.next x r) q1 q2
  | bad => rw [hf] at fin; exact fin

/-! ### a def's promise, its call, its body -/
abbrev DF := List D → List O → R D
def spD (C : Ct) (n : Nat) (f : DF) : Sp := fun vs H Q _ => vs.length = n ∧ ∃ G ds η, Rps C G H ds vs ∧ Rh C G H η ∧ FinR C (Rp C) E0 G H (f ds η) Q
def spX (C : Ct) (n : Nat) (f : DF) : Sp := fun vs H Q E => vs.length = n ∧ ∃ G ds η, Rps C G H ds vs ∧ Rh C G H η ∧ FinR C (Rp C) E G H (f ds η) Q
def runD (N : Nat) (fb : S) : DF := fun ds η => match fb (ds.map (fun d => some (.val d)) ++ List.replicate (N - ds.length) none) η with
  | .nx _ η => .ok .non η
  | .rt d η => .ok d η
  | .exc c ns l _ η => .exc c ns l η
  | _ => .bad
theorem start_at {N : List Str} {G : Gh} {H : Hp} {ds : List D} {vs : List V} {η : List O} (r : Rps C G H ds vs) (h : Rh C G H η) : At C G H (ds.map (fun d => some (.val d)) ++ List.replicate (N.length - ds.length) none) (L2.start N vs) η := by
  have hl := r.length
  have get : ∀ {i : Nat} {l : L}, (ds.map (fun d => some (L.val d)) ++ List.replicate (N.length - ds.length) none)[i]? = some (some l) → ∃ d, ds[i]? = some d ∧ l = .val d := fun {i l} e => by
    by_cases hi : i < ds.length
    · rw [List.getElem?_append_left (by simpa using hi), List.getElem?_map] at e
      cases q : ds[i]? with
      | none => rw [q] at e; cases e
      | some d => rw [q] at e; cases e; exact ⟨d, rfl, rfl⟩
    · rw [List.getElem?_append_right (by simpa using hi), List.getElem?_replicate] at e
      split at e <;> cases e
  refine ⟨by unfold L2.start; simp [hl], fun i l e => ?_, fun i j l l' v hne e1 e2 o1 o2 _ _ => ?_, fun i l a e o => ?_, h⟩
  · obtain ⟨d, q, rfl⟩ := get e
    obtain ⟨v, q1, q2⟩ := r.get q
    refine ⟨v, ?_, .val q2⟩
    have hi := (List.getElem?_eq_some_iff.mp q1).1
    unfold L2.start
    rw [List.getElem?_append_left (by simpa using hi), List.getElem?_map, q1]
    rfl
  · obtain ⟨d, q, rfl⟩ := get e1
    cases o1
  · obtain ⟨d, q, rfl⟩ := get e
    cases o
section
variable {P : Program} {w : World} {K : PySem.W.Frag} {mg : Str → Option Value} {base : Heap}
end
/-- the arguments are as many as the parameters -/
def arg (n : Nat) (f : DF) : DF := fun ds η => if ds.length = n then f ds η else .bad
def fCall (n : Nat) (f : DF) (fa : F (List D)) : F D := fun δ η => (fa δ η).bind fun ds η => (arg n f ds η).nox
theorem FinR.nox {α β : Type} {Rel : Gh → Hp → α → β → Prop} {E E' : XK} {G : Gh} {H : Hp} {r : R α} {Q : β → Hp → Prop} (h : FinR C Rel E G H r.nox Q) : FinR C Rel E' G H r Q := by
  cases r with
  | ok d η => exact h
  | exc c ns l η => exact h.elim
  | bad => exact h
variable {P : Program} {CX : CXT} {k n : Nat} {f A : Addr} {fd : FuncData} {ps : List Str} {df : DF} {x : Str} {p : Pos}
/-- a call f(e, ..) of a def that lets nothing out -/
theorem fe_call (F : FnOk X.prog X.w X.K X.mg X.base CX0 k f fd ps (spD C n df)) (hr : Room k X.A) (hm : X.mg x = some (.ref f)) (hk : PySem.W.keepIn X.K (.ref f) = true) (hb : Binds X.K fd ps [])
    (ha : FA C W X (e :: es) fs) (hg : Gl X x := by rfl) (hdb : (x == ("__debug__" : Str)) = false := by decide) (he : starEach (e :: es) X.env = (false, eval e X.env) :: starEach es X.env := by rfl) (hpl : (backTo pos (starEach es X.env)).any (·.1) = false := by rfl) :
    FE C W X (.Call (.Name x p) (e :: es) [] pos) (fCall n df fs) := by
  refine PE.imp (pe_call (E := E0) F hr hg hm hk hb .nil pass0 ha hdb he hpl) fun σ H Q ⟨G, δ, η, a, fin⟩ => ?_
  refine tG.bind (Rel2 := Rp C) a fin fun ds vs G1 H1 η1 a1 x1 r1 fin1 => ?_
  unfold arg at fin1
  split at fin1
  · rename_i hn
    rw [List.append_nil]
    exact ⟨by rw [← r1.length]; exact hn, G1, ds, η1, r1, a1.he, fin1.nox⟩
  · exact fin1.elim
end
end DL
namespace DL
open PySem L2
open PyProof.Rows (envOfC)
section
variable {X : Cx} {C : Ct} {W : WX} {pos p2 : Pos} {e a b : Expr} {es : List Expr} {fe fa fb : F D} {fs fn : F (List D)} {tg : Expr}
/-! ### isinstance with built-in classes -/
def tyN : D → Option String
  | .non => some "NoneType"
  | .bl _ => some "bool"
  | .int _ => some "int"
  | .str _ => some "str"
  | .lst _ => some "list"
  | .tup _ => some "tuple"
  | _ => none
theorem tyX {G : Gh} {H : Hp} {d : D} {v : V} {t : String} (r : Rp C G H d v) (h : tyN d = some t) : TyX C.K H v (.type t) := by
  cases r with
  | non => cases h; exact .base .non
  | bl b => cases h; exact .base (.bl b)
  | int i => cases h; exact .base (.int i)
  | str z _ => cases h; exact .base (.str z)
  | lst h1 _ _ =>
    cases h
    rcases h1 with ⟨h1 | ⟨o, h1⟩, _⟩ | h1 | ⟨o, its, n, h1, h2, _⟩
    · exact .base (.lst h1)
    · exact .base (.frz h1)
    · exact (noRd h1).elim
    · exact .kList h1 h2
  | tup h1 _ _ =>
    cases h
    rcases h1 with ⟨h1 | ⟨o, h1⟩, _⟩ | h1 | ⟨o, its, n, h1, h2, _⟩
    · exact .base (.tup h1)
    · exact .fTuple h1
    · exact (noRd h1).elim
    · exact .kTuple h1 h2
  | ins _ _ _ _ => cases h
  | exn _ _ _ _ => cases h
  | obj _ => cases h
  | cls _ => cases h
def isD (T : String) (d : D) : Option D := match tyN d with
  | some t => (kitB t T).map .bl
  | none => none
theorem fe_is {p q : Pos} {T : Str} {TS : String} (hK : X.K = C.K) (hm : X.mg "isinstance" = none) (hmT : X.mg T = none) (ha : FE C W X e fe) (hg : Gl X "isinstance" := by rfl) (hgT : Gl X T := by rfl) (hvT : bootBuiltins T = some (.type TS) := by decide +kernel)
    (hn : T ≠ "__name__" := by decide) (hdb : (T == ("__debug__" : Str)) = false := by decide)
    (hs : starEach [e, .Name T q] X.env = (false, eval e X.env) :: starEach [.Name T q] X.env := by rfl) (hpl : (backTo pos (starEach [.Name T q] X.env)).any (·.1) = false := by rfl)
    (hs2 : starEach [.Name T q] X.env = (false, eval (.Name T q) X.env) :: starEach [] X.env := by rfl) : FE C W X (.Call (.Name "isinstance" p) [e, .Name T q] [] pos) (fCall1 (isD TS) fe) := by
  refine PE.imp (pe_callB call_isi hg hm (by decide +kernel) (pa_cons ha (pa_cons (pe_bltn (v := .ty TS) hgT hmT hvT rfl hn hdb) pa_nil hs2) hs) (by decide) (by decide) hs hpl) fun σ H Q ⟨G, δ, η, at0, fin⟩ => ?_
  refine tG.bind (Rel2 := Rp C) at0 fin fun d v G1 H1 η1 a1 x1 r1 fin1 => ?_
  unfold isD at fin1
  split at fin1
  · rename_i t ht
    cases hk : kitB t TS with
    | none => rw [hk] at fin1; exact fin1.elim
    | some b =>
      rw [hk] at fin1
      have ty := tyX r1 ht
      rw [← hK] at ty
      exact ⟨v, .ty TS, _, _, b, rfl, .ty TS, ty, kit_ty hk, fin1 _ G1 H1 Nx.refl a1.he (.bl b)⟩
  · exact fin1.elim
end
end DL
namespace DL
open PySem L2
/-! ### data as the library knows it -/
mutual
def toPy : D → PyData
  | .non => .none
  | .bl b => .bool b
  | .int i => .int i
  | .str x => .str x
  | .lst l => .list (toPys l)
  | .tup l => .tuple (toPys l)
  | .ins _ _ _ => .none
  | .obj _ => .none
  | .exn _ _ _ => .none
  | .cls _ => .none
def toPys : List D → List PyData
  | [] => []
  | d :: l => toPy d :: toPys l
end
mutual
/-- data alone: no instances; at most n deep -/
def pureD : Nat → D → Bool
  | _, .non => true
  | _, .bl _ => true
  | _, .int _ => true
  | _, .str _ => true
  | 0, .lst _ => false
  | 0, .tup _ => false
  | n + 1, .lst l => pureDs n l
  | n + 1, .tup l => pureDs n l
  | _, .ins _ _ _ => false
  | _, .obj _ => false
  | _, .exn _ _ _ => false
  | _, .cls _ => false
def pureDs : Nat → List D → Bool
  | _, [] => true
  | n, d :: l => pureD n d && pureDs n l
end
section
variable {C : Ct} {G : Gh} {H : Hp}
mutual
theorem dp_of {K : PySem.W.Frag} (hK : K = C.K) : ∀ {n : Nat} {d : D} {v : V}, Rp C G H d v → pureD n d = true → Dp K H v (toPy d) ∧ (toPy d).canLay0 = true ∧ (toPy d).depth ≤ n
  | n, _, _, .non, _ => by
    rw [toPy]; exact ⟨.non, rfl, Nat.zero_le _⟩
  | n, _, _, .bl b, _ => by rw [toPy]; exact ⟨.bl b, rfl, Nat.zero_le _⟩
  | n, _, _, .int i, _ => by rw [toPy]; exact ⟨.int i, rfl, Nat.zero_le _⟩
  | n, _, _, .str x h, _ => by rw [toPy]; exact ⟨.str x, by simpa [PyData.canLay0] using h, Nat.zero_le _⟩
  | 0, _, _, .lst h z r, p => by simp [pureD] at p
  | 0, _, _, .tup h z r, p => by simp [pureD] at p
  | n + 1, _, _, .lst h z r, p => by
    rw [pureD] at p
    obtain ⟨h1, h2, h3⟩ := dps_of hK r p
    rw [toPy]
    refine ⟨.lst (by rw [hK]; exact h.sq) h1, by simpa [PyData.canLay0] using h2, ?_⟩
    simp only [PyData.depth]
    omega
  | n + 1, _, _, .tup h z r, p => by
    rw [pureD] at p
    obtain ⟨h1, h2, h3⟩ := dps_of hK r p
    rw [toPy]
    refine ⟨.tup (by rw [hK]; exact h.sq) h1, by simpa [PyData.canLay0] using h2, ?_⟩
    simp only [PyData.depth]
    omega
  | n, _, _, .ins _ _ _ _, p => by cases n <;> simp [pureD] at p
  | n, _, _, .obj _, p => by cases n <;> simp [pureD] at p
  | n, _, _, .exn _ _ _ _, p => by cases n <;> simp [pureD] at p
  | n, _, _, .cls _, p => by cases n <;> simp [pureD] at p
theorem dps_of {K : PySem.W.Frag} (hK : K = C.K) : ∀ {n : Nat} {l : List D} {vs : List V}, Rps C G H l vs → pureDs n l = true → DpAll K H vs (toPys l) ∧ PyData.canLayAll0 (toPys l) = true ∧ PyData.depthAll (toPys l) ≤ n
  | n, _, _, .nil, _ => by rw [toPys]; exact ⟨.nil, rfl, Nat.zero_le _⟩
  | n, _, _, .cons r q, p => by
    rw [pureDs, Bool.and_eq_true] at p
    obtain ⟨h1, h2, h3⟩ := dp_of hK r p.1
    obtain ⟨g1, g2, g3⟩ := dps_of hK q p.2
    rw [toPys]
    refine ⟨.cons h1 g1, by simp [PyData.canLayAll0, h2, g2], ?_⟩
    simp only [PyData.depthAll]
    omega
end
theorem dp_u {K : PySem.W.Frag} (hK : K = C.K) {n : Nat} {d : D} {v : V} (r : Rpu C G H d v) (p : pureD n d = true) : Dp K H v (toPy d) ∧ (toPy d).canLay0 = true ∧ (toPy d).depth ≤ n := by
  rcases r with r | ⟨a, vs, l, rfl, rfl, h, r, _⟩
  · exact dp_of hK r p
  · cases n with
    | zero => simp [pureD] at p
    | succ n =>
      rw [pureD] at p
      obtain ⟨h1, h2, h3⟩ := dps_of hK r p
      rw [toPy]
      refine ⟨.lst (SqL.of h) h1, by simpa [PyData.canLay0] using h2, ?_⟩
      simp only [PyData.depth]
      omega
end
def eqvD (d e : D) : Bool := PyData.eqv (toPy d) (toPy e)
def okq (d : D) : Bool := pureD 20 d
def eqD (d e : D) : Option D := if okq d = true ∧ okq e = true then some (.bl (eqvD d e)) else none
def neD (d e : D) : Option D := if okq d = true ∧ okq e = true then some (.bl (!eqvD d e)) else none
section
variable {X : Cx} {C : Ct} {W : WX} {pos p2 : Pos} {e a b : Expr} {es : List Expr} {fe fa fb : F D} {fs fn : F (List D)} {tg : Expr}
theorem shaped_of {d : PyData} (h : d.canLay0 = true) (z : d.depth ≤ 20) : SeqAt.shaped d = true := by
  unfold SeqAt.shaped
  rw [h, Bool.true_and, decide_eq_true_eq]
  omega
theorem o_eq (hK : X.K = C.K) (hu : X.A.units + 64 < cLine) : OpR X (compareOp .Eq) (rD C eqD) := opD (op_eqD hu) fun x y H Q ⟨G, η, d, e, hr, h1, h2, q⟩ => by
  unfold eqD at q
  split at q
  · rename_i h
    obtain ⟨a1, a2, a3⟩ := dp_u hK h1 h.1
    obtain ⟨b1, b2, b3⟩ := dp_u hK h2 h.2
    exact ⟨_, _, a1, b1, shaped_of a2 a3, shaped_of b2 b3, q.same hr (.bl _)⟩
  · exact q.elim
theorem o_ne (hK : X.K = C.K) (hu : X.A.units + 64 < cLine) : OpR X (compareOp .NotEq) (rD C neD) := opD (op_neD hu) fun x y H Q ⟨G, η, d, e, hr, h1, h2, q⟩ => by
  unfold neD at q
  split at q
  · rename_i h
    obtain ⟨a1, a2, a3⟩ := dp_u hK h1 h.1
    obtain ⟨b1, b2, b3⟩ := dp_u hK h2 h.2
    exact ⟨_, _, a1, b1, shaped_of a2 a3, shaped_of b2 b3, q.same hr (.bl _)⟩
  · exact q.elim
/-! ### in -/
open Classical in
/-- what an item's value says of being equal to data e -/
noncomputable def eqTo (h : Heap) (e : PyData) (u : Value) : Bool := if z : ∃ d, (∃ as, Reads h u d as) ∧ d.canLay0 = true then PyData.eqv z.choose e else false
theorem eqTo_of {h : Heap} {e d : PyData} {u : Value} {as : List Addr} (r : Reads h u d as) (c : d.canLay0 = true) : eqTo h e u = PyData.eqv d e := by
  unfold eqTo
  have z : ∃ d, (∃ as, Reads h u d as) ∧ d.canLay0 = true := ⟨d, ⟨as, r⟩, c⟩
  rw [dif_pos z]
  obtain ⟨⟨bs, r2⟩, c2⟩ := z.choose_spec
  rw [SeqAt.Reads.unique _ _ _ _ _ c2 r2 r]
def inL (d : D) (l : List D) : Bool := l.any fun y => eqvD y d
def inD (d e : D) : Option D := match e with
  | .lst l => if okq d = true ∧ pureDs 20 l = true then some (.bl (inL d l)) else none
  | .tup l => if okq d = true ∧ pureDs 20 l = true then some (.bl (inL d l)) else none
  | .str j => match d with
    | .str i => some (.bl (!(Builtin.Str.occurrences j i 0 j.length 1).isEmpty))
    | _ => none
  | _ => none
def notInD (d e : D) : Option D := (inD d e).bind fun r => match r with
  | .bl b => some (.bl (!b))
  | _ => none
theorem items_eq {pins : List (Addr × Obj)} {σ : L2.St} {H : Hp} {s : Shared} {G : Gh} {pd : PyData} {v : Value} {as : List Addr} (hK : X.K = C.K) (hu : X.A.units + 64 < cLine) (I : Inv X pins σ H s) (hv : Reads s.heap v pd as) (cl : pd.canLay0 = true) (dz : pd.depth ≤ 20) :
    ∀ {l : List D} {vs : List V} {us : List Value}, Rps C G H l vs → pureDs 20 l = true → Vals vs us → (∀ w ∈ us, SeqAt.EqAt X.A.in1 s w v (eqTo s.heap pd w)) ∧ us.any (eqTo s.heap pd) = l.any fun y => PyData.eqv (toPy y) pd
  | [], _, _, .nil, _, .nil => ⟨fun w hw => (List.not_mem_nil hw).elim, rfl⟩
  | d :: l, _, _, .cons r q, p, .cons rv rvs => by
    rw [pureDs, Bool.and_eq_true] at p
    obtain ⟨i1, i2⟩ := items_eq hK hu I hv cl dz q p.2 rvs
    obtain ⟨h1, h2, h3⟩ := dp_of hK r p.1
    obtain ⟨bs, h4⟩ := Dp.reads I _ _ _ h1 rv
    have e1 := eqTo_of (e := pd) h4 h2
    refine ⟨fun w hw => ?_, by rw [List.any_cons, List.any_cons, i2, e1]⟩
    rcases List.mem_cons.mp hw with rfl | hw
    · rw [e1]
      refine SeqAt.eqAt_reads _ _ _ _ _ _ _ _ h4 hv h2 cl ?_
      have : X.A.in1.units = X.A.units + 1 := rfl
      omega
    · exact i1 w hw
theorem o_in (hK : X.K = C.K) (hu : X.A.units + 64 < cLine) : OpR X (compareOp .In) (rD C inD) := fun pins s σ H x y v u Q I rx ry ⟨G, η, d, e, hr, h1, h2, q⟩ => by
  unfold inD at q
  split at q
  · split at q
    · rename_i l h
      obtain ⟨a, vs, rfl, hs, hrs⟩ := h2.lst
      rw [← hK] at hs
      cases ry
      obtain ⟨its, rv, pl, hz⟩ := I.list hs
      obtain ⟨a1, a2, a3⟩ := dp_u hK h1 h.1
      obtain ⟨as, hv⟩ := Dp.reads I _ _ _ a1 rx
      obtain ⟨i1, i2⟩ := items_eq hK hu I hv a2 a3 hrs h.2 rv
      refine SeqAt.in_listAt _ pl.isList (fun w hw => i1 w (by simpa using hw)) ⟨.bl (inL d l), H, I, ?_, q.same hr (.bl _)⟩
      show Value.bool _ = Value.bool _
      rw [← Array.any_toList, i2]; rfl
    · exact q.elim
  · split at q
    · rename_i l h
      obtain ⟨a, vs, rfl, hs, hrs⟩ := h2.tup
      rw [← hK] at hs
      cases ry
      obtain ⟨its, rv, pl, hz⟩ := I.tuple hs
      obtain ⟨a1, a2, a3⟩ := dp_u hK h1 h.1
      obtain ⟨as, hv⟩ := Dp.reads I _ _ _ a1 rx
      obtain ⟨i1, i2⟩ := items_eq hK hu I hv a2 a3 hrs h.2 rv
      refine SeqAt.in_tupleAt _ pl (fun w hw => i1 w (by simpa using hw)) ⟨.bl (inL d l), H, I, ?_, q.same hr (.bl _)⟩
      show Value.bool _ = Value.bool _
      rw [← Array.any_toList, i2]; rfl
    · exact q.elim
  · split at q
    · exact op_in_str pins s σ H x y v u Q I rx ry ⟨_, _, h1.str, h2.str, q.same hr (.bl _)⟩
    · exact q.elim
  · exact q.elim
theorem o_notIn (hK : X.K = C.K) (hu : X.A.units + 64 < cLine) : OpR X (compareOp .NotIn) (rD C notInD) := fun pins s σ H x y v u Q I rx ry ⟨G, η, d, e, hr, h1, h2, q⟩ => by
  unfold notInD inD at q
  split at q
  · split at q
    · rename_i l h
      obtain ⟨a, vs, rfl, hs, hrs⟩ := h2.lst
      rw [← hK] at hs
      cases ry
      obtain ⟨its, rv, pl, hz⟩ := I.list hs
      obtain ⟨a1, a2, a3⟩ := dp_u hK h1 h.1
      obtain ⟨as, hv⟩ := Dp.reads I _ _ _ a1 rx
      obtain ⟨i1, i2⟩ := items_eq hK hu I hv a2 a3 hrs h.2 rv
      refine SeqAt.notIn_listAt _ pl.isList (fun w hw => i1 w (by simpa using hw)) ⟨.bl (!inL d l), H, I, ?_, Gives.same (r := .bl (!inL d l)) q hr (.bl _)⟩
      show Value.bool _ = Value.bool _
      rw [← Array.any_toList, i2]; rfl
    · exact q.elim
  · split at q
    · rename_i l h
      obtain ⟨a, vs, rfl, hs, hrs⟩ := h2.tup
      rw [← hK] at hs
      cases ry
      obtain ⟨its, rv, pl, hz⟩ := I.tuple hs
      obtain ⟨a1, a2, a3⟩ := dp_u hK h1 h.1
      obtain ⟨as, hv⟩ := Dp.reads I _ _ _ a1 rx
      obtain ⟨i1, i2⟩ := items_eq hK hu I hv a2 a3 hrs h.2 rv
      refine SeqAt.notIn_tupleAt _ pl (fun w hw => i1 w (by simpa using hw)) ⟨.bl (!inL d l), H, I, ?_, Gives.same (r := .bl (!inL d l)) q hr (.bl _)⟩
      show Value.bool _ = Value.bool _
      rw [← Array.any_toList, i2]; rfl
    · exact q.elim
  · split at q
    · exact op_notin_str pins s σ H x y v u Q I rx ry ⟨_, _, h1.str, h2.str, Gives.same (r := .bl (!_)) q hr (.bl _)⟩
    · exact q.elim
  · exact q.elim
/-! ### any walk over a list, a tuple, a text -/
def walkD : D → Option (List D)
  | .lst l => some l
  | .tup l => some l
  | .str z => if z.length ≤ sizeLine then some (signsD z) else none
  | _ => none
def fiA (fa : F D) : F (List D) := fun δ η => (fa δ η).bind fun d η => lift (walkD d) η
theorem fi_any (hK : X.K = C.K) (he : FE C W X e fe) : FI C W X tg e (fiA fe) := ⟨fun pins s σ H R I ⟨G, δ, η, a, fin⟩ => by
  unfold fiA at fin
  cases hf : fe δ η with
  | bad => rw [hf] at fin; exact fin.elim
  | exc c ns l η1 => exact (fi_lst (tg := tg) hK he).run pins s σ H R I ⟨G, δ, η, a, by unfold fiL; rw [hf] at fin ⊢; exact fin⟩
  | ok d η1 =>
    rw [hf, bind_ok] at fin
    cases d with
    | lst l => exact (fi_lst (tg := tg) hK he).run pins s σ H R I ⟨G, δ, η, a, by unfold fiL; rw [hf]; exact fin⟩
    | tup l => exact (fi_tup (tg := tg) hK he).run pins s σ H R I ⟨G, δ, η, a, by unfold fiT; rw [hf]; exact fin⟩
    | str z => exact (fi_str (tg := tg) he).run pins s σ H R I ⟨G, δ, η, a, by
        unfold fiS
        rw [hf, bind_ok]
        unfold walkD at fin
        dsimp only at fin ⊢
        by_cases hz : z.length ≤ sizeLine
        · rw [if_pos hz] at fin; simp only [hz, if_true]; exact fin
        · rw [if_neg hz] at fin; exact fin.elim⟩
    | _ => exact fin.elim⟩
end
end DL
namespace DL
open PySem L2
section
variable {X : Cx} {C : Ct} {W : WX} {pos p2 : Pos} {e a b : Expr} {es : List Expr} {fe fa fb : F D} {fs fn : F (List D)} {tg : Expr}
/-! ### calls with keywords -/
/-- the values by their places -/
def pick {α : Type} (ix : List Nat) (l : List α) : List α := ix.filterMap fun i => l[i]?
theorem pick_vals {vs : List V} {us : List Value} (r : Vals vs us) : ∀ ix : List Nat, Vals (pick ix vs) (pick ix us)
  | [] => .nil
  | i :: ix => by
    have ih := pick_vals r ix
    unfold pick at ih ⊢
    rw [List.filterMap_cons, List.filterMap_cons]
    cases h : vs[i]? with
    | none => rw [r.none_of h]; exact ih
    | some v =>
      obtain ⟨u, hu, q⟩ := r.get h
      rw [hu]
      exact .cons q ih
theorem pick_rps {G : Gh} {H : Hp} {ds : List D} {vs : List V} (r : Rps C G H ds vs) : ∀ ix : List Nat, Rps C G H (pick ix ds) (pick ix vs)
  | [] => .nil
  | i :: ix => by
    have ih := pick_rps r ix
    unfold pick at ih ⊢
    rw [List.filterMap_cons, List.filterMap_cons]
    cases h : ds[i]? with
    | none =>
      have : vs[i]? = none := List.getElem?_eq_none (by rw [← r.length]; exact List.getElem?_eq_none_iff.mp h)
      rw [this]; exact ih
    | some d =>
      obtain ⟨u, hu, q⟩ := r.get h
      rw [hu]
      exact .cons q ih
abbrev FK (C : Ct) (W : WX) (X : Cx) (kws : List Keyword) (f : F (List D)) : Prop := PK X kws (tG C (Rps C) W f)
theorem PK.imp {X : Cx} {e : List Keyword} {t t' : TA} (h : PK X e t) (i : ∀ σ H Q, t' σ H Q → t σ H Q) : PK X e t' := ⟨fun pos pins s σ H Q I q => h.run pos pins s σ H Q I (i _ _ _ q)⟩
variable {kws : List Keyword} {fk : F (List D)} {nm : Option Str} {kpos : Pos}
theorem fk_nil : FK C W X [] fNil := PK.imp pk_nil fun σ H Q ⟨G, δ, η, a, fin⟩ => fin [] G H Nx.refl a.he .nil
theorem fk_cons (ha : FE C W X e fe) (hr : FK C W X kws fk) : FK C W X (⟨nm, e, kpos⟩ :: kws) (fCons fe fk) := by
  refine PK.imp (pk_cons ha hr) fun σ H Q ⟨G, δ, η, at0, fin⟩ => ?_
  refine tG.bind (Rel2 := Rps C) at0 fin fun d v G1 H1 η1 a1 x1 r1 fin1 => ?_
  refine tG.bind (Rel2 := Rps C) a1 fin1 fun ds vs G2 H2 η2 a2 x2 r2 fin2 => ?_
  exact fin2 _ G2 H2 Nx.refl a2.he (.cons (r1.stab (x2.stab a1.he)) r2)
/-- how keywords bind: the places of the parameters' values in positional ++ keyword values -/
structure KB (K : PySem.W.Frag) (fd : FuncData) (ps : List Str) (n : Nat) (ks : List Str) (ix : List Nat) : Prop where
  to : ∀ (s : Shared) (us ws : List Value), K.In s.heap → us.length = n → ws.length = ks.length → BindsTo s fd ⟨us, ks.zip ws⟩ (ps.zip (pick ix (us ++ ws)))
theorem KB.kbn {K : PySem.W.Frag} {fd : FuncData} {ps ks : List Str} {n : Nat} {ix : List Nat} (h : KB K fd ps n ks ix) : KBn K fd ps n ks (fun us ws => pick ix (us ++ ws)) (fun us ws => pick ix (us ++ ws)) := ⟨h.to, fun r q => pick_vals (r.append q) ix⟩
variable {P : Program} {k n np nk : Nat} {f : Addr} {fd : FuncData} {ps ks : List Str} {df : DF} {x : Str} {p : Pos} {ix : List Nat}
def fCallK (np nk n : Nat) (f : DF) (ix : List Nat) (fa fk : F (List D)) : F D := fun δ η => (fa δ η).bind fun ds η => (fk δ η).bind fun es η => if ds.length = np ∧ es.length = nk then (arg n f (pick ix (ds ++ es)) η).nox else .bad
/-! ### a, b = e1, e2 -/
def sPar (i j : Nat) (fa fb : F D) : S := fun δ η => (fa δ η).toS δ fun d η => (fb δ η).toS δ fun e η => .nx ((δ.set i (some (.val d))).set j (some (.val e))) η
end
end DL
namespace DL
open PySem L2
section
variable {X : Cx} {C : Ct} {W : WX} {pos p2 : Pos} {e a b : Expr} {es : List Expr} {fe fa fb : F D} {fs fn : F (List D)} {tg : Expr}
/-- name = e -/
def sSet (i : Nat) (f : F D) : S := fun δ η => (f δ η).toS δ fun d η => .nx (δ.set i (some (.val d))) η
theorem fs_set {i : Nat} {st : Stmt} (h : PS X st (tAsg (tG C (Rp C) W fe) (gName i))) : FS C W X st (sSet i fe) := PS.imp h fun Dn σ H ⟨B, G, δ, η, h, fin⟩ =>
  tG.bindS h fin fun d v G1 H1 η1 h1 x1 r1 fin1 => fin1 G1 H1 _ (h1.setVal r1)
def fNeg (fa : F D) : F D := fun δ η => (fa δ η).bind fun d η => match d with
  | .int i => .ok (.int (-i)) η
  | _ => .bad
/-! ### a new list as an object of the store -/
def Gh.push (G : Gh) (p : Addr) : Gh := ⟨G.ads ++ [p], fun a => G.M a ∨ a = p⟩
theorem Nx.push {G : Gh} {H : Hp} {p : Addr} {o : HO} (hp : H p = none) : Nx G H (G.push p) (upd H p o) := by
  refine ⟨fun n a h => ?_, fun a u h _ => by rw [upd_ne (ne_of_none h hp)]; exact h, fun a u h => ⟨fun z => z.elim (fun z => z) fun e => ?_, .inl⟩, fun a h => ?_, fun a h => ?_⟩
  · show (G.ads ++ [p])[n]? = some a
    rw [List.getElem?_append_left (List.getElem?_eq_some_iff.mp h).1]; exact h
  · subst e; rw [hp] at h; cases h
  · rcases List.mem_append.mp h with z | z
    · exact .inl z
    · rw [List.mem_singleton] at z; subst z; exact .inr hp
  · by_cases e : a = p
    · subst e; exact hp
    · rw [upd_ne e] at h; exact h
theorem Rh.push {G : Gh} {H : Hp} {η : List O} {p : Addr} {o : HO} {o' : O} (r : Rh C G H η) (hp : H p = none) (q : Ro C (G.push p) (upd H p o) o' p) : Rh C (G.push p) (upd H p o) (η ++ [o']) := by
  have np : p ∉ G.ads := fun hm => r.mh p (r.adsM hm) hp
  have x : Nx G H (G.push p) (upd H p o) := Nx.push hp
  refine ⟨by show (G.ads ++ [p]).length = _; simp [r.len], ?_, fun n u a h1 h2 => ?_, fun a m => ?_⟩
  · show (G.ads ++ [p]).Nodup
    rw [List.nodup_append]
    refine ⟨r.nd, by simp, fun a ha b hb => ?_⟩
    rw [List.mem_singleton] at hb
    subst hb
    exact fun e => np (e ▸ ha)
  · have h2 : (G.ads ++ [p])[n]? = some a := h2
    by_cases hn : n < η.length
    · rw [List.getElem?_append_left hn] at h1
      rw [List.getElem?_append_left (by rw [r.len]; exact hn)] at h2
      obtain ⟨m, z⟩ := r.ob n u a h1 h2
      refine ⟨.inl m, z.stab (x.stab r) fun w hw => ?_⟩
      rw [upd_ne (ne_of_none hw hp)]; exact hw
    · rw [List.getElem?_append_right (by omega)] at h1
      rw [List.getElem?_append_right (by rw [r.len]; omega), r.len] at h2
      have hz : n - η.length = 0 := by
        have := (List.getElem?_eq_some_iff.mp h1).1
        simp at this
        omega
      rw [hz] at h1 h2
      cases h1
      cases h2
      exact ⟨.inr rfl, q⟩
  · rcases m with m | rfl
    · exact fun z => r.mh a m (x.there a z)
    · rw [upd_same]; exact fun z => by cases z
def fNewO (f : F (List D)) : F D := fun δ η => (f δ η).bind fun l η => .ok (.obj η.length) (η ++ [.lst l])
theorem fe_newO (h : FN C W X e fn) : FE C W X e (fNewO fn) := PE.imp h fun σ H Q ⟨G, δ, η, a, fin⟩ => by
  refine ⟨G, δ, η, a, ?_⟩
  unfold fNewO at fin
  cases hf : fn δ η with
  | ok l η1 =>
    rw [hf, bind_ok] at fin
    intro p vs G1 H1 x r q hz hp
    have y : Nx G1 H1 (G1.push p) (upd H1 p (.lst vs)) := Nx.push hp
    refine fin (.ref p) (G1.push p) _ (x.trans y) (r.push hp (.lst upd_same hz (q.stab (y.stab r)))) (.obj ?_)
    show (G1.ads ++ [p])[η1.length]? = some p
    rw [← r.len]; simp
  | exc c ns l η1 => rw [hf] at fin; exact fin
  | bad => rw [hf] at fin; exact fin
/-! ### a def that hands nothing: the bottom of a recursion -/
end
end DL
namespace DL
open PySem L2
/-! ### the built-ins' names -/
theorem bt_len : bootBuiltins "len" = some (.builtin "len") := by decide +kernel
theorem bt_all : bootBuiltins "all" = some (.builtin "all") := by decide +kernel
theorem bt_sorted : bootBuiltins "sorted" = some (.builtin "sorted") := by decide +kernel
theorem bt_int : bootBuiltins "int" = some (.type "int") := by decide +kernel
theorem bt_list : bootBuiltins "list" = some (.type "list") := by decide +kernel
theorem bt_tuple : bootBuiltins "tuple" = some (.type "tuple") := by decide +kernel
theorem bt_str : bootBuiltins "str" = some (.type "str") := by decide +kernel
/-! ### the law's own start: an empty store, the script -/
theorem rps_ints {C : Ct} {G : Gh} {H : Hp} : ∀ ns : List Int, Rps C G H (ns.map D.int) (ns.map V.int)
  | [] => .nil
  | n :: ns => .cons (.int n) (rps_ints ns)
end DL
namespace DL
open PySem L2
/-! ### what is never reached -/
def fBad : F D := fun _ _ => .bad
def sBad : S := fun _ _ => .bad
section
variable {X : Cx} {C : Ct} {W : WX} {pos p2 : Pos} {e a b : Expr} {es : List Expr} {fe fa fb fo : F D} {fs fn fk : F (List D)} {tg : Expr}
/-! ### fields of instances -/
def locB (f : Str) : List Str → Nat → Bool
  | [], _ => false
  | g :: _, 0 => f == g
  | g :: ns, i + 1 => !(f == g) && locB f ns i
theorem loc_lookup {f : Str} : ∀ {ns : List Str} {i : Nat} {vs : List V}, locB f ns i = true → (ns.zip vs).lookup f = vs[i]?
  | [], _, _, h => by cases h
  | g :: ns, i, [], h => by simp
  | g :: ns, 0, v :: vs, h => by
    have h : (f == g) = true := h
    rw [List.zip_cons_cons, List.lookup, h]; rfl
  | g :: ns, i + 1, v :: vs, h => by
    rw [locB, Bool.and_eq_true] at h
    have h1 : (f == g) = false := by simpa using h.1
    rw [List.zip_cons_cons, List.lookup, h1]
    exact loc_lookup h.2
theorem not_lookup {f : Str} : ∀ {ns : List Str} {vs : List V}, (ns.all fun g => !(f == g)) = true → (ns.zip vs).lookup f = none
  | [], _, h => by simp
  | g :: ns, [], h => by simp
  | g :: ns, v :: vs, h => by
    rw [List.all_cons, Bool.and_eq_true] at h
    have h1 : (f == g) = false := by simpa using h.1
    rw [List.zip_cons_cons, List.lookup, h1]
    exact not_lookup h.2
theorem put_new {f : Str} {v : V} : ∀ {ns : List Str} {vs : List V}, ns.length = vs.length → (ns.all fun g => !(f == g)) = true → putF f v (ns.zip vs) = (ns ++ [f]).zip (vs ++ [v])
  | [], [], _, _ => rfl
  | g :: ns, w :: vs, hl, h => by
    rw [List.all_cons, Bool.and_eq_true] at h
    have h1 : ¬ g = f := fun e => by subst e; simp at h
    show (if g = f then (g, v) :: ns.zip vs else (g, w) :: putF f v (ns.zip vs)) = _
    rw [if_neg h1, put_new (by simpa using hl) h.2]
    rfl
/-- the object of class c with all its fields NS -/
def insD (η : List O) (c : Nat) (NS : List Str) (d : D) : Option (Nat × List D) := match d with
  | .obj n => match η[n]? with
    | some (.ins c' ns l) => if c' = c ∧ ns = NS then some (n, l) else none
    | _ => none
  | _ => none
theorem insD_at {G : Gh} {H : Hp} {η : List O} {c : Nat} {NS : List Str} {d : D} {n : Nat} {l : List D} {v : V} (h : insD η c NS d = some (n, l)) (r : Rp C G H d v) (rh : Rh C G H η) :
    ∃ p dx vs, v = .ref p ∧ d = .obj n ∧ G.ads[n]? = some p ∧ η[n]? = some (.ins c NS l) ∧ H p = some (.ins (C.cl c) dx (NS.zip vs)) ∧ NS.length = vs.length ∧ Rps C G H l vs := by
  unfold insD at h
  cases d with
  | obj m =>
    dsimp only at h
    cases q : η[m]? with
    | none => rw [q] at h; cases h
    | some o =>
      rw [q] at h
      cases o with
      | lst _ => cases h
      | tbl _ => cases h
      | ins c' ns l' =>
        dsimp only at h
        split at h
        · rename_i hh
          obtain ⟨rfl, rfl⟩ := hh
          cases h
          cases r with
          | @obj _ p ho =>
            obtain ⟨m, z⟩ := rh.ob _ _ _ q ho
            cases z with
            | @ins _ dx _ _ vs _ e hl rs => exact ⟨p, dx, vs, rfl, rfl, ho, q, e, hl, rs⟩
        · cases h
  | _ => cases h
def fFld (c : Nat) (NS : List Str) (i : Nat) (fo : F D) : F D := fun δ η => (fo δ η).bind fun d η => match insD η c NS d with
  | some (_, l) => match l[i]? with
    | some x => .ok x η
    | none => .bad
  | none => .bad
theorem fe_fld {c : Nat} {NS : List Str} {i : Nat} {f : Str} (hK : X.K = C.K) (ho : FE C W X e fo) (hc : Cls X.K (C.cl c)) (hn : NoAttr X.K (C.cl c) f) (hloc : locB f NS i = true)
    (hb : attributeBase e f X.env (eval e X.env) = eval e X.env := by rfl) : FE C W X (.Attribute e f pos) (fFld c NS i fo) := by
  refine PE.imp (pe_fld ho hb) fun σ H Q ⟨G, δ, η, at0, fin⟩ => ?_
  refine tG.bind (Rel2 := Rp C) at0 fin fun d v G1 H1 η1 a1 x1 r1 fin1 => ?_
  cases q : insD η1 c NS d with
  | none => rw [q] at fin1; exact fin1.elim
  | some nl =>
    obtain ⟨n, l⟩ := nl
    rw [q] at fin1
    obtain ⟨p, dx, vs, rfl, rfl, hp, hq, he, hl, rs⟩ := insD_at q r1 a1.he
    dsimp only at fin1
    cases hx : l[i]? with
    | none => rw [hx] at fin1; exact fin1.elim
    | some x =>
      rw [hx] at fin1
      obtain ⟨w, hw, rw_⟩ := rs.get hx
      exact ⟨p, _, dx, _, w, rfl, he, hc, hn, (loc_lookup hloc).trans hw, fin1 _ G1 H1 Nx.refl a1.he rw_⟩
/-- o.f = e, a field more -/
def sFldN (c : Nat) (NS NS' : List Str) (fe fo : F D) : S := fun δ η => (fe δ η).toS δ fun d η => (fo δ η).toS δ fun o η => match insD η c NS o with
  | some (n, l) => .nx δ (η.set n (.ins c NS' (l ++ [d])))
  | none => .bad
theorem fs_fldN {st : Stmt} {c : Nat} {NS NS' : List Str} {f : Str} (h : PS X st (sFld X.K (tG C (Rp C) W fo) (tG C (Rp C) W fe) f)) (hc : Cls X.K (C.cl c)) (hn : NoAttr X.K (C.cl c) f) (hnot : (NS.all fun g => !(f == g)) = true) (hNS : NS' = NS ++ [f]) (hz : NS.length < 1000) :
    FS C W X st (sFldN c NS NS' fe fo) := PS.imp h fun Dn σ H ⟨B, G, δ, η, h, fin⟩ => by
  refine tG.bindS h fin fun d v G1 H1 η1 h1 x1 r1 fin1 => ?_
  refine tG.bindS h1 fin1 fun o w G2 H2 η2 h2 x2 r2 fin2 => ?_
  cases q : insD η2 c NS o with
  | none => rw [q] at fin2; exact fin2.elim
  | some nl =>
    obtain ⟨n, l⟩ := nl
    rw [q] at fin2
    obtain ⟨p, dx, vs, rfl, rfl, hp, hq, he, hl, rs⟩ := insD_at q r2 h2.a.he
    refine ⟨p, _, dx, _, rfl, he, hc, hn, by rw [List.length_zip, ← hl, Nat.min_self]; exact hz, ?_⟩
    rw [put_new hl hnot, ← hNS]
    have nx : Nx G2 H2 G2 (upd H2 p (.ins (C.cl c) dx (NS'.zip (vs ++ [v])))) := Nx.chObj hp (by rw [he]; exact fun z => by cases z)
    have st := nx.stab h2.a.he
    refine fin2 G2 _ σ (h2.next nx (h2.a.he.chObj hp (.ins upd_same (by rw [hNS, List.length_append, List.length_append, hl]; rfl) ((rs.stab st).append (.cons ((r1.stab (x2.stab h1.a.he)).stab st) .nil)))))
/-- o.f = e, a field that is there -/
def sFldO (c : Nat) (NS : List Str) (i : Nat) (fe fo : F D) : S := fun δ η => (fe δ η).toS δ fun d η => (fo δ η).toS δ fun o η => match insD η c NS o with
  | some (n, l) => .nx δ (η.set n (.ins c NS (l.set i d)))
  | none => .bad
/-! ### methods -/
variable {P : Program} {k n np nk : Nat} {g A : Addr} {fd : FuncData} {ps ks : List Str} {df : DF} {x : Str} {p : Pos} {ix : List Nat}

/-- a call's values by their places: the written ones, the keywords', the defaults -/
def argK (np nk n : Nat) (df : DF) (ix : List Nat) (dv ds es : List D) : List O → R D := fun η => if ds.length = np ∧ es.length = nk then (arg n df (pick ix (ds ++ es ++ dv)) η).nox else .bad
/-- how a def binds -/
structure KD (K : PySem.W.Frag) (fd : FuncData) (ps : List Str) (np : Nat) (ks : List Str) (ix : List Nat) (dv : List D) (g : List Value → List Value → List Value) (gV : List V → List V → List V) : Prop where
  b : KBn K fd ps np ks g gV
  r : ∀ {C : Ct} {G : Gh} {H : Hp} {ds es : List D} {vs zs : List V}, C.K = K → Rps C G H ds vs → Rps C G H es zs → Rps C G H (pick ix (ds ++ es ++ dv)) (gV vs zs)
abbrev KDx (K : PySem.W.Frag) (fd : FuncData) (ps : List Str) (np : Nat) (ks : List Str) (ix : List Nat) (dv : List D) : Prop := ∃ g gV, KD K fd ps np ks ix dv g gV
theorem KB.kd {K : PySem.W.Frag} {fd : FuncData} {ps ks : List Str} {n : Nat} {ix : List Nat} (h : KB K fd ps n ks ix) : KDx K fd ps n ks ix [] := ⟨_, _, h.kbn, fun _ r1 r2 => by rw [List.append_nil]; exact pick_rps (r1.append r2) ix⟩
def fMeth (c : Nat) (NS : List Str) (np nk n : Nat) (df : DF) (ix : List Nat) (dv : List D) (fo : F D) (fs fk : F (List D)) : F D := fun δ η => (fo δ η).bind fun d η => match insD η c NS d with
  | some _ => (fs δ η).bind fun ds η => (fk δ η).bind fun es η => argK np nk n df ix dv (d :: ds) es η
  | none => .bad
def tMethN (Cc : Addr) (m : Str) (np nk : Nat) (sp : Sp) (gV : List V → List V → List V) (E : XK) (ta : TE) (t tk : TA) : TE := fun σ H Q => ta σ H fun x H1 => ∃ a dx fs, x = .ref a ∧ H1 a = some (.ins Cc dx fs) ∧ fs.lookup m = none ∧
  t σ H1 fun vs H2 => tk σ H2 fun zs H3 => (x :: vs).length = np ∧ zs.length = nk ∧ sp (gV (x :: vs) zs) H3 Q E
section
variable {CX : CXT} {sp : Sp} {E : XK} {ta : TE} {t tk : TA} {g2 : List Value → List Value → List Value} {gV : List V → List V → List V} {Cc : Addr} {m : Str} {apos : Pos} {kws : List Keyword} {pl : Sem Bool}
theorem pe_methN (he : PE X a ta) (hc : Cls X.K Cc) (hm : Meth X.K Cc m g) (F : FnOk X.prog X.w X.K X.mg X.base CX k g fd ps sp) (hr : Room k X.A) (hb : KBn X.K fd ps np ks g2 gV) (hx : Passes CX X E) (ha : PA X (e :: es) t) (hkw : PK X kws tk)
    (hall : (backToKw pos (keywordEach kws X.env)).all (·.1.isSome) = true := by rfl) (hks : (backToKw pos (keywordEach kws X.env)).filterMap (·.1) = ks := by rfl)
    (hst : starEach (e :: es) X.env = (false, eval e X.env) :: starEach es X.env := by rfl)
    (hpl : ((backTo pos (starEach (e :: es) X.env)).any (·.1) || (backToKw pos (keywordEach kws X.env)).any (·.1.isNone)) = false := by rfl)
    (ht : eval (.Call (.Attribute a m apos) (e :: es) kws pos) X.env = (do
      let ov ← eval a X.env
      standAt apos.atName
      let (f, first) ← holding [ov] (getMethod ov m pl)
      callWith pos f first (backTo pos (starEach (e :: es) X.env)) (backToKw pos (keywordEach kws X.env))) := by rfl) :
    PE X (.Call (.Attribute a m apos) (e :: es) kws pos) (tMethN Cc m np ks.length sp gV E ta t tk) := by
  refine ⟨fun pins s σ H Q I h => ?_⟩
  refine PySem.W.methodCall_KW (pl := pl) (thn (he.run pins s σ H _ I h) fun u s1 ⟨x, H1, I1, rx, a, dx, fs, ex, ea, l, q⟩ => ?_) ht
  subst ex
  obtain rfl : u = Value.ref a := rx
  refine getmeth_ok I1 ea hc hm l ?_
  refine PySem.W.callWith_KW (first := [.ref a]) (h₀ := X.base) I.ok.mod.kin hm.kp hall (thn (ha.run pos pins s1 σ H1 _ I1 q) fun us s2 ⟨vs, H2, I2, r, q2⟩ => ?_) hpl hst
  refine thn (hkw.run pos pins s2 σ H2 _ I2 q2) fun ws s3 ⟨zs, H3, I3, rz, l1, l2, q3⟩ => ⟨I3.kIn, ?_⟩
  rw [hks]
  exact run_fnN (us := .ref a :: us) (vs := .ref a :: vs) F hr hb hx I3 (.cons rfl r) rz l1 l2 q3
theorem pe_methN0 (he : PE X a ta) (hc : Cls X.K Cc) (hm : Meth X.K Cc m g) (F : FnOk X.prog X.w X.K X.mg X.base CX k g fd ps sp) (hr : Room k X.A) (hb : KBn X.K fd ps np ks g2 gV) (hx : Passes CX X E) (hkw : PK X kws tk)
    (hall : (backToKw pos (keywordEach kws X.env)).all (·.1.isSome) = true := by rfl) (hks : (backToKw pos (keywordEach kws X.env)).filterMap (·.1) = ks := by rfl)
    (hpl : ((backTo pos (starEach [] X.env)).any (·.1) || (backToKw pos (keywordEach kws X.env)).any (·.1.isNone)) = false := by rfl)
    (ht : eval (.Call (.Attribute a m apos) [] kws pos) X.env = (do
      let ov ← eval a X.env
      standAt apos.atName
      let (f, first) ← holding [ov] (getMethod ov m pl)
      callWith pos f first (backTo pos (starEach [] X.env)) (backToKw pos (keywordEach kws X.env))) := by rfl) :
    PE X (.Call (.Attribute a m apos) [] kws pos) (tMethN Cc m np ks.length sp gV E ta tNil tk) := by
  refine ⟨fun pins s σ H Q I h => ?_⟩
  refine PySem.W.methodCall_KW (pl := pl) (thn (he.run pins s σ H _ I h) fun u s1 ⟨x, H1, I1, rx, a, dx, fs, ex, ea, l, q⟩ => ?_) ht
  subst ex
  obtain rfl : u = Value.ref a := rx
  refine getmeth_ok I1 ea hc hm l ?_
  refine PySem.W.callWith_KW0 (first := [.ref a]) (h₀ := X.base) I.ok.mod.kin hm.kp hall ?_ hpl
  refine thn (hkw.run pos pins s1 σ H1 _ I1 q) fun ws s3 ⟨zs, H3, I3, rz, l1, l2, q3⟩ => ⟨I3.kIn, ?_⟩
  rw [hks]
  exact run_fnN (us := [.ref a]) (vs := [.ref a]) F hr hb hx I3 (.cons rfl .nil) rz l1 l2 q3
end
section
variable {c : Nat} {NS : List Str} {m : Str} {pl : Sem Bool} {apos : Pos} {kws : List Keyword} {dv : List D}
/-! ### new instances -/
def fNewI (c np nk n : Nat) (df : DF) (ix : List Nat) (dv : List D) (fs fk : F (List D)) : F D := fun δ η => (fs δ η).bind fun ds η => (fk δ η).bind fun es η' => (argK np nk n df ix dv (.obj η'.length :: ds) es (η' ++ [.ins c [] []])).bind fun z η2 => match z with
  | .non => .ok (.obj η'.length) η2
  | _ => .bad
end
end
end DL
namespace DL
open PySem L2
section
variable {X : Cx} {C : Ct} {W : WX} {pos p2 : Pos} {e a b : Expr} {es : List Expr} {fe fa fb fo : F D} {fs fn fk : F (List D)} {tg : Expr}
variable {P : Program} {k n np nk : Nat} {g A : Addr} {fd : FuncData} {ps ks : List Str} {df : DF} {x : Str} {p : Pos} {ix : List Nat}
/-- an object of class c -/
def insC (η : List O) (c : Nat) (d : D) : Bool := match d with
  | .obj n => match η[n]? with
    | some (.ins c' _ _) => decide (c' = c)
    | _ => false
  | _ => false
def fProp (c n : Nat) (df : DF) (fo : F D) : F D := fun δ η => (fo δ η).bind fun d η => if insC η c d = true then (arg n df [d] η).nox else .bad
/-! ### x in o, an object with __contains__ -/
def fInM (c n : Nat) (df : DF) (neg : Bool) (fa fb : F D) : F D := fun δ η => (fa δ η).bind fun d η => (fb δ η).bind fun o η => if insC η c o = true then ((arg n df [o, d] η).nox).bind fun z η => (match z with | .bl b => .ok (.bl (neg != b)) η | _ => .bad) else .bad
/-! ### o.f += e -/
def sFldA (c : Nat) (NS : List Str) (i : Nat) (fo fe : F D) : S := fun δ η => (fo δ η).toS δ fun o η => match insD η c NS o with
  | some (_, l) => match l[i]? with
    | some (.int x) => (fe δ η).toS δ fun d η => match insD η c NS o, d with
      | some (n, l), .int y => .nx δ (η.set n (.ins c NS (l.set i (.int (x + y)))))
      | _, _ => .bad
    | _ => .bad
  | none => .bad
/-! ### a constant of a class -/
theorem fe_cval {c : Str} {f : Str} {Ca : Addr} {mc : Value} {i : Int} {t : Tok} (hg : Gl X c) (hm : X.mg c = some (.ref Ca)) (hr : ClX.CRead X.K Ca mc) (hv : ClX.CVal X.K Ca mc f (.int i) (.int i t)) (hdb : (c == ("__debug__" : Str)) = false := by decide)
    (hb : attributeBase (.Name c p) f X.env (eval (.Name c p) X.env) = eval (.Name c p) X.env := by rfl) : FE C W X (.Attribute (.Name c p) f pos) (fC (.int i)) := by
  refine PE.imp (ClX.pe_cval (pe_glob (v := .ref Ca) hg hm rfl hdb) hb) fun σ H Q ⟨G, δ, η, a0, fin⟩ => ?_
  exact ⟨Ca, mc, _, _, rfl, hr, hv, fin _ G H Nx.refl a0.he (.int _)⟩
end
end DL
namespace DL
open PySem PySem.Spec PyProof.Rows L2
/-! ### len(set(texts)) -/
/-- how many of the first i are new -/
def cnt (xs : List Str) : Nat → Nat
  | 0 => 0
  | i + 1 => if (xs.take i).any (· == xs.getD i Str.empty) then cnt xs i else cnt xs i + 1
theorem cnt_le (xs : List Str) : ∀ i, cnt xs i ≤ i
  | 0 => Nat.le_refl 0
  | i + 1 => by
    have := cnt_le xs i
    rw [cnt]
    split
    · exact Nat.le_succ_of_le this
    · exact Nat.succ_le_succ this
theorem any_step (xs : List Str) {i : Nat} (hi : i < xs.length) (y : Str) : ((xs.take i).any (· == y) || decide (y = xs.getD i Str.empty)) = (xs.take (i + 1)).any (· == y) := by
  have e : xs.take (i + 1) = xs.take i ++ [xs.getD i Str.empty] := by
    rw [List.take_add_one, List.getD_eq_getElem?_getD, List.getElem?_eq_getElem hi]; rfl
  rw [e, List.any_append]
  congr 1
  rw [List.any_cons, List.any_nil, Bool.or_false, Bool.eq_iff_iff, decide_eq_true_eq, beq_iff_eq]
  exact eq_comm
section
variable {prog : Program} {w : World} {A : Around} {R : Result → Shared → Prop} {It : Addr} {fp wr : List Addr} {Gs : Array GenState → Array GenState → Prop} {n : Nat} {P : Nat → Value → Prop} {St : Nat → Shared → Prop}
theorem set_walk (Wk : WalksS prog w A.in1 It fp wr Gs n P St) (S : Addr) (nS : S ∉ fp) (xs : List Str) (hl : xs.length = n) (hb : n + 1 < scanBound) (hv : ∀ i v, P i v → ∃ t, v = .str (xs.getD i Str.empty) t) (left : Nat) :
    ∀ (i : Nat) (s : Shared), i + left = n → St i s → s.heap.SetOf (PySem.strKind prog w) S (fun y => (xs.take i).any (· == y)) (cnt xs i) →
      (∀ s2, Moved (S :: wr) Gs s s2 → s2.heap.SetOf (PySem.strKind prog w) S (fun y => (xs.take n).any (· == y)) (cnt xs n) → R (.ok (.ret .none)) s2) → codeAny (model prog w) A (.builtin "set.update.loop" ⟨[.ref S, .ref It], []⟩) R s := by
  have nW : S ∉ wr := fun z => nS (Wk.sub _ z)
  have moved : ∀ {i m : Nat} {s s2 : Shared}, Moved wr Gs s s2 → s.heap.SetOf (PySem.strKind prog w) S (fun y => (xs.take i).any (· == y)) m → s2.heap.SetOf (PySem.strKind prog w) S (fun y => (xs.take i).any (· == y)) m := fun hm ⟨o, es, ep, t, ho, rest⟩ => ⟨o, es, ep, t, hm.heap S _ nW ho, rest⟩
  have wide : ∀ {s s2 : Shared}, Moved wr Gs s s2 → Moved (S :: wr) Gs s s2 := fun hm => hm.mono fun b z => List.mem_cons_of_mem _ z
  induction left with
  | zero =>
    intro i s hi hs hS hR
    cases hi
    refine codeAny_builtin F.entry_set_update_loop ?_
    rw [Around.under_plainId F.plain_set_update_loop _]
    exact wpAny_bind (Wk.done s _ _ hs fun s2 hm => wpAny_pure (hR s2 (wide hm) (moved hm hS)))
  | succ left ih =>
    intro i s hi hs hS hR
    have hlt : i < n := by omega
    refine codeAny_builtin F.entry_set_update_loop ?_
    rw [Around.under_plainId F.plain_set_update_loop _]
    refine wpAny_bind (Wk.item i s _ _ hlt hs fun v s2 hP hs2 hm => ?_)
    obtain ⟨t, rfl⟩ := hv i v hP
    have hS2 := moved hm hS
    show wpAny _ A.in1 (holding [Value.str (xs.getD i Str.empty) t] (setAdd S (.str (xs.getD i Str.empty) t)) >>= _) _ _ s2
    refine wpAny_bind (wpAny_holding ?_)
    unfold setAdd
    refine wpAny_holding (wpAny_bind ((PySem.strKind prog w).pyHash (k := xs.getD i Str.empty) (strKind_is _ _ _ _) ?_))
    have room : cnt xs i + 1 < scanBound := by have := cnt_le xs i; omega
    refine wpAny_setAddHashed_of (knd := PySem.strKind prog w) (s := { s2 with toks := s2.toks + 1 }) (strKind_is _ _ _ _) rfl hS2 room fun h3 sb hS3 => ?_
    have hS4 : h3.SetOf (PySem.strKind prog w) S (fun y => (xs.take (i + 1)).any (· == y)) (cnt xs (i + 1)) := SetOf_congr hS3 (fun y => any_step xs (by omega) y) rfl
    refine wpAny_pure ⟨plainId_quiet F.plain_set_update_loop _, ih (i + 1) _ (by omega) (Wk.frame _ s2 _ _ hs2 (Nat.le_succ _) fun b hb o z => ?_) hS4 fun s5 hm5 hS5 => hR s5 (Moved.trans Wk.gtrans ((wide hm).then_heap (Nat.le_succ _) fun b o hb z => ?_) hm5) hS5⟩
    · exact (sb.2 b fun q => nS (q ▸ hb)).trans z
    · exact (sb.2 b fun q => hb (q ▸ List.mem_cons_self)).trans z
end

/-- the empty set, just made -/
def emptySet (led : Bool) : Obj := { cls := .type "set", dict := none, data := .set #[] 0 (.fresh 0 0 led) }
/-- what set(..) has made -/
def SetMade (prog : Program) (w : World) (s : Shared) (xs : List Str) (n : Nat) (h2 : Heap) : Prop := h2.SetOf (PySem.strKind prog w) s.heap.objs.size (fun y => (xs.take n).any (· == y)) (cnt xs n) ∧ ∀ b o, b < s.heap.objs.size → s.heap.get? b = some o → h2.get? b = some o
section
variable {prog : Program} {w : World} {A : Around} {E : Value → Shared → Prop} {s : Shared} {l : Addr} {items : Array Value} {xs : List Str}

/-- .. and how its __init__ ends -/
def Filled (prog : Program) (w : World) (s : Shared) (xs : List Str) (n : Nat) (v : Value) (s2 : Shared) : Prop := v = .none ∧ ∃ h2 tk, s2 = { s with heap := h2, toks := tk } ∧ SetMade prog w s xs n h2
set_option maxHeartbeats 3200000 in
/-- the fresh set takes the list's texts in -/
theorem set_fill {led : Bool} (hh : A.in1.handled = none) (hl : s.heap.IsList l items) (hi : StrsAre items.toList xs) (hb : xs.length + 1 < scanBound) :
    wpAny (model prog w) A (Builtin.«set.__init__» ⟨[.ref s.heap.objs.size, .ref l], []⟩) (fun f s2 => ∃ v, f = .done (.ret v) ∧ Filled prog w s xs items.size v s2) E { s with heap := s.heap.push (emptySet led) } := by
  obtain ⟨⟨cls, dict, data, slots⟩, at1, hcls, m, hdata⟩ := id hl
  cases hcls
  cases hdata
  have lts : l < s.heap.objs.size := Heap.lt_size at1
  have at0 : (s.heap.push (emptySet led)).get? s.heap.objs.size = some (emptySet led) := Heap.get?_push_size _ rfl
  have at2 : (s.heap.push (emptySet led)).get? l = some { cls := .type "list", dict := dict, data := .seq items m, slots := slots } := Heap.get?_push_of_some _ at1
  have isl : (s.heap.push (emptySet led)).IsList l items := ⟨_, at2, rfl, m, rfl⟩
  have nos := PySem.F.sub_list_set
  have nof := PySem.F.sub_list_frozenset
  have nod : (Value.type "list" == Value.type "dict") = false := by decide
  unfold Builtin.«set.__init__» noKeywords Builtin.Frozenset.updateFrom
  generalize hPI : pyIter = PI
  wp_walk
  subst hPI
  refine wpAny_pyIter_list isl (wpAny_bind (wpAny_runValue ?_))
  have sz1 : (s.heap.push (emptySet led)).objs.size = s.heap.objs.size + 1 := Heap.size_push _ _
  have apart : l ≠ (s.heap.push (emptySet led)).objs.size := by rw [sz1]; exact Nat.ne_of_lt (Nat.lt_succ_of_lt lts)
  have nS : s.heap.objs.size ∉ [(s.heap.push (emptySet led)).objs.size, l] := by
    rw [sz1]
    intro z
    rcases List.mem_cons.mp z with z | z
    · exact Nat.ne_of_lt (Nat.lt_succ_self _) z
    · exact Nat.ne_of_gt lts (List.mem_singleton.mp z)
  have len : xs.length = items.size := (StrsAre.len_eq hi).symm.trans Array.length_toList
  have vals : ∀ (i : Nat) (v : Value), items[i]? = some v → ∃ t, v = .str (xs.getD i Str.empty) t := fun i v hv => SS.strs_at hi i v ((Array.getElem?_toList).trans hv)
  refine set_walk ((Walks.list (by simpa using hh) _ l apart items).toS) s.heap.objs.size nS xs len (by omega) vals items.size 0 _ (Nat.zero_add _) ⟨⟨_, Heap.get?_push_size _ rfl, rfl, rfl⟩, isl.push _⟩ ?_ fun s2 hm hS => ?_
  · refine SetOf_congr ((setObjOf_fresh (knd := PySem.strKind prog w) led).setOf (Heap.get?_push_of_some _ at0) (by unfold scanBound; decide)) (fun _ => rfl) rfl
  · obtain ⟨h2, g2, d2, t2, o2⟩ := s2
    obtain rfl : g2 = s.gens := hm.gens
    obtain rfl : d2 = s.drawn := hm.drawn
    obtain rfl : o2 = s.os := hm.os
    refine wpAny_pure (wpAny_pure ⟨_, rfl, rfl, h2, t2, rfl, hS, fun b o hlt e => hm.heap b o ?_ (Heap.get?_push_of_some _ (Heap.get?_push_of_some _ e))⟩)
    intro z
    rcases List.mem_cons.mp z with z | z
    · exact Nat.ne_of_lt hlt z
    · have := List.mem_singleton.mp z
      rw [sz1] at this
      exact Nat.ne_of_lt (Nat.lt_succ_of_lt hlt) this
theorem set_made {Q : Value → Shared → Prop} (hh : A.handled = none) (hl : s.heap.IsList l items) (hi : StrsAre items.toList xs) (hb : xs.length + 1 < scanBound)
    (h : ∀ h2 tk, SetMade prog w s xs items.size h2 → Q (.ref s.heap.objs.size) { s with heap := h2, toks := tk }) : wpAny (model prog w) A (call (.type "set") [.ref l]) Q E s := by
  obtain ⟨_, _, hmro⟩ := PySem.F.called_set.mro
  have made := PySem.F.called_set.made
  have isub := PySem.F.called_set.sub
  have noType := PySem.F.called_set.notType
  have creates := PySem.F.called_set.canCreate
  have checked := PySem.F.typeCall_set_1 (.ref l)
  refine wpAny_call (codeAny_of_tree ?_)
  show wpAny _ _ (callAny (.type "set") _) _ _ _
  refine wpAny_pure ⟨Code.quiet_builtin _ (by decide +kernel), codeAny_builtin PySem.F.entry_type_call ?_⟩
  rw [Around.under_plain (weight_type_call_type "set" [.ref l] []) rfl]
  repeat (any_goals (first | assumption | wp_step))
  refine codeAny_mono (code_set_new_1 (.ref l) (E := E) (Q₁ := fun v s1 => ∃ led : Bool, v = .ref s.heap.objs.size ∧ s1 = { s with heap := s.heap.push (emptySet led) }) fun led => ⟨led, rfl, rfl⟩) fun r s1 hr => ?_
  match r, hr with
  | .error e, hr => exact hr
  | .ok (.next), hr => exact hr.elim
  | .ok (.brk), hr => exact hr.elim
  | .ok (.cont), hr => exact hr.elim
  | .ok (.ret v), hr =>
    obtain ⟨led, rfl, rfl⟩ := hr
    have at0 : (s.heap.push (emptySet led)).get? s.heap.objs.size = some (emptySet led) := Heap.get?_push_size _ rfl
    have ty : Shared.TypeIs { s with heap := s.heap.push (emptySet led) } (.ref s.heap.objs.size) "set" := ⟨_, at0, rfl⟩
    have hli := PySem.F.called_set.init.lookup
    have hbi := PySem.F.called_set.init.bind (.ref s.heap.objs.size)
    repeat (any_goals (first | assumption | wp_step))
    refine codeAny_mono (codeAny_call_builtin (R := wants (Filled prog w s xs items.size) E) PySem.F.called_set.init.plain PySem.F.entry_set_init (check_set_init_1 ty ?_)) fun r2 s2 hr2 => ?_
    · refine wpAny_mono (set_fill (A := A.in1.in1) (by simpa using hh) hl hi hb) (fun f s2 ⟨v, e1, e2⟩ => ?_) fun _ _ z => z
      subst e1
      exact e2
    · match r2, hr2 with
      | .error e, hr2 => exact hr2
      | .ok (.next), hr2 => exact hr2.elim
      | .ok (.brk), hr2 => exact hr2.elim
      | .ok (.cont), hr2 => exact hr2.elim
      | .ok (.ret v), hr2 =>
        obtain ⟨rfl, h2, tk, rfl, hm⟩ := hr2
        repeat (any_goals (first | assumption | wp_step))
        exact h _ _ hm
set_option maxHeartbeats 3200000 in
/-- the fresh set takes the list's texts in -/
theorem set_fillT {led : Bool} (hh : A.in1.handled = none) (hl : s.heap.IsTuple l items) (hi : StrsAre items.toList xs) (hb : xs.length + 1 < scanBound) :
    wpAny (model prog w) A (Builtin.«set.__init__» ⟨[.ref s.heap.objs.size, .ref l], []⟩) (fun f s2 => ∃ v, f = .done (.ret v) ∧ Filled prog w s xs items.size v s2) E { s with heap := s.heap.push (emptySet led) } := by
  obtain ⟨⟨cls, dict, data, slots⟩, at1, hcls, m, hdata⟩ := id hl
  cases hcls
  cases hdata
  have lts : l < s.heap.objs.size := Heap.lt_size at1
  have at0 : (s.heap.push (emptySet led)).get? s.heap.objs.size = some (emptySet led) := Heap.get?_push_size _ rfl
  have at2 : (s.heap.push (emptySet led)).get? l = some { cls := .type "tuple", dict := dict, data := .seq items m, slots := slots } := Heap.get?_push_of_some _ at1
  have isl : (s.heap.push (emptySet led)).IsTuple l items := ⟨_, at2, rfl, m, rfl⟩
  have nos := PySem.F.sub_tuple_set
  have nof := PySem.F.sub_tuple_frozenset
  have nod : (Value.type "tuple" == Value.type "dict") = false := by decide
  unfold Builtin.«set.__init__» noKeywords Builtin.Frozenset.updateFrom
  generalize hPI : pyIter = PI
  wp_walk
  subst hPI
  refine wpAny_pyIter_tuple isl (wpAny_bind (wpAny_runValue ?_))
  have sz1 : (s.heap.push (emptySet led)).objs.size = s.heap.objs.size + 1 := Heap.size_push _ _
  have apart : l ≠ (s.heap.push (emptySet led)).objs.size := by rw [sz1]; exact Nat.ne_of_lt (Nat.lt_succ_of_lt lts)
  have nS : s.heap.objs.size ∉ [(s.heap.push (emptySet led)).objs.size, l] := by
    rw [sz1]
    intro z
    rcases List.mem_cons.mp z with z | z
    · exact Nat.ne_of_lt (Nat.lt_succ_self _) z
    · exact Nat.ne_of_gt lts (List.mem_singleton.mp z)
  have len : xs.length = items.size := (StrsAre.len_eq hi).symm.trans Array.length_toList
  have vals : ∀ (i : Nat) (v : Value), items[i]? = some v → ∃ t, v = .str (xs.getD i Str.empty) t := fun i v hv => SS.strs_at hi i v ((Array.getElem?_toList).trans hv)
  refine set_walk ((Walks.tuple (by simpa using hh) _ l apart items).toS) s.heap.objs.size nS xs len (by omega) vals items.size 0 _ (Nat.zero_add _) ⟨⟨_, Heap.get?_push_size _ rfl, rfl, rfl⟩, isl.push _⟩ ?_ fun s2 hm hS => ?_
  · refine SetOf_congr ((setObjOf_fresh (knd := PySem.strKind prog w) led).setOf (Heap.get?_push_of_some _ at0) (by unfold scanBound; decide)) (fun _ => rfl) rfl
  · obtain ⟨h2, g2, d2, t2, o2⟩ := s2
    obtain rfl : g2 = s.gens := hm.gens
    obtain rfl : d2 = s.drawn := hm.drawn
    obtain rfl : o2 = s.os := hm.os
    refine wpAny_pure (wpAny_pure ⟨_, rfl, rfl, h2, t2, rfl, hS, fun b o hlt e => hm.heap b o ?_ (Heap.get?_push_of_some _ (Heap.get?_push_of_some _ e))⟩)
    intro z
    rcases List.mem_cons.mp z with z | z
    · exact Nat.ne_of_lt hlt z
    · have := List.mem_singleton.mp z
      rw [sz1] at this
      exact Nat.ne_of_lt (Nat.lt_succ_of_lt hlt) this
theorem set_madeT {Q : Value → Shared → Prop} (hh : A.handled = none) (hl : s.heap.IsTuple l items) (hi : StrsAre items.toList xs) (hb : xs.length + 1 < scanBound)
    (h : ∀ h2 tk, SetMade prog w s xs items.size h2 → Q (.ref s.heap.objs.size) { s with heap := h2, toks := tk }) : wpAny (model prog w) A (call (.type "set") [.ref l]) Q E s := by
  obtain ⟨_, _, hmro⟩ := PySem.F.called_set.mro
  have made := PySem.F.called_set.made
  have isub := PySem.F.called_set.sub
  have noType := PySem.F.called_set.notType
  have creates := PySem.F.called_set.canCreate
  have checked := PySem.F.typeCall_set_1 (.ref l)
  refine wpAny_call (codeAny_of_tree ?_)
  show wpAny _ _ (callAny (.type "set") _) _ _ _
  refine wpAny_pure ⟨Code.quiet_builtin _ (by decide +kernel), codeAny_builtin PySem.F.entry_type_call ?_⟩
  rw [Around.under_plain (weight_type_call_type "set" [.ref l] []) rfl]
  repeat (any_goals (first | assumption | wp_step))
  refine codeAny_mono (code_set_new_1 (.ref l) (E := E) (Q₁ := fun v s1 => ∃ led : Bool, v = .ref s.heap.objs.size ∧ s1 = { s with heap := s.heap.push (emptySet led) }) fun led => ⟨led, rfl, rfl⟩) fun r s1 hr => ?_
  match r, hr with
  | .error e, hr => exact hr
  | .ok (.next), hr => exact hr.elim
  | .ok (.brk), hr => exact hr.elim
  | .ok (.cont), hr => exact hr.elim
  | .ok (.ret v), hr =>
    obtain ⟨led, rfl, rfl⟩ := hr
    have at0 : (s.heap.push (emptySet led)).get? s.heap.objs.size = some (emptySet led) := Heap.get?_push_size _ rfl
    have ty : Shared.TypeIs { s with heap := s.heap.push (emptySet led) } (.ref s.heap.objs.size) "set" := ⟨_, at0, rfl⟩
    have hli := PySem.F.called_set.init.lookup
    have hbi := PySem.F.called_set.init.bind (.ref s.heap.objs.size)
    repeat (any_goals (first | assumption | wp_step))
    refine codeAny_mono (codeAny_call_builtin (R := wants (Filled prog w s xs items.size) E) PySem.F.called_set.init.plain PySem.F.entry_set_init (check_set_init_1 ty ?_)) fun r2 s2 hr2 => ?_
    · refine wpAny_mono (set_fillT (A := A.in1.in1) (by simpa using hh) hl hi hb) (fun f s2 ⟨v, e1, e2⟩ => ?_) fun _ _ z => z
      subst e1
      exact e2
    · match r2, hr2 with
      | .error e, hr2 => exact hr2
      | .ok (.next), hr2 => exact hr2.elim
      | .ok (.brk), hr2 => exact hr2.elim
      | .ok (.cont), hr2 => exact hr2.elim
      | .ok (.ret v), hr2 =>
        obtain ⟨rfl, h2, tk, rfl, hm⟩ := hr2
        repeat (any_goals (first | assumption | wp_step))
        exact h _ _ hm
end

section
variable {X : Cx} {C : Ct} {W : WX} {e a : Expr} {fa : F D} {ta : TE} {p p2 q pos : Pos}
def tLenSetS (K : PySem.W.Frag) (ta : TE) : TE := fun σ H Q => ta σ H fun x H1 => ∃ l, ∃ xs : List Str, x = .ref l ∧ (SqL K H1 l (xs.map V.str) ∨ SqT K H1 l (xs.map V.str)) ∧ xs.length ≤ 1000 ∧ Q (.int (cnt xs xs.length : Nat)) H1
theorem pe_lenSetS (hc : X.calm = true) (hg : Gl X "len") (hm : X.mg "len" = none) (hg2 : Gl X "set") (hm2 : X.mg "set" = none) (ha : PE X a ta)
    (na : starEach [a] X.env = (false, eval a X.env) :: starEach [] X.env := by rfl) : PE X (.Call (.Name "len" p) [.Call (.Name "set" p2) [a] [] q] [] pos) (tLenSetS X.K ta) := by
  refine ⟨fun pins s σ H Q I h => Call_ (ld_blt I hg hm boot_len (callWith_builtin1 (args_cons (Call_ (ld_blt I hg2 hm2 boot_set (callWith_type1 (args_cons (thn (ha.run pins s σ H _ I h) fun v s1 ⟨x, H1, I1, r1, l, xs, ex, hq, hz, q1⟩ => args_nil ?_) na) na rfl))) rfl) rfl rfl))⟩
  subst ex
  cases r1
  have madeA : ∀ (A : Around) (Q : Value → Shared → Prop), A.handled = none → (∀ h2 tk, SetMade X.prog X.w s1 xs xs.length h2 → Q (.ref s1.heap.objs.size) { s1 with heap := h2, toks := tk }) → wpAny (model X.prog X.w) A (call (.type "set") [.ref l]) Q X.xe s1 := fun A Q hd k => by
    rcases hq with hq | hq
    · obtain ⟨its, r, pl, _⟩ := I1.list hq
      have len : its.toArray.size = xs.length := by rw [List.size_toArray, ← r.length, List.length_map]
      exact set_made (xs := xs) hd pl.isList (by simpa using strsAre_of r) (by unfold scanBound; omega) fun h2 tk z => k h2 tk (by rw [len] at z; exact z)
    · obtain ⟨its, r, pl, _⟩ := I1.tuple hq
      have len : its.toArray.size = xs.length := by rw [List.size_toArray, ← r.length, List.length_map]
      exact set_madeT (xs := xs) hd pl (by simpa using strsAre_of r) (by unfold scanBound; omega) fun h2 tk z => k h2 tk (by rw [len] at z; exact z)
  refine madeA _ _ (I1.ok.hd hc) fun h2 tk ⟨hS, hk⟩ => args_nil ?_
  obtain ⟨o, es, ep, t, ho, hex, hd, _, _, _, hf, hn⟩ := hS
  have le := cnt_le xs xs.length
  have I2 : Inv X pins σ H1 { s1 with heap := h2, toks := tk } := I1.kept fun b o z => hk b o (Heap.lt_size z) z
  exact call_len_set ho hex hd hf (by rw [hn]; omega) ⟨.int (cnt xs xs.length : Nat), H1, I2.tok _, ⟨_, by rw [hn]⟩, q1⟩
def fLenSet (fa : F D) : F D := fun δ η => (fa δ η).bind fun d η => match d with
  | .lst l => match strsOf l with
    | some xs => if xs.length ≤ 1000 then .ok (.int (cnt xs xs.length : Nat)) η else .bad
    | none => .bad
  | .tup l => match strsOf l with
    | some xs => if xs.length ≤ 1000 then .ok (.int (cnt xs xs.length : Nat)) η else .bad
    | none => .bad
  | _ => .bad
theorem fe_lenSet (hK : X.K = C.K) (hc : X.calm = true) (hm : X.mg "len" = none) (hm2 : X.mg "set" = none) (ha : FE C W X a fa) (hg : Gl X "len" := by rfl) (hg2 : Gl X "set" := by rfl)
    (na : starEach [a] X.env = (false, eval a X.env) :: starEach [] X.env := by rfl) : FE C W X (.Call (.Name "len" p) [.Call (.Name "set" p2) [a] [] q] [] pos) (fLenSet fa) := by
  refine PE.imp (pe_lenSetS hc hg hm hg2 hm2 ha na) fun σ H Q ⟨G, δ, η, a0, fin⟩ => ?_
  refine tG.bind (Rel2 := Rp C) a0 fin fun d v G1 H1 η1 a1 x1 r1 fin1 => ?_
  cases r1 with
  | @lst a vs l h z r =>
    dsimp only at fin1
    cases hs : strsOf l with
    | none => rw [hs] at fin1; exact fin1.elim
    | some xs =>
      rw [hs] at fin1
      dsimp only at fin1
      split at fin1
      · rename_i hz
        have e := strsOf_r r hs
        have h2 := h.sq
        rw [← hK, e] at h2
        exact ⟨_, xs, rfl, .inl h2, hz, fin1 _ G1 H1 Nx.refl a1.he (.int _)⟩
      · exact fin1.elim
  | @tup a vs l h z r =>
    dsimp only at fin1
    cases hs : strsOf l with
    | none => rw [hs] at fin1; exact fin1.elim
    | some xs =>
      rw [hs] at fin1
      dsimp only at fin1
      split at fin1
      · rename_i hz
        have e := strsOf_r r hs
        have h2 := h.sq
        rw [← hK, e] at h2
        exact ⟨_, xs, rfl, .inr h2, hz, fin1 _ G1 H1 Nx.refl a1.he (.int _)⟩
      · exact fin1.elim
  | _ => exact fin1.elim
end
end DL
namespace DL
open PySem L2
section
variable {X : Cx} {C : Ct} {W : WX} {pos p2 p : Pos} {e a b : Expr} {es : List Expr} {fe fa fb fo : F D} {fs fn fr : F (List D)} {tg : Expr}
/-! ### [.., *e, ..] -/
def fStar (fa : F D) (fr : F (List D)) : F (List D) := fun δ η => (fa δ η).bind fun d η => match d with
  | .lst l => (fr δ η).bind fun ds η => .ok (l ++ ds) η
  | .tup l => (fr δ η).bind fun ds η => .ok (l ++ ds) η
  | _ => .bad
/-! ### methods that change a list -/
structure MutOk (C : Ct) (r : V → List V → Hp → VK → Prop) (mu : List D → List D → Option (List D)) : Prop where
  to : ∀ {G : Gh} {H : Hp} {l ds l2 : List D} {vs ws : List V} {q : Addr} {Q : VK}, mu l ds = some l2 → Rps C G H l vs → Rps C G H ds ws → H q = some (.lst vs) → (∀ vs2, Rps C G H l2 vs2 → l2.length ≤ sizeLine → Q .non (upd H q (.lst vs2))) → r (.ref q) ws H Q
def muApp : List D → List D → Option (List D)
  | l, [d] => if l.length < sizeLine then some (l ++ [d]) else none
  | _, _ => none
theorem mu_app : MutOk C rAppend muApp := ⟨fun {G H l ds l2 vs ws q Q} h r s e k => by
  unfold muApp at h
  split at h
  · split at h
    · rename_i d hz
      cases h
      cases s with
      | cons s1 s2 =>
        cases s2
        exact ⟨q, vs, _, rfl, rfl, e, by rw [← r.length]; exact hz, k _ (r.append (.cons s1 .nil)) (by rw [List.length_append]; exact hz)⟩
    · cases h
  · cases h⟩
abbrev rInsert : V → List V → Hp → VK → Prop := fun x vs H Q => ∃ (l : Addr) (xs : List V) (i : Int) (y : V), x = .ref l ∧ vs = [.int i, y] ∧ H l = some (.lst xs) ∧ xs.length < sizeLine ∧ 0 ≤ i ∧ i < 2 ^ 63 ∧
    Q .non (upd H l (.lst (xs.take i.toNat ++ [y] ++ xs.drop i.toNat)))
def muIns : List D → List D → Option (List D)
  | l, [.int i, d] => if l.length < sizeLine ∧ 0 ≤ i ∧ i < 2 ^ 63 then some (l.take i.toNat ++ [d] ++ l.drop i.toNat) else none
  | _, _ => none
theorem mu_ins : MutOk C rInsert muIns := ⟨fun {G H l ds l2 vs ws q Q} h r s e k => by
  unfold muIns at h
  split at h
  · split at h
    · rename_i i d hz
      cases h
      cases s with
      | cons s1 s2 =>
        cases s1
        cases s2 with
        | cons s3 s4 =>
          cases s4
          have hl := hz.1
          refine ⟨q, vs, i, _, rfl, rfl, e, by rw [← r.length]; exact hz.1, hz.2.1, hz.2.2, k _ (((r.take i.toNat).append (.cons s3 .nil)).append (r.drop i.toNat)) ?_⟩
          simp only [List.length_append, List.length_take, List.length_drop, List.length_cons, List.length_nil]
          omega
    · cases h
  · cases h⟩
def muClr : List D → List D → Option (List D)
  | _, [] => some []
  | _, _ => none
def sMut (i : Nat) (mu : List D → List D → Option (List D)) (fs : F (List D)) : S := fun δ η => match δ[i]? with
  | some (some (.own l)) => (fs δ η).toS δ fun ds η => match mu l ds with
    | some l2 => .nx (δ.set i (some (.own l2))) η
    | none => .bad
  | _ => .bad
theorem fs_mut {r : V → List V → Hp → VK → Prop} {mu : List D → List D → Option (List D)} (i : Nat) (hmu : MutOk C r mu) (h : PE X e (tBM X.K "list" r (tVar i) (tG C (Rps C) W fs))) (hsw : swapsWith e none pos.line X.env = pure false := by rfl) : FS C W X (.Expr e pos) (sMut i mu fs) := by
  refine PS.imp (ps_expr h hsw) fun Dn σ H ⟨B, G, δ, η, h, fin⟩ => ?_
  unfold sMut at fin
  split at fin
  · rename_i l hl
    obtain ⟨v, h1, h2⟩ := h.a.sl i _ hl
    cases h2 with
    | @own q vs _ m ee zz r =>
      refine ⟨_, h1, .inl ⟨rfl, vs, SqL.of ee⟩, ?_⟩
      refine tG.bindS h fin fun d v G1 H1 η1 h1' x1 r1 fin1 => ?_
      split at fin1
      · rename_i l2 hm
        have st := x1.stab h.a.he
        have e1 := x1.keep _ _ ee (h.a.nad i _ _ hl rfl h1)
        have m1 := (x1.mu _ _ ee).mpr m
        refine hmu.to hm (r.stab st) r1 e1 fun vs2 r2 hz => fin1 _ _ _ (h1'.chOwn hl h1 m1 e1 hz r2)
      · exact fin1.elim
  · exact fin.elim
/-- .. of the store -/
def sMutO (mu : List D → List D → Option (List D)) (fo : F D) (fs : F (List D)) : S := fun δ η => (fo δ η).toS δ fun d η => match d with
  | .obj n => match η[n]? with
    | some (.lst _) => (fs δ η).toS δ fun ds η => match η[n]? with
      | some (.lst l) => match mu l ds with
        | some l2 => .nx δ (η.set n (.lst l2))
        | none => .bad
      | _ => .bad
    | _ => .bad
  | _ => .bad
theorem fs_mutO {r : V → List V → Hp → VK → Prop} {mu : List D → List D → Option (List D)} (hmu : MutOk C r mu) (h : PE X e (tBM X.K "list" r (tG C (Rp C) W fo) (tG C (Rps C) W fs))) (hsw : swapsWith e none pos.line X.env = pure false := by rfl) : FS C W X (.Expr e pos) (sMutO mu fo fs) := by
  refine PS.imp (ps_expr h hsw) fun Dn σ H ⟨B, G, δ, η, h, fin⟩ => ?_
  refine tG.bindS h fin fun d v G1 H1 η1 h1 x1 r1 fin1 => ?_
  split at fin1
  · rename_i n
    split at fin1
    · rename_i l0 hl0
      cases r1 with
      | @obj _ q ho =>
        obtain ⟨m, z⟩ := h1.a.he.ob n _ _ hl0 ho
        cases z with
        | @lst _ vs0 _ e0 z0 rs0 =>
          refine ⟨.inl ⟨rfl, vs0, SqL.of e0⟩, ?_⟩
          refine tG.bindS h1 fin1 fun ds ws G2 H2 η2 h2 x2 r2 fin2 => ?_
          have ho2 := x2.ads _ _ ho
          split at fin2
          · rename_i l hl
            split at fin2
            · rename_i l2 hm
              obtain ⟨m, z⟩ := h2.a.he.ob n _ _ hl ho2
              cases z with
              | @lst _ vs _ ee zz rs =>
                refine hmu.to hm rs r2 ee fun vs2 r3 hz => ?_
                have nx : Nx G2 H2 G2 (upd H2 q (.lst vs2)) := Nx.chObj ho2 (by rw [ee]; exact fun z => by cases z)
                exact fin2 G2 _ σ (h2.next nx (h2.a.he.chObj ho2 (.lst upd_same hz (r3.stab (nx.stab h2.a.he)))))
            · exact fin2.elim
          · exact fin2.elim
    · exact fin1.elim
  · exact fin1.elim
/-! ### a, b = e, [..]: the second the frame's own list -/
def sParN (i j : Nat) (fa : F D) (fn : F (List D)) : S := fun δ η => (fa δ η).toS δ fun d η => (fn δ η).toS δ fun l η => .nx ((δ.set i (some (.val d))).set j (some (.own l))) η
/-! ### two ways to read -/
end
end DL
namespace DL
open PySem L2
open PyProof.Rows (envOfC)
section
variable {X : Cx} {C : Ct} {W : WX} {pos p2 p : Pos} {e a b : Expr} {es : List Expr} {fe fa fb fo : F D} {fs fn fr : F (List D)} {tg : Expr}
/-! ### a frame's own list changes no more -/
def sFz (i : Nat) (f : S) : S := fun δ η => match δ[i]? with
  | some (some (.own l)) => f (δ.set i (some (.val (.lst l)))) η
  | _ => f δ η
theorem Hold.freeze {B : Bs} {G : Gh} {H : Hp} {δ : En} {σ : St} {η : List O} {i : Nat} {l : List D} (h : Hold C B G H δ σ η) (hl : δ[i]? = some (some (.own l))) : ∃ G2, Hold C B G2 H (δ.set i (some (.val (.lst l)))) σ η := by
  obtain ⟨v, h1, h2⟩ := h.a.sl i _ hl
  cases h2 with
  | @own p vs _ m e zz r =>
    have hb := h.o i _ p hl rfl h1
    have npa := h.a.nad i _ p hl rfl h1
    have rh : Rh C (G.sub p) H η := by
      refine ⟨h.a.he.len, h.a.he.nd, fun n o a z1 z2 => ?_, fun a z => h.a.he.mh a z.1⟩
      obtain ⟨m, q⟩ := h.a.he.ob n o a z1 z2
      exact ⟨⟨m, fun e => npa (by rw [← e]; exact List.mem_of_getElem? z2)⟩, q.stab Stab.sub fun _ z => z⟩
    refine ⟨G.sub p, ⟨by rw [List.length_set]; exact h.a.len, fun j l2 hj => ?_, fun j k l2 l3 v hne e1 e2 o1 o2 s1 s2 => ?_, fun j l2 a hj ho hs => ?_, rh⟩, fun j l2 a hj ho hs => ?_, ⟨h.n.ads, h.n.keep, fun a o ha => ⟨fun z => (h.n.mu a o ha).mp z.1, fun z => ⟨(h.n.mu a o ha).mpr z, fun q => ?_⟩⟩, h.n.new, h.n.there⟩, ⟨h.s.ads, fun a o ha hm => ⟨(h.s.keep a o ha hm).1, fun z => (h.s.keep a o ha hm).2 z.1⟩⟩⟩
    · rcases getSet hj with ⟨rfl, q⟩ | ⟨hk, hj⟩
      · cases q
        exact ⟨_, h1, .val (.lst (.inl ⟨.inl e, fun z => z.2 rfl⟩) zz (r.stab Stab.sub))⟩
      · obtain ⟨w, e1, e2⟩ := h.a.sl j l2 hj
        refine ⟨w, e1, ?_⟩
        cases e2 with
        | val r2 => exact .val (r2.stab Stab.sub)
        | own m2 e2 z2 r2 => exact .own ⟨m2, fun q => h.a.un j i _ _ _ hk hj hl rfl rfl e1 (by rw [h1, q])⟩ e2 z2 (r2.stab Stab.sub)
        | oins m2 e2 n2 r2 => exact .oins ⟨m2, fun q => h.a.un j i _ _ _ hk hj hl rfl rfl e1 (by rw [h1, q])⟩ e2 n2 (r2.stab Stab.sub)
    · rcases getSet e1 with ⟨rfl, q⟩ | ⟨hk, e1⟩
      · cases q; cases o1
      · rcases getSet e2 with ⟨rfl, q⟩ | ⟨hk2, e2⟩
        · cases q; cases o2
        · exact h.a.un j k l2 l3 v hne e1 e2 o1 o2 s1 s2
    · rcases getSet hj with ⟨rfl, q⟩ | ⟨hk, hj⟩
      · cases q; cases ho
      · exact h.a.nad j l2 a hj ho hs
    · rcases getSet hj with ⟨rfl, q⟩ | ⟨hk, hj⟩
      · cases q; cases ho
      · exact h.o j l2 a hj ho hs
    · subst q; rw [hb] at ha; cases ha
theorem fss_frz {sts : List Stmt} {f : S} (i : Nat) (h : FSs C W X sts f) : FSs C W X sts (sFz i f) := PSs.imp h fun Dn σ H ⟨B, G, δ, η, h, fin⟩ => by
  unfold sFz at fin
  split at fin
  · rename_i l hl
    obtain ⟨G2, h2⟩ := h.freeze hl
    exact ⟨B, G2, _, η, h2, fin⟩
  · exact ⟨B, G, δ, η, h, fin⟩
/-! ### an object of the store, read as it stands -/
def fDr (fa : F D) : F D := fun δ η => (fa δ η).bind fun d η => match d with
  | .obj n => match η[n]? with
    | some (.lst l) => .ok (.lst l) η
    | _ => .ok d η
  | _ => .ok d η
theorem fu_dr (h : FE C W X e fe) : FU C W X e (fDr fe) := PE.imp h fun σ H Q ⟨G, δ, η, a0, fin⟩ => by
  refine tG.bind (Rel2 := Rpu C) a0 fin fun d v G1 H1 η1 a1 x1 r1 fin1 => ?_
  split at fin1
  · rename_i n
    split at fin1
    · rename_i l hl
      cases r1 with
      | @obj _ q ho =>
        obtain ⟨m, z⟩ := a1.he.ob n _ _ hl ho
        cases z with
        | @lst _ vs _ ee zz rs => exact fin1 _ G1 H1 Nx.refl a1.he (.inr ⟨q, vs, l, rfl, rfl, ee, rs, zz⟩)
    · exact fin1 _ G1 H1 Nx.refl a1.he (.inl r1)
  · exact fin1 _ G1 H1 Nx.refl a1.he (.inl r1)
end
/-! ### a def, with or without defaults -/
structure FunG (K : PySem.W.Frag) (x qual : Str) (st : Stmt) (f : Addr) (fd : FuncData) : Prop where
  ex : ∃ (oc : Value) (od : Option Addr) (dV kV doc pm : Value) (an : Option Addr) (cdv ct : Value) (osl : Array (Option Value)),
    fd = PySem.W.fnOf x qual (defArgs st) (defBody st) (defScope st) dV kV doc pm an cdv ct ∧ K.lookup f = some ⟨oc, od, .func fd, osl⟩ ∧ PySem.W.codeIn K cdv qual = true
  kp : PySem.W.keepIn K (.ref f) = true
section
variable {P : Program} {w : World} {K : PySem.W.Frag} {mg : Str → Option Value} {base : Heap} {C : Ct}
theorem FunG.mk' {x qual : Str} {st : Stmt} {f : Addr} {oc : Value} {od an : Option Addr} {osl : Array (Option Value)} {dV kV doc pm cdv ct : Value} (l : K.lookup f = some ⟨oc, od, .func (PySem.W.fnOf x qual (defArgs st) (defBody st) (defScope st) dV kV doc pm an cdv ct), osl⟩)
    (c : PySem.W.codeIn K cdv qual = true) (k : PySem.W.keepIn K (.ref f) = true) : FunG K x qual st f (PySem.W.fnOf x qual (defArgs st) (defBody st) (defScope st) dV kV doc pm an cdv ct) := ⟨⟨oc, od, dV, kV, doc, pm, an, cdv, ct, osl, rfl, l, c⟩, k⟩
/-- THE RULE for a def that lets no exception out -/
theorem ok_defG {x qual : Str} {st : Stmt} {f : Addr} {fd : FuncData} {N ps : List Str} {k n np : Nat} {fb : S} (F : FunG K x qual st f fd) (S : FnScope N ps (defScope st)) (hC : K = C.K) (hn : N.length = n) (hnp : ps.length = np)
    (hbody : ∀ (cdv : Value) (A : Around) (outer : List Env) (s : Shared) (H : Hp), Room k (A.deeper (envOfC qual (defScope st) s.heap.objs.size f cdv)) →
      FSs C WX0 (cxOf CX0 P w K mg base N qual (defScope st) f cdv A outer s H E0).nox (defBody st) fb) : FnOk P w K mg base CX0 (k + 1) f fd ps (spD C np (runD n fb)) := by
  obtain ⟨oc, od, dV, kV, doc, pm, an, cdv, ct, osl, rfl, lk, hcd⟩ := F.ex
  subst hn hnp
  refine fn_of lk hcd S (fun vs H Q E h => h.1) fun A outer s H vs Q E hr h => ?_
  obtain ⟨hl, G, ds, η, r, rh, fin⟩ := h
  have hd : ds.length = ps.length := r.length.trans hl
  refine ⟨_, (hbody cdv A outer s H hr).nox, ⟨G, H, G, H⟩, G, _, η, ⟨start_at r rh, fun i l a e o => ?_, Nx.refl, Stab.refl⟩, ?_⟩
  · exfalso
    by_cases hi : i < ds.length
    · rw [List.getElem?_append_left (by simpa using hi), List.getElem?_map] at e
      cases q : ds[i]? with
      | none => rw [q] at e; cases e
      | some d => rw [q] at e; cases e; cases o
    · rw [List.getElem?_append_right (by simpa using hi), List.getElem?_replicate] at e
      split at e <;> cases e
  · unfold runD at fin
    split at fin
    · rename_i δ' η' q
      rw [q]
      exact fun G' H' σ' h => fin _ G' H' h.n h.a.he .non
    · rename_i d η' q
      rw [q]
      exact fun v G' H' nx rh r => fin v G' H' nx rh r
    · rename_i c ns l δ' η' q
      rw [q]
      exact fun x vs G' H' σ' h q1 q2 => fin x vs G' H' h.n h.a.he q1 q2
    · exact fin.elim
/-- every parameter is given, the defaults (a tuple at T) are not asked -/
theorem kd_all {fd : FuncData} {ps ks : List Str} {np : Nat} {ix : List Nat} {T : Addr} {o : Obj} {its : Array Value} {m : Nat} (lT : K.lookup T = some o) (oT : o.data = .seq its m)
    (h : ∀ us ws : List Value, us.length = np → ws.length = ks.length → ∃ k, bindArgs fd ⟨us, ks.zip ws⟩ = seqItems? (.ref T) >>= k ∧ k (some its) = pure (ps.zip (DL.pick ix (us ++ ws)))) : KDx K fd ps np ks ix [] :=
  ⟨_, _, KBn.mk (g := fun us ws => DL.pick ix (us ++ ws)) (gV := fun us ws => DL.pick ix (us ++ ws)) (fun s us ws X l1 l2 => by
    obtain ⟨k, e1, e2⟩ := h us ws l1 l2
    refine BindsTo.of_looks fun M => ?_
    rw [e1]
    exact looks_items X lT oT (PySem.W.Looks.of_pure e2)) fun r q => pick_vals (r.append q) ix, fun _ r1 r2 => by rw [List.append_nil]; exact pick_rps (r1.append r2) ix⟩
end
end DL
namespace DL
open PySem L2
end DL
namespace DL
open PySem L2
section
variable {X : Cx} {C : Ct} {W : WX} {pos p2 : Pos} {e a b : Expr} {es : List Expr} {fe fa fb fc fo : F D} {fs fn : F (List D)} {tg : Expr}
/-- a, b = [..], e: the first the frame's own list -/
def sParNV (i j : Nat) (fn : F (List D)) (fa : F D) : S := fun δ η => (fn δ η).toS δ fun l η => (fa δ η).toS δ fun d η => .nx ((δ.set i (some (.own l))).set j (some (.val d))) η
/-- a, b, c = e1, e2, e3 -/
def sPar3 (i j l : Nat) (fa fb fc : F D) : S := fun δ η => (fa δ η).toS δ fun d η => (fb δ η).toS δ fun e η => (fc δ η).toS δ fun g η => .nx (((δ.set i (some (.val d))).set j (some (.val e))).set l (some (.val g))) η
end
end DL
namespace DL
open PySem L2
section
variable {X : Cx} {C : Ct} {W : WX} {pos p2 p : Pos} {e a b : Expr} {es : List Expr} {fe fa fb fo : F D} {fs fn fk : F (List D)}
variable {P : Program} {k n : Nat} {g A : Addr} {fd : FuncData} {ps ks : List Str} {df : DF} {x : Str}
/-! ### len(o), repr(o), o == q of objects of the text's own classes -/
def fLenM (c n : Nat) (df : DF) (fa : F D) : F D := fun δ η => (fa δ η).bind fun o η => if insC η c o = true then ((arg n df [o] η).nox).bind fun z η => (match z with | .int i => if 0 ≤ i ∧ i < 2 ^ 63 then .ok (.int i) η else .bad | _ => .bad) else .bad
def fReprM (c n : Nat) (df : DF) (fa : F D) : F D := fun δ η => (fa δ η).bind fun o η => if insC η c o = true then ((arg n df [o] η).nox).bind fun z η => (match z with | .str i => .ok (.str i) η | _ => .bad) else .bad
end
end DL
namespace DL
open PySem L2
section
variable {X : Cx} {C : Ct} {W : WX} {pos p2 p : Pos} {e a b : Expr} {es : List Expr} {fe fa fb fo : F D} {fs fn fk : F (List D)}
/-! ### texts of numbers, f-strings -/
def intTx (i : Int) : Option D := if i.natAbs.log2 < 1920 ∧ PySem.PyData.strOk (toString i) = true then some (.str (toString i)) else none
def fmtD : D → Option D
  | .str y => if y.length ≤ sizeLine then some (.str y) else none
  | .int i => intTx i
  | _ => none
def jsF : List (F D) → Str → F D
  | [], acc => fun δ η => .ok (.str acc) η
  | f :: fs, acc => fun δ η => (f δ η).bind fun d η => match d with
    | .str y => if (acc ++ y).length ≤ sizeLine then jsF fs (acc ++ y) δ η else .bad
    | _ => .bad
inductive FJ (C : Ct) (W : WX) (X : Cx) : List Expr → List (F D) → Prop
  | nil : FJ C W X [] []
  | cons {e : Expr} {f : F D} {es : List Expr} {fs : List (F D)} : FE C W X e f → FJ C W X es fs → FJ C W X (e :: es) (f :: fs)
def strC : D → Option D
  | .int i => intTx i
  | .str y => some (.str y)
  | _ => none
end
end DL
namespace DL
open PySem L2
section
variable {X : Cx} {C : Ct} {W : WX} {pos p2 p : Pos} {e a b : Expr} {es : List Expr} {fe fa fb fo : F D} {fs fn fk : F (List D)}
variable {P : Program} {k n : Nat} {g A : Addr} {fd : FuncData} {ps ks : List Str} {df : DF} {x : Str}
/-! ### o == q, both of one class of the text's own, by its __eq__ -/
def fEqM (c n : Nat) (df : DF) (fa fb : F D) : F D := fun δ η => (fa δ η).bind fun d η => (fb δ η).bind fun o η => if insC η c d = true ∧ insC η c o = true then ((arg n df [d, o] η).nox).bind fun z η => (match z with | .bl b => .ok (.bl b) η | _ => .bad) else .bad
/-! ### isinstance(o, Own), o of that class -/
end
end DL
namespace DL
open PySem PySem.Spec PyProof.Rows L2
/-! ### sorted(set(ints)) -/
section
variable {prog : Program} {w : World} {A : Around} {E : Value → Shared → Prop} {s : Shared} {l : Addr} {items : Array Value} {ns : List Int}
end
end DL
namespace DL
open PySem PySem.Spec PyProof.Rows L2
/-- k put into a rising list, once -/
def insU (k : Int) : List Int → List Int
  | [] => [k]
  | x :: l => if k < x then k :: x :: l else if k = x then x :: l else x :: insU k l
/-- the members, rising, each once -/
def sortU (ns : List Int) : List Int := ns.foldr insU []
section
variable {X : Cx} {C : Ct} {W : WX} {e a : Expr} {fa : F D} {ta : TE} {p p2 q pos : Pos}
def numsOf : List D → Option (List Int)
  | [] => some []
  | .int b :: r => (numsOf r).map (b :: ·)
  | _ => none
def fSortSet (fa : F D) : F (List D) := fun δ η => (fa δ η).bind fun d η => match d with
  | .lst l => match numsOf l with
    | some ns => if ns.length < 64 ∧ (sortU ns).length ≤ sizeLine then .ok ((sortU ns).map .int) η else .bad
    | none => .bad
  | .tup l => match numsOf l with
    | some ns => if ns.length < 64 ∧ (sortU ns).length ≤ sizeLine then .ok ((sortU ns).map .int) η else .bad
    | none => .bad
  | _ => .bad
end
end DL
namespace DL
open PySem L2
/-! ### min, max, sum of a list of ints -/
def intsOf : List D → Option (List Int)
  | [] => some []
  | .int b :: r => (intsOf r).map (b :: ·)
  | _ => none
section
variable {X : Cx} {C : Ct} {W : WX}
def minOf (n : Int) (l : List Int) : Int := l.foldl min n
def maxOf (n : Int) (l : List Int) : Int := l.foldl max n
def minC : D → Option D
  | .lst l => match intsOf l with
    | some (n :: r) => some (.int (minOf n r))
    | _ => none
  | _ => none
def maxC : D → Option D
  | .lst l => match intsOf l with
    | some (n :: r) => some (.int (maxOf n r))
    | _ => none
  | _ => none
theorem all_nil {p : Nat → Prop} : ∀ c ∈ ([] : List Nat), p c := fun _ h => nomatch h
theorem all_cons {p : Nat → Prop} {a : Nat} {l : List Nat} (h : p a) (r : ∀ c ∈ l, p c) : ∀ c ∈ a :: l, p c := fun c hc => by
  rcases List.mem_cons.mp hc with rfl | hc
  · exact h
  · exact r c hc
end
end DL
/-! own exceptions whose __init__ says super().__init__('..'), then stores its fields -/
namespace DX
open PySem PySem.W PySem.Calls PyProof.Rows PySem.HandSPX
/-- what the written part says of an own exception class at C, its __init__ at fI (its class cell at cc), over the built-in B -/
structure ExK (K : Frag) (C fI cc : Addr) (B newId initId : String) (bmB : List Value) : Prop where
  exi : excInitIn K C bmB newId = true
  exo : excOver K C bmB = true
  ini : findIn K (.ref C) "__init__" = some (some (.ref fI))
  fn : isFn K (.ref fI) = true
  sup : ks_superIn K C C "__init__" = some (some (.builtin initId))
  sB : subIn K (.ref C) (.type B) = some true
  mC : mroIn K C (.ref C) = some true
  any : nsIn K cStatics "thirdparty.any" = some none
  noS : nsIn K mainGlobals "super" = some none
  cell : ∃ cl cld csl, K.lookup cc = some ⟨cl, cld, .cell (some (.ref C)), csl⟩
  sa : findIn K (.ref C) "__setattr__" = some (some (.builtin "object.__setattr__"))
  hd : hasDictIn K C = true
  kC : keepIn K (.ref C) = true
  exC : subIn K (.ref C) (.type "BaseException") = some true
  tyC : typeIn K (.ref C) = some (.type "type")
structure ExB (B newId initId : String) (bmB : List Value) : Prop where
  FB : ExcBaseFacts B newId initId bmB
  KF : KxsFacts B initId
  SF : StoreFacts B bmB "object.__setattr__" "object"
theorem exB_Value : ExB "ValueError" "ValueError.__new__" "ValueError.__init__" [.type "ValueError", .type "Exception", .type "BaseException", .type "object"] := ⟨PySem.F.excBase_ValueError, kxs_ValueError, PySem.F.store_ValueError⟩
theorem exB_Lookup : ExB "LookupError" "LookupError.__new__" "LookupError.__init__" [.type "LookupError", .type "Exception", .type "BaseException", .type "object"] := ⟨PySem.F.excBase_LookupError, kxs_LookupError, PySem.F.store_LookupError⟩
section
variable {prog : Program} {w : World} {A : Around} {s : Shared} {K : Frag} {E : Value → Shared → Prop} {C fI cc : Addr} {B newId initId : String} {bmB : List Value}
/-- the bound built-in __init__ at u, called -/
theorem mw_call {u x t0 : Addr} {rest : List Value} {Q : Value → Shared → Prop} (b : ExB B newId initId bmB) (T : ExK K C fI cc B newId initId bmB) (X : K.In s.heap) (hu : s.heap.get? u = some (kxs_mw initId x)) (hx : s.heap.get? x = some (excObj C t0 none .none)) (hz : rest.length ≤ sizeLine)
    (h : ∀ h' t1, (∀ c o, c ≠ x → s.heap.get? c = some o → h'.get? c = some o) → h'.get? x = some (excObj C t1 none .none) → Q .none { s with heap := h' }) : wpAny (model prog w) A (call (.ref u) rest) Q E s := by
  obtain ⟨nm, N', qn, bs, bm, hdct, sn, sub, ab, col, dd, k0, k1, k2, k3, k5, hC, hT⟩ := excInit_of X T.exi
  obtain ⟨hh, g, d, tk, os⟩ := s
  refine wpAny_call (codeAny_of_tree ?_)
  show wpAny _ A.in1 (callAny (.ref u) ⟨rest, []⟩) _ _ _
  simp only [callAny]
  refine wpAny_bind (wpAny_load hu ?_)
  have hb : (Value.type "method-wrapper" == Value.type "method" || Value.type "method-wrapper" == Value.type "builtin_function_or_method" || Value.type "method-wrapper" == Value.type "method-wrapper") = true := by decide
  simp only [kxs_mw, hb, if_true]
  refine KFB.if_so (by decide) ?_
  refine wpAny_bind (check_bound_init b.FB.toExcCallFacts hC hx rfl ?_)
  refine wpAny_bind (wpAny_pure (wpAny_pure ?_))
  refine ⟨plainId_quiet b.FB.init.plain _, codeAny_builtin b.FB.initEntry ?_⟩
  exact exc_init_tree (cls := .ref C) (t0 := t0) (dv := none) (c2 := .none) (c3 := .none) (b4 := .bool false) hx hz fun h' k1 e1 _ => h h' _ k1 e1
/-- super().__init__('..') -/
theorem sup_stmt {qual file msg : Str} {scope : Scope} {L cda : Addr} {fd : FuncData} {oc ccl : Value} {od cdd : Option Addr} {osl ccs : Array (Option Value)} {ar : Arg} {vs : Array Value} {tf : Tok} {body : List Stmt} {p0 p1 p2 p3 p4 p5 : Pos} {j : Nat} {m mg mb : Str → Option Value} {x t0 : Addr} {Q : Flow → Shared → Prop} {pl : Sem Bool}
    (b : ExB B newId initId bmB) (T : ExK K C fI cc B newId initId bmB) (X : K.In s.heap) (hx : s.heap.get? x = some (excObj C t0 none .none)) (hn : s.heap.Ns L m) (hv : m ar.arg = some (.ref x))
    (hf : K.lookup fI = some ⟨oc, od, .func fd, osl⟩) (hp : (fd.params.posonlyargs ++ fd.params.args).head? = some ar) (hcode : K.lookup cda = some ⟨ccl, cdd, .fields vs, ccs⟩) (hvs : vs[2]? = some (.str file tf)) (hfile : ((prog.main.file : Str) == file) = true)
    (hks : scope.names.lookup ("super" : Str) = some .globalImplicit) (hkc : scope.names.lookup ("__class__" : Str) = some .free) (hka : scope.names.lookup ar.arg = some .local) (hk : scope.kind = .function) (htop : (prog.main.scope.names.lookup ("super" : Str)).isSome = false)
    (gg : s.heap.Ns mainGlobals mg) (gm : mg "super" = none) (gb : s.heap.Ns builtinsNs mb) (gs : mb "super" = some (.type "super"))
    (h : ∀ h' t1 tk, (∀ c o, c ≠ x → s.heap.get? c = some o → h'.get? c = some o) → h'.get? x = some (excObj C t1 none .none) → Q .next { s with heap := h', toks := tk })
    (he : eval (.Call (.Attribute (.Call (.Name "super" p0) [] [] p1) "__init__" p2) [.Constant (.str msg) j p3] [] p4) (ksEnv qual scope L fI (.ref cda) cc) = (do
      let ov ← attributeBase (.Call (.Name "super" p0) [] [] p1) "__init__" (ksEnv qual scope L fI (.ref cda) cc) (eval (.Call (.Name "super" p0) [] [] p1) (ksEnv qual scope L fI (.ref cda) cc))
      standAt p2.atName
      let (f, first) ← holding [ov] (getMethod ov "__init__" pl)
      callWith p4 f first (backTo p4 (starEach [.Constant (.str msg) j p3] (ksEnv qual scope L fI (.ref cda) cc))) [])) :
    _root_.PySem.wpAt (model prog w) A (.func body (ksEnv qual scope L fI (.ref cda) cc)) (exec (.Expr (.Call (.Attribute (.Call (.Name "super" p0) [] [] p1) "__init__" p2) [.Constant (.str msg) j p3] [] p4) p5) (ksEnv qual scope L fI (.ref cda) cc)) Q E s := by
  obtain ⟨hh, g, d, t, os⟩ := s
  obtain ⟨cl, cld, csl, hcell⟩ := T.cell
  obtain ⟨nm, N', qn, bs, bm, hdct, sn, sub, ab, col, dd, k0, k1, k2, k3, k5, hC, hT⟩ := excInit_of X T.exi
  have hint : interactive (ksEnv qual scope L fI (.ref cda) cc) = false := by
    unfold interactive
    show (scope.kind == .module && _) = false
    rw [hk]; rfl
  refine ks_wpAt_Expr_any (ks_wpAt_MethodCall (pl := pl) ?_ he) hint
  refine ks_wpAt_super_base (env := ksEnv qual scope L fI (.ref cda) cc) hks hkc rfl rfl (X _ _ hf) rfl hp rfl (X _ _ hcode) rfl hvs hfile htop ?_
  refine ks_loadName_global hk hks (loadGlobal_builtin (env := ksEnv qual scope L fI (.ref cda) cc) gg gm gb gs ⟨rfl, ?_⟩)
  refine wpAny_loadName_free hk hkc rfl ⟨_, X _ _ hcell, rfl⟩ ?_
  refine wpAny_loadName_local hk hka hn hv ?_
  refine ks_wpAny_isType_cls hC rfl ⟨rfl, ?_⟩
  refine ks_wpAny_call_super hC rfl hx rfl (fun c e => by cases e) (looks_mroIn X T.mC) (fun h1 e1 k1 => ?_)
  have X1 : K.In h1 := X.keeps k1
  have hx1 := k1 _ _ hx
  have I1 : InstAt h1 x (excObj C t0 none .none) C none := ⟨hx1, rfl, rfl, trivial⟩
  have hsup := T.sup
  cases hc : clsIn K C with
  | none => unfold ks_superIn at hsup; rw [hc] at hsup; cases hsup
  | some cd =>
    unfold ks_superIn at hsup
    rw [hc] at hsup
    refine kxs_getMethod b.KF e1 (looks_opaque X1 T.any) (l₀ := cd.mro) (fun A Q E s k q => wpAny_bind ((looks_clsIn X1 hc) A _ E s k (wpAny_pure q))) rfl X1 hsup (I1.type.andThen (looks_subIn X1 T.sB)) (ks_ne X1 I1 hc) rfl ?_
    have hu : (h1.push (kxs_mw initId x)).get? h1.objs.size = some (kxs_mw initId x) := Heap.get?_push_size _ rfl
    refine kxs_callWith (i := initId) (x := x) rfl (evalArgs_plain ?_)
    refine Calls.spliced_cons ?_
    show wpAny _ _ (eval (.Constant (.str msg) j p3) (ksEnv qual scope L fI (.ref cda) cc)) _ _ _
    refine wpAny_Constant_str ?_
    refine Calls.spliced_nil ⟨hu, ?_⟩
    refine mw_call b T (X1.keeps fun c o e => Heap.get?_push_of_some _ e) hu (Heap.get?_push_of_some _ hx1) (by rw [sizeLine_eq]; simp) fun h' t1 k2 e2 => ?_
    exact h h' t1 _ (fun c o hc e => k2 c o hc (Heap.get?_push_of_some _ (k1 c o e))) e2
/-- self.name = v: the exception has no dict yet -/
theorem set_new {name : Str} {v : Value} {x t0 : Addr} {Q : Unit → Shared → Prop} (b : ExB B newId initId bmB) (T : ExK K C fI cc B newId initId bmB) (X : K.In s.heap) (hx : s.heap.get? x = some (excObj C t0 none .none)) (ht : takerIn K C name = some none)
    (h : ∀ h' dx tk, (∀ c o, c ≠ x → s.heap.get? c = some o → h'.get? c = some o) → s.heap.objs.size ≤ dx → dx ≠ x → h'.get? x = some (excObj C t0 (some dx) .none) → h'.Ns1 dx (fun y => if y = name then some v else none) → Q () { s with heap := h', toks := tk }) :
    wpAny (model prog w) A (setAttr (.ref x) name v) Q E s := by
  obtain ⟨cd, hc, hd'⟩ := any_some T.hd
  have hxs : x ≠ s.heap.objs.size := Nat.ne_of_lt (Heap.lt_size hx)
  refine set_plain (od := none) X ⟨hx, rfl, rfl, trivial⟩ T.sa ?_
  refine osa_openX (s := { s with toks := s.toks + 1 }) (od := none) b.SF X ⟨hx, rfl, rfl, trivial⟩ T.exo ht fun _ => ?_
  refine wpAny_bind (wpAny_pure (wpAny_bind (instanceDict_exc hx (looks_clsIn X hc) hd' ?_)))
  show wpAny _ _ (Builtin.ObjectAttr.storeInDict s.heap.objs.size (.str name s.toks) name v) _ _ _
  have old : ∀ {c : Addr} {o : Obj}, s.heap.get? c = some o → c ≠ s.heap.objs.size := fun e => Nat.ne_of_lt (Heap.lt_size e)
  refine store_in_new ⟨_, #[], _, (Heap.get?_update_ne _ _ _ _ hxs.symm).trans (Heap.get?_push_at rfl rfl), rfl, fun e he => absurd he (by simp), fun _ => rfl⟩ fun h' tk' hn' hs => ?_
  have hx1 : (s.heap.push (dictOf [] 0)).get? x = some (excObj C t0 none .none) := Heap.get?_push_of_some _ hx
  refine h h' s.heap.objs.size tk' (fun c o hc ho => ?_) (Nat.le_refl _) hxs.symm ?_ hn'
  · exact (hs.2 c (old ho)).trans ((Heap.get?_update_ne _ _ _ _ hc).trans (Heap.get?_push_of_some _ ho))
  · exact (hs.2 x hxs).trans (Heap.get?_update_self _ hx1 rfl)
/-- self.name = v: one field more -/
theorem set_more {name : Str} {v : Value} {x t0 dx : Addr} {m0 : Str → Option Value} {nl : List Str} {Q : Unit → Shared → Prop} (b : ExB B newId initId bmB) (T : ExK K C fI cc B newId initId bmB) (X : K.In s.heap) (hx : s.heap.get? x = some (excObj C t0 (some dx) .none)) (ht : takerIn K C name = some none)
    (hn : s.heap.Ns1 dx m0) (hw : Within m0 nl) (hz : nl.length ≤ 1000)
    (h : ∀ h' tk, (∀ c o, c ≠ dx → s.heap.get? c = some o → h'.get? c = some o) → h'.Ns1 dx (fun y => if y = name then some v else m0 y) → Q () { s with heap := h', toks := tk }) :
    wpAny (model prog w) A (setAttr (.ref x) name v) Q E s := by
  obtain ⟨cd, hc, hd'⟩ := any_some T.hd
  obtain ⟨oD, _, _, hoD, _, _⟩ := hn.count hw
  obtain ⟨hp, g, d, t, os⟩ := s
  refine set_plain (od := some oD) X ⟨hx, rfl, rfl, hoD⟩ T.sa ?_
  refine osa_openX (s := ⟨hp, g, d, t + 1, os⟩) (od := some oD) b.SF X ⟨hx, rfl, rfl, hoD⟩ T.exo ht fun _ => ?_
  refine wpAny_bind (wpAny_pure (wpAny_bind (wpAny_bind (wpAny_loadPart hx (wpAny_bind ((looks_clsIn X hc).at ?_))))))
  rw [hd']
  refine wpAny_pure (a := some dx) ?_
  exact OEX.store_in_old hn hw hz fun h' tk' hn' hs => h h' tk' (fun c o hc ho => (hs.2 c hc).trans ho) hn'
end
end DX
namespace DX
open PySem PySem.W PySem.Calls PyProof.Rows PySem.HandSPX
/-- the def of __init__ in the written part -/
structure ExF (prog : Program) (K : Frag) (fI cc cda : Addr) (qual : Str) (params : Arguments) (body : List Stmt) (scope : Scope) : Prop where
  lk : ∃ oc od kV doc pm an ct osl, K.lookup fI = some ⟨oc, od, .func (ksFn "__init__" qual params body scope .none kV doc pm an (.ref cda) ct cc), osl⟩
  cd : codeIn K (.ref cda) qual = true
  code : ∃ (ccl : Value) (cdd : Option Addr) (vs : Array Value) (ccs : Array (Option Value)) (file : Str) (tf : Tok), K.lookup cda = some ⟨ccl, cdd, .fields vs, ccs⟩ ∧ vs[2]? = some (.str file tf) ∧ ((prog.main.file : Str) == file) = true
  top : (prog.main.scope.names.lookup ("super" : Str)).isSome = false
/-- its names -/
structure ExS (scope : Scope) (ps : List Str) : Prop where
  kind : scope.kind = .function
  co : scope.isCoroutine = false
  gen : scope.isGenerator = false
  cell : ∀ x ∈ scope.names, x.2 ≠ .cell
  par : ∀ p ∈ ps, scope.names.lookup p = some .local
  sup : scope.names.lookup ("super" : Str) = some .globalImplicit
  cls : scope.names.lookup ("__class__" : Str) = some .free
/-- the module's facts in a state -/
structure Gb (h : Heap) : Prop where
  gg : ∃ mg : Str → Option Value, h.Ns mainGlobals mg ∧ mg "super" = none
  gb : ∃ mb : Str → Option Value, h.Ns builtinsNs mb ∧ mb "super" = some (.type "super")
/-- the line of the call super().__init__('..') -/
def LineOk (qual msg : Str) (scope : Scope) (fI cc cda : Addr) (p0 p1 p2 p3 p4 : Pos) (j : Nat) : Prop := ∀ L : Addr, ∃ pl : Sem Bool, eval (.Call (.Attribute (.Call (.Name "super" p0) [] [] p1) "__init__" p2) [.Constant (.str msg) j p3] [] p4) (ksEnv qual scope L fI (.ref cda) cc) = (do
      let ov ← attributeBase (.Call (.Name "super" p0) [] [] p1) "__init__" (ksEnv qual scope L fI (.ref cda) cc) (eval (.Call (.Name "super" p0) [] [] p1) (ksEnv qual scope L fI (.ref cda) cc))
      standAt p2.atName
      let (f, first) ← holding [ov] (getMethod ov "__init__" pl)
      callWith p4 f first (backTo p4 (starEach [.Constant (.str msg) j p3] (ksEnv qual scope L fI (.ref cda) cc))) [])
/-- what __init__ leaves of a fresh exception at x -/
structure InitEnd (h h' : Heap) (x C dx t1 : Addr) (m : Str → Option Value) : Prop where
  keep : ∀ b o, b ≠ x → h.get? b = some o → h'.get? b = some o
  obj : h'.get? x = some (excObj C t1 (some dx) .none)
  dbig : h.objs.size ≤ dx
  dne : dx ≠ x
  ns : h'.Ns1 dx m
section
variable {prog : Program} {w : World} {A : Around} {s : Shared} {K : Frag} {E : Value → Shared → Prop} {C fI cc cda : Addr} {B newId initId : String} {bmB : List Value} {R : Result → Shared → Prop}
variable {qual nm f : Str} {params : Arguments} {body : List Stmt} {scope : Scope} {p0 p1 p2 p3 p4 p5 q1 q2 q3 q4 r1 r2 r3 r4 : Pos} {j j2 : Nat} {ar : Arg}
theorem kept_but {h h' : Heap} {x : Addr} (X : K.In h) (hx : K.lookup x = none) (k : ∀ b o, b ≠ x → h.get? b = some o → h'.get? b = some o) : K.In h' := fun a o e => k a o (fun z => by rw [z, hx] at e; cases e) (X a o e)
/-- with one field -/
theorem exc_init1 {x t0 : Addr} {v : Value} (b : ExB B newId initId bmB) (T : ExK K C fI cc B newId initId bmB) (F : ExF prog K fI cc cda qual params body scope) (S : ExS scope ["self", f])
    (hb : body = [.Expr (.Call (.Attribute (.Call (.Name "super" p0) [] [] p1) "__init__" p2) [.Constant (.str nm) j p3] [] p4) p5, .Assign [.Attribute (.Name "self" q1) f q2] (.Name f q3) q4, .Assign [.Attribute (.Name "self" r1) "code" r2] (.Constant (.str nm) j2 r3) r4])
    (hp : (params.posonlyargs ++ params.args).head? = some ar) (ha : ar.arg = "self") (line : LineOk qual nm scope fI cc cda p0 p1 p2 p3 p4 j) (hf : f ≠ "self") (hfc : f ≠ "code") (hfd : (f == ("__debug__" : Str)) = false) (tf : takerIn K C f = some none) (tc : takerIn K C "code" = some none)
    (bd : ∀ (kV doc pm : Value) (an : Option Addr) (ct u w : Value), bindArgs (ksFn "__init__" qual params body scope .none kV doc pm an (.ref cda) ct cc) ⟨[u, w], []⟩ = pure [(("self" : Str), u), (f, w)])
    (X : K.In s.heap) (G : Gb s.heap) (hlim : s.heap.NoLimit) (hx : s.heap.get? x = some (excObj C t0 none .none)) (hnx : K.lookup x = none) (hgx : x ≠ mainGlobals) (hbx : x ≠ builtinsNs) (hroom : A.depth < recursionLimit)
    (hq : ∀ h' tk dx t1 tk', InitEnd s.heap h' x C dx t1 (fun y => if y = "code" then some (.str nm tk') else if y = f then some v else none) → R (.ok (.ret .none)) { s with heap := h', toks := tk }) :
    codeAny (model prog w) A (.call (.ref fI) ⟨[.ref x, v], []⟩) R s := by
  obtain ⟨oc, od, kV, doc, pm, an, ct, osl, lk⟩ := F.lk
  obtain ⟨ccl, cdd, vs, ccs, file, tfl, hcode, hvs, hfile⟩ := F.code
  have pS := S.par "self" (by simp)
  have pF := S.par f (by simp)
  refine ks_codeAny_call_defAt (fd := ksFn "__init__" qual params body scope .none kV doc pm an (.ref cda) ct cc) (body := body) (binds := [(("self" : Str), .ref x), (f, v)]) hroom (X _ _ lk) rfl hlim (codeRec_of X F.cd) rfl (.of_eq (bd _ _ _ _ _ _ _)) S.cell
    (fun y hy => by
      rcases List.mem_cons.mp hy with rfl | hy
      · exact pS
      · rcases List.mem_cons.mp hy with rfl | hy
        · exact pF
        · cases hy) (fun h1 hn k1 => ?_) S.co S.gen S.kind
  obtain ⟨hh, g, d, t, os⟩ := s
  show _root_.PySem.wpAt (model prog w) (A.deeper (ksEnv qual scope hh.objs.size fI (.ref cda) cc)) (.func body (ksEnv qual scope hh.objs.size fI (.ref cda) cc)) (execs body (ksEnv qual scope hh.objs.size fI (.ref cda) cc)) _ _ _
  rw [show execs body (ksEnv qual scope hh.objs.size fI (.ref cda) cc) = execs _ _ from by rw [hb]]
  have hxL : x ≠ hh.objs.size := Nat.ne_of_lt (Heap.lt_size hx)
  obtain ⟨⟨mg, g1, g2⟩, mb, b1, b2⟩ := G
  obtain ⟨pl, he⟩ := line hh.objs.size
  have mS : (fun y => ([(("self" : Str), Value.ref x), (f, v)] : List (Str × Value)).reverse.lookup y) "self" = some (.ref x) := by
    have e : (("self" : Str) == f) = false := by simpa using Ne.symm hf
    simp [List.lookup, e]
  have mF : (fun y => ([(("self" : Str), Value.ref x), (f, v)] : List (Str × Value)).reverse.lookup y) f = some v := by simp [List.lookup]
  refine ks_wpAt_execs_cons ?_
  refine sup_stmt (s := ⟨h1, g, d, t + 2, os⟩) b T (X.keeps k1) (k1 _ _ hx) hn (by rw [ha]; exact mS) lk hp hcode hvs hfile S.sup S.cls (by rw [ha]; exact pS) S.kind F.top (g1.keeps k1) g2 (b1.keeps k1) b2 (fun h2 t1 tk k2 e2 => ?_) he
  have nsk : ∀ {h h' : Heap} {m : Str → Option Value}, h.Ns hh.objs.size m → (∀ c o, c ≠ x → h.get? c = some o → h'.get? c = some o) → h'.Ns hh.objs.size m := fun ⟨o, es, ep, e1, e2⟩ k => ⟨o, es, ep, k _ _ hxL.symm e1, e2⟩
  have n2 := nsk hn k2
  have k12 : ∀ c o, c ≠ x → hh.get? c = some o → h2.get? c = some o := fun c o hc e => k2 c o hc (k1 c o e)
  refine wpAt_of_wpAny (wpAny_execs_cons (plainObj_wpAny_Assign_Attribute ?_))
  refine wpAny_Name (wpAny_loadName_local S.kind pF n2 mF ?_) hfd
  refine wpAny_Name (wpAny_loadName_local S.kind pS n2 mS ?_) (by decide)
  refine set_new b T (kept_but X hnx k12) e2 tf fun h3 dx tk3 k3 dbig dne e3 ns3 => ?_
  have n3 := nsk n2 k3
  have k13 : ∀ c o, c ≠ x → hh.get? c = some o → h3.get? c = some o := fun c o hc e => k3 c o hc (k12 c o hc e)
  have sz : hh.objs.size < h2.objs.size := n2.lt
  have dL : dx ≠ hh.objs.size := Nat.ne_of_gt (Nat.lt_of_lt_of_le sz dbig)
  refine wpAny_execs_cons (plainObj_wpAny_Assign_Attribute ?_)
  refine wpAny_Constant_str ?_
  refine wpAny_Name (wpAny_loadName_local S.kind pS n3 mS ?_) (by decide)
  refine set_more b T (kept_but X hnx k13) e3 tc ns3 (Within.cons f v Within.nil) (by simp) fun h4 tk4 k4 ns4 => ?_
  refine wpAny_execs_nil (hq h4 tk4 dx t1 _ ⟨fun c o hc e => k4 c o (fun z => ?_) (k13 c o hc e), k4 _ _ (Ne.symm dne) e3, Nat.le_of_lt (Nat.lt_of_lt_of_le sz dbig), dne, ns4⟩)
  rw [z] at e
  exact absurd (Heap.lt_size e) (Nat.not_lt.mpr (Nat.le_of_lt (Nat.lt_of_lt_of_le sz dbig)))
end
end DX
namespace DX
open PySem PySem.W PySem.Calls PyProof.Rows PySem.HandSPX
/-- __init__ runs: it stores the fields that Pm tells of -/
def IniOk (prog : Program) (w : World) (K : Frag) (C fI : Addr) (us : List Value) (Pm : (Str → Option Value) → Prop) : Prop := ∀ (A : Around) (s : Shared) (R : Result → Shared → Prop) (x t0 : Addr),
  K.In s.heap → Gb s.heap → s.heap.NoLimit → s.heap.get? x = some (excObj C t0 none .none) → K.lookup x = none → A.depth < recursionLimit →
  (∀ h' tk dx t1 m, InitEnd s.heap h' x C dx t1 m → Pm m → R (.ok (.ret .none)) { s with heap := h', toks := tk }) → codeAny (model prog w) A (.call (.ref fI) ⟨.ref x :: us, []⟩) R s
/-- a made one -/
structure OwnMade (h h' : Heap) (e C d : Addr) (Pm : (Str → Option Value) → Prop) : Prop where
  keep : ∀ b o, h.get? b = some o → h'.get? b = some o
  new : h.objs.size ≤ e
  obj : ∃ oe vs, h'.get? e = some oe ∧ oe.cls = .ref C ∧ oe.dict = some d ∧ oe.data = .fields vs ∧ vs[1]? = some .none
  dbig : h.objs.size ≤ d
  dne : d ≠ e
  ns : ∃ m, h'.Ns1 d m ∧ Pm m
theorem Gb.keeps {h h' : Heap} (G : Gb h) (k : ∀ b o, h.get? b = some o → h'.get? b = some o) : Gb h' := by
  obtain ⟨⟨mg, g1, g2⟩, mb, b1, b2⟩ := G
  exact ⟨⟨mg, g1.keeps k, g2⟩, mb, b1.keeps k, b2⟩
section
variable {prog : Program} {w : World} {A : Around} {s : Shared} {K : Frag} {C fI cc : Addr} {B newId initId : String} {bmB : List Value} {R : Result → Shared → Prop}
theorem exc_made {us : List Value} {Pm : (Str → Option Value) → Prop} (b : ExB B newId initId bmB) (T : ExK K C fI cc B newId initId bmB) (I : IniOk prog w K C fI us Pm) (X : K.In s.heap) (G : Gb s.heap) (hlim : s.heap.NoLimit) (hz : us.length ≤ sizeLine) (hroom : A.depth + 1 < recursionLimit)
    (hq : ∀ h' tk e d, OwnMade s.heap h' e C d Pm → R (.ok (.ret (.ref e))) { s with heap := h', toks := tk }) : codeAny (model prog w) A (.call (.ref C) ⟨us, []⟩) R s := by
  obtain ⟨nm, N', qn, bs, bm, hdct, sn, sub, ab, col, dd, k0, k1, k2, k3, k5, hC, hT⟩ := excInit_of X T.exi
  obtain ⟨oI, hoI, hcI⟩ : ∃ oI, s.heap.get? fI = some oI ∧ oI.cls = .type "function" := by
    obtain ⟨o, ho, hc⟩ := Option.map_eq_some_iff.mp (show (K.lookup fI).map (·.cls) = some (.type "function") from beq_iff_eq.mp T.fn)
    exact ⟨o, X _ _ ho, hc⟩
  obtain ⟨hp, g, dr, tk, os⟩ := s
  have hsz : ((hp.push (kdv_tup us)).push (excO C hp.objs.size)).objs.size = hp.objs.size + 2 := by rw [Heap.size_push, Heap.size_push]
  have kk : ∀ b o, hp.get? b = some o → ((hp.push (kdv_tup us)).push (excO C hp.objs.size)).get? b = some o := fun b o e => Heap.get?_push_of_some _ (Heap.get?_push_of_some _ e)
  have hget : ((hp.push (kdv_tup us)).push (excO C hp.objs.size)).get? (hp.objs.size + 1) = some (excO C hp.objs.size) := by heap_get
  have hnx : K.lookup (hp.objs.size + 1) = none := by
    cases e : K.lookup (hp.objs.size + 1) with
    | none => rfl
    | some o => exact absurd (Nat.lt_of_succ_lt (Heap.lt_size (X _ _ e))) (Nat.lt_irrefl _)
  refine HandSPX.call_own b.FB hT hC (looks_findIn X T.ini) (fun self => exc_bind hoI hcI self) hz ?_
  refine I _ ⟨(hp.push (kdv_tup us)).push (excO C hp.objs.size), g, dr, tk, os⟩ _ (hp.objs.size + 1) hp.objs.size (X.keeps kk) (G.keeps kk) (hlim.keeps kk) hget hnx ?_ fun h' tk' dx t1 m ⟨k', hx, dn, dne, hns⟩ hm => ?_
  · rw [L2.make_depth]; exact hroom
  · have old : ∀ b o, hp.get? b = some o → h'.get? b = some o := fun b o e => k' b o (Nat.ne_of_lt (Nat.lt_succ_of_lt (Heap.lt_size e))) (kk b o e)
    have z : hp.objs.size + 2 ≤ dx := by
      rw [← hsz]; exact dn
    exact ⟨rfl, hq h' tk' (hp.objs.size + 1) dx ⟨old, Nat.le_succ _, ⟨_, _, hx, rfl, rfl, rfl, rfl⟩, by show hp.objs.size ≤ dx; omega, dne, m, hns, hm⟩⟩
end
end DX
namespace L2
open PySem PySem.Spec PyProof.Rows DX
/-- the fields as V's -/
def MRel (fs : List (Str × V)) (m : Str → Option Value) : Prop := ∀ f, RelO (fs.lookup f) (m f)
/-- C(es): the arguments, then for any new dict the wish -/
def tMkX (C : Addr) (n : Nat) (fs : List V → List (Str × V)) (ta : TA) : St → Hp → XK → Prop := fun σ H Q => ta σ H fun vs H1 => vs.length = n ∧ ∀ d, H1 d = none → Q (.ref C) (some d) (upd H1 d (.xd (fs vs)))
section
variable {X : Cx} {C fI cc : Addr} {B newId initId : String} {bmB : List Value} {k n : Nat} {x : Str} {p pos : Pos} {a : Expr} {ta : TA} {fs : List V → List (Str × V)} {pins : List (Addr × Obj)} {σ : St} {H : Hp} {s : Shared} {Q : XK}
theorem exc_fin {us : List Value} {vs : List V} (b : ExB B newId initId bmB) (T : ExK X.K C fI cc B newId initId bmB) (hS : X.mg "super" = none) (Ini : IniOk X.prog X.w X.K C fI us (MRel (fs vs))) (hr : Room k X.A) (I : Inv X pins σ H s) (hz : us.length ≤ sizeLine)
    (q : ∀ d, H d = none → Q (.ref C) (some d) (upd H d (.xd (fs vs)))) : wpAny (model X.prog X.w) X.A (call (.ref C) us) (MkP X pins σ Q) X.xe s := by
  have hlim := I.nolimit
  have G : Gb s.heap := by
    obtain ⟨mb, h1, h2⟩ := I.mod.blt
    exact ⟨⟨X.mg, I.mod.glob.keeps I.bk, hS⟩, mb, h1.keeps I.bk, (h2 "super" (by decide)).trans (by first | boot_by_name | rfl | kernel_rfl)⟩
  obtain ⟨hp, g, dr, tk, os⟩ := s
  refine wpAny_call (exc_made b T Ini I.kIn G hlim hz (by have := hr.dp; omega) fun h' tk' e d M => ?_)
  show MkP X pins σ Q (.ref e) ⟨h', g, dr, tk', os⟩
  obtain ⟨oe, fv, hoe, hc, hd, hdat, h1⟩ := M.obj
  obtain ⟨m, hns, hm⟩ := M.ns
  obtain ⟨G', g1, g2⟩ := restrict h' fun b => decide (b ≠ e)
  have gk : ∀ b, b ≠ e → G'.get? b = h'.get? b := fun b hb => g1 b (decide_eq_true hb)
  have ge : G'.get? e = none := g2 e (by simp)
  have old : ∀ b o, hp.get? b = some o → G'.get? b = some o := fun b o q => (gk b (Nat.ne_of_lt (Nat.lt_of_lt_of_le (Heap.lt_size q) M.new))).trans (M.keep b o q)
  have ob : ObjOk X.prog X.w (upd H d (.xd (fs vs))) G' d (.xd (fs vs)) := ⟨m, hns.at (fun o q => (gk d M.dne).trans q), hm⟩
  have J : Inv X pins σ (upd H d (.xd (fs vs))) ⟨G', g, dr, tk', os⟩ := I.laid (t' := tk') old M.dbig ob
  refine ⟨e, oe, fv, ⟨G', g, dr, tk', os⟩, _, .ref C, some d, rfl, J, fun b o q => ?_, ge, hoe, ⟨hc, hd⟩, hdat, h1, ?_, rfl, I.bare, raises_own T.exC T.tyC, q d (I.hok.fresh M.dbig)⟩
  · by_cases hb : b = e
    · have q' : G'.get? b = some o := q
      rw [hb, ge] at q'; cases q'
    · exact (gk b hb).symm.trans q
  · rw [upd_ne (Ne.symm M.dne)]
    exact I.hok.fresh M.new
theorem pmk_ex1 (b : ExB B newId initId bmB) (T : ExK X.K C fI cc B newId initId bmB) (hS : X.mg "super" = none) (Ini : ∀ (vs : List V) (us : List Value), Vals vs us → vs.length = 1 → IniOk X.prog X.w X.K C fI us (MRel (fs vs))) (hr : Room k X.A) (ha : PA X [a] ta) (hm : X.mg x = some (.ref C)) (hg : Gl X x) (hdb : (x == ("__debug__" : Str)) = false)
    (he : starEach (a :: []) X.env = (false, eval a X.env) :: starEach [] X.env := by rfl) (hpl : (backTo pos (starEach [] X.env)).any (·.1) = false := by rfl) :
    PMk X (.Call (.Name x p) [a] [] pos) (tMkX C 1 fs ta) := by
  intro pins s σ H Q I h
  refine wpAny_Call_Name_kw (ld_glob I hg hm ?_ hdb)
  refine PySem.W.callWith_K (h₀ := X.base) I.ok.mod.kin T.kC (thn (ha.run pos pins s σ H _ I h) fun us s1 ⟨vs, H1, I1, r1, hl, q1⟩ => ⟨I1.kIn, ?_⟩) he hpl
  show wpAny _ _ (call (.ref C) us) _ _ _
  exact exc_fin b T hS (Ini vs us r1 hl) hr I1 (by rw [← r1.length, hl, sizeLine_eq]; omega) q1
end
/-! ### the two forms of __init__ -/
section
open PySem.W
variable {prog : Program} {w : World} {K : Frag} {C fI cc cda : Addr} {B newId initId : String} {bmB : List Value}
variable {qual nm f : Str} {params : Arguments} {body : List Stmt} {scope : Scope} {p0 p1 p2 p3 p4 p5 q1 q2 q3 q4 r1 r2 r3 r4 : Pos} {j j2 : Nat} {ar : Arg}
theorem ini_one {v : V} {u : Value} (rv : RelV v u) (b : ExB B newId initId bmB) (T : ExK K C fI cc B newId initId bmB) (F : ExF prog K fI cc cda qual params body scope) (S : ExS scope ["self", f])
    (hb : body = [.Expr (.Call (.Attribute (.Call (.Name "super" p0) [] [] p1) "__init__" p2) [.Constant (.str nm) j p3] [] p4) p5, .Assign [.Attribute (.Name "self" q1) f q2] (.Name f q3) q4, .Assign [.Attribute (.Name "self" r1) "code" r2] (.Constant (.str nm) j2 r3) r4])
    (hp : (params.posonlyargs ++ params.args).head? = some ar) (ha : ar.arg = "self") (line : LineOk qual nm scope fI cc cda p0 p1 p2 p3 p4 j) (hf : f ≠ "self") (hfc : f ≠ "code") (hfd : (f == ("__debug__" : Str)) = false) (tf : takerIn K C f = some none) (tc : takerIn K C "code" = some none)
    (bd : ∀ (kV doc pm : Value) (an : Option Addr) (ct u w : Value), bindArgs (ksFn "__init__" qual params body scope .none kV doc pm an (.ref cda) ct cc) ⟨[u, w], []⟩ = pure [(("self" : Str), u), (f, w)]) : IniOk prog w K C fI [u] (MRel [(f, v), ("code", .str nm)]) := by
  intro A s R x t0 X G hlim hx hnx hroom hq
  have gx : ∀ {L : Addr} {m : Str → Option Value}, s.heap.Ns L m → x ≠ L := fun ⟨o, es, ep, e1, e2⟩ z => by
    rw [z, e1] at hx
    cases hx
    obtain ⟨e3, _⟩ := e2
    cases e3
  obtain ⟨mg, g1, g2⟩ := id G.gg
  obtain ⟨mb, b1, b2⟩ := id G.gb
  refine exc_init1 b T F S hb hp ha line hf hfc hfd tf tc bd X G hlim hx hnx (gx g1) (gx b1) hroom fun h' tk dx t1 tk' ie => hq h' tk dx t1 _ ie fun y => ?_
  by_cases h1 : y = "code"
  · subst h1
    have e : (("code" : Str) == f) = false := by simpa using Ne.symm hfc
    rw [if_pos rfl]
    have l : List.lookup ("code" : Str) [(f, v), ("code", V.str nm)] = some (V.str nm) := by simp [List.lookup, e]
    rw [l]
    exact ⟨tk', rfl⟩
  · rw [if_neg h1]
    by_cases h2 : y = f
    · subst h2
      rw [if_pos rfl]
      have l : List.lookup y [(y, v), ("code", V.str nm)] = some v := by simp [List.lookup]
      rw [l]
      exact rv
    · rw [if_neg h2]
      have e1 : (y == f) = false := by simpa using h2
      have e2 : (y == ("code" : Str)) = false := by simpa using h1
      have l : List.lookup y [(f, v), ("code", V.str nm)] = none := by simp [List.lookup, e1, e2]
      rw [l]
      trivial
end
end L2
namespace DL
open PySem L2
open PyProof.Rows (envOfC)
/-- what is wanted of an exception, whatever the slots -/
abbrev WK (E : XK) : WX := fun c d _ H => E c d H
/-- an own exception class C of the name x whose __init__ takes f -/
structure ExR (prog : Program) (K : PySem.W.Frag) (mg : Str → Option Value) (C : Addr) (x : Str) (fs : List Str) : Prop where
  g : mg x = some (.ref C)
  sup : mg "super" = none
  ini : ∃ fI cc B newId initId bmB, DX.ExB B newId initId bmB ∧ DX.ExK K C fI cc B newId initId bmB ∧ ∀ (w : World) (vs : List V) (us : List Value), Vals vs us → vs.length = fs.length → DX.IniOk prog w K C fI us (MRel ((fs ++ [("code" : Str)]).zip (vs ++ [V.str x])))
section
variable {X : Cx} {C : Ct} {W : WX} {E : XK} {pos p2 p pos2 : Pos} {e a b : Expr} {es : List Expr} {fe fa fb fo : F D} {fs fn fk : F (List D)} {x : Str}
def Rp1 (C : Ct) (G : Gh) (H : Hp) (d : D) (vs : List V) : Prop := ∃ v, vs = [v] ∧ Rp C G H d v
theorem fa1e (ha : FE C W X e fe) (hs : starEach [e] X.env = [(false, eval e X.env)] := by rfl) : PA X [e] (tG C (Rp1 C) W fe) := by
  refine PA.imp (pa_cons ha pa_nil hs) fun σ H Q ⟨G, δ, η, at0, fin⟩ => ?_
  have e1 : (fe δ η).bind (fun d η => R.ok d η) = fe δ η := by cases fe δ η <;> rfl
  rw [← e1] at fin
  refine tG.bind (Rel2 := Rp1 C) at0 fin fun d v G1 H1 η1 a1 x1 r1 fin1 => ?_
  exact fin1 _ G1 H1 Nx.refl a1.he ⟨v, rfl, r1⟩
/-! ### raise -/
def sRaise1 (c : Nat) (f x : Str) (fe : F D) : S := fun δ η => (fe δ η).toS δ fun d η => .exc c [f, "code"] [d, .str x] δ η
def sRaise0 (c : Nat) (x : Str) : S := fun δ η => .exc c ["code"] [.str x] δ η
theorem fs_raise1 {c k : Nat} {f : Str} (hc : X.calm = true) (tk : Takes X W) (T : ExR X.prog X.K X.mg (C.cl c) x [f]) (hr : Room k X.A) (ha : FE C W X a fe) (hok : PySem.PyData.strOk x = true := by decide +kernel) (hg : Gl X x := by rfl) (hdb : (x == ("__debug__" : Str)) = false := by decide)
    (he : starEach (a :: []) X.env = (false, eval a X.env) :: starEach [] X.env := by rfl) (hpl : (backTo pos (starEach [] X.env)).any (·.1) = false := by rfl) :
    FS C W X (.Raise (some (.Call (.Name x p) [a] [] pos)) none pos2) (sRaise1 c f x fe) := by
  obtain ⟨fI, cc, B, newId, initId, bmB, b, T', ini⟩ := T.ini
  refine PS.imp (ps_raise hc tk (pmk_ex1 (fs := fun vs => ([f] ++ [("code" : Str)]).zip (vs ++ [V.str x])) b T' T.sup (fun vs us r hl => ini X.w vs us r hl) hr (fa1e ha he) T.g hg hdb he hpl)) fun Dn σ H ⟨B', G, δ, η, h, fin⟩ => ?_
  refine tG.bindS h fin fun d v G1 H1 η1 h1 x1 r1 fin1 => ?_
  obtain ⟨w, rfl, r1⟩ := r1
  refine ⟨rfl, fun dd hd => ?_⟩
  have st := (Nx.alloc (o := .xd (([f] ++ [("code" : Str)]).zip ([w] ++ [V.str x]))) hd).stab h1.a.he
  exact fin1 dd [w, .str x] G1 _ σ (h1.next (Nx.alloc hd) (h1.a.he.alloc hd)) ⟨upd_same, h1.a.he.fresh hd⟩ (.cons (r1.stab st) (.cons (.str x hok) .nil))
end
/-! ### a def that may let an exception out -/
section
variable {P : Program} {w : World} {K : PySem.W.Frag} {mg : Str → Option Value} {base : Heap} {C : Ct}
theorem ok_defX {x qual : Str} {st : Stmt} {f : Addr} {fd : FuncData} {N ps : List Str} {k n np : Nat} {fb : S} (F : FunG K x qual st f fd) (S : FnScope N ps (defScope st)) (hC : K = C.K) (hn : N.length = n) (hnp : ps.length = np)
    (hbody : ∀ (cdv : Value) (A : Around) (outer : List Env) (s : Shared) (H : Hp) (E : XK), Room k (A.deeper (envOfC qual (defScope st) s.heap.objs.size f cdv)) → Takes (cxOf (L2.CX P w) P w K mg base N qual (defScope st) f cdv A outer s H E) (WK E) →
      FSs C (WK E) (cxOf (L2.CX P w) P w K mg base N qual (defScope st) f cdv A outer s H E) (defBody st) fb) : FnOk P w K mg base (L2.CX P w) (k + 1) f fd ps (spX C np (runD n fb)) := by
  obtain ⟨oc, od, dV, kV, doc, pm, an, cdv, ct, osl, rfl, lk, hcd⟩ := F.ex
  subst hn hnp
  refine fn_of lk hcd S (fun vs H Q E h => h.1) fun A outer s H vs Q E hr h => ?_
  obtain ⟨hl, G, ds, η, r, rh, fin⟩ := h
  have hd : ds.length = ps.length := r.length.trans hl
  refine ⟨_, hbody cdv A outer s H E hr (takes_of rfl rfl rfl rfl), ⟨G, H, G, H⟩, G, _, η, ⟨start_at r rh, fun i l a e o => ?_, Nx.refl, Stab.refl⟩, ?_⟩
  · exfalso
    by_cases hi : i < ds.length
    · rw [List.getElem?_append_left (by simpa using hi), List.getElem?_map] at e
      cases q : ds[i]? with
      | none => rw [q] at e; cases e
      | some d => rw [q] at e; cases e; cases o
    · rw [List.getElem?_append_right (by simpa using hi), List.getElem?_replicate] at e
      split at e <;> cases e
  · unfold runD at fin
    split at fin
    · rename_i δ' η' q
      rw [q]
      exact fun G' H' σ' h => fin _ G' H' h.n h.a.he .non
    · rename_i d η' q
      rw [q]
      exact fun v G' H' nx rh r => fin v G' H' nx rh r
    · rename_i c ns l δ' η' q
      rw [q]
      exact fun x vs G' H' σ' h q1 q2 => fin x vs G' H' h.n h.a.he q1 q2
    · exact fin.elim
/-- .. called where nothing may come out -/
theorem ok_calm {f : Addr} {fd : FuncData} {ps : List Str} {k n : Nat} {m : DF} (F : FnOk P w K mg base (L2.CX P w) k f fd ps (spX C n m)) : FnOk P w K mg base CX0 k f fd ps (spD C n m) := by
  refine ⟨fun vs H Q E h => F.len vs H Q E0 h, fun A outer s H args us vs Q E hr e0 hb r h => ?_⟩
  refine codeAny_mono (F.run A outer s H args us vs Q E0 hr e0 hb r h) fun z s' hq => ?_
  cases z with
  | error e =>
    obtain ⟨_, _, _, _, _, _, _, _, _, _, _, _, hE⟩ := hq
    exact hE.elim
  | ok fl => cases fl <;> exact hq
end
end DL
namespace DL
open PySem L2
section
variable {X : Cx} {C : Ct} {E : XK} {pos p2 p : Pos} {e a b : Expr} {es : List Expr} {fe fa fb fo : F D} {fs fn fk : F (List D)} {tg : Expr} {x : Str}
variable {P : Program} {k n np nk : Nat} {g f A : Addr} {fd : FuncData} {ps ks : List Str} {df : DF} {ix : List Nat} {kws : List Keyword} {c : Nat} {NS : List Str} {m : Str} {pl : Sem Bool} {apos : Pos} {dv : List D}
def fCallX (n : Nat) (f : DF) (fa : F (List D)) : F D := fun δ η => (fa δ η).bind fun ds η => (arg n f ds η)
def fCallKX (np nk n : Nat) (f : DF) (ix : List Nat) (fa fk : F (List D)) : F D := fun δ η => (fa δ η).bind fun ds η => (fk δ η).bind fun es η => if ds.length = np ∧ es.length = nk then (arg n f (pick ix (ds ++ es)) η) else .bad
def argKX (np nk n : Nat) (df : DF) (ix : List Nat) (dv ds es : List D) : List O → R D := fun η => if ds.length = np ∧ es.length = nk then (arg n df (pick ix (ds ++ es ++ dv)) η) else .bad
def fMethX (c : Nat) (NS : List Str) (np nk n : Nat) (df : DF) (ix : List Nat) (dv : List D) (fo : F D) (fs fk : F (List D)) : F D := fun δ η => (fo δ η).bind fun d η => match insD η c NS d with
  | some _ => (fs δ η).bind fun ds η => (fk δ η).bind fun es η => argKX np nk n df ix dv (d :: ds) es η
  | none => .bad
def fNewIX (c np nk n : Nat) (df : DF) (ix : List Nat) (dv : List D) (fs fk : F (List D)) : F D := fun δ η => (fs δ η).bind fun ds η => (fk δ η).bind fun es η' => (argKX np nk n df ix dv (.obj η'.length :: ds) es (η' ++ [.ins c [] []])).bind fun z η2 => match z with
  | .non => .ok (.obj η'.length) η2
  | _ => .bad
theorem argK_runX {K : PySem.W.Frag} {fd : FuncData} {dv ds es : List D} {g : List Value → List Value → List Value} {gV : List V → List V → List V} {G : Gh} {H : Hp} {η : List O} {E' : XK} {vs zs : List V} {Q : VK} (hK : C.K = K) (kd : KD K fd ps np ks ix dv g gV) (hnk : ks.length = nk) (r1 : Rps C G H ds vs) (r2 : Rps C G H es zs) (rh : Rh C G H η)
    (fin : FinR C (Rp C) E' G H (argKX np nk n df ix dv ds es η) Q) : vs.length = np ∧ zs.length = ks.length ∧ spX C n df (gV vs zs) H Q E' := by
  unfold argKX at fin
  split at fin
  · rename_i hz
    have r := kd.r hK r1 r2
    unfold arg at fin
    split at fin
    · rename_i hn
      exact ⟨by rw [← r1.length]; exact hz.1, by rw [← r2.length, hnk]; exact hz.2, by rw [← r.length]; exact hn, G, _, η, r, rh, fin⟩
    · exact fin.elim
  · exact fin.elim
theorem new_runX {c : Nat} {K : PySem.W.Frag} {g2 : List Value → List Value → List Value} {gV : List V → List V → List V} {G : Gh} {H : Hp} {η : List O} {E' : XK} {ds es : List D} {vs zs : List V} {Q : VK} (hK : C.K = K) (kd : KD K fd ps np ks ix dv g2 gV) (hnk : ks.length = nk) (r1 : Rps C G H ds vs) (r2 : Rps C G H es zs) (rh : Rh C G H η)
    (fin : FinR C (Rp C) E' G H ((argKX np nk n df ix dv (.obj η.length :: ds) es (η ++ [.ins c [] []])).bind fun z η2 => match z with | .non => .ok (.obj η.length) η2 | _ => .bad) Q) {x dx : Addr} (hx : H x = none) (hdx : H dx = none) (ne : dx ≠ x) :
    (V.ref x :: vs).length = np ∧ zs.length = ks.length ∧ spX C n df (gV (.ref x :: vs) zs) (upd (upd H dx (.own x)) x (.ins (C.cl c) dx [])) (fun v H2 => v = .non ∧ Q (.ref x) H2) E' := by
  have y0 : Nx G H G (upd H dx (.own x)) := by
    refine ⟨fun _ _ h => h, fun a o h _ => by rw [upd_ne (ne_of_none h hdx)]; exact h, fun _ _ _ => Iff.rfl, fun _ h => .inl h, fun a h => ?_⟩
    by_cases e : a = dx
    · subst e; exact hdx
    · rw [upd_ne e] at h; exact h
  have rh0 : Rh C G (upd H dx (.own x)) η := by
    have st := y0.stab rh
    refine ⟨rh.len, rh.nd, fun i o a h1 h2 => ?_, fun a m => fun z => rh.mh a m (y0.there a z)⟩
    obtain ⟨m, q⟩ := rh.ob i o a h1 h2
    refine ⟨m, q.stab st fun w hw => ?_⟩
    rw [upd_ne (ne_of_none hw hdx)]; exact hw
  have hx0 : (upd H dx (.own x)) x = none := by rw [upd_ne (Ne.symm ne)]; exact hx
  have y1 : Nx G (upd H dx (.own x)) (G.push x) (upd (upd H dx (.own x)) x (.ins (C.cl c) dx [])) := Nx.push hx0
  have rh1 : Rh C (G.push x) (upd (upd H dx (.own x)) x (.ins (C.cl c) dx [])) (η ++ [.ins c [] []]) := rh0.push hx0 (.ins (vs := []) (by rw [upd_same]; rfl) rfl .nil)
  have y := y0.trans y1
  have st := y.stab rh
  have hob : (G.push x).ads[η.length]? = some x := by
    show (G.ads ++ [x])[η.length]? = some x
    rw [← rh.len]; simp
  refine argK_runX (E' := E') (Q := fun v H2 => v = .non ∧ Q (.ref x) H2) hK kd hnk (.cons (.obj hob) (r1.stab st)) (r2.stab st) rh1 ?_
  cases hz : argKX np nk n df ix dv (.obj η.length :: ds) es (η ++ [.ins c [] []]) with
  | bad => rw [hz] at fin; exact fin.elim
  | exc c' ns l η2 => rw [hz] at fin; exact fun xx ws G' H' nx q1 q2 q3 => fin xx ws G' H' (y.trans nx) q1 q2 q3
  | ok z η2 =>
    rw [hz, bind_ok] at fin
    cases z with
    | non =>
      intro v G' H' nx q1 q2
      cases q2
      exact ⟨rfl, fin (.ref x) G' H' (y.trans nx) q1 (.obj (nx.ads _ _ hob))⟩
    | _ => exact fin.elim
theorem fe_methNX (hK : X.K = C.K) (tk : Takes X (WK E)) (F : FnOk X.prog X.w X.K X.mg X.base (L2.CX X.prog X.w) k g fd ps (spX C n df)) (hr : Room k X.A) (hc : Cls X.K (C.cl c)) (hm : Meth X.K (C.cl c) m g) (hb : KDx X.K fd ps np ks ix dv) (hnk : ks.length = nk) (hnot : (NS.all fun g => !(m == g)) = true)
    (ho : FE C (WK E) X a fo) (ha : FA C (WK E) X (e :: es) fs) (hkw : FK C (WK E) X kws fk)
    (hall : (backToKw pos (keywordEach kws X.env)).all (·.1.isSome) = true := by rfl) (hks : (backToKw pos (keywordEach kws X.env)).filterMap (·.1) = ks := by rfl)
    (hst : starEach (e :: es) X.env = (false, eval e X.env) :: starEach es X.env := by rfl)
    (hpl : ((backTo pos (starEach (e :: es) X.env)).any (·.1) || (backToKw pos (keywordEach kws X.env)).any (·.1.isNone)) = false := by rfl)
    (ht : eval (.Call (.Attribute a m apos) (e :: es) kws pos) X.env = (do
      let ov ← eval a X.env
      standAt apos.atName
      let (f, first) ← holding [ov] (getMethod ov m pl)
      callWith pos f first (backTo pos (starEach (e :: es) X.env)) (backToKw pos (keywordEach kws X.env))) := by rfl) :
    FE C (WK E) X (.Call (.Attribute a m apos) (e :: es) kws pos) (fMethX c NS np nk n df ix dv fo fs fk) := by
  obtain ⟨g2, gV, kd⟩ := hb
  refine PE.imp (pe_methN (pl := pl) (E := E) ho hc hm F hr kd.b (passes_call tk fun _ _ _ _ z => z) ha hkw hall hks hst hpl ht) fun σ H Q ⟨G, δ, η, a0, fin⟩ => ?_
  refine tG.bind (Rel2 := Rp C) a0 fin fun d v G1 H1 η1 a1 x1 r1 fin1 => ?_
  cases q : insD η1 c NS d with
  | none => rw [q] at fin1; exact fin1.elim
  | some nl =>
    obtain ⟨i, l⟩ := nl
    rw [q] at fin1
    obtain ⟨p, dx, vs, rfl, rfl, hp, hq, he, hl, rs⟩ := insD_at q r1 a1.he
    refine ⟨p, dx, _, rfl, he, not_lookup hnot, ?_⟩
    refine tG.bind (Rel2 := Rp C) a1 fin1 fun ds ws G2 H2 η2 a2 x2 r2 fin2 => ?_
    refine tG.bind (Rel2 := Rp C) a2 fin2 fun es zs G3 H3 η3 a3 x3 r3 fin3 => ?_
    exact argK_runX hK.symm kd hnk (.cons ((r1.stab (x2.stab a1.he)).stab (x3.stab a2.he)) (r2.stab (x3.stab a2.he))) r3 a3.he fin3
theorem fe_methN0X (hK : X.K = C.K) (tk : Takes X (WK E)) (F : FnOk X.prog X.w X.K X.mg X.base (L2.CX X.prog X.w) k g fd ps (spX C n df)) (hr : Room k X.A) (hc : Cls X.K (C.cl c)) (hm : Meth X.K (C.cl c) m g) (hb : KDx X.K fd ps np ks ix dv) (hnk : ks.length = nk) (hnot : (NS.all fun g => !(m == g)) = true)
    (ho : FE C (WK E) X a fo) (hkw : FK C (WK E) X kws fk)
    (hall : (backToKw pos (keywordEach kws X.env)).all (·.1.isSome) = true := by rfl) (hks : (backToKw pos (keywordEach kws X.env)).filterMap (·.1) = ks := by rfl)
    (hpl : ((backTo pos (starEach [] X.env)).any (·.1) || (backToKw pos (keywordEach kws X.env)).any (·.1.isNone)) = false := by rfl)
    (ht : eval (.Call (.Attribute a m apos) [] kws pos) X.env = (do
      let ov ← eval a X.env
      standAt apos.atName
      let (f, first) ← holding [ov] (getMethod ov m pl)
      callWith pos f first (backTo pos (starEach [] X.env)) (backToKw pos (keywordEach kws X.env))) := by rfl) :
    FE C (WK E) X (.Call (.Attribute a m apos) [] kws pos) (fMethX c NS np nk n df ix dv fo fNil fk) := by
  obtain ⟨g2, gV, kd⟩ := hb
  refine PE.imp (pe_methN0 (pl := pl) (E := E) ho hc hm F hr kd.b (passes_call tk fun _ _ _ _ z => z) hkw hall hks hpl ht) fun σ H Q ⟨G, δ, η, a0, fin⟩ => ?_
  refine tG.bind (Rel2 := Rp C) a0 fin fun d v G1 H1 η1 a1 x1 r1 fin1 => ?_
  cases q : insD η1 c NS d with
  | none => rw [q] at fin1; exact fin1.elim
  | some nl =>
    obtain ⟨i, l⟩ := nl
    rw [q] at fin1
    obtain ⟨p, dx, vs, rfl, rfl, hp, hq, he, hl, rs⟩ := insD_at q r1 a1.he
    refine ⟨p, dx, _, rfl, he, not_lookup hnot, ?_⟩
    unfold fNil at fin1
    simp only [bind_ok] at fin1
    refine tG.bind (Rel2 := Rp C) a1 fin1 fun es zs G3 H3 η3 a3 x3 r3 fin3 => ?_
    exact argK_runX hK.symm kd hnk (.cons (r1.stab (x3.stab a1.he)) .nil) r3 a3.he fin3
theorem fe_newX {c : Nat} (hK : X.K = C.K) (M : Mk X.K (C.cl c) g) (tk : Takes X (WK E)) (F : FnOk X.prog X.w X.K X.mg X.base (L2.CX X.prog X.w) k g fd ps (spX C n df)) (hr : Room (k + 1) X.A) (hm : X.mg x = some (.ref (C.cl c))) (hb : KDx X.K fd ps (np + 1) ks ix dv) (hnk : ks.length = nk)
    (ha : FA C (WK E) X (e :: es) fs) (hkw : FK C (WK E) X kws fk) (hg : Gl X x := by rfl)
    (hall : (backToKw pos (keywordEach kws X.env)).all (·.1.isSome) = true := by rfl) (hks : (backToKw pos (keywordEach kws X.env)).filterMap (·.1) = ks := by rfl) (hdb : (x == ("__debug__" : Str)) = false := by decide)
    (he : starEach (e :: es) X.env = (false, eval e X.env) :: starEach es X.env := by rfl) (hpl : ((backTo pos (starEach (e :: es) X.env)).any (·.1) || (backToKw pos (keywordEach kws X.env)).any (·.1.isNone)) = false := by rfl) :
    FE C (WK E) X (.Call (.Name x p) (e :: es) kws pos) (fNewIX c (np + 1) nk n df ix dv fs fk) := by
  obtain ⟨g2, gV, kd⟩ := hb
  refine PE.imp (pe_makeK (E := E) M F hr hg hm kd.b (passes_call tk fun _ _ _ _ z => z) ha hkw hall hks hdb he hpl) fun σ H Q ⟨G, δ, η, a0, fin⟩ => ?_
  refine tG.bind (Rel2 := Rp C) a0 fin fun ds vs G1 H1 η1 a1 x1 r1 fin1 => ?_
  refine tG.bind (Rel2 := Rp C) a1 fin1 fun es zs G2 H2 η2 a2 x2 r2 fin2 => ?_
  have r1' := r1.stab (x2.stab a1.he)
  have key := fun {x dx : Addr} (hx : H2 x = none) (hdx : H2 dx = none) (ne : dx ≠ x) => new_runX hK.symm kd hnk r1' r2 a2.he fin2 hx hdx ne
  have ln : (D.obj η2.length :: ds).length = np + 1 ∧ es.length = nk := by
    refine Classical.byContradiction fun hh => ?_
    unfold argKX at fin2
    rw [if_neg hh] at fin2
    exact fin2.elim
  exact ⟨by rw [← r1.length]; simpa using ln.1, by rw [← r2.length, hnk]; exact ln.2, fun x dx hx hdx ne => (key hx hdx ne).2.2⟩
end
end DL
/-! a lambda without parameters, made and handed to a def: the heap behind it told exactly -/
namespace DL
open PySem PySem.Spec PyProof.Rows L2 LamX
/-- a table whose code objects all bear the name q -/
def TabQ (H : Hp) (P : Addr) (q : Str) (ps : Array Value) : Prop := H P = some (.tbl ps) ∧ TriplesOk ps.toList ∧ ∀ (pos : Pos) (cv : Value), codeAmong pos ps.toList = some cv → ∃ c, cv = .ref c ∧ H c = some (CodeO c q)
/-- behind the making: as before, or one code object more -/
def LamH (H H1 : Hp) (P c' : Addr) (q : Str) (ps : Array Value) : Prop := H1 = H ∨ ∃ ps', H c' = none ∧ H1 = upd (upd H P (.tbl ps')) c' (CodeO c' q) ∧ TriplesOk ps'.toList ∧ ∀ (pos : Pos) (cv : Value), codeAmong pos ps'.toList = some cv → codeAmong pos ps.toList = some cv ∨ cv = .ref c'
section
variable {X : Cx} {pins : List (Addr × Obj)} {σ : L2.St} {H : Hp} {s : Shared}
theorem lam_mk {c P : Addr} {q : Str} {ps : Array Value} {params : Arguments} {body : Expr} {scope : Scope} {pos : Pos} {E Q : Value → Shared → Prop} (I : Inv X pins σ H s) (TB : TabB X.base X.mg c P) (hcode : X.env.code = .ref c) (hq : X.env.qual ++ "<lambda>" = q) (tab : TabQ H P q ps)
    (hdef : defaultsOf params X.env = ([], [])) (hfree : ∀ y ∈ scope.names, y.2 = .free → ∃ c, X.env.cells.lookup y.1 = some c)
    (h : ∀ (f c' : Addr) (pm ctv : Value) (H1 : Hp) (s' : Shared), Inv X pins σ H1 s' → LamH H H1 P c' q ps → s'.heap.get? f = some (PySem.W.kla_obj "<lambda>" q params body scope (cloFrom X.env.cells scope.names []) pm c' ctv) → H1 f = none → f ∉ frs X.stack → H1 c' = some (CodeO c' q) → Q (.ref f) s') :
    wpAny (model X.prog X.w) X.A (eval (.Lambda params body scope pos) X.env) Q E s := by
  subst hq
  obtain ⟨hP, ht, hA⟩ := tab
  refine PySem.W.kla_eval hdef ?_
  have hbm : s.heap.BuiltinsAt X.mg P := TB.bm.keeps I.bk
  have oP : s.heap.get? P = some { cls := .none, data := .fields ps } := I.hok P _ hP
  have apart : ∀ f, s.heap.objs.size ≤ f → f ∉ frs X.stack := fun f hf hm => (List.mem_cons.mp (I.stkSub _ hm)).elim (fun e => absurd (Nat.lt_of_lt_of_le (e ▸ I.lt) hf) (Nat.lt_irrefl _)) fun e => I.nofs hf e
  cases hc : codeAmong pos ps.toList with
  | some cv =>
    obtain ⟨c', rfl, hco⟩ := hA pos cv hc
    refine PySem.W.kla_makeFunctionHit (mg := X.mg) (c := c) (P := P) (ps := ps) (closure_ok hfree) I.ok.glob (I.mod.glob.keeps I.bk) hcode (TB.code.keeps I.bk) oP ht hc hbm fun ctv h' tk keep le => ?_
    refine h h'.objs.size c' _ ctv H _ (I.kept fun b o e => Heap.get?_push_of_some _ (keep b o e)) (.inl rfl) (Heap.get?_push_size _ rfl) (I.hok.fresh le) (apart _ le) hco
  | none =>
    refine PySem.W.kla_makeFunction (mg := X.mg) (c := c) (P := P) (ps := ps) (closure_ok hfree) I.ok.glob (I.mod.glob.keeps I.bk) hcode (TB.code.keeps I.bk) oP ht hc TB.gP hbm fun c' ctv h' tk keep ge lt rec tb => ?_
    obtain ⟨_, oc, vs, tq, e2, hoc, hd, hv⟩ := rec
    cases e2
    have le : s.heap.objs.size ≤ h'.objs.size := Nat.le_trans ge (Nat.le_of_lt lt)
    have nC : H c' = none := I.hok.fresh ge
    have J := inv_table (t' := tk) (more := #[rawInt pos.line, rawInt pos.col, .ref c']) (h' := h'.push (PySem.W.kla_obj "<lambda>" (X.env.qual ++ "<lambda>") params body scope (cloFrom X.env.cells scope.names []) ((X.mg "__name__").getD .none) c' ctv)) I hP (fun b o hb e => Heap.get?_push_of_some _ (keep b o hb e)) (Heap.get?_push_of_some _ tb) ge ⟨oc, vs, tq, Heap.get?_push_of_some _ hoc, hd, hv⟩
    have eL : (ps ++ #[rawInt pos.line, rawInt pos.col, .ref c']).toList = ps.toList ++ [rawInt pos.line, rawInt pos.col, .ref c'] := by simp
    have fresh : upd (upd H P (.tbl (ps ++ #[rawInt pos.line, rawInt pos.col, .ref c']))) c' (CodeO c' (X.env.qual ++ "<lambda>")) h'.objs.size = none := by
      rw [upd_ne (Nat.ne_of_gt lt), upd_ne (Nat.ne_of_gt (Nat.lt_of_lt_of_le (Heap.lt_size oP) le))]
      exact I.hok.fresh le
    refine h h'.objs.size c' _ ctv _ _ J (.inr ⟨_, nC, rfl, by rw [eL]; exact PySem.TriplesOk_snoc _ _ _ _ ht, fun p' cv z => ?_⟩) (Heap.get?_push_size _ rfl) fresh (apart _ le) upd_same
    rw [eL] at z
    exact among_app _ ht z
/-- a reading that follows its wish -/
def Mono (tl : XK → Hp → VK → Prop) : Prop := ∀ (E : XK) (H : Hp) (Q Q' : VK), (∀ v H', Q v H' → Q' v H') → tl E H Q → tl E H Q'
/-- the def g that calls what it got by its name a; TT: what it makes of the reading -/
def GivesM (X : Cx) (Ng : List Str) (x : Str) (sg : Scope) (g : Addr) (cdg : Value) (bg : List Stmt) (a q : Str) (TT : (XK → Hp → VK → Prop) → Hp → VK → Prop) : Prop := ∀ (f c' : Addr) (s : Shared) (H : Hp) (Q : VK) (tl : XK → Hp → VK → Prop), Mono tl →
  (∀ (W : L2.WX) (pn : List (Addr × Obj)) (xe : Value → Shared → Prop) (E : XK) (p1 p2 : Pos), Takes ((cxOf CX0 X.prog X.w X.K X.mg X.base Ng x sg g cdg X.A X.stack s H E0).tr pn xe) W → (∀ cls d σ' H', E cls d H' → W cls d σ' H') →
    PE ((cxOf CX0 X.prog X.w X.K X.mg X.base Ng x sg g cdg X.A X.stack s H E0).tr pn xe) (.Call (.Name a p1) [] [] p2) (fun τ HZ Q => τ[0]? = some (some (.ref f)) ∧ HZ c' = some (CodeO c' q) ∧ tl E HZ Q)) →
  H c' = some (CodeO c' q) → TT tl H Q → ∃ t, PSs (cxOf CX0 X.prog X.w X.K X.mg X.base Ng x sg g cdg X.A X.stack s H E0).nox bg t ∧ t { nx := fun _ H' => Q .non H', rt := Q } (L2.start Ng [.ref f]) H
/-- g(lambda: body): T, the table; TT, what g makes of the lambda -/
def tLamX (P : Addr) (q : Str) (TT : (XK → Hp → VK → Prop) → Hp → VK → Prop) (t : XK → TE) : TE := fun σ H Q => ∃ ps, TabQ H P q ps ∧ ∀ H1 c', LamH H H1 P c' q ps → TT (fun E H' Q' => t E σ H' Q') H1 Q
theorem pe_lamX {TT : (XK → Hp → VK → Prop) → Hp → VK → Prop} {x a q : Str} {g c P : Addr} {k : Nat} {pg : Arguments} {bg : List Stmt} {sg : Scope} {dV kV doc pm cdv ct oc : Value} {an od : Option Addr} {osl : Array (Option Value)} {Ng : List Str}
    {params : Arguments} {body : Expr} {scope : Scope} {t : XK → TE} {p lpos pos : Pos} (hg : Gl X x) (hm : X.mg x = some (.ref g)) (hk : PySem.W.keepIn X.K (.ref g) = true)
    (lk : X.K.lookup g = some ⟨oc, od, .func (PySem.W.fnOf x x pg bg sg dV kV doc pm an cdv ct), osl⟩) (hcg : PySem.W.codeIn X.K cdv x = true) (hb : L2.Binds X.K (PySem.W.fnOf x x pg bg sg dV kV doc pm an cdv ct) [a] []) (Sg : FnScope Ng [a] sg) (hNg : Ng[0]? = some a) (hva : Vis sg a)
    (hG : GivesM X Ng x sg g cdv bg a q TT) (mono : ∀ σ, Mono fun E H' Q' => t E σ H' Q') (TB : TabB X.base X.mg c P) (hcode : X.env.code = .ref c) (hq : X.env.qual ++ "<lambda>" = q) (hr : Room (k + 2) X.A) (L : LamS X.env.scope scope) (hdef : defaultsOf params X.env = ([], []))
    (hbind : ∀ (q : Str) (cl : List (Str × Addr)) (pm cv ctv : Value), bindArgs (PySem.W.kla_fn "<lambda>" q params body scope cl pm cv ctv) ⟨[], []⟩ = pure [])
    (hbody : ∀ (A : Around) (outer : List Env) (s : Shared) (H : Hp) (E : XK) (f c' : Addr), Room k (A.deeper (lamEnv X scope s.heap.objs.size f c')) → PE (lamCx X A outer s H E scope f c') body (t E))
    (hdb : (x == ("__debug__" : Str)) = false := by decide) (hd : (a == ("__debug__" : Str)) = false := by decide) (hcd : (a == ("__classdict__" : Str)) = false := by decide) :
    PE X (.Call (.Name x p) [.Lambda params body scope lpos] [] pos) (tLamX P q TT t) := by
  subst hq
  refine ⟨fun pins s σ H Q I ⟨ps, tab, h⟩ => ?_⟩
  refine wpAny_Call_Name_kw (ld_glob I hg hm (PySem.W.callWith_K (h₀ := X.base) I.ok.mod.kin hk ?_ (by rfl) (by rfl)) hdb)
  show wpAny _ _ (spliced ((false, eval (.Lambda params body scope lpos) X.env) :: backTo pos (starEach [] X.env))) _ _ s
  refine Calls.spliced_cons (lam_mk I TB hcode rfl tab hdef (L.has I.ok) fun f c' pm' ctv H1 s1 I1 lh hf fn fr hco => Calls.spliced_nil ⟨I1.kIn, ?_⟩)
  have rc : codeAny (model X.prog X.w) X.A (.call (.ref g) ⟨[.ref f], []⟩) (CR C8.CX0 X.stack X.prog X.w H1 s1 Q C8.E0) s1 :=
    run_ofS (N := Ng) (ps := [a]) (us := [.ref f]) (vs := [.ref f]) lk hcg Sg hr I1.env0 (hb s1 [.ref f] I1.kIn rfl) (.cons rfl .nil) rfl fun hr1 => by
      obtain ⟨t', ht', hq'⟩ := hG f c' s1 H1 Q (fun E H' Q' => t E σ H' Q') (mono σ) (fun W pn xe E p1 p2 tk hW => pe_act (i := 0) I1 L hf fn fr (hbind _ _ _ _ _) tk hW hr1 (fun A outer s H hr2 => hbody A outer s H E f c' hr2) hNg hva hd hcd) hco (h H1 c' lh)
      exact ⟨t', ht'.nox, hq'⟩
  refine wpAny_call (codeAny_mono rc fun r s2 hz => ?_)
  rcases r with e | (u | _ | _ | _) <;> first | exact I1.after hz | exact False.elim hz
end
end DL
/-! the exception that is handled: its fields, a def that gets it -/
namespace DL
open PySem PySem.Spec PyProof.Rows L2 L2H
abbrev Ct.hot (C : Ct) (p : Addr × Obj) : Ct := { C with xp := some p }
/-- what the written part says of reading f of an exception of the class at Ca -/
structure XGet (K : PySem.W.Frag) (Ca : Addr) (f : Str) : Prop where
  ga : PySem.W.findIn K (.ref Ca) "__getattribute__" = some (some (.builtin "BaseException.__getattribute__"))
  gg : PySem.W.findIn K (.ref Ca) "__getattr__" = some none
  sB : PySem.W.subIn K (.ref Ca) (.type "BaseException") = some true
  hd : PySem.W.hasDictIn K Ca = true
  no : PySem.W.findIn K (.ref Ca) f = some none
/-- the handled exception is pinned -/
def XPin (C : Ct) (X : Cx) : Prop := ∀ p, C.xp = some p → p ∈ X.pn ∧ ∃ vs, p.2.data = .fields vs
theorem xf_look {C : Ct} {G : Gh} {H : Hp} {f : Str} {x : D} : ∀ {ns : List Str} {l : List D} {vs : List V}, Rps C G H l vs → (ns.zip l).lookup f = some x → ∃ v, (ns.zip vs).lookup f = some v ∧ Rp C G H x v
  | [], _, _, _, h => by simp at h
  | n :: ns, _, _, .nil, h => by simp at h
  | n :: ns, _, _, .cons (d := d) (v := v) r q, h => by
    rw [List.zip_cons_cons, List.lookup] at h
    rw [List.zip_cons_cons, List.lookup]
    cases e : f == n with
    | true => rw [e] at h; cases h; exact ⟨v, rfl, r⟩
    | false => rw [e] at h; exact xf_look q h
def fXf (f : Str) (cs : List Nat) (fe : F D) : F D := fun δ η => (fe δ η).bind fun d η => match d with
  | .exn c ns l => if c ∈ cs then match (ns.zip l).lookup f with
    | some x => .ok x η
    | none => .bad
    else .bad
  | _ => .bad
section
variable {X : Cx} {C : Ct} {W : WX} {pos p2 p : Pos} {e a b : Expr} {es : List Expr} {fe fa fb fo : F D} {fs fn fk : F (List D)} {x : Str}
def tXf (K : PySem.W.Frag) (pn : List (Addr × Obj)) (f : Str) (te : TE) : TE := fun σ H Q => te σ H fun u H1 => ∃ (a : Addr) (oe : Obj) (Ca d : Addr) (fs : List (Str × V)) (v : V), u = .ref a ∧ (a, oe) ∈ pn ∧ (∃ vs, oe.data = .fields vs) ∧ Zc (.ref Ca) (some d) oe ∧ XGet K Ca f ∧ H1 d = some (.xd fs) ∧ fs.lookup f = some v ∧ Q v H1
theorem pe_xf {f : Str} {te : TE} (he : PE X e te) (hb : attributeBase e f X.env (eval e X.env) = eval e X.env := by rfl) : PE X (.Attribute e f pos) (tXf X.K X.pn f te) := by
  refine ⟨fun pins s σ H Q I h => attr_of hb (thn (he.run pins s σ H _ I h) fun u s1 ⟨y, H1, I1, ry, a, oe, Ca, d, fs, v, ey, hp, ⟨vs, hd⟩, hz, T, hx, hl, q⟩ => ?_)⟩
  subst ey
  obtain rfl : u = Value.ref a := ry
  obtain ⟨ha, _⟩ := I1.pin (a, oe) (List.mem_append_left _ hp)
  obtain ⟨mA, hns, hr⟩ := (show ObjOk X.prog X.w H1 s1.heap d (.xd fs) from I1.hok d _ hx)
  obtain ⟨od, ho, hl2⟩ := lookIn_ns hns
  obtain ⟨w, hw, rw'⟩ := RelO.some_of (v := v) (o := mA f) (by rw [← hl]; exact hr f)
  exact HandSPX.exc_get I1.kIn ⟨ha, hz.1, by unfold PySem.W.notCls; rw [hd] <;> rfl, by rw [hz.2]; exact ho⟩ T.ga T.gg T.sB (PySem.W.findObj_own T.hd T.no rfl (by rw [hl2, hw])) (handed_of rw') ⟨v, H1, I1.tok _, rw', q⟩
theorem fe_xf {f : Str} {cs : List Nat} (hK : X.K = C.K) (hp : XPin C X) (hx : ∀ c ∈ cs, XGet X.K (C.cl c) f) (he : FE C W X e fe) (hb : attributeBase e f X.env (eval e X.env) = eval e X.env := by rfl) : FE C W X (.Attribute e f pos) (fXf f cs fe) := by
  refine PE.imp (pe_xf he hb) fun σ H Q ⟨G, δ, η, a0, fin⟩ => ?_
  refine tG.bind (Rel2 := Rp C) a0 fin fun d v G1 H1 η1 a1 x1 r1 fin1 => ?_
  cases r1 with
  | @exn a dd oe c ns vs l e1 hz hd rs =>
    dsimp only at fin1
    split at fin1
    · rename_i hc
      cases q : (ns.zip l).lookup f with
      | none => rw [q] at fin1; exact fin1.elim
      | some y =>
        rw [q] at fin1
        obtain ⟨w, h1, h2⟩ := xf_look rs q
        obtain ⟨p1, p2⟩ := hp _ e1
        exact ⟨a, oe, C.cl c, dd, _, w, rfl, p1, p2, hz, hx c hc, hd.1, h1, fin1 _ G1 H1 Nx.refl a1.he h2⟩
    · exact fin1.elim
  | _ => exact fin1.elim
end
/-! ### a def called while an exception is handled, the exception among its arguments -/
theorem _root_.L2H.RoomH.units {k : Nat} {A : Around} (r : RoomH k A) : A.units + 64 < cLine := by have := r.un; omega
structure FnX (P : Program) (w : World) (K : PySem.W.Frag) (mg : Str → Option Value) (base : Heap) (C : Ct) (k : Nat) (f : Addr) (fd : FuncData) (ps : List Str) (n : Nat) (m : DF) : Prop where
  len : ps.length = n
  run : ∀ (A : Around) (outer : List Env) (s : Shared) (H : Hp) (args : Args) (us : List Value) (vs : List V) (Q : VK) (p : Addr × Obj), RoomH k A → PinOk outer H s p → (∃ vs, p.2.data = .fields vs) → Env0 P w K mg base A outer s H → BindsTo s fd args (ps.zip us) → Vals vs us → spD (C.hot p) n m vs H Q E0 →
    codeAny (model P w) A (.call (.ref f) args) (CR CX0 outer P w H s Q E0) s
section
variable {P : Program} {w : World} {K : PySem.W.Frag} {mg : Str → Option Value} {base : Heap} {C : Ct}
theorem ok_hot {x qual : Str} {st : Stmt} {f : Addr} {fd : FuncData} {N ps : List Str} {k n np : Nat} {fb : S} (F : FunG K x qual st f fd) (S : FnScope N ps (defScope st)) (hn : N.length = n) (hnp : ps.length = np)
    (hbody : ∀ (cdv : Value) (A : Around) (outer : List Env) (s : Shared) (H : Hp) (p : Addr × Obj), RoomH k (A.deeper (envOfC qual (defScope st) s.heap.objs.size f cdv)) → XPin (C.hot p) (cxH CX0 P w K mg base N qual (defScope st) f cdv A outer s H E0 p) →
      FSs (C.hot p) WX0 (cxH CX0 P w K mg base N qual (defScope st) f cdv A outer s H E0 p) (defBody st) fb) : FnX P w K mg base C (k + 1) f fd ps np (runD n fb) := by
  obtain ⟨oc, od, dV, kV, doc, pm, an, cdv, ct, osl, rfl, lk, hcd⟩ := F.ex
  subst hn hnp
  refine ⟨rfl, fun A outer s H args us vs Q p hr hpin hdat e0 hb r h => ?_⟩
  obtain ⟨hl, G, ds, η, rps, rh, fin⟩ := h
  have hd : ds.length = ps.length := rps.length.trans hl
  have lim : s.heap.NoLimit := e0.mod.nolimit.keeps fun b o e => (e0.bs b o e).1
  have hk : ∀ y ∈ ps.zip us, (defScope st).names.lookup y.1 = some .local ∨ ((defScope st).names.lookup y.1 = some .cell ∧ ((cellsFrom (s.heap.objs.size + 1) (defScope st).names []).lookup y.1).isSome = true) := fun ⟨y, v⟩ hy =>
    (S.par y (List.of_mem_zip hy).1).elim .inl fun q => .inr ⟨q, PySem.W.cellsFrom_some _ _ _ (.inl q)⟩
  have KX : K.In s.heap := e0.mod.kin.keeps fun b o e => (e0.bs b o e).1
  refine codeAny_call_function hr.depth (KX _ _ lk) rfl S.co S.gen rfl (PySem.W.codeRec_of KX hcd) (hb _ _ _ _ (wpAny_newFunctionEnv_cells S.kind hk fun env he s1 x => ?_))
  subst he
  refine ⟨lim.keeps x.toInCall.keep, codeAny_func ?_⟩
  have I : Inv (cxH CX0 P w K mg base N qual (defScope st) f cdv A outer s H E0 p) [] (L2.start N vs) H s1 := inv_startH S hpin e0 hl r x
  have body := hbody cdv A outer s H p (hr.deeper _) (fun p' hp' => by cases hp'; exact ⟨List.mem_cons_self, hdat⟩)
  refine wpAny_mono (body.run [] s1 (L2.start N vs) H { nx := fun _ H' => Q .non H', rt := Q } I ⟨⟨G, H, G, H⟩, G, _, η, ⟨start_at rps rh, fun i l a e o => ?_, Nx.refl, Stab.refl⟩, ?_⟩) (fun fl s2 hs => ?_) fun e s2 hs => hs
  · exfalso
    by_cases hi : i < ds.length
    · rw [List.getElem?_append_left (by simpa using hi), List.getElem?_map] at e
      cases q : ds[i]? with
      | none => rw [q] at e; cases e
      | some d => rw [q] at e; cases e; cases o
    · rw [List.getElem?_append_right (by simpa using hi), List.getElem?_replicate] at e
      split at e <;> cases e
  · unfold runD at fin
    split at fin
    · rename_i δ' η' q
      rw [q]
      exact fun G' H' σ' h => fin _ G' H' h.n h.a.he .non
    · rename_i d η' q
      rw [q]
      exact fun v G' H' nx rh r => fin v G' H' nx rh r
    · rename_i c ns l δ' η' q
      rw [q]
      exact fun x vs G' H' σ' h q1 q2 => fin x vs G' H' h.n h.a.he q1 q2
    · exact fin.elim
  · rcases fl with _ | _ | _ | u
    all_goals first
      | (obtain ⟨v, σ2, H2, J, rv, q⟩ := hs; exact ⟨v, H2, J.os, J.bare, J.base, J.hok, rv, q⟩)
      | (obtain ⟨σ2, H2, J, q⟩ := hs; exact ⟨V.non, H2, J.os, J.bare, J.base, J.hok, rfl, q⟩)
      | (obtain ⟨_, _, _, q⟩ := hs; exact False.elim q)
end
section
variable {X : Cx} {C : Ct} {W : WX} {pos p : Pos} {e : Expr} {es : List Expr} {fs : F (List D)} {x : Str} {k n : Nat} {f : Addr} {fd : FuncData} {ps : List Str} {df : DF}
theorem fe_callH {pp : Addr × Obj} (F : FnX X.prog X.w X.K X.mg X.base C k f fd ps n df) (hr : RoomH k X.A) (hpp : pp ∈ X.pn) (hdat : ∃ vs, pp.2.data = .fields vs) (hm : X.mg x = some (.ref f)) (hk : PySem.W.keepIn X.K (.ref f) = true) (hb : Binds X.K fd ps [])
    (ha : FA (C.hot pp) W X (e :: es) fs) (hg : Gl X x := by rfl) (hdb : (x == ("__debug__" : Str)) = false := by decide) (he : starEach (e :: es) X.env = (false, eval e X.env) :: starEach es X.env := by rfl) (hpl : (backTo pos (starEach es X.env)).any (·.1) = false := by rfl) :
    FE (C.hot pp) W X (.Call (.Name x p) (e :: es) [] pos) (fCall n df fs) := by
  refine ⟨fun pins s σ H Q I ⟨G, δ, η, a, fin⟩ => ?_⟩
  refine wpAny_Call_Name_kw (ld_glob I hg hm ?_ hdb)
  have rd : tG (C.hot pp) (Rps (C.hot pp)) W fs σ H (fun vs H1 => spD (C.hot pp) n df vs H1 Q E0) := by
    refine tG.bind (Rel2 := Rp (C.hot pp)) a fin fun ds vs G1 H1 η1 a1 x1 r1 fin1 => ?_
    unfold arg at fin1
    split at fin1
    · rename_i hn
      exact ⟨by rw [← r1.length]; exact hn, G1, ds, η1, r1, a1.he, fin1.nox⟩
    · exact fin1.elim
  refine PySem.W.callWith_K (h₀ := X.base) I.ok.mod.kin hk (thn (ha.run pos pins s σ H _ I rd) fun us s1 ⟨vs, H1, I1, r, q⟩ => ⟨I1.kIn, ?_⟩) he hpl
  have hl : us.length = ps.length := by rw [← r.length, F.len]; exact q.1
  have b := hb s1 us I1.kIn (by rw [List.append_nil]; exact hl)
  rw [List.append_nil] at b
  have P1 := I1.pin pp (List.mem_append_left _ hpp)
  have hpin : PinOk X.stack H1 s1 pp := ⟨P1.1, P1.2.1, fun hm => (List.mem_cons.mp (I1.stkSub pp.1 hm)).elim P1.2.2.1 P1.2.2.2.1, P1.2.2.2.2⟩
  refine wpAny_call (codeAny_mono (F.run X.A X.stack s1 H1 ⟨us, []⟩ us vs Q pp hr hpin hdat I1.env0 b r q) fun z s2 hq => ?_)
  rcases z with e | (u | _ | _ | _) <;> first | exact I1.after hq | exact False.elim hq
end
end DL
/-! try: .. except (A, B, C) as n: .. -/
namespace DL
open PySem PySem.Spec PyProof.Rows L2
/-- what the clause wishes of an exception of the body -/
def wThree (K : PySem.W.Frag) (cs : List Value) (i : Nat) (ts : Addr → Value → Option Addr → TS) (Wout : WX) (Dn : Ends) : WX := fun cls d σ H =>
  ∃ b, PySem.W.exmAny K cls cs = some b ∧ (b = true → ∀ a, H a = none → ts a cls d { nx := fun σ' H' => Dn.nx (σ'.set i none) H', rt := Dn.rt, bk := fun σ' H' => Dn.bk (σ'.set i none) H', ct := fun σ' H' => Dn.ct (σ'.set i none) H' } (σ.set i (some (.ref a))) H) ∧ (b = false → Wout cls d σ H)
theorem fly_keeps {base h h' : Heap} {l : List Env} {e : Addr} {Z : Obj → Prop} (k : ∀ b o, h.get? b = some o → h'.get? b = some o) (f : HandSPX.FlyingZ base l e Z h) : HandSPX.FlyingZ base l e Z h' := by
  obtain ⟨f1, f2, f3, oe, vs, T, oT, ts, he, hz, hd, h1, hn, ne, hT, hdT, h3⟩ := f
  exact ⟨fun b o q => k b o (f1 b o q), f2, Heap.FunFrames.of_keeps (fun b o q _ => ⟨o, k b o q, rfl⟩) f3, oe, vs, T, oT, ts, k _ _ he, hz, hd, h1, hn, ne, k _ _ hT, hdT, h3⟩
section
variable {X : Cx} {x1 x2 x3 n : Str} {c1 c2 c3 : Addr} {i : Nat} {body suite : List Stmt} {b₀ : Stmt} {n1 n2 n3 tp pos pos' : Pos} {kk : Nat} {tb : WX → TS} {ts : Addr → Value → Option Addr → TS} {Wout : WX}
theorem ps_tryThree (hs : X.stack = X.env :: X.outer) (hf : X.env.frame = some X.env.locals) (hN : X.N.Nodup) (hi : X.N[i]? = some n) (hln : X.env.kindOf n = some .local) (g1 : Gl X x1) (g2 : Gl X x2) (g3 : Gl X x3) (m1 : X.mg x1 = some (.ref c1)) (m2 : X.mg x2 = some (.ref c2)) (m3 : X.mg x3 = some (.ref c3)) (tk : Takes X Wout)
    (hb : ∀ (W : WX) (pn : List (Addr × Obj)) (xe : Value → Shared → Prop), Takes (X.tr pn xe) W → PassesOwn (model X.prog X.w) X.A X.env xe → PSs (X.tr pn xe) body (tb W))
    (hsu : ∀ (a : Addr) (oe : Obj) (cls : Value) (d : Option Addr) (pn : List (Addr × Obj)), Zc cls d oe → (∃ vs, oe.data = .fields vs) → PSs (X.suite a ((a, oe) :: pn)) (b₀ :: suite) (ts a cls d))
    (d1 : (x1 == ("__debug__" : Str)) = false := by decide) (d2 : (x2 == ("__debug__" : Str)) = false := by decide) (d3 : (x3 == ("__debug__" : Str)) = false := by decide) :
    PS X (.Try body [.ExceptHandler (some (.Tuple [.Name x1 n1, .Name x2 n2, .Name x3 n3] kk tp)) (some n) (b₀ :: suite) pos'] [] [] pos) (fun Dn σ H => tb (wThree X.K [.ref c1, .ref c2, .ref c3] i ts Wout Dn) Dn σ H) := by
  refine ⟨fun pins s σ H Dn I h => wpAny_Try_except ?_⟩
  have ok := I.ok
  have hfr : X.A.frames = some (X.env :: X.outer) := by rw [ok.frames, hs]
  have run := (hb (wThree X.K [.ref c1, .ref c2, .ref c3] i ts Wout Dn) (X.pn ++ pins) (fun e t₁ => wpAny (model X.prog X.w) X.A (noteFrame e X.env) (fun _ t₂ => wpAny (model X.prog X.w) X.A (setFlight e none) (fun _ t₃ =>
    wpAny (model X.prog X.w) X.A (handleBy e X.env [.ExceptHandler (some (.Tuple [.Name x1 n1, .Name x2 n2, .Name x3 n3] kk tp)) (some n) (b₀ :: suite) pos']) (SP X pins Dn) X.xe t₃) X.xe t₂) X.xe t₁) (fun u z xx => ?take) PassesOwn.looking).run [] s σ H Dn (I.toTry _) h
  case take =>
    obtain ⟨a, B, sI, pins2, τ, Hx, cls, d, rfl, J', nb, up, sky, na, os, ag, b, hb1, hyes, hno⟩ := xx
    have J : Inv X pins τ Hx sI := J'.ofTry ok
    rw [show (X.tr (X.pn ++ pins) _).stack = X.env :: X.outer from hs] at sky
    show wpAny (model X.prog X.w) X.A (noteFrame (.ref a) X.env) _ _ _
    refine Sky.land Zc.steady hfr hf sky fun h3 fl3 up3 => ?_
    have J3 : Inv X pins τ Hx { z with heap := h3 } := J.landed nb fl3.1 (up.trans up3) os ag
    obtain ⟨oe3, vs3, he3, hz3, hd3⟩ := fl3.there
    have off : ∀ {h : Heap} {o : Obj} {vs : Array Value}, h.FunFrames B (X.env :: X.outer) → h.get? a = some o → o.data = .fields vs → a ∉ frs (X.env :: X.outer) := fun {h o vs} ff e dd hm => by
      obtain ⟨_, o', e', hnf⟩ := ff.mem hm
      rw [e] at e'
      exact hnf _ ((Option.some.inj e') ▸ dd)
    have nfr := off fl3.2.2.1 he3 hd3
    have nL : a ≠ X.env.locals := fun q => nfr (List.mem_filterMap.mpr ⟨X.env, List.mem_cons_self, by rw [hf, q]⟩)
    have nF : a ∉ X.fs := fun hm => (List.mem_filterMap.mp hm).elim fun e he => nfr (List.mem_filterMap.mpr ⟨e, List.mem_cons_of_mem _ he.1, he.2⟩)
    have S3 := J3.suite he3 hd3 na nL nF
    refine wpAny_handleBy_cons (codeAny_handlers_test ?_) (by intro q; cases q)
    refine wpAny_Tuple_spliced (Calls.spliced_cons (ld_glob (X := X.suite a ((a, oe3) :: (X.pn ++ pins))) S3 g1 m1 (Calls.spliced_cons (ld_glob (X := X.suite a ((a, oe3) :: (X.pn ++ pins))) S3 g2 m2 (Calls.spliced_cons (ld_glob (X := X.suite a ((a, oe3) :: (X.pn ++ pins))) S3 g3 m3 (Calls.spliced_nil ⟨by rw [sizeLine_eq]; simp, ?_⟩) d3)) d2)) d1))
    have k34 : ∀ b o, h3.get? b = some o → (h3.push { cls := .type "tuple", data := .seq [Value.ref c1, .ref c2, .ref c3].toArray }).get? b = some o := fun b o q => Heap.get?_push_of_some _ q
    have LT : PySem.W.Looks (model X.prog X.w) (h3.push { cls := .type "tuple", data := .seq [Value.ref c1, .ref c2, .ref c3].toArray }) (typeOf (.ref a)) cls := fun A Q E s k q => wpAny_typeOf_ref (k _ _ (k34 _ _ he3)) (by rw [hz3.1]; exact q)
    have LM := PySem.W.exm_tup3 (M := model X.prog X.w) (J3.kIn.keeps k34) LT (Heap.get?_push_size _ rfl) hb1
    refine LM.here (s := { z with heap := h3.push { cls := .type "tuple", data := .seq [Value.ref c1, .ref c2, .ref c3].toArray } }) ?_
    have fl4 := fly_keeps k34 fl3
    have up4 : z.heap.UpToSlots (h3.push { cls := .type "tuple", data := .seq [Value.ref c1, .ref c2, .ref c3].toArray }) := up3.trans (Heap.UpToSlots.of_keeps k34)
    cases b with
    | false =>
      show wpAny _ X.A (handleBy (.ref a) X.env []) _ _ _
      refine wpAny_handleBy_nil ?_
      obtain ⟨_, _, _, oe, vs, T, oT, ts', he, hz, hd, h1, hr⟩ := id fl4
      unfold PySem.passOn
      refine wpAny_bind (wpAny_field he hd h1 ?_)
      rw [if_neg (show ¬ ((Value.ref T == Value.none) = true) from by simp)]
      have fin : wpAny (model X.prog X.w) X.A (setFlight (.ref a) X.env.frame) (fun _ t => wpAny (model X.prog X.w) X.A (throw (.ref a) : Sem Flow) (SP X pins Dn) X.xe t) X.xe { z with heap := h3.push { cls := .type "tuple", data := .seq [Value.ref c1, .ref c2, .ref c3].toArray } } := by
        rw [hf]
        exact HandSPX.setFlight_upZ fl4 fun h5 hh5 up5 => wpAny_throw (tk _ _ ⟨a, B, sI, pins, τ, Hx, cls, d, rfl, J, nb, (up.trans up4).trans up5, .inr (.inr (by rw [hs]; exact hh5)), na, os, ag, hno rfl⟩)
      first
        | exact wpAny_bind (wpAny_pure (wpAny_bind fin))
        | exact wpAny_bind fin
    | true =>
      refine codeAny_handlers_suite_as (HandSPX.lands_againZ fl4 fun h5 fl5 up5 => ?_)
      have J5 : Inv X pins τ Hx { z with heap := h5 } := J.landed nb fl5.1 ((up.trans up4).trans up5) os ag
      obtain ⟨oe5, vs5, he5, hz5, hd5⟩ := fl5.there
      have S5 := J5.suite he5 hd5 na nL nF
      refine store_ok (X := X.suite a ((a, oe5) :: (X.pn ++ pins))) (v := .ref a) S5 hN hi (.inl hln) rfl (fun s6 S6 => ?_) (.inr hln)
      refine wpAny_mono ((hsu a oe5 cls d (X.pn ++ pins) hz5 ⟨_, hd5⟩).run [] s6 _ Hx _ S6 (hyes rfl a na)) (fun f s7 hsp => ?_) (fun _ _ q => False.elim q)
      have last : ∀ {σ7 : L2.St} {H7 : Hp} {Q : Shared → Prop}, Inv (X.suite a ((a, oe5) :: (X.pn ++ pins))) [] σ7 H7 s7 → (∀ s8, Inv X pins (σ7.set i none) H7 s8 → Q s8) →
          wpAny (model X.prog X.w) X.A (do bindName X.env n .none; unbindBehindTheSuite X.env n pos') (fun _ s8 => Q s8) X.xe s7 := fun S7 hq => gone_ok (S7.unsuite ok) hN hi hln hq
      rcases f with _ | _ | _ | u
      all_goals first
        | (obtain ⟨v7, σ7, H7, S7, r7, q7⟩ := hsp; exact last S7 fun s8 J8 => ⟨_, _, _, J8, r7, q7⟩)
        | (obtain ⟨σ7, H7, S7, q7⟩ := hsp; exact last S7 fun s8 J8 => ⟨_, _, J8, q7⟩)
  refine wpAny_mono run (fun f s1 hsp => ?_) (fun _ _ q => q)
  rcases f with _ | _ | _ | u
  all_goals first
    | (obtain ⟨v, σ2, H2, J2, r, q⟩ := hsp; exact ⟨v, σ2, H2, J2.ofTry ok, r, q⟩)
    | (obtain ⟨σ2, H2, J2, q⟩ := hsp; exact wpAny_execs_nil ⟨σ2, H2, J2.ofTry ok, q⟩)
    | (obtain ⟨σ2, H2, J2, q⟩ := hsp; exact ⟨σ2, H2, J2.ofTry ok, q⟩)
end
end DL
/-! why(lambda: e): what the call returns behind an empty code, or the code of its error and what it bears -/
namespace DL
open PySem PySem.Spec PyProof.Rows L2 L2H
open PyProof.Rows (envOfC)
/-! ### data that holds in any ghost -/
section
variable {C C2 : Ct} {G G2 : Gh} {H : Hp}
theorem rd_there {a : Addr} {u : HO} (h : Rd H a u) : ∃ o, H a = some o := h.elim (fun h => ⟨_, h⟩) fun ⟨o, h⟩ => ⟨_, h⟩
mutual
theorem Rp.move (hK : C2.K = C.K) (hM : ∀ a o, H a = some o → ¬ G.M a → ¬ G2.M a) : ∀ {n : Nat} {d : D} {v : V}, pureD n d = true → Rp C G H d v → Rp C2 G2 H d v
  | _, _, _, _, .non => .non
  | _, _, _, _, .bl b => .bl b
  | _, _, _, _, .int i => .int i
  | _, _, _, _, .str x h => .str x h
  | 0, _, _, p, .lst h z r => by simp [pureD] at p
  | 0, _, _, p, .tup h z r => by simp [pureD] at p
  | n + 1, _, _, p, .lst h z r => .lst (h.elim (fun h => .inl ⟨h.1, (rd_there h.1).elim fun o e => hM _ o e h.2⟩) fun h => .inr (by rw [hK]; exact h)) z (Rps.move hK hM (by rw [pureD] at p; exact p) r)
  | n + 1, _, _, p, .tup h z r => .tup (h.elim (fun h => .inl ⟨h.1, (rd_there h.1).elim fun o e => hM _ o e h.2⟩) fun h => .inr (by rw [hK]; exact h)) z (Rps.move hK hM (by rw [pureD] at p; exact p) r)
  | n, _, _, p, .ins _ _ _ _ => by cases n <;> simp [pureD] at p
  | n, _, _, p, .obj _ => by cases n <;> simp [pureD] at p
  | n, _, _, p, .exn _ _ _ _ => by cases n <;> simp [pureD] at p
theorem Rps.move (hK : C2.K = C.K) (hM : ∀ a o, H a = some o → ¬ G.M a → ¬ G2.M a) : ∀ {n : Nat} {l : List D} {vs : List V}, pureDs n l = true → Rps C G H l vs → Rps C2 G2 H l vs
  | _, _, _, _, .nil => .nil
  | n, _, _, p, .cons r q => by
    rw [pureDs, Bool.and_eq_true] at p
    exact .cons (Rp.move hK hM p.1 r) (Rps.move hK hM p.2 q)
end
end
/-! ### the mirror -/
def hotS (d : D) : En := [none, none, some (.val d)]
def sufF (cs : List Nat) (fld : DF) : F D := fTup (fCons (fXf "code" cs (fV 2)) (fCons (fCall 1 fld (fCons (fV 2) fNil)) fNil))
def whyM (cs : List Nat) (fld : DF) (r : R D) : R D := match r with
  | .ok d η => .ok (.tup [.str "", d]) η
  | .exc c ns l η => if c ∈ cs ∧ pureDs 20 l = true then match sufF cs fld (hotS (.exn c ns l)) [] with
    | .ok v _ => if pureD 20 v = true then .ok v η else .bad
    | _ => .bad
    else .bad
  | .bad => .bad
def isTbl (η : List O) (i : Nat) (q : Str) : Bool := match η[i]? with
  | some (.tbl q') => decide (q' = q)
  | _ => false
def fWhy (i : Nat) (q : Str) (cs : List Nat) (fld : DF) (f : F D) : F D := fun δ η => if isTbl η i q = true then whyM cs fld (f δ η) else .bad
/-! ### the def that catches -/
/-- what the def makes of the lambda -/
def TTwhy (C : Ct) (hs : List Value) (fs : F D) : (XK → Hp → VK → Prop) → Hp → VK → Prop := fun tl H Q =>
  tl (fun cls d H' => PySem.W.exmAny C.K cls hs = some true ∧ ∀ a, H' a = none → ∀ oe, Zc cls d oe → (∃ vs, oe.data = .fields vs) → ∀ σ : L2.St, σ.length = 3 → σ[2]? = some (some (.ref a)) → tG (C.hot (a, oe)) (Rp (C.hot (a, oe))) WX0 fs σ H' Q)
    H fun v H' => ∀ p, H' p = none → Q (.ref p) (upd H' p (.tup [.str "", v]))
section
variable {X : Cx} {C : Ct}
theorem why_gives {k : Nat} {cs : List Nat} {fld : DF} {x q : Str} {sg : Scope} {g ff t1 t2 t3 : Addr} {cdg : Value} {fdf : FuncData} {bg : List Stmt} {a1 a2 a3 a4 a5 n1 n2 n3 tp b1 b2 b3 b4 b5 b6 b7 b8 c1 c2 c3 c4 : Pos} {kk k2 k3 j : Nat} (hK : X.K = C.K)
    (F : FnX X.prog X.w X.K X.mg X.base C k ff fdf ["_law_e"] 1 fld) (mF : X.mg "_law_field" = some (.ref ff)) (kF : PySem.W.keepIn X.K (.ref ff) = true) (bF : Binds X.K fdf ["_law_e"] []) (hr : Room (k + 1) X.A) (hx : ∀ c ∈ cs, XGet X.K (C.cl c) "code")
    (hg : bg = [.Try [.Assign [.Name "_law_told" a1] (.Call (.Name "_law_deed" a2) [] [] a3) a4] [.ExceptHandler (some (.Tuple [.Name "TellError" n1, .Name "Missing" n2, .Name "NothingLeft" n3] kk tp)) (some "_law_e") [.Return (some (.Tuple [.Attribute (.Name "_law_e" b1) "code" b2, .Call (.Name "_law_field" b3) [.Name "_law_e" b4] [] b5] k2 b6)) b7] b8] [] [] a5,
      .Return (some (.Tuple [.Constant (.str "") j c1, .Name "_law_told" c2] k3 c3)) c4])
    (l0 : sg.names.lookup ("_law_deed" : Str) = some .local) (l1 : sg.names.lookup ("_law_told" : Str) = some .local) (l2 : sg.names.lookup ("_law_e" : Str) = some .local) (lT : sg.names.lookup ("TellError" : Str) = some .globalImplicit) (lM : sg.names.lookup ("Missing" : Str) = some .globalImplicit)
    (lN : sg.names.lookup ("NothingLeft" : Str) = some .globalImplicit) (lF : sg.names.lookup ("_law_field" : Str) = some .globalImplicit) (mT : X.mg "TellError" = some (.ref t1)) (mM : X.mg "Missing" = some (.ref t2)) (mN : X.mg "NothingLeft" = some (.ref t3)) :
    GivesM X ["_law_deed", "_law_told", "_law_e"] x sg g cdg bg "_law_deed" q (TTwhy C [.ref t1, .ref t2, .ref t3] (sufF cs fld)) := by
  intro f c' s H Q tl mono act hc h
  subst hg
  have nd : (["_law_deed", "_law_told", "_law_e"] : List Str).Nodup := by decide
  let Z : Cx := (cxOf CX0 X.prog X.w X.K X.mg X.base ["_law_deed", "_law_told", "_law_e"] x sg g cdg X.A X.stack s H E0).nox
  let ts : Addr → Value → Option Addr → TS := fun a cls d Dn σ H' => ∀ oe, Zc cls d oe → (∃ vs, oe.data = .fields vs) → σ.length = 3 → tG (C.hot (a, oe)) (Rp (C.hot (a, oe))) WX0 (sufF cs fld) σ H' Dn.rt
  refine ⟨_, pss_cons (ps_tryThree (X := Z) (i := 2) (c1 := t1) (c2 := t2) (c3 := t3) (ts := ts) (Wout := fun _ _ _ _ => False)
    (tb := fun W Dn σ H' => ∃ Ech : XK, (∀ (cls : Value) (d : Option Addr) (σ' : L2.St) (H'' : Hp), Ech cls d H'' → W cls d σ' H'') ∧ σ[0]? = some (some (.ref f)) ∧ H' c' = some (LamX.CodeO c' q) ∧ tl Ech H' fun v H'' => Dn.nx (σ.set 1 (some v)) H'')
    rfl rfl nd rfl l2 lT lM lN mT mM mN LamX.takes0 (fun W pn xe tk _ => ?body) (fun a oe cls d pn hz hd => ?suite)) (pss_one (ps_ret (pe_tup (pa_cons pe_str (pa_cons (pe_var (i := 1) rfl (.inl l1)) pa_nil))))), ?_⟩
  case suite =>
    have xp : XPin (C.hot (a, oe)) (Z.suite a ((a, oe) :: pn)) := fun p hp => by cases hp; exact ⟨List.mem_cons_self, hd⟩
    have e2 : FE (C.hot (a, oe)) WX0 (Z.suite a ((a, oe) :: pn)) (.Name "_law_e" b1) (fV 2) := fe_v 2 rfl (.inl l2)
    have e3 : FE (C.hot (a, oe)) WX0 (Z.suite a ((a, oe) :: pn)) (.Name "_law_e" b4) (fV 2) := fe_v 2 rfl (.inl l2)
    have r1 := roomH_of (hr.deeper (envOfC x sg s.heap.objs.size g cdg))
    have rh : RoomH k (Z.suite a ((a, oe) :: pn)).A := ⟨r1.dp, r1.un⟩
    have suf : FE (C.hot (a, oe)) WX0 (Z.suite a ((a, oe) :: pn)) (.Tuple [.Attribute (.Name "_law_e" b1) "code" b2, .Call (.Name "_law_field" b3) [.Name "_law_e" b4] [] b5] k2 b6) (sufF cs fld) :=
      fe_tup (fa_cons (fe_xf hK xp hx e2) (fa_cons (fe_callH F rh List.mem_cons_self hd mF kF bF (fa_cons e3 fa_nil) lF) fa_nil))
    exact ⟨fun pins s' σ H' Dn I h => (pss_one (ps_ret (pos := b7) suf)).run pins s' σ H' Dn I (h oe hz hd I.len)⟩
  case body =>
    refine ⟨fun pins s' σ H' Dn I ⟨Ech, hW, h1, h2, h3⟩ => ?_⟩
    have hp := act W pn xe Ech a2 a3 tk hW
    exact (pss_one (ps_set (pos := a4) (i := 1) nd rfl (.inl l1) hp)).run pins s' σ H' Dn I ⟨h1, h2, h3⟩
  · unfold TTwhy at h
    refine ⟨_, fun cls d σ' H' ⟨hb, he⟩ => ⟨true, by rw [← hK] at hb; exact hb, fun _ a ha oe hz hd hl => he a ha oe hz hd _ hl (by rw [List.length_set] at hl; rw [List.getElem?_set_self (by omega)]), fun z => by cases z⟩, rfl, hc, mono _ _ _ _ (fun v H' hq => ?_) h⟩
    exact ⟨v, rfl, by rw [sizeLine_eq]; simp, hq⟩
end
end DL
namespace DL
open PySem PySem.Spec PyProof.Rows L2 L2H LamX
open PyProof.Rows (envOfC)
section
variable {X : Cx} {C : Ct} {W : WX}
theorem tG_mono {α β : Type} {Rel : Gh → Hp → α → β → Prop} {f : F α} {σ : L2.St} {H : Hp} {Q Q' : β → Hp → Prop} (i : ∀ v H', Q v H' → Q' v H') (h : tG C Rel W f σ H Q) : tG C Rel W f σ H Q' := by
  obtain ⟨G, δ, η, a, fin⟩ := h
  refine ⟨G, δ, η, a, ?_⟩
  cases hf : f δ η with
  | ok d η1 => rw [hf] at fin; exact fun v G1 H1 x q1 q2 => i _ _ (fin v G1 H1 x q1 q2)
  | exc c ns l η1 => rw [hf] at fin; exact fin
  | bad => rw [hf] at fin; exact fin
theorem isTbl_at {η : List O} {i : Nat} {q : Str} (h : isTbl η i q = true) : η[i]? = some (.tbl q) := by
  unfold isTbl at h
  split at h
  · rename_i q' e
    rw [e, of_decide_eq_true h]
  · cases h
/-- behind the making of a lambda all else stands -/
theorem lam_next {G : Gh} {H H1 : Hp} {η : List O} {i : Nat} {P c' : Addr} {q : Str} {ps : Array Value} (r : Rh C G H η) (hi : η[i]? = some (.tbl q)) (hP : G.ads[i]? = some P) (hps : H P = some (.tbl ps)) (lh : LamH H H1 P c' q ps) : Nx G H G H1 ∧ Rh C G H1 η := by
  rcases lh with rfl | ⟨ps', nC, rfl, t2, a2⟩
  · exact ⟨Nx.refl, r⟩
  · have mP : P ∈ G.ads := List.mem_of_getElem? hP
    have keep : ∀ a o, H a = some o → a ≠ P → upd (upd H P (.tbl ps')) c' (CodeO c' q) a = some o := fun a o e ne => by
      rw [upd_ne (ne_of_none e nC), upd_ne ne]; exact e
    have nx : Nx G H G (upd (upd H P (.tbl ps')) c' (CodeO c' q)) := by
      refine ⟨fun _ _ h => h, fun a o e m => keep a o e fun z => m (z ▸ mP), fun _ _ _ => Iff.rfl, fun _ h => .inl h, fun a e => ?_⟩
      by_cases h1 : a = c'
      · rw [h1]; exact nC
      · rw [upd_ne h1] at e
        by_cases h2 : a = P
        · rw [h2, upd_same] at e; cases e
        · rw [upd_ne h2] at e; exact e
    have st := nx.stab r
    refine ⟨nx, r.len, r.nd, fun n o a h1 h2 => ?_, fun a m z => r.mh a m (nx.there a z)⟩
    obtain ⟨m, ro⟩ := r.ob n o a h1 h2
    refine ⟨m, ?_⟩
    by_cases e : a = P
    · have en : n = i := ndIx r.nd (e ▸ h2) hP
      subst en
      rw [hi] at h1
      cases h1
      cases ro with
      | @tbl _ _ ps0 tb e0 t0 c0 =>
        rw [e, hps] at e0
        cases e0
        refine .tbl tb (by rw [e, upd_ne (ne_of_none hps nC), upd_same]) t2 fun pos cv hc => ?_
        rcases a2 pos cv hc with z | z
        · obtain ⟨b, e1, e2, e3⟩ := c0 pos cv z
          exact ⟨b, e1, (st.keep _ _ e2 e3).1, (st.keep _ _ e2 e3).2⟩
        · exact ⟨c', z, upd_same, fun z => r.mh _ z nC⟩
    · exact ro.stab st fun u hu => keep a u hu e
variable {i k : Nat} {q : Str} {cs : List Nat} {fld : DF} {fb : F D} {st : Stmt} {g c : Addr} {fdg : FuncData} {hs : List Value} {params : Arguments} {body : Expr} {scope : Scope} {p lpos pos : Pos}
theorem fe_why (hK : X.K = C.K) (F : FunG X.K "_law_why" "_law_why" st g fdg) (Sg : FnScope ["_law_deed", "_law_told", "_law_e"] ["_law_deed"] (defScope st)) (hm : X.mg "_law_why" = some (.ref g)) (bG : Binds X.K fdg ["_law_deed"] [])
    (hG : ∀ cdv : Value, GivesM X ["_law_deed", "_law_told", "_law_e"] "_law_why" (defScope st) g cdv (defBody st) "_law_deed" q (TTwhy C hs (sufF cs fld))) (hva : Vis (defScope st) "_law_deed") (hcs : ∀ c ∈ cs, PySem.W.exmAny C.K (.ref (C.cl c)) hs = some true)
    (TB : TabB X.base X.mg c (C.tb q)) (hcode : X.env.code = .ref c) (hq : X.env.qual ++ "<lambda>" = q) (hr : Room (k + 2) X.A) (L : LamS X.env.scope scope) (hdef : defaultsOf params X.env = ([], []))
    (hbind : ∀ (q : Str) (cl : List (Str × Addr)) (pm cv ctv : Value), bindArgs (PySem.W.kla_fn "<lambda>" q params body scope cl pm cv ctv) ⟨[], []⟩ = pure [])
    (hbody : ∀ (A : Around) (outer : List Env) (s : Shared) (H : Hp) (E : XK) (f c' : Addr), Room k (A.deeper (lamEnv X scope s.heap.objs.size f c')) → FE C (WK E) (lamCx X A outer s H E scope f c') body fb) (hg : Gl X "_law_why" := by rfl) :
    FE C W X (.Call (.Name "_law_why" p) [.Lambda params body scope lpos] [] pos) (fWhy i q cs fld fb) := by
  obtain ⟨oc, od, dV, kV, doc, pm, an, cdv, ct, osl, rfl, lk, hcd⟩ := F.ex
  refine PE.imp (pe_lamX (t := fun E => tG C (Rp C) (WK E) fb) hg hm F.kp lk hcd bG Sg rfl hva (hG cdv) (fun σ E H Q Q' i h => tG_mono i h) TB hcode hq hr L hdef hbind hbody) fun σ H Q ⟨G, δ, η, a, fin⟩ => ?_
  unfold fWhy at fin
  by_cases hi : isTbl η i q = true
  case neg => rw [if_neg hi] at fin; exact fin.elim
  rw [if_pos hi] at fin
  have hi := isTbl_at hi
  have hlt : i < G.ads.length := by rw [a.he.len]; exact (List.getElem?_eq_some_iff.mp hi).1
  have hP : G.ads[i]? = some G.ads[i] := by simp [hlt]
  obtain ⟨mP, ro⟩ := a.he.ob i _ _ hi hP
  generalize G.ads[i] = P at hP mP ro
  cases ro with
  | @tbl _ _ ps tb e0 t0 c0 =>
    subst tb
    refine ⟨ps, ⟨e0, t0, fun pos cv hc => (c0 pos cv hc).elim fun b z => ⟨b, z.1, z.2.1⟩⟩, fun H1 c' lh => ?_⟩
    obtain ⟨nx, rh1⟩ := lam_next a.he hi hP e0 lh
    have a1 := a.next nx rh1
    have fin1 := fin.next nx
    unfold TTwhy
    refine ⟨G, δ, η, a1, ?_⟩
    cases hf : fb δ η with
    | bad => rw [hf] at fin1; exact fin1
    | ok d η2 =>
      rw [hf] at fin1
      intro v G2 H2 x r1 r2 p np
      have z : ([.str "", d] : List D).length ≤ sizeLine := by rw [sizeLine_eq]; simp
      exact fin1 (.ref p) G2 _ (x.trans (Nx.alloc np)) (r1.alloc np) (.newTup r1 np z (.cons (.str _ (by decide +kernel)) (.cons r2 .nil)))
    | exc cc ns l η2 =>
      rw [hf] at fin1
      unfold whyM at fin1
      dsimp only at fin1
      split at fin1
      · rename_i hh
        intro x vs G2 H2 nx2 r1 hx r2
        refine ⟨hcs cc hh.1, fun b nb oe hz hd σ2 hl h2 => ?_⟩
        let G0 : Gh := ⟨[], G2.M⟩
        have rps : Rps (C.hot (b, oe)) G0 H2 l vs := Rps.move (C := C) (C2 := C.hot (b, oe)) (G := G2) (G2 := G0) rfl (fun _ _ _ z => z) hh.2 r2
        refine ⟨G0, hotS (.exn cc ns l), [], ⟨by rw [hl]; rfl, fun j lj hj => ?_, fun j j' lj lj' v hne h1 h2 o1 o2 => ?_, fun j lj a' hj ho => ?_, ⟨rfl, List.nodup_nil, fun n o a h1 h2 => by simp at h1, r1.mh⟩⟩, ?_⟩
        · match j, hj with
          | 0, hj => cases hj
          | 1, hj => cases hj
          | 2, hj =>
            cases hj
            exact ⟨_, h2, .val (.exn rfl hz hx rps)⟩
          | n + 3, hj => simp [hotS] at hj
        · match j, h1 with
          | 0, h1 => cases h1
          | 1, h1 => cases h1
          | 2, h1 => cases h1; cases o1
          | n + 3, h1 => simp [hotS] at h1
        · match j, hj with
          | 0, hj => cases hj
          | 1, hj => cases hj
          | 2, hj => cases hj; cases ho
          | n + 3, hj => simp [hotS] at hj
        · cases hs' : sufF cs fld (hotS (.exn cc ns l)) [] with
          | bad => rw [hs'] at fin1; exact fin1
          | exc _ _ _ _ => rw [hs'] at fin1; exact fin1.elim
          | ok v η3 =>
            rw [hs'] at fin1
            dsimp only at fin1
            split at fin1
            · rename_i hv
              intro w G3 H3 nx3 r3 rv
              have k : ∀ a o, H2 a = some o → H3 a = some o := fun a o e => nx3.keep a o e (fun z => nomatch (show a ∈ ([] : List Addr) from z))
              refine fin1 w G2 H3 (nx2.trans (Nx.ext k)) (r1.ext k) (Rp.move (C := C.hot (b, oe)) (C2 := C) (G := G3) (G2 := G2) rfl (fun a o e m z => ?_) hv rv)
              cases e2 : H2 a with
              | none => exact r1.mh a z e2
              | some o2 => exact m ((nx3.mu a o2 e2).mpr z)
            · exact fin1.elim
      · exact fin1.elim
end
end DL
namespace DL
open PySem PySem.Spec PyProof.Rows L2 L2H LamX
open PyProof.Rows (envOfC)
/-! ### exception classes by their texts -/
section
open PySem.W
variable {P : Program} {K : PySem.W.Frag} {mg : Str → Option Value} {C fI cc cda : Addr} {B newId initId : String} {bmB : List Value} {st : Stmt} {qual nm f : Str} {p0 p1 p2 p3 p4 p5 q1 q2 q3 q4 r1 r2 r3 r4 : Pos} {j j2 : Nat} {ar : Arg}
theorem exR1 (b : DX.ExB B newId initId bmB) (T : DX.ExK K C fI cc B newId initId bmB) (g : mg nm = some (.ref C)) (sup : mg "super" = none) (F : DX.ExF P K fI cc cda qual (defArgs st) (defBody st) (defScope st)) (S : DX.ExS (defScope st) ["self", f])
    (hb : defBody st = [.Expr (.Call (.Attribute (.Call (.Name "super" p0) [] [] p1) "__init__" p2) [.Constant (.str nm) j p3] [] p4) p5, .Assign [.Attribute (.Name "self" q1) f q2] (.Name f q3) q4, .Assign [.Attribute (.Name "self" r1) "code" r2] (.Constant (.str nm) j2 r3) r4])
    (hp : ((defArgs st).posonlyargs ++ (defArgs st).args).head? = some ar) (ha : ar.arg = "self") (line : DX.LineOk qual nm (defScope st) fI cc cda p0 p1 p2 p3 p4 j) (tf : takerIn K C f = some none) (tc : takerIn K C "code" = some none)
    (bd : ∀ (kV doc pm : Value) (an : Option Addr) (ct u w : Value), bindArgs (ksFn "__init__" qual (defArgs st) (defBody st) (defScope st) .none kV doc pm an (.ref cda) ct cc) ⟨[u, w], []⟩ = pure [(("self" : Str), u), (f, w)])
    (hf : f ≠ "self" := by decide) (hfc : f ≠ "code" := by decide) (hfd : (f == ("__debug__" : Str)) = false := by decide) : ExR P K mg C nm [f] := by
  refine ⟨g, sup, fI, cc, B, newId, initId, bmB, b, T, fun w vs us r hl => ?_⟩
  match vs, us, r, hl with
  | [v], [u], .cons rv .nil, _ => exact ini_one rv b T F S hb hp ha line hf hfc hfd tf tc bd
end
theorem exm3 {K : PySem.W.Frag} {cls c1 c2 c3 : Value} {b1 b2 b3 b : Bool} (h1 : PySem.W.exmOne K cls c1 = some b1) (h2 : PySem.W.exmOne K cls c2 = some b2) (h3 : PySem.W.exmOne K cls c3 = some b3) (h : (b1 || (b2 || (b3 || false))) = b) : PySem.W.exmAny K cls [c1, c2, c3] = some b := by
  subst h
  simp [PySem.W.exmAny, h1, h2, h3]
theorem tabIn_of {K : PySem.W.Frag} {x : Str} {f c P : Addr} {oc ic : Value} {od id' : Option Addr} {os' is' : Array (Option Value)} {fd : FuncData} {vs : Array Value} (a : PySem.W.nsIn K mainGlobals x = some (some (.ref f))) (l : K.lookup f = some ⟨oc, od, .func fd, os'⟩) (hc : fd.code = .ref c)
    (q : K.lookup c = some ⟨ic, id', .fields vs, is'⟩) (v : vs[11]? = some (.ref P)) : PySem.W.tabIn K x = some (c, P) := by
  unfold PySem.W.tabIn
  rw [a]
  dsimp only
  rw [l]
  dsimp only
  rw [hc]
  dsimp only
  rw [q]
  dsimp only
  rw [v]
/-! ### a def that makes lambdas: its code object is at c -/
structure FunL (K : PySem.W.Frag) (x qual : Str) (st : Stmt) (f : Addr) (fd : FuncData) (c : Addr) : Prop where
  ex : ∃ (oc : Value) (od : Option Addr) (dV kV doc pm : Value) (an : Option Addr) (ct : Value) (osl : Array (Option Value)),
    fd = PySem.W.fnOf x qual (defArgs st) (defBody st) (defScope st) dV kV doc pm an (.ref c) ct ∧ K.lookup f = some ⟨oc, od, .func fd, osl⟩ ∧ PySem.W.codeIn K (.ref c) qual = true
  kp : PySem.W.keepIn K (.ref f) = true
section
variable {P : Program} {w : World} {K : PySem.W.Frag} {mg : Str → Option Value} {base : Heap} {C : Ct}
theorem FunL.mk' {x qual : Str} {st : Stmt} {f c : Addr} {oc : Value} {od an : Option Addr} {osl : Array (Option Value)} {dV kV doc pm ct : Value} (l : K.lookup f = some ⟨oc, od, .func (PySem.W.fnOf x qual (defArgs st) (defBody st) (defScope st) dV kV doc pm an (.ref c) ct), osl⟩)
    (h : PySem.W.codeIn K (.ref c) qual = true) (k : PySem.W.keepIn K (.ref f) = true) : FunL K x qual st f (PySem.W.fnOf x qual (defArgs st) (defBody st) (defScope st) dV kV doc pm an (.ref c) ct) c := ⟨⟨oc, od, dV, kV, doc, pm, an, ct, osl, rfl, l, h⟩, k⟩
theorem ok_defGL {x qual : Str} {st : Stmt} {f c : Addr} {fd : FuncData} {N ps : List Str} {k n np : Nat} {fb : S} (F : FunL K x qual st f fd c) (S : FnScope N ps (defScope st)) (hC : K = C.K) (hn : N.length = n) (hnp : ps.length = np)
    (hbody : ∀ (A : Around) (outer : List Env) (s : Shared) (H : Hp), Room k (A.deeper (envOfC qual (defScope st) s.heap.objs.size f (.ref c))) →
      FSs C WX0 (cxOf CX0 P w K mg base N qual (defScope st) f (.ref c) A outer s H E0).nox (defBody st) fb) : FnOk P w K mg base CX0 (k + 1) f fd ps (spD C np (runD n fb)) := by
  obtain ⟨oc, od, dV, kV, doc, pm, an, ct, osl, rfl, lk, hcd⟩ := F.ex
  subst hn hnp
  refine fn_of lk hcd S (fun vs H Q E h => h.1) fun A outer s H vs Q E hr h => ?_
  obtain ⟨hl, G, ds, η, r, rh, fin⟩ := h
  have hd : ds.length = ps.length := r.length.trans hl
  refine ⟨_, (hbody A outer s H hr).nox, ⟨G, H, G, H⟩, G, _, η, ⟨start_at r rh, fun i l a e o => ?_, Nx.refl, Stab.refl⟩, ?_⟩
  · exfalso
    by_cases hi : i < ds.length
    · rw [List.getElem?_append_left (by simpa using hi), List.getElem?_map] at e
      cases q : ds[i]? with
      | none => rw [q] at e; cases e
      | some d => rw [q] at e; cases e; cases o
    · rw [List.getElem?_append_right (by simpa using hi), List.getElem?_replicate] at e
      split at e <;> cases e
  · unfold runD at fin
    split at fin
    · rename_i δ' η' q
      rw [q]
      exact fun G' H' σ' h => fin _ G' H' h.n h.a.he .non
    · rename_i d η' q
      rw [q]
      exact fun v G' H' nx rh r => fin v G' H' nx rh r
    · rename_i c ns l δ' η' q
      rw [q]
      exact fun x vs G' H' σ' h q1 q2 => fin x vs G' H' h.n h.a.he q1 q2
    · exact fin.elim
end
/-! ### the law's start, with tables -/
theorem law_spT {K : PySem.W.Frag} {cl : Nat → Addr} {tb : Str → Addr} {m : DF} {H : Hp} {a : Addr} {ns : List Int} {qs : List Str} (t : ∀ ns : List Int, ns.length ≤ 63 → ∃ η, m [.lst (ns.map .int)] (qs.map .tbl) = .ok (.bl true) η) (hl : ns.length ≤ 63) (nd : (qs.map tb).Nodup)
    (hT : ∀ q ∈ qs, H (tb q) = some (.tbl #[])) (hS : SqL K H a (ns.map V.int)) : spD ⟨K, cl, tb, none⟩ 1 m [.ref a] H (fun v _ => v = .bl true) fun _ _ _ => False := by
  obtain ⟨η, e⟩ := t ns hl
  have nT : ∀ {u : HO}, Rd H a u → (∀ ps, u ≠ .tbl ps) → a ∉ qs.map tb := fun {u} h hu hm => by
    obtain ⟨q, hq, e2⟩ := List.mem_map.mp hm
    have h2 := hT q hq
    rw [e2] at h2
    rcases h with h | ⟨o, h⟩
    · rw [h2] at h; exact hu #[] (Option.some.inj h).symm
    · rw [h2] at h; cases h
  refine ⟨rfl, ⟨qs.map tb, fun b => b ∈ qs.map tb⟩, [.lst (ns.map .int)], qs.map .tbl, .cons (.lst ?_ ?_ (rps_ints ns)) .nil, ⟨by simp, nd, fun n o b h1 h2 => ?_, fun b hb => ?_⟩, ?_⟩
  · rcases hS with h | h
    · exact .inl ⟨h, nT h fun ps z => by cases z⟩
    · exact .inr (.inr h)
  · rw [List.length_map, sizeLine_eq]; omega
  · rw [List.getElem?_map] at h1 h2
    cases q : qs[n]? with
    | none => rw [q] at h1; cases h1
    | some z =>
      rw [q] at h1 h2
      cases h1
      cases h2
      refine ⟨List.mem_map.mpr ⟨z, List.mem_of_getElem? q, rfl⟩, .tbl rfl (hT z (List.mem_of_getElem? q)) True.intro fun pos cv hc => ?_⟩
      have hc : codeAmong pos [] = some cv := hc
      simp [codeAmong] at hc
  · obtain ⟨q, hq, rfl⟩ := List.mem_map.mp hb
    rw [hT q hq]; exact fun z => by cases z
  · rw [e]
    intro v G' H' _ _ r
    cases r
    rfl
/-- law's promise, at every table of classes -/
def spT (K : PySem.W.Frag) (tb : Str → Addr) (m : DF) : Sp := fun vs H Q E => ∀ cl : Nat → Addr, spD ⟨K, cl, tb, none⟩ 1 m vs H Q E
theorem walk_T {l : PySem.W.OpenLaw} {n k : Nat} {q : Program} {loose : List Str} {XP : (Str → Option Value) → Heap → Prop} {YP : World → Heap → Prop} {d : DefRec} {K : Params → PySem.W.Frag} {CX : World → CXT} {x : Str} (hn : l.most = some n) (hn2 : n ≤ sizeLine) (hdf : d.params.defaults = []) (hr : Room k callerA)
    (hY : ∀ (w : World) (h : Heap), YP w h → (K w.params).In h) (F : ∀ (w : World) (mg mb : Str → Option Value) (mean : ExcName → Option Value) (fa : Addr) (h : Heap), (K w.params).In h → Top q (PySem.W.looseW q loose) mean mg mb h → mg d.name = some (.ref fa) → LawAtS l w (K w.params) (CX w) k n x mg fa h)
    (hCX : ∀ (w : World) (H : Hp) (s : Shared) (e : Value) (s' : Shared), CX w [] H s (fun _ _ _ => False) e s' → False) : PySem.W.WalkO q loose XP YP l.row.toRowW d [] (fun f vs => PySem.call f vs) := by
  refine Att.attach_callB hn hdf fun w s₀ s₁ mg mb fa o pm cd doc a vs ns G Y ho hd hcd hmg hobj hints hlen hbits hg => ?_
  have KX := hY w _ Y
  obtain ⟨fd, cs, sp, hT, nT, cH, hb, hsp, hF⟩ := F w mg mb _ fa _ KX G.T hmg
  exact law_callTs KX G.T.g G.T.b G.T.builtins G.T.nolimit hg hT nT cH G.T.bmain hobj hints (Nat.le_trans hlen hn2) hr hF hb (fun H hH hS => hsp H a ns hlen hbits hH hS) fun H e s' => hCX w H s₁ e s'
end DL
/-! xs[::-1] of a list and a tuple -/
namespace HT
open PySem PyProof.Rows
open PySem.SeqAt
open PySem.AutoSeq1 (wpAny_loadPart')
open PySem.MeetsSeq PySem.MeetsSeq2 PySem.MeetsSeq3
section
variable {prog : Program} {w : World} {A : Around} {E : Value → Shared → Prop} {s : Shared}
end
end HT
namespace L2
open PySem PySem.Spec PyProof.Rows
section
variable {X : Cx} {e est : Expr} {te ts : TE} {pos p2 : Pos}
end
end L2
/-! xs[::-1] of a list and a tuple; an item store in an own list; a list times an int -/
namespace DL
open PySem L2
section
variable {X : Cx} {C : Ct} {W : WX} {pos p2 p : Pos} {e a b est : Expr} {es : List Expr} {fe fa fb fo : F D} {fs : F (List D)} {x : Str}
def revD : D → Option D
  | .lst l => some (.lst l.reverse)
  | .tup l => some (.tup l.reverse)
  | _ => none
def fRev (fa : F D) : F D := fun δ η => (fa δ η).bind fun d η => lift (revD d) η
/-! ### xs[i] = e, xs an own list -/
def sSetI (i : Nat) (fe fb : F D) : S := fun δ η => (fe δ η).toS δ fun d η => match δ[i]? with
  | some (some (.own l)) => (fb δ η).toS δ fun k η => match k with
    | .int j => match ixN l.length j with
      | some n => .nx (δ.set i (some (.own (l.set n d)))) η
      | none => .bad
    | _ => .bad
  | _ => .bad
/-! ### xs * n: a new list -/
def repB (n : Nat) (k : Int) : Bool := decide (-(2 ^ 63) ≤ k) && decide (k < 2 ^ 63) && decide (n * k.toNat ≤ sizeLine)
end
end DL
namespace DL
open PySem L2
/-! ### the data layer's functions, applied -/
section
variable {δ : En} {η : List O} {f fa fb fc : F D} {fl fh : F (Option Int)} {t u : F Bool} {g g' : D → D → Option D} {h : D → Option D} {fs fr : F (List D)} {a b : S} {i j : Nat} {d : D}
@[simp] theorem fV_a : fV i δ η = (match δ[i]? with | some (some (.val d)) => .ok d η | _ => .bad) := rfl
@[simp] theorem fVo_a : fVo i δ η = (match δ[i]? with | some (some (.own l)) => .ok (.lst l) η | _ => .bad) := rfl
@[simp] theorem fC_a : fC d δ η = .ok d η := rfl
@[simp] theorem fOp_a : fOp g fa fb δ η = (fa δ η).bind fun d η => (fb δ η).bind fun e η => lift (g d e) η := rfl
@[simp] theorem toB_a : toB f δ η = (f δ η).bind fun d η => (match d with | .bl b => .ok b η | _ => .bad) := rfl
@[simp] theorem fCh_a : fCh g g' fa fb fc δ η = (fa δ η).bind fun d η => (fb δ η).bind fun e η => (match g d e with | some (.bl true) => (fc δ η).bind fun k η => lift (g' e k) η | some (.bl false) => .ok (.bl false) η | _ => .bad) := rfl
@[simp] theorem fTru_a : fTru f δ η = (f δ η).bind fun d η => lift (truD d) η := rfl
@[simp] theorem fAndB_a : fAndB t u δ η = (t δ η).bind fun c η => if c = true then u δ η else .ok false η := rfl
@[simp] theorem fOrB_a : fOrB t u δ η = (t δ η).bind fun c η => if c = true then .ok true η else u δ η := rfl
@[simp] theorem fNotB_a : fNotB t δ η = (t δ η).bind fun c η => .ok (!c) η := rfl
@[simp] theorem fAnd_a : fAnd fa fb δ η = (fa δ η).bind fun d η => (match d with | .bl true => fb δ η | .bl false => .ok (.bl false) η | _ => .bad) := rfl
@[simp] theorem fOr_a : fOr fa fb δ η = (fa δ η).bind fun d η => (match d with | .bl true => .ok (.bl true) η | .bl false => fb δ η | _ => .bad) := rfl
@[simp] theorem fNot_a : fNot fa δ η = (fa δ η).bind fun d η => (match d with | .bl b => .ok (.bl (!b)) η | _ => .bad) := rfl
@[simp] theorem fIf_a : fIf t fa fb δ η = (t δ η).bind fun c η => if c = true then fa δ η else fb δ η := rfl
@[simp] theorem fNil_a : fNil δ η = .ok [] η := rfl
@[simp] theorem fCons_a : fCons fa fr δ η = (fa δ η).bind fun d η => (fr δ η).bind fun ds η => .ok (d :: ds) η := rfl
@[simp] theorem fTup_a : fTup fs δ η = (fs δ η).bind fun ds η => if ds.length ≤ sizeLine then .ok (.tup ds) η else .bad := rfl
@[simp] theorem fLst_a : fLst fs δ η = (fs δ η).bind fun ds η => if ds.length ≤ sizeLine then .ok (.lst ds) η else .bad := rfl
@[simp] theorem fLstN_a : fLstN fs δ η = (fs δ η).bind fun ds η => if ds.length ≤ sizeLine then .ok ds η else .bad := rfl
@[simp] theorem fIxO_a : fIxO fa fb δ η = (fa δ η).bind fun d η => (fb δ η).bind fun e η => (match d with | .obj n => (match η[n]? with | some (.lst l) => lift (ixD (.lst l) e) η | _ => .bad) | _ => .bad) := rfl
@[simp] theorem fNoP_a : fNoP δ η = .ok none η := rfl
@[simp] theorem fPt_a : fPt f δ η = (f δ η).bind fun d η => (match d with | .int i => .ok (some i) η | _ => .bad) := rfl
@[simp] theorem fSl_a : fSl fa fl fh δ η = (fa δ η).bind fun d η => (fl δ η).bind fun lo η => (fh δ η).bind fun hi η => lift (slD d lo hi) η := rfl
@[simp] theorem fCall1_a : fCall1 h fa δ η = (fa δ η).bind fun d η => lift (h d) η := rfl
@[simp] theorem fStrM_a {k : Str → D → Option D} : fStrM k fa fb δ η = (fa δ η).bind fun d η => (match d with | .str z => (fb δ η).bind fun e η => lift (k z e) η | _ => .bad) := rfl
@[simp] theorem fNeg_a : fNeg fa δ η = (fa δ η).bind fun d η => (match d with | .int i => .ok (.int (-i)) η | _ => .bad) := rfl
@[simp] theorem fFrz_a : fFrz fs δ η = (fs δ η).bind fun l η => .ok (.lst l) η := rfl
@[simp] theorem fListN_a : fListN fa δ η = (fa δ η).bind fun d η => lift (itemsD d) η := rfl
@[simp] theorem fNewO_a : fNewO fs δ η = (fs δ η).bind fun l η => .ok (.obj η.length) (η ++ [.lst l]) := rfl
@[simp] theorem fCall_a {n : Nat} {m : DF} : fCall n m fs δ η = (fs δ η).bind fun ds η => (arg n m ds η).nox := rfl
@[simp] theorem fCallK_a {np nk n : Nat} {m : DF} {ix : List Nat} : fCallK np nk n m ix fs fr δ η = (fs δ η).bind fun ds η => (fr δ η).bind fun es η => if ds.length = np ∧ es.length = nk then (arg n m (pick ix (ds ++ es)) η).nox else .bad := rfl
@[simp] theorem fLc_a {vs : List Nat} {tg : Tg} : fLc vs fs tg t fa δ η = (fs δ η).bind fun ds η => compF tg t fa (wipeD δ vs) ds η := rfl
@[simp] theorem fYes_a : fYes δ η = .ok true η := rfl
@[simp] theorem fiA_a : fiA fa δ η = (fa δ η).bind fun d η => lift (walkD d) η := rfl
@[simp] theorem fiL_a : fiL fa δ η = (fa δ η).bind fun d η => lift (lstOf d) η := rfl
@[simp] theorem fiE_a : fiE fa δ η = (fa δ η).bind fun d η => (lift (seqOf d) η).bind fun l η => .ok (enumD l) η := rfl
@[simp] theorem fiZ_a : fiZ fa fb δ η = (fa δ η).bind fun d η => (fb δ η).bind fun e η => (match d, e with | .lst l, .lst m => .ok (zipD l m) η | .tup l, .tup m => .ok (zipD l m) η | _, _ => .bad) := rfl
@[simp] theorem fiR1_a : fiR1 fa δ η = (fa δ η).bind fun d η => (match d with | .int j => if j ≤ 16777216 ∧ -16777216 ≤ j then .ok (rngD 0 j.toNat) η else .bad | _ => .bad) := rfl
@[simp] theorem sSeq_a : sSeq a b δ η = (a δ η).seq b := rfl
@[simp] theorem sRet_a : sRet f δ η = (f δ η).toS δ fun d η => .rt d η := rfl
@[simp] theorem sRetN_a : sRetN δ η = .rt .non η := rfl
@[simp] theorem sRetO_a : sRetO i δ η = (match δ[i]? with | some (some (.own l)) => .rt (.lst l) η | _ => .bad) := rfl
@[simp] theorem sIf_a : sIf t a b δ η = (t δ η).toS δ fun c η => if c = true then a δ η else b δ η := rfl
@[simp] theorem sDrop_a : sDrop f δ η = (f δ η).toS δ fun _ η => .nx δ η := rfl
@[simp] theorem sSet_a : sSet i f δ η = (f δ η).toS δ fun d η => .nx (δ.set i (some (.val d))) η := rfl
@[simp] theorem sFrz_a : sFrz i fs δ η = (fs δ η).toS δ fun l η => .nx (δ.set i (some (.val (.lst l)))) η := rfl
@[simp] theorem sOwn_a : sOwn i fs δ η = (fs δ η).toS δ fun l η => .nx (δ.set i (some (.own l))) η := rfl
@[simp] theorem sApp_a : sApp i f δ η = (match δ[i]? with | some (some (.own l)) => (f δ η).toS δ fun d η => if l.length < sizeLine then .nx (δ.set i (some (.own (l ++ [d])))) η else .bad | _ => .bad) := rfl
@[simp] theorem sAsg_a {tg : Tg} : sAsg f tg δ η = (f δ η).toS δ fun d η => (match asg tg d δ with | some δ' => .nx δ' η | none => .bad) := rfl
@[simp] theorem sPar_a : sPar i j fa fb δ η = (fa δ η).toS δ fun d η => (fb δ η).toS δ fun e η => .nx ((δ.set i (some (.val d))).set j (some (.val e))) η := rfl
@[simp] theorem sFor_a {tg : Tg} : sFor fs tg a δ η = (fs δ η).toS δ fun ds η => loopF tg a ds δ η := rfl
@[simp] theorem sSetO_a : sSetO f fa fb δ η = (f δ η).toS δ fun d η => (fa δ η).toS δ fun o η => (fb δ η).toS δ fun k η => (match o, k with | .obj n, .int i => (match η[n]? with | some (.lst l) => (match ixN l.length i with | some j => .nx δ (η.set n (.lst (l.set j d))) | none => .bad) | _ => .bad) | _, _ => .bad) := rfl
theorem run_nx {n : Nat} {b : S} {ds : List D} {δ' : En} {η' : List O} (h : b (ds.map (fun d => some (.val d)) ++ List.replicate (n - ds.length) none) η = .nx δ' η') : runD n b ds η = .ok .non η' := by unfold runD; rw [h]
theorem run_rt {n : Nat} {b : S} {ds : List D} {d : D} {η' : List O} (h : b (ds.map (fun d => some (.val d)) ++ List.replicate (n - ds.length) none) η = .rt d η') : runD n b ds η = .ok d η' := by unfold runD; rw [h]
@[simp] theorem arg_a {n : Nat} {m : DF} {ds : List D} : arg n m ds η = if ds.length = n then m ds η else .bad := rfl
@[simp] theorem asg_nm : asg (.nm i) d δ = some (δ.set i (some (.val d))) := by rw [asg]
@[simp] theorem asg_tp {ts : List Tg} {l : List D} : asg (.tp ts) (.tup l) δ = asgs ts l δ := by rw [asg]
@[simp] theorem asgs_nil : asgs [] [] δ = some δ := by rw [asgs]
@[simp] theorem asgs_cons {tg : Tg} {ts : List Tg} {l : List D} : asgs (tg :: ts) (d :: l) δ = (asg tg d δ).bind fun δ' => asgs ts l δ' := by rw [asgs]
end
/-! ### operations on known kinds -/
@[simp] theorem addD_ii {i j : Int} : addD (.int i) (.int j) = some (.int (i + j)) := rfl
@[simp] theorem subD_ii {i j : Int} : subD (.int i) (.int j) = some (.int (i - j)) := rfl
@[simp] theorem mulD_ii {i j : Int} : mulD (.int i) (.int j) = if cmulB i j = true then some (.int (i * j)) else none := rfl
@[simp] theorem modD_ii {i j : Int} : modD (.int i) (.int j) = if decide (0 < j) = true then some (.int (i % j)) else none := rfl
@[simp] theorem fdivD_ii {i j : Int} : fdivD (.int i) (.int j) = if cdivB i j = true then some (.int (i / j)) else none := rfl
@[simp] theorem powD_ii {i j : Int} : powD (.int i) (.int j) = if cpowB i j = true then some (.int (i ^ j.toNat)) else none := rfl
@[simp] theorem ltD_ii {i j : Int} : ltD (.int i) (.int j) = some (.bl (decide (i < j))) := rfl
@[simp] theorem leD_ii {i j : Int} : leD (.int i) (.int j) = some (.bl (decide (i ≤ j))) := rfl
@[simp] theorem gtD_ii {i j : Int} : gtD (.int i) (.int j) = some (.bl (decide (j < i))) := rfl
@[simp] theorem geD_ii {i j : Int} : geD (.int i) (.int j) = some (.bl (decide (j ≤ i))) := rfl
@[simp] theorem addD_ss {i j : Str} : addD (.str i) (.str j) = if i.length + j.length ≤ sizeLine then some (.str (i ++ j)) else none := rfl
@[simp] theorem addD_ll {i j : List D} : addD (.lst i) (.lst j) = if i.length + j.length ≤ sizeLine then some (.lst (i ++ j)) else none := rfl
@[simp] theorem intC_i {i : Int} : intC (.int i) = some (.int i) := rfl
@[simp] theorem lenD_l {l : List D} : lenD (.lst l) = some (.int l.length) := rfl
@[simp] theorem lenD_t {l : List D} : lenD (.tup l) = some (.int l.length) := rfl
@[simp] theorem lenD_s {z : Str} : lenD (.str z) = if z.length ≤ sizeLine then some (.int z.length) else none := rfl
@[simp] theorem ixD_l {l : List D} {i : Int} : ixD (.lst l) (.int i) = L2.atI l i := rfl
@[simp] theorem ixD_t {l : List D} {i : Int} : ixD (.tup l) (.int i) = L2.atI l i := rfl
@[simp] theorem walkD_l {l : List D} : walkD (.lst l) = some l := rfl
@[simp] theorem walkD_t {l : List D} : walkD (.tup l) = some l := rfl
@[simp] theorem walkD_s {z : Str} : walkD (.str z) = if z.length ≤ sizeLine then some (signsD z) else none := rfl
@[simp] theorem seqOf_l {l : List D} : seqOf (.lst l) = some l := rfl
@[simp] theorem seqOf_t {l : List D} : seqOf (.tup l) = some l := rfl
@[simp] theorem lstOf_l {l : List D} : lstOf (.lst l) = some l := rfl
@[simp] theorem itemsD_l {l : List D} : itemsD (.lst l) = some l := rfl
@[simp] theorem itemsD_t {l : List D} : itemsD (.tup l) = some l := rfl
@[simp] theorem slD_l {l : List D} {lo hi : Option Int} : slD (.lst l) lo hi = some (.lst (cutD l lo hi)) := rfl
@[simp] theorem slD_s {z : Str} {lo hi : Option Int} : slD (.str z) lo hi = if z.length ≤ sizeLine then some (.str (cutS z lo hi)) else none := rfl
@[simp] theorem truD_b {b : Bool} : truD (.bl b) = some b := rfl
@[simp] theorem truD_i {i : Int} : truD (.int i) = some (i != 0) := rfl
@[simp] theorem truD_n : truD .non = some false := rfl
@[simp] theorem truD_l {l : List D} : truD (.lst l) = some (!l.isEmpty) := rfl
@[simp] theorem truD_t {l : List D} : truD (.tup l) = some (!l.isEmpty) := rfl
@[simp] theorem isN_n {d : D} : isN d .non = some (.bl d.isNon) := rfl
@[simp] theorem notN_n {d : D} : notN d .non = some (.bl (!d.isNon)) := rfl
@[simp] theorem isNon_n : D.isNon .non = true := rfl
@[simp] theorem isNon_b {b : Bool} : D.isNon (.bl b) = false := rfl
@[simp] theorem isNon_i {b : Int} : D.isNon (.int b) = false := rfl
@[simp] theorem isNon_s {b : Str} : D.isNon (.str b) = false := rfl
@[simp] theorem isNon_l {b : List D} : D.isNon (.lst b) = false := rfl
@[simp] theorem isNon_t {b : List D} : D.isNon (.tup b) = false := rfl
/-! ### equality of kinds -/
@[simp] theorem okq_n : okq .non = true := rfl
@[simp] theorem okq_b {b : Bool} : okq (.bl b) = true := rfl
@[simp] theorem okq_i {b : Int} : okq (.int b) = true := rfl
@[simp] theorem okq_s {b : Str} : okq (.str b) = true := rfl
@[simp] theorem eqv_ii {i j : Int} : eqvD (.int i) (.int j) = decide (i = j) := by
  show PyData.eqv (.int i) (.int j) = _
  rw [PyData.eqv]; rfl
@[simp] theorem eqv_bb {i j : Bool} : eqvD (.bl i) (.bl j) = decide (i = j) := by
  show PyData.eqv (.bool i) (.bool j) = _
  rw [PyData.eqv]; cases i <;> cases j <;> rfl
@[simp] theorem eqv_ss {i j : Str} : eqvD (.str i) (.str j) = decide (i = j) := by
  show PyData.eqv (.str i) (.str j) = _
  rw [PyData.eqv]; rfl
@[simp] theorem eqD_ii {i j : Int} : eqD (.int i) (.int j) = some (.bl (decide (i = j))) := by simp [eqD]
@[simp] theorem eqD_bb {i j : Bool} : eqD (.bl i) (.bl j) = some (.bl (decide (i = j))) := by simp [eqD]
@[simp] theorem eqD_ss {i j : Str} : eqD (.str i) (.str j) = some (.bl (decide (i = j))) := by simp [eqD]
@[simp] theorem neD_ii {i j : Int} : neD (.int i) (.int j) = some (.bl (!decide (i = j))) := by simp [neD]
@[simp] theorem neD_bb {i j : Bool} : neD (.bl i) (.bl j) = some (.bl (!decide (i = j))) := by simp [neD]
@[simp] theorem neD_ss {i j : Str} : neD (.str i) (.str j) = some (.bl (!decide (i = j))) := by simp [neD]
/-! ### kinds by isinstance -/
theorem kit_all : ∀ t ∈ ["NoneType", "bool", "int", "str", "list", "tuple"], ∀ u ∈ ["list", "tuple", "str", "bool", "int"], kitB t u = some (t == u || (t == "bool" && u == "int")) := by decide +kernel
def D.ty : D → String
  | .non => "NoneType" | .bl _ => "bool" | .int _ => "int" | .str _ => "str" | .lst _ => "list" | .tup _ => "tuple" | _ => ""
def isTy (u : String) (d : D) : Bool := d.ty == u || (d.ty == "bool" && u == "int")
theorem isD_of {u : String} {d : D} (hu : u ∈ ["list", "tuple", "str", "bool", "int"]) (hd : d.ty ∈ ["NoneType", "bool", "int", "str", "list", "tuple"]) : isD u d = some (.bl (isTy u d)) := by
  have k := kit_all _ hd u hu
  have e : tyN d = some d.ty := by cases d <;> first | rfl | (exfalso; simp [D.ty] at hd)
  unfold isD
  rw [e]
  dsimp only
  rw [k]
  rfl
/-! ### walks -/
theorem loop_inv {t : Tg} {b : S} (P : List D → En → List O → Prop) : ∀ {ds : List D} {δ : En} {η : List O}, P ds δ η →
    (∀ x r δ η, P (x :: r) δ η → ∃ δ1, asg t x δ = some δ1 ∧ ∃ δ2 η2, (b δ1 η = .nx δ2 η2 ∨ b δ1 η = .ct δ2 η2) ∧ P r δ2 η2) → ∃ δ' η', loopF t b ds δ η = .nx δ' η' ∧ P [] δ' η'
  | [], δ, η, h, _ => ⟨δ, η, rfl, h⟩
  | x :: r, δ, η, h, s => by
    obtain ⟨δ1, e1, δ2, η2, e2, h2⟩ := s x r δ η h
    obtain ⟨δ', η', e3, h3⟩ := loop_inv P h2 s
    refine ⟨δ', η', ?_, h3⟩
    rw [loopF, e1]
    rcases e2 with e2 | e2
    · dsimp only; rw [e2]; exact e3
    · dsimp only; rw [e2]; exact e3
theorem comp_map {t : Tg} {ft : F Bool} {fe : F D} {δw : En} {η : List O} (g : D → D) : ∀ {ds : List D}, (∀ x ∈ ds, ∃ δ1, asg t x δw = some δ1 ∧ ft δ1 η = .ok true η ∧ fe δ1 η = .ok (g x) η) → compF t ft fe δw ds η = .ok (ds.map g) η
  | [], _ => rfl
  | x :: r, h => by
    obtain ⟨δ1, e1, e2, e3⟩ := h x (List.mem_cons_self ..)
    have ih := comp_map g (ds := r) fun y hy => h y (List.mem_cons_of_mem _ hy)
    rw [compF, e1]
    simp only [e2, e3, nox_ok, bind_ok, if_true, ih, List.map_cons]
theorem comp_filter {t : Tg} {ft : F Bool} {fe : F D} {δw : En} {η : List O} (p : D → Bool) (g : D → D) : ∀ {ds : List D}, (∀ x ∈ ds, ∃ δ1, asg t x δw = some δ1 ∧ ft δ1 η = .ok (p x) η ∧ (p x = true → fe δ1 η = .ok (g x) η)) → compF t ft fe δw ds η = .ok ((ds.filter p).map g) η
  | [], _ => rfl
  | x :: r, h => by
    obtain ⟨δ1, e1, e2, e3⟩ := h x (List.mem_cons_self ..)
    have ih := comp_filter p g (ds := r) fun y hy => h y (List.mem_cons_of_mem _ hy)
    rw [compF, e1]
    cases hp : p x with
    | true => simp only [e2, e3 hp, hp, nox_ok, bind_ok, if_true, ih, List.filter_cons_of_pos hp, List.map_cons]
    | false => simp only [e2, hp, nox_ok, bind_ok, Bool.false_eq_true, if_false, ih, List.filter_cons_of_neg (by simp [hp] : ¬ p x = true)]
end DL
namespace DL
open PySem L2
def b_law_feed : S := (sSeq (sSet 1 (fC (.int 4928)))
    (sSeq (sFor (fiA (fSl (fV 0) fNoP (fPt (fC (.int 63))))) (.nm 2) (sSet 1 (fOp modD (fCall1 intC (fOp addD (fOp addD (fOp mulD (fV 1) (fC (.int 52361))) (fOp modD (fCall1 intC (fV 2)) (fC (.int 2147483477)))) (fC (.int 41)))) (fC (.int 2147483563)))))
    (sRet (fNewO (fLstN (fCons (fFrz (fListN (fSl (fV 0) fNoP (fPt (fC (.int 63)))))) (fCons (fC (.int 0)) (fCons (fC (.int 0)) (fCons (fV 1) (fCons (fC (.int 0)) fNil))))))))))
def m_law_feed : DF := runD 3 b_law_feed
def b_law_pick : S := (sSeq (sIf (fAndB (toB (fOp ltD (fIxO (fV 0) (fC (.int 2))) (fV 1))) (toB (fOp ltD (fIxO (fV 0) (fC (.int 1))) (fCall1 lenD (fIxO (fV 0) (fC (.int 0))))))) (sSeq (sSet 2 (fOp ixD (fIxO (fV 0) (fC (.int 0))) (fIxO (fV 0) (fC (.int 1)))))
    (sSeq (sSetO (fOp addD (fIxO (fV 0) (fC (.int 1))) (fC (.int 1))) (fV 0) (fC (.int 1)))
    (sSeq (sSetO (fOp modD (fCall1 intC (fOp addD (fOp addD (fOp mulD (fIxO (fV 0) (fC (.int 3))) (fC (.int 49031))) (fOp modD (fCall1 intC (fV 2)) (fC (.int 2147483543)))) (fC (.int 29)))) (fC (.int 2147483549))) (fV 0) (fC (.int 3)))
    (sSetO (fIf (toB (fOp geD (fV 2) (fOp powD (fC (.int 10)) (fC (.int 18))))) (fV 2) (fC (.int 0))) (fV 0) (fC (.int 2)))))) SR.nx)
    (sSeq (sIf (toB (fOp geD (fIxO (fV 0) (fC (.int 2))) (fV 1))) (sSeq (sSet 3 (fOp modD (fCall1 intC (fIxO (fV 0) (fC (.int 2)))) (fV 1)))
    (sSeq (sSetO (fOp fdivD (fIxO (fV 0) (fC (.int 2))) (fV 1)) (fV 0) (fC (.int 2)))
    (sRet (fV 3)))) SR.nx)
    (sSeq (sSetO (fOp addD (fIxO (fV 0) (fC (.int 4))) (fC (.int 1))) (fV 0) (fC (.int 4)))
    (sSeq (sSet 4 (fOp modD (fCall1 intC (fOp addD (fIxO (fV 0) (fC (.int 3))) (fOp mulD (fIxO (fV 0) (fC (.int 4))) (fC (.int 7919))))) (fC (.int 2147483563))))
    (sSeq (sSet 5 (fOp mulD (fOp modD (fCall1 intC (fOp mulD (fV 4) (fV 4))) (fC (.int 2147483543))) (fOp addD (fOp modD (fCall1 intC (fV 4)) (fC (.int 39979))) (fC (.int 7)))))
    (sSeq (sSetO (fOp modD (fCall1 intC (fOp addD (fOp addD (fV 5) (fOp mulD (fC (.int 40503)) (fV 4))) (fC (.int 977)))) (fC (.int 2147483549))) (fV 0) (fC (.int 3)))
    (sRet (fOp modD (fCall1 intC (fOp addD (fOp fdivD (fIxO (fV 0) (fC (.int 3))) (fC (.int 61))) (fOp mulD (fOp modD (fCall1 intC (fIxO (fV 0) (fC (.int 3)))) (fC (.int 8971))) (fC (.int 53))))) (fV 1)))))))))
def m_law_pick : DF := runD 6 b_law_pick
def b_law_of : S := (sRet (fOp ixD (fV 1) (fCall 2 m_law_pick (fCons (fV 0) (fCons (fCall1 lenD (fV 1)) fNil)))))
def m_law_of : DF := runD 2 b_law_of
def b_is_name : S := (sRet (fAnd (fCh leD leD (fC (.int 1)) (fCall1 lenD (fV 0)) (fC (.int 8))) (fCall1 allC (fFrz (fLc [1] (fiA (fV 0)) (.nm 1) fYes (fOp inD (fV 1) (fC (.str "abcdefghijklmnopqrstuvwxyz"))))))))
def m_is_name : DF := runD 2 b_is_name
end DL
namespace DL
open PySem L2
theorem atI_of {α : Type} {xs : List α} {i : Int} (h : 0 ≤ i) (h2 : i < xs.length) : L2.atI xs i = some (xs[i.toNat]'(by omega)) := by
  unfold L2.atI ixN
  rw [if_pos h, if_pos h2]
  simp
theorem run_rt2 {n : Nat} {b : S} {ds : List D} {η : List O} {d : D} {η' : List O} {δ : En} (hδ : ds.map (fun d => some (.val d)) ++ List.replicate (n - ds.length) none = δ) (h : b δ η = .rt d η') : runD n b ds η = .ok d η' := by subst hδ; exact run_rt h
theorem run_nx2 {n : Nat} {b : S} {ds : List D} {η : List O} {η' : List O} {δ δ' : En} (hδ : ds.map (fun d => some (.val d)) ++ List.replicate (n - ds.length) none = δ) (h : b δ η = .nx δ' η') : runD n b ds η = .ok .non η' := by subst hδ; exact run_nx h
def Feed (o : O) : Prop := ∃ (ns : List Int) (i c s k : Int), 0 ≤ i ∧ o = .lst [.lst (ns.map .int), .int i, .int c, .int s, .int k]
section
variable {a b c d e x : D}
theorem f5_0 : L2.atI [a, b, c, d, e] 0 = some a := rfl
theorem f5_1 : L2.atI [a, b, c, d, e] 1 = some b := rfl
theorem f5_2 : L2.atI [a, b, c, d, e] 2 = some c := rfl
theorem f5_3 : L2.atI [a, b, c, d, e] 3 = some d := rfl
theorem f5_4 : L2.atI [a, b, c, d, e] 4 = some e := rfl
theorem n5_1 : ixN 5 1 = some 1 := rfl
theorem n5_2 : ixN 5 2 = some 2 := rfl
theorem n5_3 : ixN 5 3 = some 3 := rfl
theorem n5_4 : ixN 5 4 = some 4 := rfl
end
theorem pick_ok {η : List O} {n : Nat} {o : O} {m : Int} (ho : η[n]? = some o) (hf : Feed o) (h0 : 0 < m) (h1 : m < 1073741824) :
    ∃ r o', m_law_pick [.obj n, .int m] η = .ok (.int r) (η.set n o') ∧ Feed o' ∧ 0 ≤ r ∧ r < m := by
  obtain ⟨ns, i, c, s, k, hi, rfl⟩ := hf
  have hn : n < η.length := (List.getElem?_eq_some_iff.mp ho).1
  have hs : ∀ o', (η.set n o')[n]? = some o' := fun o' => by rw [List.getElem?_set_self hn]
  clear hn
  have hp : (decide (-2 ^ 64 < (7919:Int)) && decide ((7919:Int) < 2 ^ 64)) = true := by decide
  suffices ∃ r o', b_law_pick [some (.val (.obj n)), some (.val (.int m)), none, none, none, none] η = .rt (.int r) (η.set n o') ∧ Feed o' ∧ 0 ≤ r ∧ r < m by
    obtain ⟨r, o', h, h2⟩ := this
    exact ⟨r, o', run_rt2 rfl h, h2⟩
  have fin : ∀ z : Int, 0 ≤ z % m ∧ z % m < m := fun z => ⟨Int.emod_nonneg _ (by omega), Int.emod_lt_of_pos _ h0⟩
  have hmu : ∀ x y : Int, 0 ≤ y → y < 2 ^ 64 → cmulB x y = true := fun x y h1 h2 => by
    unfold cmulB
    rw [Bool.or_eq_true]
    right
    simp only [Bool.and_eq_true, decide_eq_true_eq]
    omega
  have hmv : ∀ x y : Int, 0 ≤ x → x < 2 ^ 64 → cmulB x y = true := fun x y h1 h2 => by
    unfold cmulB
    rw [Bool.or_eq_true]
    left
    simp only [Bool.and_eq_true, decide_eq_true_eq]
    omega
  have hmm : ∀ x y : Int, cmulB x (y % 39979 + 7) = true := fun x y => hmu _ _ (by omega) (by omega)
  have hmr : ∀ x y : Int, cmulB (x % 2147483563) y = true := fun x y => hmv _ _ (by omega) (by omega)
  have h2 : ∀ x : Int, cdivB x m = true := fun x => by simp [cdivB, h0, h1]
  have h3 : ∀ x : Int, cdivB x 61 = true := fun x => by simp [cdivB]
  have h4 : ∀ x : Int, cmulB x 49031 = true := fun x => hmu _ _ (by omega) (by omega)
  have h5 : ∀ x : Int, cmulB x 7919 = true := fun x => hmu _ _ (by omega) (by omega)
  have h6 : ∀ x : Int, cmulB x 53 = true := fun x => hmu _ _ (by omega) (by omega)
  have h7 : ∀ x : Int, cmulB 40503 x = true := fun x => hmv _ _ (by omega) (by omega)
  have h8 : cpowB 10 18 = true := by decide
  by_cases hc : c < m ∧ i < ns.length
  · have ha : L2.atI (ns.map D.int) i = some (.int (ns[i.toNat]'(by omega))) := by rw [atI_of hi (by simpa using hc.2)]; simp
    have hc1 : decide (c < m) = true := by simpa using hc.1
    have hc2 : decide (i < ns.length) = true := by simpa using hc.2
    generalize ns[i.toNat]'(by omega) = v at ha
    have hi2 : 0 ≤ i + 1 := by omega
    have hz : ¬ m ≤ 0 := by omega
    by_cases hv : 1000000000000000000 ≤ v
    · by_cases hm : m ≤ v
      · skip
        generalize hx : b_law_pick _ η = x
        unfold b_law_pick at hx
        simp [ho, hs, f5_0, f5_1, f5_2, f5_3, f5_4, n5_1, n5_2, n5_3, n5_4, h0, h2, h3, h4, h5, h6, h7, h8, hmm, hmr, hc.1, hc.2, ha, hv, hm] at hx
        subst hx
        exact ⟨_, _, rfl, ⟨ns, _, _, _, _, hi2, rfl⟩, fin _⟩
      · skip
        generalize hx : b_law_pick _ η = x
        unfold b_law_pick at hx
        simp [ho, hs, f5_0, f5_1, f5_2, f5_3, f5_4, n5_1, n5_2, n5_3, n5_4, h0, h2, h3, h4, h5, h6, h7, h8, hmm, hmr, hc.1, hc.2, ha, hv, hm] at hx
        subst hx
        exact ⟨_, _, rfl, ⟨ns, _, _, _, _, hi2, rfl⟩, fin _⟩
    · skip
      generalize hx : b_law_pick _ η = x
      unfold b_law_pick at hx
      simp [ho, hs, f5_0, f5_1, f5_2, f5_3, f5_4, n5_1, n5_2, n5_3, n5_4, h0, h2, h3, h4, h5, h6, h7, h8, hmm, hmr, hc.1, hc.2, ha, hv, hz] at hx
      subst hx
      exact ⟨_, _, rfl, ⟨ns, _, _, _, _, hi2, rfl⟩, fin _⟩
  · have hf : ∀ {α : Type} (a b : α), (if c < m then (if i < ns.length then a else b) else b) = b := fun a b => by
      by_cases h1 : c < m
      · rw [if_pos h1, if_neg fun h2 => hc ⟨h1, h2⟩]
      · rw [if_neg h1]
    by_cases hm : m ≤ c
    · have h9 : ¬ c < m := by omega
      generalize hx : b_law_pick _ η = x
      unfold b_law_pick at hx
      simp [ho, hs, f5_0, f5_1, f5_2, f5_3, f5_4, n5_1, n5_2, n5_3, n5_4, h0, h2, h3, h4, h5, h6, h7, h8, hmm, hmr, hm, h9] at hx
      subst hx
      exact ⟨_, _, rfl, ⟨ns, _, _, _, _, hi, rfl⟩, fin _⟩
    · have h9 : c < m := by omega
      have h10 : ¬ i < ns.length := fun h => hc ⟨h9, h⟩
      generalize hx : b_law_pick _ η = x
      unfold b_law_pick at hx
      simp [ho, hs, f5_0, f5_1, f5_2, f5_3, f5_4, n5_1, n5_2, n5_3, n5_4, h0, h2, h3, h4, h5, h6, h7, h8, hmm, hmr, hm, h9, h10] at hx
      subst hx
      exact ⟨_, _, rfl, ⟨ns, _, _, _, _, hi, rfl⟩, fin _⟩
end DL
namespace DL
open PySem L2
theorem loop_inv2 {t : Tg} {b : S} (P : En → List O → Prop) : ∀ {ds : List D} {δ : En} {η : List O}, P δ η →
    (∀ x ∈ ds, ∀ δ η, P δ η → ∃ δ1, asg t x δ = some δ1 ∧ ∃ δ2 η2, (b δ1 η = .nx δ2 η2 ∨ b δ1 η = .ct δ2 η2) ∧ P δ2 η2) → ∃ δ' η', loopF t b ds δ η = .nx δ' η' ∧ P δ' η'
  | [], δ, η, h, _ => ⟨δ, η, rfl, h⟩
  | x :: r, δ, η, h, s => by
    obtain ⟨δ1, e1, δ2, η2, e2, h2⟩ := s x (List.mem_cons_self ..) δ η h
    obtain ⟨δ', η', e3, h3⟩ := loop_inv2 P h2 fun y hy => s y (List.mem_cons_of_mem _ hy)
    refine ⟨δ', η', ?_, h3⟩
    rw [loopF, e1]
    rcases e2 with e2 | e2
    · dsimp only; rw [e2]; exact e3
    · dsimp only; rw [e2]; exact e3
theorem of_ok {η : List O} {n : Nat} {o : O} {l : List D} (ho : η[n]? = some o) (hf : Feed o) (h0 : 0 < l.length) (h1 : l.length < 1073741824) :
    ∃ d o', m_law_of [.obj n, .lst l] η = .ok d (η.set n o') ∧ Feed o' ∧ d ∈ l := by
  obtain ⟨r, o', e, f, r0, r1⟩ := pick_ok (m := l.length) ho hf (by omega) (by omega)
  have r2 := atI_of r0 r1
  refine ⟨_, o', run_rt2 rfl ?_, f, List.getElem_mem (h := by omega) (n := r.toNat)⟩
  unfold b_law_of
  simp [e, r2]
theorem ofS_ok {η : List O} {n : Nat} {o : O} {z : Str} (ho : η[n]? = some o) (hf : Feed o) (h0 : 0 < z.length) (h1 : z.length ≤ sizeLine) :
    ∃ c o', m_law_of [.obj n, .str z] η = .ok (.str ⟨#[c]⟩) (η.set n o') ∧ Feed o' ∧ c ∈ z.cps.toList := by
  have h2 : z.length ≤ 16777216 := h1
  obtain ⟨r, o', e, f, r0, r1⟩ := pick_ok (m := z.length) ho hf (by omega) (by omega)
  have r2 := atI_of (xs := z.cps.toList) r0 (by simpa [Str.length] using r1)
  refine ⟨_, o', run_rt2 rfl ?_, f, List.getElem_mem (h := by rw [Array.length_toList]; show r.toNat < z.length; omega) (n := r.toNat)⟩
  unfold b_law_of
  simp [e, h1, ixD, r2]
theorem cut_le {ns : List Int} : ns.length ≤ 63 → cutD (ns.map D.int) none (some 63) = ns.map D.int := fun h => by
  unfold cutD
  have e1 : HT.sIx (ns.map D.int).length 0 none = 0 := rfl
  have e2 : HT.sIx (ns.map D.int).length (ns.map D.int).length (some 63) = ns.length := by
    simp [HT.sIx]; omega
  rw [e1, e2]
  have : List.take ns.length (ns.map D.int) = ns.map D.int := List.take_of_length_le (by simp)
  simp [this]
theorem feed_ok {η : List O} {ns : List Int} (h : ns.length ≤ 63) : ∃ o, m_law_feed [.lst (ns.map .int)] η = .ok (.obj η.length) (η ++ [o]) ∧ Feed o := by
  have hl : ∃ δ' η', loopF (.nm 2) (sSet 1 (fOp modD (fCall1 intC (fOp addD (fOp addD (fOp mulD (fV 1) (fC (.int 52361))) (fOp modD (fCall1 intC (fV 2)) (fC (.int 2147483477)))) (fC (.int 41)))) (fC (.int 2147483563)))) (ns.map .int) [some (.val (.lst (ns.map .int))), some (.val (.int 4928)), none] η = .nx δ' η' ∧ ∃ (s : Int) (x : Option L), η' = η ∧ δ' = [some (.val (.lst (ns.map .int))), some (.val (.int s)), x] := by
    refine loop_inv2 (P := fun δ' η' => ∃ (s : Int) (x : Option L), η' = η ∧ δ' = [some (.val (.lst (ns.map .int))), some (.val (.int s)), x]) ⟨_, _, rfl, rfl⟩ fun x hx δ η' ⟨s, y, e1, e2⟩ => ?_
    obtain ⟨v, _, rfl⟩ := List.mem_map.mp hx
    subst e1 e2
    have h4 : ∀ x : Int, cmulB x 52361 = true := fun x => by simp [cmulB]
    refine ⟨_, asg_nm, ?_⟩
    exact ⟨[_, some (.val (.int ((s * 52361 + v % 2147483477 + 41) % 2147483563))), some (.val (.int v))], η', .inl (by simp [h4]), _, _, rfl, rfl⟩
  obtain ⟨δ', η', e, s, x, rfl, rfl⟩ := hl
  refine ⟨.lst [.lst (ns.map .int), .int 0, .int 0, .int s, .int 0], run_rt2 rfl ?_, ⟨ns, 0, 0, s, 0, by omega, rfl⟩⟩
  unfold b_law_feed
  simp only [List.map_cons, List.map_nil, List.cons_append, List.nil_append]
  simp [cut_le h]
  simp [e, cut_le h, sizeLine_eq]
mutual
def samB : Nat → D → Bool
  | 0, _ => false
  | n + 1, .lst l => samL n l
  | n + 1, .tup l => samL n l
  | _ + 1, .non => true
  | _ + 1, .bl _ => true
  | _ + 1, .int _ => true
  | _ + 1, .str _ => true
  | _ + 1, _ => false
def samL : Nat → List D → Bool
  | _, [] => true
  | n, d :: l => samB n d && samL n l
end
end DL
namespace DL
open PySem L2
/-! ### texts -/
abbrev one (c : Nat) : D := .str ⟨#[c]⟩
theorem strsOf_ones : ∀ cs : List Nat, strsOf (cs.map one) = some ((cs.map fun c => [c]).map SX.S)
  | [] => rfl
  | c :: cs => by rw [List.map_cons, strsOf, strsOf_ones cs]; rfl
theorem joinL_ones : ∀ cs : List Nat, TL.joinL [] (cs.map fun c => [c]) = cs
  | [] => rfl
  | [c] => rfl
  | c :: d :: cs => by
    have := joinL_ones (d :: cs)
    rw [List.map_cons] at this
    rw [List.map_cons, List.map_cons, TL.joinL, this]
    rfl
theorem sum_ones : ∀ cs : List Nat, ((cs.map fun c => [c]).map (·.length)).sum = cs.length
  | [] => rfl
  | c :: cs => by have := sum_ones cs; simp only [List.map_cons, List.sum_cons, List.length_cons, this] ; simp; omega
theorem joinS_ones {cs : List Nat} (h : cs.length ≤ 16777216) : joinS "" (.lst (cs.map one)) = some (.str (SX.S cs)) := by
  unfold joinS
  dsimp only
  rw [strsOf_ones]
  dsimp only
  have e : ("" : Str) = SX.S [] := rfl
  rw [SX.lens, sum_ones]
  have e2 : ("" : Str).length = 0 := rfl
  rw [e2, Nat.mul_zero, Nat.add_zero, if_pos h, e, SX.join_S, joinL_ones]
theorem ones_of {l : List D} {p : Nat → Prop} (h : ∀ d ∈ l, ∃ c, p c ∧ d = one c) : ∃ cs : List Nat, l = cs.map one ∧ ∀ c ∈ cs, p c := by
  induction l with
  | nil => exact ⟨[], rfl, by simp⟩
  | cons d l ih =>
    obtain ⟨cs, rfl, q⟩ := ih fun e he => h e (List.mem_cons_of_mem _ he)
    obtain ⟨c, hc, rfl⟩ := h d (List.mem_cons_self ..)
    refine ⟨c :: cs, rfl, fun x hx => ?_⟩
    rcases List.mem_cons.mp hx with rfl | hx
    · exact hc
    · exact q x hx
theorem cut_lo {z : Str} {k : Int} (h : 0 ≤ k) (h2 : k ≤ z.length) : cutS z none (some k) = SX.S (z.cps.toList.take k.toNat) := by
  unfold cutS
  have e1 : HT.sIx z.length 0 none = 0 := rfl
  have e2 : HT.sIx z.length z.length (some k) = k.toNat := by
    have : ¬ k < 0 := by omega
    simp [HT.sIx, this]; omega
  rw [e1, e2]
  rfl
theorem cut_hi {z : Str} {k : Int} (h : 0 ≤ k) (h2 : k ≤ z.length) : cutS z (some k) none = SX.S (z.cps.toList.drop k.toNat) := by
  unfold cutS
  have e1 : HT.sIx z.length z.length none = z.length := rfl
  have e2 : HT.sIx z.length 0 (some k) = k.toNat := by
    have : ¬ k < 0 := by omega
    simp [HT.sIx, this]; omega
  rw [e1, e2]
  have : List.take (z.length - k.toNat) (z.cps.toList.drop k.toNat) = z.cps.toList.drop k.toNat := List.take_of_length_le (by simp [Str.length])
  rw [this]
/-! ### comprehensions that pick -/
theorem comp_st2 {t : Tg} {ft : F Bool} {fe : F D} {δw : En} (P : List O → Prop) (Q : D → Prop) : ∀ {ds : List D} {η : List O}, P η → (∀ x ∈ ds, ∀ η, P η → ∃ δ1, asg t x δw = some δ1 ∧ ft δ1 η = .ok true η ∧ ∃ y η', fe δ1 η = .ok y η' ∧ P η' ∧ Q y) →
    ∃ ys η', compF t ft fe δw ds η = .ok ys η' ∧ P η' ∧ ys.length = ds.length ∧ ∀ y ∈ ys, Q y
  | [], η, h, _ => ⟨[], η, rfl, h, rfl, by simp⟩
  | x :: r, η, h, hs => by
    obtain ⟨δ1, e1, e2, y, η1, e3, h1, q1⟩ := hs x (List.mem_cons_self ..) η h
    obtain ⟨ys, η2, e4, h2, l2, q2⟩ := comp_st2 P Q (ds := r) h1 fun z hz => hs z (List.mem_cons_of_mem _ hz)
    refine ⟨y :: ys, η2, ?_, h2, by simp [l2], fun a ha => ?_⟩
    · rw [compF, e1]
      simp only [e2, e3, e4, nox_ok, bind_ok, if_true]
    · rcases List.mem_cons.mp ha with rfl | ha
      · exact q1
      · exact q2 a ha
/-! ### the feed behind some first objects -/
theorem get_fp {fp r : List O} {o : O} : (fp ++ o :: r)[fp.length]? = some o := by simp
theorem set_fp {fp r : List O} {o o' : O} : (fp ++ o :: r).set fp.length o' = fp ++ o' :: r := by simp
theorem pick0 {fp r : List O} {o : O} (hf : Feed o) (m : Int) (h0 : 0 < m) (h1 : m < 1073741824) : ∃ k o', m_law_pick [.obj fp.length, .int m] (fp ++ o :: r) = .ok (.int k) (fp ++ o' :: r) ∧ Feed o' ∧ 0 ≤ k ∧ k < m := by
  obtain ⟨k, o', e, f⟩ := pick_ok (η := fp ++ o :: r) (n := fp.length) get_fp hf h0 h1
  rw [set_fp] at e
  exact ⟨k, o', e, f⟩
theorem of0 {fp r : List O} {o : O} (hf : Feed o) (l : List D) (h0 : 0 < l.length) (h1 : l.length < 1073741824) : ∃ d o', m_law_of [.obj fp.length, .lst l] (fp ++ o :: r) = .ok d (fp ++ o' :: r) ∧ Feed o' ∧ d ∈ l := by
  obtain ⟨k, o', e, f⟩ := of_ok (η := fp ++ o :: r) (n := fp.length) get_fp hf h0 h1
  rw [set_fp] at e
  exact ⟨k, o', e, f⟩
theorem ofS0 {fp r : List O} {o : O} (hf : Feed o) (z : Str) (h0 : 0 < z.length) (h1 : z.length ≤ sizeLine) : ∃ c o', m_law_of [.obj fp.length, .str z] (fp ++ o :: r) = .ok (.str ⟨#[c]⟩) (fp ++ o' :: r) ∧ Feed o' ∧ c ∈ z.cps.toList := by
  obtain ⟨k, o', e, f⟩ := ofS_ok (η := fp ++ o :: r) (n := fp.length) get_fp hf h0 h1
  rw [set_fp] at e
  exact ⟨k, o', e, f⟩
/-! ### names -/
def lowB (c : Nat) : Bool := !(Builtin.Str.occurrences "abcdefghijklmnopqrstuvwxyz" ⟨#[c]⟩ 0 26 1).isEmpty
def nameB (z : Str) : Bool := decide (1 ≤ z.length) && decide (z.length ≤ 8) && z.cps.toList.all lowB
theorem blsOf_map {α : Type} (f : α → Bool) : ∀ l : List α, blsOf (l.map fun x => .bl (f x)) = some (l.map f)
  | [] => rfl
  | x :: l => by rw [List.map_cons, blsOf, blsOf_map f l]; rfl
theorem low_in : ∀ c ∈ ("abcdefghijklmnopqrstuvwxyz" : Str).cps.toList, lowB c = true := by decide +kernel
theorem name_ok {z : Str} {η : List O} (hz : z.length ≤ sizeLine) : m_is_name [.str z] η = .ok (.bl (nameB z)) η := by
  refine run_rt2 rfl ?_
  unfold b_is_name
  have hc : compF (.nm 1) fYes (fOp inD (fV 1) (fC (.str "abcdefghijklmnopqrstuvwxyz"))) [some (.val (.str z)), none] (signsD z) η = .ok ((z.cps.toList.map lowB).map .bl) η := by
    have := comp_map (t := .nm 1) (ft := fYes) (fe := fOp inD (fV 1) (fC (.str "abcdefghijklmnopqrstuvwxyz"))) (δw := [some (.val (.str z)), none]) (η := η) (g := fun d => match d with | .str y => .bl (!(Builtin.Str.occurrences "abcdefghijklmnopqrstuvwxyz" y 0 26 1).isEmpty) | _ => .non) (ds := signsD z) fun x hx => by
      obtain ⟨c, _, rfl⟩ := List.mem_map.mp hx
      exact ⟨_, asg_nm, rfl, rfl⟩
    rw [this]
    unfold signsD
    rw [List.map_map, List.map_map]
    rfl
  have hb := blsOf_map lowB z.cps.toList
  have hb2 : (z.cps.toList.map lowB).map D.bl = z.cps.toList.map fun x => .bl (lowB x) := by rw [List.map_map]; rfl
  by_cases h1 : 1 ≤ z.length
  · by_cases h2 : z.length ≤ 8
    · have i1 : (1:Int) ≤ z.length := by omega
      have i2 : (z.length:Int) ≤ 8 := by omega
      simp only [hz, i1, i2, wipeD, hc, allC, nameB, hb, hb2, sRet_a, fAnd_a, fCh_a, fC_a, bind_ok, fCall1_a, fV_a, List.getElem?_cons_zero, List.map_cons, List.map_nil, List.cons_append, List.nil_append, lenD_s, if_true, lift_some, leD_ii, decide_true, h1, h2, fFrz_a, fLc_a, fiA_a, walkD_s, toS_ok, Option.map_some, Bool.true_and]
      simp [hc, hb, hb2, allC, wipeD]
    · have i1 : (1:Int) ≤ z.length := by omega
      have i2 : ¬ (z.length:Int) ≤ 8 := by omega
      simp [hz, i1, i2, h1, h2, nameB]
  · have i1 : ¬ (1:Int) ≤ z.length := by omega
    simp [hz, i1, h1, nameB]
end DL
namespace DL
open PySem L2
def b_law_mixed : S := (sSeq (sOwn 2 (fLstN fNil))
    (sSeq (sFor (fiA (fV 1)) (.nm 3) (sMut 2 muIns (fCons (fCall 2 m_law_pick (fCons (fV 0) (fCons (fOp addD (fCall1 lenD (fVo 2)) (fC (.int 1))) fNil))) (fCons (fV 3) fNil))))
    (sFz 2 (sRet (fV 2)))))
def m_law_mixed : DF := runD 4 b_law_mixed
def b_law_names : S := (sSeq (sSet 2 (fSl (fCall 2 m_law_mixed (fCons (fV 0) (fCons (fFrz (fLc [5] (fiA (fC (.str "abcdefghijklmnopqrstuvwxyz"))) (.nm 5) fYes (fV 5))) fNil))) fNoP (fPt (fV 1))))
    (sSeq (sSet 3 (fStrM joinS (fC (.str "")) (fFrz (fLc [6] (fiR1 (fCall 2 m_law_pick (fCons (fV 0) (fCons (fC (.int 8)) fNil)))) (.nm 6) fYes (fCall 2 m_law_of (fCons (fV 0) (fCons (fC (.str "abcdefghijklmnopqrstuvwxyz")) fNil)))))))
    (sSeq (sSet 4 (fCall 2 m_law_pick (fCons (fV 0) (fCons (fOp addD (fCall1 lenD (fV 3)) (fC (.int 1))) fNil))))
    (sRet (fFrz (fLc [5] (fiA (fV 2)) (.nm 5) fYes (fOp addD (fOp addD (fSl (fV 3) fNoP (fPt (fV 4))) (fV 5)) (fSl (fV 3) (fPt (fV 4)) fNoP))))))))
def m_law_names : DF := runD 7 b_law_names
def b_is_word_row : S := (sSeq (sAsg (fV 0) (.tp [(.nm 3), (.nm 4), (.nm 5)]))
    (sSeq (sIf (fOrB (fNotB (fTru (fCall 1 m_is_name (fCons (fV 3) fNil)))) (fOrB (toB (fOp inD (fV 3) (fDr (fV 2)))) (fNotB (toB (fCh leD leD (fC (.int 0)) (fV 5) (fC (.int 99))))))) (sRet (fC (.bl false))) SR.nx)
    (sSeq (sIf (fOrB (toB (fOp eqD (fCall1 lenD (fV 4)) (fC (.int 0)))) (fNotB (fTru (fCall1 allC (fFrz (fLc [6] (fiA (fV 4)) (.nm 6) fYes (fOp inD (fV 6) (fV 1)))))))) (sRet (fC (.bl false))) SR.nx)
    (sRet (fOp eqD (fLenSet (fFrz (fListN (fV 4)))) (fCall1 lenD (fV 4)))))))
def m_is_word_row : DF := runD 7 b_is_word_row
def b_Book___init__ : S := (sSeq (sIf (fNotB (toB (fCh leD leD (fC (.int 1)) (fCall1 lenD (fV 1)) (fC (.int 4))))) (sRaise1 20 "what" "WrongCount" (fC (.str "sorts"))) SR.nx)
    (sSeq (sOwn 4 (fLstN fNil))
    (sSeq (sFor (fiE (fV 1)) (.tp [(.nm 5), (.tp [(.nm 6), (.nm 7)])]) (sSeq (sIf (fOrB (fNotB (fTru (fCall 1 m_is_name (fCons (fV 6) fNil)))) (fOrB (toB (fOp inD (fV 6) (fVo 4))) (fNotB (toB (fCh leD leD (fC (.int 0)) (fV 7) (fC (.int 99))))))) (sRaise1 21 "at" "InvalidSort" (fV 5)) SR.nx)
    (sMut 4 muApp (fCons (fV 6) fNil))))
    (sFz 4 (sSeq (sIf (toB (fOp gtD (fCall1 lenD (fV 2)) (fC (.int 4)))) (sRaise1 20 "what" "WrongCount" (fC (.str "words"))) SR.nx)
    (sSeq (sSet 8 (fNewO (fLstN fNil)))
    (sSeq (sFor (fiE (fV 2)) (.tp [(.nm 5), (.nm 9)]) (sSeq (sIf (fNotB (fTru (fCall 3 m_is_word_row (fCons (fV 9) (fCons (fV 4) (fCons (fV 8) fNil)))))) (sRaise1 22 "at" "InvalidWord" (fV 5)) SR.nx)
    (sMutO muApp (fV 8) (fCons (fOp ixD (fV 9) (fC (.int 0))) fNil))))
    (sSeq (sIf (fAndB (toB (fOp notN (fV 3) (fC .non))) (fNotB (toB (fCh leD leD (fC (.int 1)) (fV 3) (fC (.int 4)))))) (sRaise1 23 "given" "InvalidMemory" (fV 3)) SR.nx)
    (sSeq (sFldN 0 [] ["sort_rows"] (fFrz (fLc [6, 7] (fiA (fV 1)) (.tp [(.nm 6), (.nm 7)]) fYes (fTup (fCons (fV 6) (fCons (fV 7) fNil))))) (fV 0))
    (sSeq (sFldN 0 ["sort_rows"] ["sort_rows", "word_rows"] (fFrz (fLc [6, 10, 7] (fiA (fV 2)) (.tp [(.nm 6), (.nm 10), (.nm 7)]) fYes (fTup (fCons (fV 6) (fCons (fCall1 tupC (fFrz (fLc [11] (fiA (fV 4)) (.nm 11) (toB (fOp inD (fV 11) (fV 10))) (fV 11)))) (fCons (fV 7) fNil)))))) (fV 0))
    (sFldN 0 ["sort_rows", "word_rows"] ["sort_rows", "word_rows", "own_memory"] (fV 3) (fV 0))))))))))))
def m_Book___init__ : DF := runD 12 b_Book___init__
def b_Book_sort_names : S := (sRet (fFrz (fLc [1, 2] (fiA (fFld 0 ["sort_rows", "word_rows", "own_memory"] 0 (fV 0))) (.tp [(.nm 1), (.nm 2)]) fYes (fV 1))))
def m_Book_sort_names : DF := runD 3 b_Book_sort_names
def b_Book_word_row : S := (sSeq (sFor (fiA (fFld 0 ["sort_rows", "word_rows", "own_memory"] 1 (fV 0))) (.nm 2) (sIf (toB (fOp eqD (fOp ixD (fV 2) (fC (.int 0))) (fV 1))) (sRet (fV 2)) SR.nx))
    (sRaise1 41 "name" "UnknownWord" (fV 1)))
def m_Book_word_row : DF := runD 3 b_Book_word_row
def b_is_thing : S := (sSeq (sAsg (fV 1) (.tp [(.nm 2), (.nm 3)]))
    (sRet (fAnd (fOp inD (fV 2) (fMeth 0 ["sort_rows", "word_rows", "own_memory"] 1 0 1 m_Book_sort_names [0] [] (fV 0) fNil fNil)) (fOp geD (fV 3) (fC (.int 0))))))
def m_is_thing : DF := runD 4 b_is_thing
end DL
namespace DL
open PySem L2
/-! ### combinators of the class layer, applied -/
section
variable {δ : En} {η : List O} {f fa fb fo : F D} {fs fk fr : F (List D)} {a b : S} {i n c : Nat} {d : D} {df : DF} {NS NS' : List Str} {ix : List Nat} {dv : List D} {mu : List D → List D → Option (List D)}
@[simp] theorem insD_a {m : Nat} : insD η c NS (.obj m) = (match η[m]? with | some (.ins c' ns l) => if c' = c ∧ ns = NS then some (m, l) else none | _ => none) := rfl
@[simp] theorem insC_a {m : Nat} : insC η c (.obj m) = (match η[m]? with | some (.ins c' _ _) => decide (c' = c) | _ => false) := rfl
@[simp] theorem fFld_a : fFld c NS i fo δ η = (fo δ η).bind fun d η => (match insD η c NS d with | some (_, l) => (match l[i]? with | some x => .ok x η | none => .bad) | none => .bad) := rfl
@[simp] theorem sFldN_a : sFldN c NS NS' f fo δ η = (f δ η).toS δ fun d η => (fo δ η).toS δ fun o η => (match insD η c NS o with | some (n, l) => .nx δ (η.set n (.ins c NS' (l ++ [d]))) | none => .bad) := rfl
@[simp] theorem sFldO_a : sFldO c NS i f fo δ η = (f δ η).toS δ fun d η => (fo δ η).toS δ fun o η => (match insD η c NS o with | some (n, l) => .nx δ (η.set n (.ins c NS (l.set i d))) | none => .bad) := rfl
@[simp] theorem sFldA_a : sFldA c NS i fo f δ η = (fo δ η).toS δ fun o η => (match insD η c NS o with | some (_, l) => (match l[i]? with | some (.int x) => (f δ η).toS δ fun d η => (match insD η c NS o, d with | some (n, l), .int y => .nx δ (η.set n (.ins c NS (l.set i (.int (x + y))))) | _, _ => .bad) | _ => .bad) | none => .bad) := rfl
@[simp] theorem argK_a {np nk : Nat} {ds es : List D} : argK np nk n df ix dv ds es η = if ds.length = np ∧ es.length = nk then (arg n df (pick ix (ds ++ es ++ dv)) η).nox else .bad := rfl
@[simp] theorem fMeth_a {np nk : Nat} : fMeth c NS np nk n df ix dv fo fs fk δ η = (fo δ η).bind fun d η => (match insD η c NS d with | some _ => (fs δ η).bind fun ds η => (fk δ η).bind fun es η => argK np nk n df ix dv (d :: ds) es η | none => .bad) := rfl
@[simp] theorem fNewI_a {np nk : Nat} : fNewI c np nk n df ix dv fs fk δ η = (fs δ η).bind fun ds η => (fk δ η).bind fun es η' => (argK np nk n df ix dv (.obj η'.length :: ds) es (η' ++ [.ins c [] []])).bind fun z η2 => (match z with | .non => .ok (.obj η'.length) η2 | _ => .bad) := rfl
@[simp] theorem argKX_a {np nk : Nat} {ds es : List D} : argKX np nk n df ix dv ds es η = if ds.length = np ∧ es.length = nk then arg n df (pick ix (ds ++ es ++ dv)) η else .bad := rfl
@[simp] theorem fMethX_a {np nk : Nat} : fMethX c NS np nk n df ix dv fo fs fk δ η = (fo δ η).bind fun d η => (match insD η c NS d with | some _ => (fs δ η).bind fun ds η => (fk δ η).bind fun es η => argKX np nk n df ix dv (d :: ds) es η | none => .bad) := rfl
@[simp] theorem fNewIX_a {np nk : Nat} : fNewIX c np nk n df ix dv fs fk δ η = (fs δ η).bind fun ds η => (fk δ η).bind fun es η' => (argKX np nk n df ix dv (.obj η'.length :: ds) es (η' ++ [.ins c [] []])).bind fun z η2 => (match z with | .non => .ok (.obj η'.length) η2 | _ => .bad) := rfl
@[simp] theorem fCallX_a {m : DF} : fCallX n m fs δ η = (fs δ η).bind fun ds η => arg n m ds η := rfl
@[simp] theorem fCallKX_a {np nk : Nat} {m : DF} : fCallKX np nk n m ix fs fk δ η = (fs δ η).bind fun ds η => (fk δ η).bind fun es η => if ds.length = np ∧ es.length = nk then arg n m (pick ix (ds ++ es)) η else .bad := rfl
@[simp] theorem sRaise1_a {x g : Str} : sRaise1 c g x f δ η = (f δ η).toS δ fun d η => .exc c [g, "code"] [d, .str x] δ η := rfl
@[simp] theorem sRaise0_a {x : Str} : sRaise0 c x δ η = .exc c ["code"] [.str x] δ η := rfl
@[simp] theorem fProp_a : fProp c n df fo δ η = (fo δ η).bind fun d η => if insC η c d = true then (arg n df [d] η).nox else .bad := rfl
@[simp] theorem fInM_a {neg : Bool} : fInM c n df neg fa fb δ η = (fa δ η).bind fun d η => (fb δ η).bind fun o η => if insC η c o = true then ((arg n df [o, d] η).nox).bind fun z η => (match z with | .bl b => .ok (.bl (neg != b)) η | _ => .bad) else .bad := rfl
@[simp] theorem fStar_a : fStar fa fr δ η = (fa δ η).bind fun d η => (match d with | .lst l => (fr δ η).bind fun ds η => .ok (l ++ ds) η | .tup l => (fr δ η).bind fun ds η => .ok (l ++ ds) η | _ => .bad) := rfl
@[simp] theorem sMut_a : sMut i mu fs δ η = (match δ[i]? with | some (some (.own l)) => (fs δ η).toS δ fun ds η => (match mu l ds with | some l2 => .nx (δ.set i (some (.own l2))) η | none => .bad) | _ => .bad) := rfl
@[simp] theorem sMutO_a : sMutO mu fo fs δ η = (fo δ η).toS δ fun d η => (match d with | .obj n => (match η[n]? with | some (.lst _) => (fs δ η).toS δ fun ds η => (match η[n]? with | some (.lst l) => (match mu l ds with | some l2 => .nx δ (η.set n (.lst l2)) | none => .bad) | _ => .bad) | _ => .bad) | _ => .bad) := rfl
@[simp] theorem sParN_a {j : Nat} : sParN i j fa fs δ η = (fa δ η).toS δ fun d η => (fs δ η).toS δ fun l η => .nx ((δ.set i (some (.val d))).set j (some (.own l))) η := rfl
@[simp] theorem sFz_a : sFz i a δ η = (match δ[i]? with | some (some (.own l)) => a (δ.set i (some (.val (.lst l)))) η | _ => a δ η) := rfl
@[simp] theorem fDr_a : fDr fa δ η = (fa δ η).bind fun d η => (match d with | .obj n => (match η[n]? with | some (.lst l) => .ok (.lst l) η | _ => .ok d η) | _ => .ok d η) := rfl
@[simp] theorem fLenSet_a : fLenSet fa δ η = (fa δ η).bind fun d η => (match d with | .lst l => (match strsOf l with | some xs => if xs.length ≤ 1000 then .ok (.int (cnt xs xs.length : Nat)) η else .bad | none => .bad) | .tup l => (match strsOf l with | some xs => if xs.length ≤ 1000 then .ok (.int (cnt xs xs.length : Nat)) η else .bad | none => .bad) | _ => .bad) := rfl
@[simp] theorem fBad_a : fBad δ η = .bad := rfl
@[simp] theorem sBad_a : sBad δ η = .bad := rfl
@[simp] theorem muApp_a {l : List D} : muApp l [d] = if l.length < sizeLine then some (l ++ [d]) else none := rfl
@[simp] theorem muClr_a {l : List D} : muClr l [] = some [] := rfl
@[simp] theorem muIns_a {l : List D} {i : Int} : muIns l [.int i, d] = if l.length < sizeLine ∧ 0 ≤ i ∧ i < 2 ^ 63 then some (l.take i.toNat ++ [d] ++ l.drop i.toNat) else none := rfl
@[simp] theorem tupC_l {l : List D} : tupC (.lst l) = some (.tup l) := rfl
end
@[simp] theorem pick_nil {α : Type} {l : List α} : pick [] l = [] := rfl
@[simp] theorem pick_cons {α : Type} {l : List α} {i : Nat} {ix : List Nat} : pick (i :: ix) l = (match l[i]? with | some x => x :: pick ix l | none => pick ix l) := by
  unfold pick
  rw [List.filterMap_cons]
  cases l[i]? <;> rfl
/-! ### the helpers of the laws: a mixed list, names -/
theorem mixed_ok {fp r : List O} {o : O} {l : List D} (hf : Feed o) (hl : l.length ≤ 1000) : ∃ l2 o', m_law_mixed [.obj fp.length, .lst l] (fp ++ o :: r) = .ok (.lst l2) (fp ++ o' :: r) ∧ Feed o' ∧ l2.Perm l := by
  have hsz : ∀ n : Nat, n ≤ 1000 → n < sizeLine := fun n h => by rw [sizeLine_eq]; omega
  generalize hb : (sMut 2 muIns (fCons (fCall 2 m_law_pick (fCons (fV 0) (fCons (fOp addD (fCall1 lenD (fVo 2)) (fC (.int 1))) fNil))) (fCons (fV 3) fNil))) = b
  obtain ⟨δ', η', e, o', acc, y, rfl, hf', rfl, hp⟩ := loop_inv (t := .nm 3) (b := b) (P := fun ds δ η => ∃ (o : O) (acc : List D) (y : Option L), η = fp ++ o :: r ∧ Feed o ∧ δ = [some (.val (.obj fp.length)), some (.val (.lst l)), some (.own acc), y] ∧ (acc ++ ds).Perm l) (ds := l) (δ := [some (.val (.obj fp.length)), some (.val (.lst l)), some (.own []), none]) (η := fp ++ o :: r) ⟨o, [], _, rfl, hf, rfl, List.Perm.refl _⟩ fun x ds δ η ⟨o, acc, y, h1, h2, h3, h4⟩ => by
    subst h1 h3 hb
    have hlen := h4.length_eq
    rw [List.length_append, List.length_cons] at hlen
    obtain ⟨k, o2, e2, f2, k0, k1⟩ := pick0 (fp := fp) (r := r) h2 (acc.length + 1) (by omega) (by omega)
    refine ⟨_, asg_nm, [some (.val (.obj fp.length)), some (.val (.lst l)), some (.own (acc.take k.toNat ++ [x] ++ acc.drop k.toNat)), some (.val x)], fp ++ o2 :: r, .inl ?_, o2, _, _, rfl, f2, rfl, ?_⟩
    · have h63 : k < 9223372036854775808 := by omega
      simp [e2, hsz acc.length (by omega), k0, h63]
    · refine List.Perm.trans ?_ h4
      have h5 : (acc.take k.toNat ++ [x] ++ acc.drop k.toNat).Perm (x :: acc) := by
        have := List.perm_middle (a := x) (l₁ := acc.take k.toNat) (l₂ := acc.drop k.toNat)
        rw [List.take_append_drop] at this
        simpa using this
      have h6 := h5.append_right ds
      refine h6.trans ?_
      exact (List.perm_middle (a := x) (l₁ := acc) (l₂ := ds)).symm
  refine ⟨acc, o', run_rt2 rfl ?_, hf', by simpa using hp⟩
  unfold b_law_mixed
  rw [hb]
  have z : (0 : Nat) ≤ sizeLine := Nat.zero_le _
  simp [e, z]
end DL
namespace DL
open PySem L2
abbrev az : Str := "abcdefghijklmnopqrstuvwxyz"
theorem az_nodup : az.cps.toList.Nodup := by decide +kernel
theorem az_len : az.cps.toList.length = 26 := by decide +kernel
theorem one_inj {c d : Nat} (h : one c = one d) : c = d := by
  have h1 : (⟨#[c]⟩ : Str) = ⟨#[d]⟩ := D.str.inj h
  have h2 : #[c] = #[d] := congrArg Str.cps h1
  simpa using h2
theorem cut_take {l : List D} {m : Nat} (h : m ≤ l.length) : cutD l none (some (m : Int)) = l.take m := by
  unfold cutD
  have e1 : HT.sIx l.length 0 none = 0 := rfl
  have e2 : HT.sIx l.length l.length (some (m : Int)) = m := by
    have : ¬ (m : Int) < 0 := by omega
    simp [HT.sIx, this]; omega
  rw [e1, e2]
  simp
/-- a name made of a stem and one letter at a spot -/
def mkName (a b : List Nat) (c : Nat) : Str := SX.S ((a ++ [c]) ++ b)
theorem mkName_inj {a b : List Nat} {c d : Nat} (h : mkName a b c = mkName a b d) : c = d := by
  have := SX.S_inj h
  have h2 := List.append_cancel_right this
  have h3 := List.append_cancel_left h2
  simpa using h3
structure Names (ns : List Str) : Prop where
  nd : ns.Nodup
  nm : ∀ z ∈ ns, nameB z = true ∧ z.length ≤ 8
theorem drawL {δ : En} {fp r : List O} {o : O} {i : Nat} {m : Int} (hf : Feed o) (h0 : δ[0]? = some (some (.val (.obj fp.length)))) (hm : 0 < m) (hm2 : m ≤ 1000) (hi : 0 < i) :
    ∃ cs o', (fStrM joinS (fC (.str "")) (fFrz (fLc [i] (fiR1 (fCall 2 m_law_pick (fCons (fV 0) (fCons (fC (.int m)) fNil)))) (.nm i) fYes (fCall 2 m_law_of (fCons (fV 0) (fCons (fC (.str "abcdefghijklmnopqrstuvwxyz")) fNil)))))) δ (fp ++ o :: r) = .ok (.str (SX.S cs)) (fp ++ o' :: r) ∧ Feed o' ∧ (cs.length : Int) < m ∧ cs.all lowB = true := by
  obtain ⟨k, o1, e1, f1, k0, k1⟩ := pick0 (fp := fp) (r := r) hf m hm (by omega)
  have g : ∀ x, ((wipeD δ [i]).set i (some (L.val x)))[0]? = some (some (.val (.obj fp.length))) := fun x => by
    have hne : ¬ i = 0 := by omega
    simp [wipeD, h0, List.getElem?_set, hne]
  obtain ⟨ys, η', e2, ⟨o2, rfl, f2⟩, hl, hq⟩ := comp_st2 (t := .nm i) (ft := fYes) (fe := fCall 2 m_law_of (fCons (fV 0) (fCons (fC (.str "abcdefghijklmnopqrstuvwxyz")) fNil))) (δw := wipeD δ [i]) (fun η => ∃ o, η = fp ++ o :: r ∧ Feed o) (fun d => ∃ c, c ∈ ("abcdefghijklmnopqrstuvwxyz" : Str).cps.toList ∧ d = one c) (ds := rngD 0 k.toNat) ⟨o1, rfl, f1⟩ fun x _ η ⟨o, e, f⟩ => by
    subst e
    obtain ⟨c, o', e3, f3, hc⟩ := ofS0 (fp := fp) (r := r) f "abcdefghijklmnopqrstuvwxyz" (by decide) (by decide)
    refine ⟨_, asg_nm, rfl, one c, fp ++ o' :: r, ?_, ⟨o', rfl, f3⟩, c, hc, rfl⟩
    simp [g x, e3]
  obtain ⟨cs, rfl, hcs⟩ := ones_of hq
  have hlen : (cs.length : Int) < m := by
    have := hl
    simp [rngD] at this
    omega
  refine ⟨cs, o2, ?_, f2, hlen, List.all_eq_true.mpr fun c hc => low_in c (hcs c hc)⟩
  have k2 : k ≤ 16777216 ∧ -16777216 ≤ k := by omega
  simp [h0, e1, e2, k2, joinS_ones (show cs.length ≤ 16777216 by omega)]
theorem names_ok {fp r : List O} {o : O} (hf : Feed o) {m : Nat} (hm : m ≤ 26) : ∃ ns o', m_law_names [.obj fp.length, .int m] (fp ++ o :: r) = .ok (.lst (ns.map .str)) (fp ++ o' :: r) ∧ Feed o' ∧ ns.length = m ∧ Names ns := by
  have zz : az.length ≤ sizeLine := by decide
  -- the letters
  have h1 : ∀ (δ : En) (η : List O), 5 < δ.length → compF (.nm 5) fYes (fV 5) δ (signsD az) η = .ok (az.cps.toList.map one) η := fun δ η h => by
    have := comp_map (t := .nm 5) (ft := fYes) (fe := fV 5) (δw := δ) (η := η) (g := fun d => d) (ds := signsD az) fun x hx => ⟨_, asg_nm, rfl, by simp [h]⟩
    rw [this, List.map_id']
    rfl
  obtain ⟨l2, o1, e1, f1, hp⟩ := mixed_ok (fp := fp) (r := r) (l := az.cps.toList.map one) hf (by rw [List.length_map, az_len]; omega)
  obtain ⟨cs2, rfl, hc2⟩ := ones_of (l := l2) (p := fun c => c ∈ az.cps.toList) fun d hd => by
    obtain ⟨c, hc, rfl⟩ := List.mem_map.mp (hp.mem_iff.mp hd)
    exact ⟨c, hc, rfl⟩
  have nd2 : cs2.Nodup := by
    have h := (hp.nodup_iff).mpr (List.Pairwise.map one (fun a b hab q => hab (one_inj q)) az_nodup)
    exact (List.pairwise_map.mp h).imp fun hab q => hab (by rw [q])
  have len2 : cs2.length = 26 := by
    have := hp.length_eq
    rw [List.length_map, List.length_map, az_len] at this
    exact this
  obtain ⟨st, o2, e2, f2, hs, hlow⟩ := drawL (fp := fp) (r := r) (i := 6) (m := 8) (δ := [some (.val (.obj fp.length)), some (.val (.int m)), some (.val (.lst ((cs2.take m).map one))), none, none, none, none]) f1 rfl (by decide) (by decide) (by decide)
  obtain ⟨k, o3, e3, f3, k0, k1⟩ := pick0 (fp := fp) (r := r) f2 (st.length + 1) (by omega) (by omega)
  have z1 : (SX.S st).length = st.length := SX.S_len st
  have z2 : st.length ≤ sizeLine := by rw [sizeLine_eq]; omega
  have c1 := cut_lo (z := SX.S st) k0 (by omega)
  have c2 := cut_hi (z := SX.S st) k0 (by omega)
  have e4 : (SX.S st).cps.toList = st := rfl
  rw [e4] at c1 c2
  have h2 : ∀ (δ : En) (η : List O), δ[3]? = some (some (.val (.str (SX.S st)))) → δ[4]? = some (some (.val (.int k))) → 5 < δ.length → compF (.nm 5) fYes (fOp addD (fOp addD (fSl (fV 3) fNoP (fPt (fV 4))) (fV 5)) (fSl (fV 3) (fPt (fV 4)) fNoP)) δ ((cs2.take m).map one) η = .ok (((cs2.take m).map (mkName (st.take k.toNat) (st.drop k.toNat))).map .str) η := fun δ η q3 q4 q5 => by
    have := comp_map (t := .nm 5) (ft := fYes) (fe := fOp addD (fOp addD (fSl (fV 3) fNoP (fPt (fV 4))) (fV 5)) (fSl (fV 3) (fPt (fV 4)) fNoP)) (δw := δ) (η := η) (g := fun d => match d with | .str y => .str (SX.S (st.take k.toNat) ++ y ++ SX.S (st.drop k.toNat)) | d => d) (ds := (cs2.take m).map one) fun x hx => by
      obtain ⟨c, _, rfl⟩ := List.mem_map.mp hx
      refine ⟨_, asg_nm, rfl, ?_⟩
      have l1 : (SX.S (st.take k.toNat)).length + (⟨#[c]⟩ : Str).length ≤ sizeLine := by rw [SX.S_len, sizeLine_eq]; simp [Str.length]; omega
      have l2 : (SX.S (st.take k.toNat) ++ (⟨#[c]⟩ : Str)).length + (SX.S (st.drop k.toNat)).length ≤ sizeLine := by
        rw [show SX.S (st.take k.toNat) ++ (⟨#[c]⟩ : Str) = SX.S (st.take k.toNat ++ [c]) from SX.S_cat _ _, SX.S_len, SX.S_len, sizeLine_eq]; simp; omega
      generalize SX.S (st.take k.toNat) = za at *
      generalize SX.S (st.drop k.toNat) = zb at *
      simp [q3, q4, q5, z1, z2, c1, c2, l1, l2]
    rw [this, List.map_map, List.map_map]
    congr 1
    refine List.map_congr_left fun c _ => ?_
    show D.str (SX.S (st.take k.toNat) ++ SX.S [c] ++ SX.S (st.drop k.toNat)) = _
    rw [SX.S_cat, SX.S_cat]; rfl
  refine ⟨(cs2.take m).map (mkName (st.take k.toNat) (st.drop k.toNat)), o3, run_rt2 (δ := [some (.val (.obj fp.length)), some (.val (.int m)), none, none, none, none, none]) rfl ?_, f3, by simp [len2, hm], ⟨?_, ?_⟩⟩
  · unfold b_law_names
    have hcut : cutD (cs2.map one) none (some (m : Int)) = (cs2.take m).map one := by rw [cut_take (by simp [len2, hm]), List.map_take]
    have h1' := h1 (wipeD [some (.val (.obj fp.length)), some (.val (.int m)), none, none, none, none, none] [5]) (fp ++ o :: r) (by show 5 < 7; decide)
    have h2' := h2 (wipeD [some (.val (.obj fp.length)), some (.val (.int m)), some (.val (.lst ((cs2.take m).map one))), some (.val (.str (SX.S st))), some (.val (.int k)), none, none] [5]) (fp ++ o3 :: r) rfl rfl (by show 5 < 7; decide)
    generalize hg : cs2.take m = cs3 at *
    have zz' : (Str.length "abcdefghijklmnopqrstuvwxyz") ≤ sizeLine := zz
    simp only [az] at h1' e1
    simp only [sSeq_a, sSet_a, fSl_a, fCall_a, fCons_a, fV_a, List.getElem?_cons_zero, List.getElem?_cons_succ, bind_ok, fFrz_a, fLc_a, fiA_a, fC_a, walkD_s, if_pos zz', lift_some, fNil_a, if_true, h1', arg_a, List.length_cons, List.length_nil, e1, nox_ok, fNoP_a, fPt_a, slD_l, hcut, toS_ok, seq_nx, List.set_cons_succ, List.set_cons_zero, e2, sRet_a]
    simp [e2, e3, z1, z2, h2']
  · exact List.Pairwise.map _ (fun a b hab q => hab (mkName_inj q)) (nd2.sublist (List.take_sublist _ _))
  · intro z hz
    obtain ⟨c, hc, rfl⟩ := List.mem_map.mp hz
    have hcl : lowB c = true := low_in c (hc2 c (List.mem_of_mem_take hc))
    have hl : (mkName (st.take k.toNat) (st.drop k.toNat) c).length = st.length + 1 := by
      unfold mkName; rw [SX.S_len]; simp; omega
    have ha : ((st.take k.toNat ++ [c]) ++ st.drop k.toNat).all lowB = true := by
      rw [List.all_append, List.all_append]
      have h3 : (st.take k.toNat).all lowB = true := List.all_eq_true.mpr fun x hx => List.all_eq_true.mp hlow x (List.mem_of_mem_take hx)
      have h4 : (st.drop k.toNat).all lowB = true := List.all_eq_true.mpr fun x hx => List.all_eq_true.mp hlow x (List.mem_of_mem_drop hx)
      simp only [h3, h4, List.all_cons, List.all_nil, hcl, Bool.and_self]
    refine ⟨?_, by omega⟩
    unfold nameB
    rw [hl]
    have : (mkName (st.take k.toNat) (st.drop k.toNat) c).cps.toList = (st.take k.toNat ++ [c]) ++ st.drop k.toNat := rfl
    rw [this, ha]
    simp; omega
end DL
namespace DL
open PySem L2
theorem pure_strs : ∀ zs : List Str, pureDs 20 (zs.map .str) = true
  | [] => rfl
  | z :: zs => by rw [List.map_cons, pureDs, pure_strs zs]; rfl
theorem inL_strs (z : Str) : ∀ zs : List Str, inL (.str z) (zs.map .str) = decide (z ∈ zs)
  | [] => rfl
  | y :: zs => by
    have ih : (zs.map D.str).any (fun y => eqvD y (.str z)) = decide (z ∈ zs) := inL_strs z zs
    show (eqvD (.str y) (.str z) || (zs.map D.str).any (fun y => eqvD y (.str z))) = decide (z ∈ y :: zs)
    rw [ih, eqv_ss]
    by_cases q : y = z
    · subst q
      rw [decide_eq_true (rfl : y = y), decide_eq_true (List.mem_cons_self : y ∈ y :: zs)]; rfl
    · rw [decide_eq_false q, Bool.false_or]
      refine decide_eq_decide.mpr ⟨fun h => List.mem_cons_of_mem _ h, fun h => ?_⟩
      rcases List.mem_cons.mp h with e | h
      · exact absurd e.symm q
      · exact h
@[simp] theorem inD_ls {z : Str} {zs : List Str} : inD (.str z) (.lst (zs.map .str)) = some (.bl (decide (z ∈ zs))) := by
  unfold inD; dsimp only; rw [inL_strs, if_pos ⟨rfl, pure_strs zs⟩]
@[simp] theorem inD_ts {z : Str} {zs : List Str} : inD (.str z) (.tup (zs.map .str)) = some (.bl (decide (z ∈ zs))) := by
  unfold inD; dsimp only; rw [inL_strs, if_pos ⟨rfl, pure_strs zs⟩]
theorem strsOf_map : ∀ zs : List Str, strsOf (zs.map .str) = some zs
  | [] => rfl
  | z :: zs => by rw [List.map_cons, strsOf, strsOf_map zs]; rfl
theorem cnt_nodup {xs : List Str} (h : xs.Nodup) : ∀ {i : Nat}, i ≤ xs.length → cnt xs i = i
  | 0, _ => rfl
  | i + 1, hi => by
    have hlt : i < xs.length := hi
    rw [cnt, cnt_nodup h (Nat.le_of_lt hlt)]
    have hn : (xs.take i).any (· == xs.getD i Str.empty) = false := by
      rw [Bool.eq_false_iff]
      intro q
      obtain ⟨y, hy, e⟩ := List.any_eq_true.mp q
      have e : y = xs.getD i Str.empty := eq_of_beq e
      rw [List.getD_eq_getElem?_getD, List.getElem?_eq_getElem hlt, Option.getD_some] at e
      obtain ⟨j, hj, rfl⟩ := List.mem_iff_getElem.mp hy
      rw [List.length_take] at hj
      rw [List.getElem_take] at e
      exact (List.pairwise_iff_getElem.mp h j i (by omega) hlt (by omega)) e
    rw [hn]
    rfl
/-- a row of a book -/
structure Row where
  n : Str
  st : List Str
  p : Int
def Row.d (r : Row) : D := .tup [.str r.n, .tup (r.st.map .str), .int r.p]
def kd2 (k : Str × Int) : D := .tup [.str k.1, .int k.2]
structure RowOk (names earlier : List Str) (r : Row) : Prop where
  nm : nameB r.n = true ∧ r.n.length ≤ 8
  new : r.n ∉ earlier
  p0 : 0 ≤ r.p
  p1 : r.p ≤ 99
  ne : r.st ≠ []
  mem : ∀ s ∈ r.st, s ∈ names
  nd : r.st.Nodup
  few : r.st.length ≤ 100
theorem word_row_ok {η : List O} {e : Nat} {names earlier : List Str} {r : Row} (he : η[e]? = some (.lst (earlier.map .str))) (h : RowOk names earlier r) : m_is_word_row [r.d, .lst (names.map .str), .obj e] η = .ok (.bl true) η := by
  refine run_rt2 (δ := [some (.val r.d), some (.val (.lst (names.map .str))), some (.val (.obj e)), none, none, none, none]) rfl ?_
  have hz : r.n.length ≤ sizeLine := by rw [sizeLine_eq]; have := h.nm.2; omega
  have hnm := name_ok (z := r.n) (η := η) hz
  rw [h.nm.1] at hnm
  have hl : ¬ ((r.st.length : Int) = 0) := by
    have : r.st.length ≠ 0 := fun q => h.ne (List.eq_nil_of_length_eq_zero q)
    omega
  have hc : ∀ (δ : En), δ[1]? = some (some (.val (.lst (names.map .str)))) → 6 < δ.length → compF (.nm 6) fYes (fOp inD (fV 6) (fV 1)) δ (r.st.map .str) η = .ok (r.st.map fun _ => .bl true) η := fun δ q1 q6 => by
    have := comp_map (t := .nm 6) (ft := fYes) (fe := fOp inD (fV 6) (fV 1)) (δw := δ) (η := η) (g := fun _ => .bl true) (ds := r.st.map .str) fun x hx => by
      obtain ⟨s, hs, rfl⟩ := List.mem_map.mp hx
      exact ⟨_, asg_nm, rfl, by simp [q1, q6, h.mem s hs]⟩
    rw [this, List.map_map]
    rfl
  have hb : blsOf (r.st.map fun _ => D.bl true) = some (r.st.map fun _ => true) := blsOf_map (fun _ => true) r.st
  have hcnt : cnt r.st r.st.length = r.st.length := cnt_nodup h.nd (Nat.le_refl _)
  have h1000 : r.st.length ≤ 1000 := Nat.le_trans h.few (by decide)
  have c1 := hc (wipeD [some (.val r.d), some (.val (.lst (names.map .str))), some (.val (.obj e)), some (.val (.str r.n)), some (.val (.tup (r.st.map .str))), some (.val (.int r.p)), none] [6]) rfl (by show 6 < 7; decide)
  have hall : (r.st.map fun _ => true).all (fun b => b) = true := by simp
  unfold b_is_word_row
  unfold Row.d at c1 ⊢
  simp [hnm, he, h.new, h.p0, h.p1, h.ne, c1, allC, hb, hall, strsOf_map, h1000, hcnt]
theorem enc_cons {l : List D} {d : D} {n : Nat} : ((d :: l).zipIdx n).map (fun p => D.tup [.int (p.2 : Nat), p.1]) = .tup [.int (n : Nat), d] :: (l.zipIdx (n + 1)).map fun p => .tup [.int (p.2 : Nat), p.1] := rfl
theorem get_last {η : List O} {x : O} : (η ++ [x])[η.length]? = some x := by simp
theorem set_last {η : List O} {x y : O} : (η ++ [x]).set η.length y = η ++ [y] := by simp
abbrev NSB : List Str := ["sort_rows", "word_rows", "own_memory"]
structure KindsOk (ks : List (Str × Int)) : Prop where
  l0 : 1 ≤ ks.length
  l1 : ks.length ≤ 4
  nd : (ks.map (·.1)).Nodup
  ok : ∀ k ∈ ks, nameB k.1 = true ∧ k.1.length ≤ 8 ∧ 0 ≤ k.2 ∧ k.2 ≤ 99
structure RowsOk (names : List Str) (rs : List Row) : Prop where
  l1 : rs.length ≤ 4
  nd : (rs.map (·.n)).Nodup
  ok : ∀ r ∈ rs, RowOk names [] r
inductive MemOk : D → Prop
  | non : MemOk .non
  | int {m : Int} : 1 ≤ m → m ≤ 4 → MemOk (.int m)
/-- the stands in the sorts' order -/
def Row.fit (names : List Str) (r : Row) : Row := ⟨r.n, names.filter fun s => decide (s ∈ r.st), r.p⟩
end DL
namespace DL
open PySem L2
/-- the fields of a book -/
def bookD (ks : List (Str × Int)) (rs : List Row) (m : D) : List D := [.lst (ks.map kd2), .lst ((rs.map (Row.fit (ks.map (·.1)))).map Row.d), m]
theorem len_sz {n : Nat} (h : n ≤ 1000) : n < sizeLine := by rw [sizeLine_eq]; omega
section
variable {η : List O} {n : Nat} {ks : List (Str × Int)} {rs : List Row} {m : D}
theorem loop1 (hk : KindsOk ks) {a0 a2 a3 x5 x6 x7 x8 x9 x10 x11 : Option L} {b : S} (hb : b = (sSeq (sIf (fOrB (fNotB (fTru (fCall 1 m_is_name (fCons (fV 6) fNil)))) (fOrB (toB (fOp inD (fV 6) (fVo 4))) (fNotB (toB (fCh leD leD (fC (.int 0)) (fV 7) (fC (.int 99))))))) (sRaise1 21 "at" "InvalidSort" (fV 5)) SR.nx)
    (sMut 4 muApp (fCons (fV 6) fNil)))) : ∃ y5 y6 y7, loopF (.tp [(.nm 5), (.tp [(.nm 6), (.nm 7)])]) b (enumD (ks.map kd2)) [a0, some (.val (.lst (ks.map kd2))), a2, a3, some (.own []), x5, x6, x7, x8, x9, x10, x11] η = .nx [a0, some (.val (.lst (ks.map kd2))), a2, a3, some (.own ((ks.map (·.1)).map .str)), y5, y6, y7, x8, x9, x10, x11] η := by
  subst hb
  generalize hb : (sSeq (sIf _ (sRaise1 21 "at" "InvalidSort" (fV 5)) SR.nx) (sMut 4 muApp _) : S) = b
  obtain ⟨δ', η', e, pre, suf, y5, y6, y7, h1, h2, h3, h4⟩ := loop_inv (t := .tp [(.nm 5), (.tp [(.nm 6), (.nm 7)])]) (b := b) (P := fun ds δ η1 => ∃ (pre suf : List (Str × Int)) (y5 y6 y7 : Option L), ks = pre ++ suf ∧ ds = ((suf.map kd2).zipIdx pre.length).map (fun p => D.tup [.int (p.2 : Nat), p.1]) ∧ δ = [a0, some (.val (.lst (ks.map kd2))), a2, a3, some (.own ((pre.map (·.1)).map .str)), y5, y6, y7, x8, x9, x10, x11] ∧ η1 = η) (ds := enumD (ks.map kd2)) (δ := [a0, some (.val (.lst (ks.map kd2))), a2, a3, some (.own []), x5, x6, x7, x8, x9, x10, x11]) (η := η) ⟨[], ks, _, _, _, rfl, rfl, rfl, rfl⟩ fun x r δ η1 ⟨pre, suf, y5, y6, y7, h1, h2, h3, h4⟩ => by
    subst h3 h4
    cases suf with
    | nil => cases h2
    | cons k suf =>
      rw [List.map_cons, enc_cons] at h2
      cases h2
      obtain ⟨nm, ln, p0, p1⟩ := hk.ok k (by rw [h1]; simp)
      have hz : k.1.length ≤ sizeLine := Nat.le_of_lt (len_sz (by omega))
      have hnm := name_ok (z := k.1) (η := η1) hz
      rw [nm] at hnm
      have new : k.1 ∉ pre.map (·.1) := by
        have := hk.nd
        rw [h1, List.map_append, List.nodup_append] at this
        exact fun q => this.2.2 k.1 q k.1 (by simp) rfl
      have hpl : (pre.map (·.1)).length < sizeLine := len_sz (by have := hk.l1; rw [h1] at this; simp at this ⊢; omega)
      have hin : inD (.str k.1) (.lst ((pre.map (·.1)).map .str)) = some (.bl false) := by rw [inD_ls, decide_eq_false new]
      refine ⟨[a0, some (.val (.lst (ks.map kd2))), a2, a3, some (.own ((pre.map (·.1)).map .str)), some (.val (.int pre.length)), some (.val (.str k.1)), some (.val (.int k.2)), x8, x9, x10, x11], by simp [kd2], [a0, some (.val (.lst (ks.map kd2))), a2, a3, some (.own (((pre ++ [k]).map (·.1)).map .str)), some (.val (.int pre.length)), some (.val (.str k.1)), some (.val (.int k.2)), x8, x9, x10, x11], η1, .inl ?_, pre ++ [k], suf, _, _, _, by rw [h1]; simp, by rw [List.length_append]; rfl, rfl, rfl⟩
      rw [← hb]
      generalize hl : (pre.map (·.1)).map D.str = acc at hin ⊢
      have hal : acc.length < sizeLine := by rw [← hl]; simpa using hpl
      have hadd : ((pre ++ [k]).map (·.1)).map D.str = acc ++ [.str k.1] := by rw [← hl]; simp
      rw [hadd]
      simp [hnm, hin, p0, p1, hal]
  have hs : suf = [] := by
    cases suf with
    | nil => rfl
    | cons k suf => rw [List.map_cons, enc_cons] at h2; cases h2
  subst hs h3 h4
  rw [List.append_nil] at h1
  subst h1
  exact ⟨y5, y6, y7, e⟩
theorem loop2 {names : List Str} (hr : RowsOk names rs) {a0 a1 a3 x5 x6 x7 x9 x10 x11 : Option L} {b : S} (hb : b = (sSeq (sIf (fNotB (fTru (fCall 3 m_is_word_row (fCons (fV 9) (fCons (fV 4) (fCons (fV 8) fNil)))))) (sRaise1 22 "at" "InvalidWord" (fV 5)) SR.nx)
    (sMutO muApp (fV 8) (fCons (fOp ixD (fV 9) (fC (.int 0))) fNil)))) : ∃ y5 y9, loopF (.tp [(.nm 5), (.nm 9)]) b (enumD (rs.map Row.d)) [a0, a1, some (.val (.lst (rs.map Row.d))), a3, some (.val (.lst (names.map .str))), x5, x6, x7, some (.val (.obj η.length)), x9, x10, x11] (η ++ [.lst []]) = .nx [a0, a1, some (.val (.lst (rs.map Row.d))), a3, some (.val (.lst (names.map .str))), y5, x6, x7, some (.val (.obj η.length)), y9, x10, x11] (η ++ [.lst ((rs.map (·.n)).map .str)]) := by
  subst hb
  generalize hb : (sSeq (sIf _ (sRaise1 22 "at" "InvalidWord" (fV 5)) SR.nx) (sMutO muApp _ _) : S) = b
  obtain ⟨δ', η', e, pre, suf, y5, y9, h1, h2, h3, h4⟩ := loop_inv (t := .tp [(.nm 5), (.nm 9)]) (b := b) (P := fun ds δ η1 => ∃ (pre suf : List Row) (y5 y9 : Option L), rs = pre ++ suf ∧ ds = ((suf.map Row.d).zipIdx pre.length).map (fun p => D.tup [.int (p.2 : Nat), p.1]) ∧ δ = [a0, a1, some (.val (.lst (rs.map Row.d))), a3, some (.val (.lst (names.map .str))), y5, x6, x7, some (.val (.obj η.length)), y9, x10, x11] ∧ η1 = η ++ [.lst ((pre.map (·.n)).map .str)]) (ds := enumD (rs.map Row.d)) (δ := [a0, a1, some (.val (.lst (rs.map Row.d))), a3, some (.val (.lst (names.map .str))), x5, x6, x7, some (.val (.obj η.length)), x9, x10, x11]) (η := η ++ [.lst []]) ⟨[], rs, _, _, rfl, rfl, rfl, rfl⟩ fun x r δ η1 ⟨pre, suf, y5, y9, h1, h2, h3, h4⟩ => by
    subst h3 h4
    cases suf with
    | nil => cases h2
    | cons k suf =>
      rw [List.map_cons, enc_cons] at h2
      cases h2
      have hok := hr.ok k (by rw [h1]; simp)
      have new : k.n ∉ pre.map (·.n) := by
        have := hr.nd
        rw [h1, List.map_append, List.nodup_append] at this
        exact fun q => this.2.2 k.n q k.n (by simp) rfl
      have hrow := word_row_ok (η := η ++ [.lst ((pre.map (·.n)).map .str)]) (e := η.length) (names := names) (earlier := pre.map (·.n)) (r := k) get_last { hok with new := new }
      have hpl : ((pre.map (·.n)).map D.str).length < sizeLine := len_sz (by have := hr.l1; rw [h1] at this; simp at this ⊢; omega)
      refine ⟨[a0, a1, some (.val (.lst (rs.map Row.d))), a3, some (.val (.lst (names.map .str))), some (.val (.int pre.length)), x6, x7, some (.val (.obj η.length)), some (.val k.d), x10, x11], by simp, [a0, a1, some (.val (.lst (rs.map Row.d))), a3, some (.val (.lst (names.map .str))), some (.val (.int pre.length)), x6, x7, some (.val (.obj η.length)), some (.val k.d), x10, x11], η ++ [.lst (((pre ++ [k]).map (·.n)).map .str)], .inl ?_, pre ++ [k], suf, _, _, by rw [h1]; simp, by rw [List.length_append]; rfl, rfl, rfl⟩
      rw [← hb]
      generalize hl : (pre.map (·.n)).map D.str = acc at hrow hpl ⊢
      have hadd : ((pre ++ [k]).map (·.n)).map D.str = acc ++ [.str k.n] := by rw [← hl]; simp
      rw [hadd]
      have hix : ixD k.d (.int 0) = some (.str k.n) := rfl
      simp [hrow, hix, hpl]
  have hs : suf = [] := by
    cases suf with
    | nil => rfl
    | cons k suf => rw [List.map_cons, enc_cons] at h2; cases h2
  subst hs h3 h4
  rw [List.append_nil] at h1
  subst h1
  exact ⟨y5, y9, e⟩
theorem comp1 {δ : En} {η : List O} (h6 : 7 < δ.length) : compF (.tp [(.nm 6), (.nm 7)]) fYes (fTup (fCons (fV 6) (fCons (fV 7) fNil))) δ (ks.map kd2) η = .ok (ks.map kd2) η := by
  have h := comp_map (t := .tp [(.nm 6), (.nm 7)]) (ft := fYes) (fe := fTup (fCons (fV 6) (fCons (fV 7) fNil))) (δw := δ) (η := η) (g := fun d => d) (ds := ks.map kd2) fun x hx => by
    obtain ⟨k, _, rfl⟩ := List.mem_map.mp hx
    have h2 : (2 : Nat) ≤ sizeLine := by rw [sizeLine_eq]; decide
    have h5 : 6 < δ.length := by omega
    exact ⟨_, rfl, rfl, by simp [h6, h5, h2, kd2]⟩
  rw [h, List.map_id']
theorem comp2 {names : List Str} {δ : En} {η : List O} (h11 : 11 < δ.length) (h4 : δ[4]? = some (some (.val (.lst (names.map .str))))) : compF (.tp [(.nm 6), (.nm 10), (.nm 7)]) fYes (fTup (fCons (fV 6) (fCons (fCall1 tupC (fFrz (fLc [11] (fiA (fV 4)) (.nm 11) (toB (fOp inD (fV 11) (fV 10))) (fV 11)))) (fCons (fV 7) fNil)))) δ (rs.map Row.d) η = .ok ((rs.map (Row.fit names)).map Row.d) η := by
  have h := comp_map (t := .tp [(.nm 6), (.nm 10), (.nm 7)]) (ft := fYes) (fe := fTup (fCons (fV 6) (fCons (fCall1 tupC (fFrz (fLc [11] (fiA (fV 4)) (.nm 11) (toB (fOp inD (fV 11) (fV 10))) (fV 11)))) (fCons (fV 7) fNil)))) (δw := δ) (η := η) (g := fun d => match d with | .tup [.str n, .tup st, .int p] => .tup [.str n, .tup ((names.filter fun s => inL (.str s) st).map .str), .int p] | d => d) (ds := rs.map Row.d) fun x hx => by
    obtain ⟨k, _, rfl⟩ := List.mem_map.mp hx
    refine ⟨((δ.set 6 (some (.val (.str k.n)))).set 10 (some (.val (.tup (k.st.map .str))))).set 7 (some (.val (.int k.p))), rfl, rfl, ?_⟩
    have h3 : (3 : Nat) ≤ sizeLine := by rw [sizeLine_eq]; decide
    have b6 : 6 < δ.length := by omega
    have b7 : 7 < δ.length := by omega
    have b10 : 10 < δ.length := by omega
    have b4 : 4 < δ.length := by omega
    generalize hδ : ((δ.set 6 (some (.val (.str k.n)))).set 10 (some (.val (.tup (k.st.map .str))))).set 7 (some (.val (.int k.p))) = δ2
    have g4 : δ2[4]? = some (some (.val (.lst (names.map .str)))) := by rw [← hδ]; simpa using h4
    have g6 : δ2[6]? = some (some (.val (.str k.n))) := by rw [← hδ]; simp [b6]
    have g7 : δ2[7]? = some (some (.val (.int k.p))) := by rw [← hδ]; simp [b7]
    have g10 : δ2[10]? = some (some (.val (.tup (k.st.map .str)))) := by rw [← hδ]; simp [b10]
    have l2 : 11 < δ2.length := by rw [← hδ]; simpa using h11
    have hc := comp_filter (t := .nm 11) (ft := toB (fOp inD (fV 11) (fV 10))) (fe := fV 11) (δw := wipeD δ2 [11]) (η := η) (p := fun d => match d with | .str s => inL (.str s) (k.st.map .str) | _ => false) (g := fun d => d) (ds := names.map .str) fun x hx => by
      obtain ⟨s, _, rfl⟩ := List.mem_map.mp hx
      refine ⟨_, asg_nm, ?_, fun _ => by simp [wipeD, l2]⟩
      show _ = R.ok (inL (.str s) (k.st.map .str)) η
      rw [inL_strs]
      simp [wipeD, l2, g10]
    have e1 : ((names.map D.str).filter fun d => match d with | .str s => inL (.str s) (k.st.map .str) | _ => false) = (names.filter fun s => inL (.str s) (k.st.map .str)).map .str := by
      rw [List.filter_map]; rfl
    rw [e1, List.map_id'] at hc
    simp [g4, g6, g7, hc, h3]
    rfl
  rw [h, List.map_map, List.map_map]
  congr 1
  refine List.map_congr_left fun r _ => ?_
  show D.tup [.str r.n, .tup ((names.filter fun s => inL (.str s) (r.st.map .str)).map .str), .int r.p] = D.tup [.str r.n, .tup ((names.filter fun s => decide (s ∈ r.st)).map .str), .int r.p]
  have : (fun s => inL (.str s) (r.st.map .str)) = fun s => decide (s ∈ r.st) := funext fun s => inL_strs s r.st
  rw [this]
theorem book_init_ok (hn : η[n]? = some (.ins 0 [] [])) (hk : KindsOk ks) (hr : RowsOk (ks.map (·.1)) rs) (hm : MemOk m) :
    m_Book___init__ [.obj n, .lst (ks.map kd2), .lst (rs.map Row.d), m] η = .ok .non (η.set n (.ins 0 NSB (bookD ks rs m)) ++ [.lst ((rs.map (·.n)).map .str)]) := by
  have hlt : n < η.length := (List.getElem?_eq_some_iff.mp hn).1
  obtain ⟨y5, y6, y7, e1⟩ := loop1 (η := η) (ks := ks) hk (a0 := some (.val (.obj n))) (a2 := some (.val (.lst (rs.map Row.d)))) (a3 := some (.val m)) (x5 := none) (x6 := none) (x7 := none) (x8 := none) (x9 := none) (x10 := none) (x11 := none) rfl
  obtain ⟨z5, z9, e2⟩ := loop2 (η := η) (rs := rs) (names := ks.map (·.1)) hr (a0 := some (.val (.obj n))) (a1 := some (.val (.lst (ks.map kd2)))) (a3 := some (.val m)) (x5 := y5) (x6 := y6) (x7 := y7) (x9 := none) (x10 := none) (x11 := none) rfl
  have k0 : (1 : Int) ≤ (ks.map kd2).length := by have := hk.l0; simp; omega
  have k1 : ((ks.map kd2).length : Int) ≤ 4 := by have := hk.l1; simp; omega
  have r1 : ¬ (4 : Int) < (rs.map Row.d).length := by have := hr.l1; simp; omega
  have z0 : (0 : Nat) ≤ sizeLine := Nat.zero_le _
  have gn : ∀ y, (η.set n y)[n]? = some y := fun y => by rw [List.getElem?_set_self hlt]
  have ga : ∀ x, (η ++ [x])[n]? = some (.ins 0 [] []) := fun x => by rw [List.getElem?_append_left hlt]; exact hn
  have gb : ∀ x y, (η.set n y ++ [x])[n]? = some y := fun x y => by rw [List.getElem?_append_left (by rw [List.length_set]; exact hlt)]; exact gn y
  have sb : ∀ x y, (η ++ [x]).set n y = η.set n y ++ [x] := fun x y => List.set_append_left n y hlt
  have sc : ∀ x y z, (η.set n z ++ [x]).set n y = η.set n y ++ [x] := fun x y z => by rw [List.set_append_left n y (by rw [List.length_set]; exact hlt), List.set_set]
  have hmem : ∀ (δ : En) (η : List O), δ[3]? = some (some (.val m)) → (fAndB (toB (fOp notN (fV 3) (fC .non))) (fNotB (toB (fCh leD leD (fC (.int 1)) (fV 3) (fC (.int 4)))))) δ η = .ok false η := fun δ η h => by
    cases hm with
    | non => simp [h]
    | int p q => simp [h, p, q]
  have c1 := fun (δ : En) (η : List O) (h : 7 < δ.length) => comp1 (ks := ks) (δ := δ) (η := η) h
  have c2 := fun (δ : En) (η : List O) (h : 11 < δ.length) h4 => comp2 (rs := rs) (names := ks.map (·.1)) (δ := δ) (η := η) h h4
  unfold m_Book___init__
  generalize hx : runD 12 b_Book___init__ _ η = x
  unfold runD b_Book___init__ at hx
  generalize hKs : ks.map kd2 = K1 at *
  generalize hRs : rs.map Row.d = R1 at *
  simp [k0, k1, r1, z0] at hx
  rw [e1] at hx
  simp [-List.map_map, r1, z0] at hx
  rw [e2] at hx
  have d1 := c1 (wipeD [some (L.val (D.obj n)), some (L.val (D.lst K1)), some (L.val (D.lst R1)), some (L.val m), some (L.val (D.lst (List.map D.str (List.map (fun x => x.fst) ks)))), z5, y6, y7, some (L.val (D.obj η.length)), z9, none, none] [6, 7]) (η ++ [.lst (List.map D.str (List.map (fun x => x.n) rs))]) (by show 7 < 12; decide)
  have d2 := fun (η2 : List O) => c2 (wipeD [some (L.val (D.obj n)), some (L.val (D.lst K1)), some (L.val (D.lst R1)), some (L.val m), some (L.val (D.lst (List.map D.str (List.map (fun x => x.fst) ks)))), z5, y6, y7, some (L.val (D.obj η.length)), z9, none, none] [6, 10, 7]) η2 (by show 11 < 12; decide) rfl
  cases hm with
  | non =>
    simp [-List.map_map, d1, ga, gb, sb, sc, gn] at hx
    rw [d2] at hx
    simp [-List.map_map, ga, gb, sb, sc, gn] at hx
    rw [← hx]
    unfold bookD
    rw [hKs]
  | int p q =>
    simp [-List.map_map, d1, ga, gb, sb, sc, gn, p, q] at hx
    rw [d2] at hx
    simp [-List.map_map, ga, gb, sb, sc, gn] at hx
    rw [← hx]
    unfold bookD
    rw [hKs]
end
end DL
namespace DL
open PySem L2
/-! ### equality of small values -/
mutual
theorem eqv_refl : ∀ (n : Nat) (d : D), pureD n d = true → eqvD d d = true
  | _, .non, _ => rfl
  | _, .bl b, _ => by rw [eqv_bb]; simp
  | _, .int b, _ => by rw [eqv_ii]; simp
  | _, .str b, _ => by rw [eqv_ss]; simp
  | 0, .tup l, h => by simp [pureD] at h
  | 0, .lst l, h => by simp [pureD] at h
  | n + 1, .tup l, h => by
    show PyData.eqv (.tuple (toPys l)) (.tuple (toPys l)) = true
    rw [PyData.eqv]; exact eqvs_refl n l h
  | n + 1, .lst l, h => by
    show PyData.eqv (.list (toPys l)) (.list (toPys l)) = true
    rw [PyData.eqv]; exact eqvs_refl n l h
  | n, .ins _ _ _, h => by cases n <;> simp [pureD] at h
  | n, .obj _, h => by cases n <;> simp [pureD] at h
theorem eqvs_refl : ∀ (n : Nat) (l : List D), pureDs n l = true → PyData.eqvAll (toPys l) (toPys l) = true
  | _, [], _ => rfl
  | n, d :: l, h => by
    rw [pureDs, Bool.and_eq_true] at h
    show PyData.eqvAll (toPy d :: toPys l) (toPy d :: toPys l) = true
    rw [PyData.eqvAll, Bool.and_eq_true]
    exact ⟨eqv_refl n d h.1, eqvs_refl n l h.2⟩
end
theorem neD_self {d : D} (h : okq d = true) : neD d d = some (.bl false) := by
  unfold neD; rw [if_pos ⟨h, h⟩, eqv_refl 20 d h]; rfl
/-! ### the small methods of a book -/
section
variable {η : List O} {b : Nat} {ks : List (Str × Int)} {rs : List Row} {m : D}
theorem sort_names_ok {l1 : D} (hb : η[b]? = some (.ins 0 NSB [.lst (ks.map kd2), l1, m])) : m_Book_sort_names [.obj b] η = .ok (.lst ((ks.map (·.1)).map .str)) η := by
  have hc : ∀ δ : En, 2 < δ.length → compF (.tp [(.nm 1), (.nm 2)]) fYes (fV 1) δ (ks.map kd2) η = .ok ((ks.map (·.1)).map .str) η := fun δ hδ => by
    have := comp_map (t := .tp [(.nm 1), (.nm 2)]) (ft := fYes) (fe := fV 1) (δw := δ) (η := η) (g := fun d => match d with | .tup (x :: _) => x | d => d) (ds := ks.map kd2) fun x hx => by
      obtain ⟨k, _, rfl⟩ := List.mem_map.mp hx
      have h1 : 1 < δ.length := by omega
      exact ⟨_, rfl, rfl, by simp [h1, hδ, kd2]⟩
    rw [this, List.map_map, List.map_map]
    rfl
  refine run_rt2 (δ := [some (.val (.obj b)), none, none]) rfl ?_
  unfold b_Book_sort_names
  simp [-List.map_map, hb, hc _ (show 2 < (wipeD [some (L.val (.obj b)), none, none] [1, 2]).length by show 2 < 3; decide)]
/-- the row of a word -/
theorem word_row_find {l0 : D} {z : Str} {r : Row} (hb : η[b]? = some (.ins 0 NSB [l0, .lst (rs.map Row.d), m])) (hf : rs.find? (fun r => decide (r.n = z)) = some r) : m_Book_word_row [.obj b, .str z] η = .ok r.d η := by
  have hl : ∀ (rs : List Row) (y : Option L), rs.find? (fun r => decide (r.n = z)) = some r → loopF (.nm 2) (sIf (toB (fOp eqD (fOp ixD (fV 2) (fC (.int 0))) (fV 1))) (sRet (fV 2)) SR.nx) (rs.map Row.d) [some (.val (.obj b)), some (.val (.str z)), y] η = .rt r.d η := fun rs => by
    induction rs with
    | nil => intro y h; cases h
    | cons q rs ih =>
      intro y h
      have hix : ixD q.d (.int 0) = some (.str q.n) := rfl
      rw [List.map_cons, loopF]
      by_cases e : q.n = z
      · rw [List.find?_cons_of_pos (by simpa using e)] at h
        cases h
        simp [hix, e]
        rfl
      · rw [List.find?_cons_of_neg (by simpa using e)] at h
        simp [hix, e]
        exact ih _ h
  refine run_rt2 (δ := [some (.val (.obj b)), some (.val (.str z)), none]) rfl ?_
  unfold b_Book_word_row
  simp [hb, hl rs none hf]
end
end DL
namespace DL
open PySem L2
/-! ### what hearers do -/
abbrev Thing := Str × Int
def takenL (st : List Str) (k : List (Thing × Int)) : Option Thing := (k.find? fun p => decide (p.1.1 ∈ st)).map (·.1)
def movedL (k : List (Thing × Int)) (t : Thing) : List (Thing × Int) := (t, 0) :: k.filter fun p => decide (p.1 ≠ t)
section
variable {η : List O} {b : Nat} {ks : List (Str × Int)} {rs : List Row} {m : D}
/-! ### utterances -/
inductive Item (rs : List Row) where
  | word (r : Row) (z : Str) (h : rs.find? (fun r => decide (r.n = z)) = some r)
  | thing (t : Thing)
def Item.d {rs : List Row} : Item rs → D
  | .word _ z _ => .str z
  | .thing t => kd2 t
def Item.ok {rs : List Row} (ks : List (Str × Int)) : Item rs → Prop
  | .word _ _ _ => True
  | .thing t => t.1 ∈ ks.map (·.1) ∧ 0 ≤ t.2
theorem is_str_s {z : Str} : isD "str" (.str z) = some (.bl true) := by rw [isD_of (by decide) (by simp [D.ty])]; rfl
theorem is_thing_ok (hb : η[b]? = some (.ins 0 NSB [.lst (ks.map kd2), .lst (rs.map Row.d), m])) {t : Thing} (h : t.1 ∈ ks.map (·.1)) (h2 : 0 ≤ t.2) : m_is_thing [.obj b, kd2 t] η = .ok (.bl true) η := by
  have hs := sort_names_ok hb
  refine run_rt2 (δ := [some (.val (.obj b)), some (.val (kd2 t)), none, none]) rfl ?_
  unfold b_is_thing
  generalize hn : ks.map (·.1) = ns at hs h
  simp [kd2, hb, hs, h, h2]
/-! ### one utterance heard -/
def heardL {rs : List Row} : List (Item rs) → List (Thing × Int) → List (Thing × Int) × List (Option Thing)
  | [], k => (k, [])
  | .word r _ _ :: l, k => match takenL r.st k with
    | none => ((heardL l k).1, none :: (heardL l k).2)
    | some t => ((heardL l (movedL k t)).1, some t :: (heardL l (movedL k t)).2)
  | .thing t :: l, k => ((heardL l (movedL k t)).1, some t :: (heardL l (movedL k t)).2)
end
end DL
namespace DL
open PySem L2
section
variable {η : List O} {b h p : Nat} {ks : List (Str × Int)} {rs : List Row} {m : D}
end
end DL
namespace DL
open PySem L2
section
variable {η : List O} {b h p : Nat} {ks : List (Str × Int)} {rs : List Row} {m : D}
end
end DL
namespace DL
open PySem L2
def b_law_book : S := (sSeq (sFrz 3 (fLc [5] (fiA (fSl (fV 1) fNoP (fPt (fOp addD (fC (.int 1)) (fCall 2 m_law_pick (fCons (fV 0) (fCons (fC (.int 3)) fNil))))))) (.nm 5) fYes (fTup (fCons (fV 5) (fCons (fCall 2 m_law_pick (fCons (fV 0) (fCons (fC (.int 100)) fNil))) fNil)))))
    (sSeq (sOwn 4 (fLstN fNil))
    (sSeq (sFor (fiA (fSl (fV 1) (fPt (fC (.int 3))) (fPt (fOp addD (fC (.int 3)) (fCall 2 m_law_pick (fCons (fV 0) (fCons (fOp addD (fV 2) (fC (.int 1))) fNil))))))) (.nm 5) (sSeq (sFrz 6 (fLc [7] (fiA (fV 3)) (.nm 7) (toB (fOp eqD (fCall 2 m_law_pick (fCons (fV 0) (fCons (fC (.int 2)) fNil))) (fC (.int 0)))) (fOp ixD (fV 7) (fC (.int 0)))))
    (sSeq (sSet 6 (fIf (toB (fOp neD (fV 6) (fFrz (fLstN fNil)))) (fV 6) (fFrz (fLstN (fCons (fOp ixD (fCall 2 m_law_of (fCons (fV 0) (fCons (fV 3) fNil))) (fC (.int 0))) fNil)))))
    (sMut 4 muApp (fCons (fTup (fCons (fV 5) (fCons (fCall1 tupC (fV 6)) (fCons (fCall 2 m_law_of (fCons (fV 0) (fCons (fFrz (fLstN (fCons (fC (.int 0)) (fCons (fC (.int 1)) (fCons (fC (.int 2)) (fCons (fC (.int 3)) (fCons (fCall 2 m_law_pick (fCons (fV 0) (fCons (fC (.int 100)) fNil))) fNil))))))) fNil))) fNil)))) fNil)))))
    (sFz 4 (sRet (fTup (fCons (fV 3) (fCons (fV 4) (fCons (fCall 2 m_law_of (fCons (fV 0) (fCons (fFrz (fLstN (fCons (fC .non) (fCons (fC .non) (fCons (fC (.int 1)) (fCons (fC (.int 2)) (fCons (fC (.int 3)) (fCons (fC (.int 4)) fNil)))))))) fNil))) fNil)))))))))
def m_law_book : DF := runD 8 b_law_book
def b_law_made : S := (sRet (fNewIX 0 3 1 4 m_Book___init__ [0, 1, 2, 3] [] (fCons (fFrz (fListN (fOp ixD (fV 0) (fC (.int 0))))) (fCons (fFrz (fListN (fOp ixD (fV 0) (fC (.int 1))))) fNil)) (fCons (fOp ixD (fV 0) (fC (.int 2))) fNil)))
def m_law_made : DF := runD 1 b_law_made
def b_law_stands : S := (sRet (fOp ixD (fFrz (fLc [2, 3, 4] (fiA (fOp ixD (fV 0) (fC (.int 1)))) (.tp [(.nm 2), (.nm 3), (.nm 4)]) (toB (fOp eqD (fV 2) (fV 1))) (fV 3))) (fC (.int 0))))
def m_law_stands : DF := runD 5 b_law_stands
end DL
namespace DL
open PySem L2
@[simp] theorem sParNV_a {δ : En} {η : List O} {i j : Nat} {fs : F (List D)} {fa : F D} : sParNV i j fs fa δ η = (fs δ η).toS δ fun l η => (fa δ η).toS δ fun d η => .nx ((δ.set i (some (.own l))).set j (some (.val d))) η := rfl
@[simp] theorem sPar3_a {δ : En} {η : List O} {i j l : Nat} {fa fb fc : F D} : sPar3 i j l fa fb fc δ η = (fa δ η).toS δ fun d η => (fb δ η).toS δ fun e η => (fc δ η).toS δ fun g η => .nx (((δ.set i (some (.val d))).set j (some (.val e))).set l (some (.val g))) η := rfl
theorem pure_strsN (n : Nat) : ∀ zs : List Str, pureDs n (zs.map .str) = true
  | [] => rfl
  | z :: zs => by rw [List.map_cons, pureDs, pure_strsN n zs]; cases n <;> rfl
theorem neD_nil {zs : List Str} : neD (.lst (zs.map .str)) (.lst []) = some (.bl (!zs.isEmpty)) := by
  unfold neD
  rw [if_pos ⟨pure_strsN 19 zs, rfl⟩]
  cases zs with
  | nil => rfl
  | cons z zs =>
    have : eqvD (.lst ((z :: zs).map .str)) (.lst []) = false := by
      show PyData.eqv (.list (toPy (.str z) :: toPys (zs.map .str))) (.list []) = false
      rw [PyData.eqv, PyData.eqvAll]
      all_goals (intros; simp_all)
    rw [this]; rfl
/-- related, one by one -/
inductive P2 {α β : Type} (Q : α → β → Prop) : List α → List β → Prop
  | nil : P2 Q [] []
  | cons {a : α} {b : β} {l : List α} {m : List β} : Q a b → P2 Q l m → P2 Q (a :: l) (b :: m)
theorem comp_st3 {α β : Type} {t : Tg} {fe : F D} {δw : En} (enc : α → D) (dec : β → D) (P : List O → Prop) (Q : α → β → Prop) (hs : ∀ x η, P η → ∃ δ1, asg t (enc x) δw = some δ1 ∧ ∃ y η', fe δ1 η = .ok (dec y) η' ∧ P η' ∧ Q x y) :
    ∀ {zs : List α} {η : List O}, P η → ∃ ys η', compF t fYes fe δw (zs.map enc) η = .ok (ys.map dec) η' ∧ P η' ∧ P2 Q zs ys
  | [], η, h => ⟨[], η, rfl, h, .nil⟩
  | x :: r, η, h => by
    obtain ⟨δ1, e1, y, η1, e3, h1, q1⟩ := hs x η h
    obtain ⟨ys, η2, e4, h2, q2⟩ := comp_st3 enc dec P Q hs (zs := r) h1
    refine ⟨y :: ys, η2, ?_, h2, .cons q1 q2⟩
    rw [List.map_cons, compF, e1]
    simp only [fYes_a, e3, e4, nox_ok, bind_ok, if_true, List.map_cons]
/-- a comprehension that draws which to take -/
theorem comp_sub {α : Type} {t : Tg} {ft : F Bool} {fe : F D} {δw : En} (enc : α → D) (g : α → D) (P : List O → Prop) (hs : ∀ x η, P η → ∃ δ1, asg t (enc x) δw = some δ1 ∧ ∃ b η', ft δ1 η = .ok b η' ∧ P η' ∧ fe δ1 η' = .ok (g x) η') :
    ∀ {zs : List α} {η : List O}, P η → ∃ (ys : List α) (η' : List O), compF t ft fe δw (zs.map enc) η = .ok (ys.map g) η' ∧ P η' ∧ ys.Sublist zs
  | [], η, h => ⟨[], η, rfl, h, .slnil⟩
  | x :: r, η, h => by
    obtain ⟨δ1, e1, b, η1, e2, h1, e3⟩ := hs x η h
    obtain ⟨ys, η2, e4, h2, q2⟩ := comp_sub enc g P hs (zs := r) h1
    cases b with
    | true =>
      refine ⟨x :: ys, η2, ?_, h2, q2.cons_cons x⟩
      rw [List.map_cons, compF, e1]
      simp only [e2, e3, e4, nox_ok, bind_ok, if_true, List.map_cons]
    | false =>
      refine ⟨ys, η2, ?_, h2, q2.cons x⟩
      rw [List.map_cons, compF, e1]
      simp only [e2, e4, nox_ok, bind_ok, Bool.false_eq_true, if_false]
theorem P2.fst {ns : List Str} {ks : List (Str × Int)} (h : P2 (fun s k => k.1 = s ∧ 0 ≤ k.2 ∧ k.2 ≤ 99) ns ks) : ks.map (·.1) = ns ∧ ∀ k ∈ ks, 0 ≤ k.2 ∧ k.2 ≤ 99 := by
  induction h with
  | nil => exact ⟨rfl, by simp⟩
  | cons q _ ih =>
    refine ⟨by rw [List.map_cons, q.1, ih.1], fun k hk => ?_⟩
    rcases List.mem_cons.mp hk with rfl | hk
    · exact q.2
    · exact ih.2 k hk
theorem cut_take' {zs : List Str} {k : Int} (h0 : 0 ≤ k) (h : k ≤ zs.length) : cutD (zs.map .str) none (some k) = (zs.take k.toNat).map .str := by
  have := cut_take (l := zs.map .str) (m := k.toNat) (by rw [List.length_map]; omega)
  rw [show ((k.toNat : Nat) : Int) = k by omega] at this
  rw [this, List.map_take]
theorem cut_mid {zs : List Str} {k : Int} (h0 : 0 ≤ k) (h3 : 3 ≤ zs.length) (h : 3 + k ≤ zs.length) : cutD (zs.map .str) (some 3) (some (3 + k)) = ((zs.drop 3).take k.toNat).map .str := by
  unfold cutD
  have e1 : HT.sIx (zs.map D.str).length 0 (some 3) = 3 := by simp [HT.sIx]; omega
  have e2 : HT.sIx (zs.map D.str).length (zs.map D.str).length (some (3 + k)) = 3 + k.toNat := by
    have : ¬ 3 + k < 0 := by omega
    simp [HT.sIx, this]; omega
  rw [e1, e2, List.map_take, List.map_drop]
  congr 1
  omega
structure BookDrawn (ks : List (Str × Int)) (rs : List Row) (m : D) : Prop where
  k : KindsOk ks
  k3 : ks.length ≤ 3
  r : RowsOk (ks.map (·.1)) rs
  m : MemOk m
  fit : rs.map (Row.fit (ks.map (·.1))) = rs
theorem filter_sub {names st : List Str} (hn : names.Nodup) (h : st.Sublist names) : (names.filter fun s => decide (s ∈ st)) = st := by
  induction h with
  | slnil => rfl
  | @cons l1 l2 a h ih =>
    have hn2 := (List.nodup_cons.mp hn)
    have : a ∉ l1 := fun q => hn2.1 (h.subset q)
    rw [List.filter_cons_of_neg (by simpa using this)]
    exact ih hn2.2
  | @cons_cons l1 l2 a h ih =>
    have hn2 := (List.nodup_cons.mp hn)
    rw [List.filter_cons_of_pos (by simp)]
    congr 1
    refine Eq.trans ?_ (ih hn2.2)
    refine List.filter_congr fun x hx => ?_
    have : x ≠ a := fun e => hn2.1 (e ▸ hx)
    simp [this]

/-- one row is drawn -/
theorem row_step {fp r : List O} {o : O} (hf : Feed o) {ks : List (Str × Int)} (hK : KindsOk ks) {s : Str} {x1 x2 y6 y7 : Option L} {acc : List D} (hacc : acc.length ≤ 100) :
    ∃ (st : List Str) (p : Int) (o' : O) (z6 : Option L), (sSeq (sFrz 6 (fLc [7] (fiA (fV 3)) (.nm 7) (toB (fOp eqD (fCall 2 m_law_pick (fCons (fV 0) (fCons (fC (.int 2)) fNil))) (fC (.int 0)))) (fOp ixD (fV 7) (fC (.int 0)))))
    (sSeq (sSet 6 (fIf (toB (fOp neD (fV 6) (fFrz (fLstN fNil)))) (fV 6) (fFrz (fLstN (fCons (fOp ixD (fCall 2 m_law_of (fCons (fV 0) (fCons (fV 3) fNil))) (fC (.int 0))) fNil)))))
    (sMut 4 muApp (fCons (fTup (fCons (fV 5) (fCons (fCall1 tupC (fV 6)) (fCons (fCall 2 m_law_of (fCons (fV 0) (fCons (fFrz (fLstN (fCons (fC (.int 0)) (fCons (fC (.int 1)) (fCons (fC (.int 2)) (fCons (fC (.int 3)) (fCons (fCall 2 m_law_pick (fCons (fV 0) (fCons (fC (.int 100)) fNil))) fNil))))))) fNil))) fNil)))) fNil))))
      [some (.val (.obj fp.length)), x1, x2, some (.val (.lst (ks.map kd2))), some (.own acc), some (.val (.str s)), y6, y7] (fp ++ o :: r) = .nx [some (.val (.obj fp.length)), x1, x2, some (.val (.lst (ks.map kd2))), some (.own (acc ++ [Row.d ⟨s, st, p⟩])), some (.val (.str s)), z6, y7] (fp ++ o' :: r) ∧ Feed o' ∧ st ≠ [] ∧ st.Sublist (ks.map (·.1)) ∧ 0 ≤ p ∧ p ≤ 99 := by
  have z0 : (0 : Nat) ≤ sizeLine := Nat.zero_le _
  have z1 : (1 : Nat) ≤ sizeLine := by rw [sizeLine_eq]; decide
  have z3 : (3 : Nat) ≤ sizeLine := by rw [sizeLine_eq]; decide
  have z5 : (5 : Nat) ≤ sizeLine := by rw [sizeLine_eq]; decide
  have hal : acc.length < sizeLine := len_sz (by omega)
  have hc := fun (δ : En) (hδ0 : δ[0]? = some (some (.val (.obj fp.length)))) (hδ : 7 < δ.length) => comp_sub (t := .nm 7) (ft := toB (fOp eqD (fCall 2 m_law_pick (fCons (fV 0) (fCons (fC (.int 2)) fNil))) (fC (.int 0)))) (fe := fOp ixD (fV 7) (fC (.int 0))) (δw := δ) kd2 (fun k => D.str k.1) (fun η => ∃ o, η = fp ++ o :: r ∧ Feed o) (fun x η ⟨o, h, f⟩ => by
    subst h
    obtain ⟨p, o2, e2, f2, p0, p1⟩ := pick0 (fp := fp) (r := r) f 2 (by decide) (by decide)
    have hi : ixD (kd2 x) (.int 0) = some (.str x.1) := rfl
    exact ⟨_, asg_nm, decide (p = 0), fp ++ o2 :: r, by simp [hδ0, e2], ⟨o2, rfl, f2⟩, by simp [hδ, hi]⟩) (zs := ks) (η := fp ++ o :: r) ⟨o, rfl, hf⟩
  obtain ⟨ys, _, ec, ⟨o1, rfl, f1⟩, hs⟩ := hc (wipeD [some (.val (.obj fp.length)), x1, x2, some (.val (.lst (ks.map kd2))), some (.own acc), some (.val (.str s)), y6, y7] [7]) rfl (by show 7 < 8; decide)
  have hy : ys.map (fun k => D.str k.1) = (ys.map (·.1)).map .str := by rw [List.map_map]; rfl
  rw [hy] at ec
  have hsub : (ys.map (·.1)).Sublist (ks.map (·.1)) := hs.map _
  have hne := neD_nil (zs := ys.map (·.1))
  -- what the stands are
  have hst : ∃ (st : List Str) (o2 : O), (fIf (toB (fOp neD (fV 6) (fFrz (fLstN fNil)))) (fV 6) (fFrz (fLstN (fCons (fOp ixD (fCall 2 m_law_of (fCons (fV 0) (fCons (fV 3) fNil))) (fC (.int 0))) fNil)))) [some (.val (.obj fp.length)), x1, x2, some (.val (.lst (ks.map kd2))), some (.own acc), some (.val (.str s)), some (.val (.lst ((ys.map (·.1)).map .str))), y7] (fp ++ o1 :: r) = .ok (.lst (st.map .str)) (fp ++ o2 :: r) ∧ Feed o2 ∧ st ≠ [] ∧ st.Sublist (ks.map (·.1)) := by
    generalize ys.map (·.1) = zs at hsub hne ⊢
    cases zs with
    | nil =>
      obtain ⟨d, o2, e2, f2, hd⟩ := of0 (fp := fp) (r := r) f1 (ks.map kd2) (by rw [List.length_map]; exact hK.l0) (by rw [List.length_map]; have := hK.l1; omega)
      obtain ⟨k, hk, rfl⟩ := List.mem_map.mp hd
      have hi : ixD (kd2 k) (.int 0) = some (.str k.1) := rfl
      refine ⟨[k.1], o2, ?_, f2, by simp, List.singleton_sublist.mpr (List.mem_map_of_mem hk)⟩
      have hne' : neD (.lst []) (.lst []) = some (.bl false) := hne
      simp [z0, z1, hne', e2, hi]
    | cons z zs =>
      refine ⟨z :: zs, o1, ?_, f1, by simp, hsub⟩
      generalize hl : (z :: zs).map D.str = l at hne ⊢
      have hne' : neD (.lst l) (.lst []) = some (.bl true) := hne
      simp [z0, hne']
  obtain ⟨st, o2, e2, f2, n2, s2⟩ := hst
  obtain ⟨p, o3, e3, f3, p0, p1⟩ := pick0 (fp := fp) (r := r) f2 100 (by decide) (by decide)
  obtain ⟨d, o4, e4, f4, hd⟩ := of0 (fp := fp) (r := r) f3 [.int 0, .int 1, .int 2, .int 3, .int p] (by simp) (by simp)
  obtain ⟨q, rfl, q0, q1⟩ : ∃ q : Int, d = .int q ∧ 0 ≤ q ∧ q ≤ 99 := by
    simp only [List.mem_cons, List.not_mem_nil, or_false] at hd
    rcases hd with rfl | rfl | rfl | rfl | rfl
    · exact ⟨0, rfl, by decide, by decide⟩
    · exact ⟨1, rfl, by decide, by decide⟩
    · exact ⟨2, rfl, by decide, by decide⟩
    · exact ⟨3, rfl, by decide, by decide⟩
    · exact ⟨p, rfl, p0, by omega⟩
  refine ⟨st, q, o4, some (.val (.lst (st.map .str))), ?_, f4, n2, s2, q0, q1⟩
  generalize (ys.map (·.1)).map D.str = Y at ec e2
  generalize hS : st.map D.str = S2 at e2
  generalize hKs : ks.map kd2 = KK at *
  rw [sSeq_a]
  have h1 : (sFrz 6 (fLc [7] (fiA (fV 3)) (.nm 7) (toB (fOp eqD (fCall 2 m_law_pick (fCons (fV 0) (fCons (fC (.int 2)) fNil))) (fC (.int 0)))) (fOp ixD (fV 7) (fC (.int 0))))) [some (.val (.obj fp.length)), x1, x2, some (.val (.lst KK)), some (.own acc), some (.val (.str s)), y6, y7] (fp ++ o :: r) = .nx [some (.val (.obj fp.length)), x1, x2, some (.val (.lst KK)), some (.own acc), some (.val (.str s)), some (.val (.lst Y)), y7] (fp ++ o1 :: r) := by
    simp [ec]
  rw [h1, seq_nx, sSeq_a, sSet_a, e2, toS_ok, seq_nx]
  have hrow : Row.d ⟨s, st, q⟩ = .tup [.str s, .tup S2, .int q] := by rw [← hS]; rfl
  rw [hrow]
  simp [e3, e4, z3, z5, hal]
theorem law_book_ok3 {fp r : List O} {o : O} (hf : Feed o) {ns : List Str} (hN : Names ns) {most : Nat} (hl : 3 + most ≤ ns.length) (hl2 : ns.length ≤ 26) (hm : most ≤ 4) :
    ∃ ks rs m o', m_law_book [.obj fp.length, .lst (ns.map .str), .int most] (fp ++ o :: r) = .ok (.tup [.lst (ks.map kd2), .lst (rs.map Row.d), m]) (fp ++ o' :: r) ∧ Feed o' ∧ BookDrawn ks rs m ∧ (∃ j : Nat, j ≤ 3 ∧ ks.map (·.1) = ns.take j) ∧ ∃ i : Nat, i ≤ most ∧ rs.map (·.n) = (ns.drop 3).take i := by
  have z0 : (0 : Nat) ≤ sizeLine := Nat.zero_le _
  have z1 : (1 : Nat) ≤ sizeLine := by rw [sizeLine_eq]; decide
  have z2 : (2 : Nat) ≤ sizeLine := by rw [sizeLine_eq]; decide
  have z3 : (3 : Nat) ≤ sizeLine := by rw [sizeLine_eq]; decide
  have z5 : (5 : Nat) ≤ sizeLine := by rw [sizeLine_eq]; decide
  have z6 : (6 : Nat) ≤ sizeLine := by rw [sizeLine_eq]; decide
  obtain ⟨a, o1, e1, f1, a0, a1⟩ := pick0 (fp := fp) (r := r) hf 3 (by decide) (by decide)
  have ca := cut_take' (zs := ns) (k := 1 + a) (by omega) (by omega)
  -- the kinds
  have hk := fun (δ : En) (hδ0 : δ[0]? = some (some (.val (.obj fp.length)))) (hδ : 5 < δ.length) => comp_st3 (t := .nm 5) (fe := fTup (fCons (fV 5) (fCons (fCall 2 m_law_pick (fCons (fV 0) (fCons (fC (.int 100)) fNil))) fNil))) (δw := δ) D.str kd2 (fun η => ∃ o, η = fp ++ o :: r ∧ Feed o) (fun s k => k.1 = s ∧ 0 ≤ k.2 ∧ k.2 ≤ 99) (fun x η ⟨o, h, f⟩ => by
    subst h
    obtain ⟨p, o2, e2, f2, p0, p1⟩ := pick0 (fp := fp) (r := r) f 100 (by decide) (by decide)
    have g0 : (δ.set 5 (some (.val (.str x))))[0]? = some (some (.val (.obj fp.length))) := by rw [List.getElem?_set_ne (by decide)]; exact hδ0
    exact ⟨_, asg_nm, (x, p), fp ++ o2 :: r, by simp [hδ0, hδ, e2, z2, kd2], ⟨o2, rfl, f2⟩, rfl, p0, by omega⟩) (zs := ns.take (1 + a).toNat) (η := fp ++ o1 :: r) ⟨o1, rfl, f1⟩
  obtain ⟨ks, _, ek, ⟨o2, rfl, f2⟩, hP⟩ := hk (wipeD [some (.val (.obj fp.length)), some (.val (.lst (ns.map .str))), some (.val (.int most)), none, none, none, none, none] [5]) rfl (by show 5 < 8; decide)
  obtain ⟨hks, hpr⟩ := hP.fst
  have hkl : ks.length = (1 + a).toNat := by
    have := congrArg List.length hks
    rw [List.length_map, List.length_take] at this
    omega
  have hnd : (ks.map (·.1)).Nodup := by rw [hks]; exact hN.nd.sublist (List.take_sublist _ _)
  have hK : KindsOk ks := ⟨by omega, by omega, hnd, fun k hk => by
    have hm1 : k.1 ∈ ns := List.mem_of_mem_take (by rw [← hks]; exact List.mem_map_of_mem hk)
    exact ⟨(hN.nm _ hm1).1, (hN.nm _ hm1).2, (hpr k hk).1, (hpr k hk).2⟩⟩
  obtain ⟨c, o3, e3, f3, c0, c1⟩ := pick0 (fp := fp) (r := r) f2 (most + 1) (by omega) (by omega)
  have cm := cut_mid (zs := ns) (k := c) c0 (by omega) (by omega)
  obtain ⟨nm2, hnm2⟩ : ∃ nm2, nm2 = (ns.drop 3).take c.toNat := ⟨_, rfl⟩
  rw [← hnm2] at cm
  have sub2 : nm2.Sublist ns := by rw [hnm2]; exact (List.take_sublist _ _).trans (List.drop_sublist _ _)
  have len2 : nm2.length ≤ 4 := by rw [hnm2, List.length_take]; omega
  generalize hbb : (sSeq (sFrz 6 (fLc [7] (fiA (fV 3)) (.nm 7) (toB (fOp eqD (fCall 2 m_law_pick (fCons (fV 0) (fCons (fC (.int 2)) fNil))) (fC (.int 0)))) (fOp ixD (fV 7) (fC (.int 0)))))
    (sSeq (sSet 6 (fIf (toB (fOp neD (fV 6) (fFrz (fLstN fNil)))) (fV 6) (fFrz (fLstN (fCons (fOp ixD (fCall 2 m_law_of (fCons (fV 0) (fCons (fV 3) fNil))) (fC (.int 0))) fNil)))))
    (sMut 4 muApp (fCons (fTup (fCons (fV 5) (fCons (fCall1 tupC (fV 6)) (fCons (fCall 2 m_law_of (fCons (fV 0) (fCons (fFrz (fLstN (fCons (fC (.int 0)) (fCons (fC (.int 1)) (fCons (fC (.int 2)) (fCons (fC (.int 3)) (fCons (fCall 2 m_law_pick (fCons (fV 0) (fCons (fC (.int 100)) fNil))) fNil))))))) fNil))) fNil)))) fNil))) : S) = bb
  obtain ⟨δ', η', el, o4, pre, suf, rs, y5, y6, q1, q2, q3, q4, q5, q6, q7⟩ := loop_inv (t := .nm 5) (b := bb) (P := fun ds δ η => ∃ (o : O) (pre suf : List Str) (rs : List Row) (y5 y6 : Option L), nm2 = pre ++ suf ∧ ds = suf.map .str ∧ rs.map (·.n) = pre ∧ η = fp ++ o :: r ∧ Feed o ∧ (∀ w ∈ rs, w.st ≠ [] ∧ w.st.Sublist (ks.map (·.1)) ∧ 0 ≤ w.p ∧ w.p ≤ 99) ∧
      δ = [some (.val (.obj fp.length)), some (.val (.lst (ns.map .str))), some (.val (.int most)), some (.val (.lst (ks.map kd2))), some (.own (rs.map Row.d)), y5, y6, none]) (ds := nm2.map .str) (δ := [some (.val (.obj fp.length)), some (.val (.lst (ns.map .str))), some (.val (.int most)), some (.val (.lst (ks.map kd2))), some (.own []), none, none, none]) (η := fp ++ o3 :: r) ⟨o3, [], nm2, [], none, none, rfl, rfl, rfl, rfl, f3, by simp, rfl⟩ fun x rest δ η ⟨o, pre, suf, rs, y5, y6, q1, q2, q3, q4, q5, q6, q7⟩ => by
    subst q4 q7
    cases suf with
    | nil => cases q2
    | cons z suf =>
      cases q2
      have hrl : rs.length = pre.length := by rw [← q3, List.length_map]
      have hpl : pre.length ≤ 4 := by have := congrArg List.length q1; rw [List.length_append] at this; omega
      obtain ⟨st, p, o', z6, es, f', n', s', p0, p1⟩ := row_step (fp := fp) (r := r) q5 hK (s := z) (x1 := some (.val (.lst (ns.map .str)))) (x2 := some (.val (.int most))) (y6 := y6) (y7 := none) (acc := rs.map Row.d) (by rw [List.length_map]; omega)
      rw [hbb] at es
      refine ⟨_, asg_nm, _, _, .inl es, o', pre ++ [z], suf, rs ++ [⟨z, st, p⟩], _, _, by rw [q1]; simp, rfl, by rw [List.map_append, q3]; rfl, rfl, f', fun w hw => ?_, by rw [List.map_append]; rfl⟩
      rcases List.mem_append.mp hw with hw | hw
      · exact q6 w hw
      · rw [List.mem_singleton] at hw
        subst hw
        exact ⟨n', s', p0, p1⟩
  have hs : suf = [] := by cases suf with | nil => rfl | cons _ _ => cases q2
  subst hs q4 q7
  rw [List.append_nil] at q1
  have hrn : rs.map (·.n) = nm2 := by rw [q3, q1]
  have hR : RowsOk (ks.map (·.1)) rs := by
    refine ⟨by have := congrArg List.length hrn; rw [List.length_map] at this; omega, by rw [hrn]; exact hN.nd.sublist sub2, fun w hw => ?_⟩
    obtain ⟨w1, w2, w3, w4⟩ := q6 w hw
    have hmem : w.n ∈ ns := sub2.subset (by rw [← hrn]; exact List.mem_map_of_mem hw)
    have hlen := w2.length_le
    rw [List.length_map] at hlen
    have := hK.l1
    exact ⟨hN.nm _ hmem, by simp, w3, w4, w1, fun s hs => w2.subset hs, hnd.sublist w2, by omega⟩
  have hfit : rs.map (Row.fit (ks.map (·.1))) = rs := by
    have h : rs.map (Row.fit (ks.map (·.1))) = rs.map id := List.map_congr_left fun w hw => by
      unfold Row.fit
      rw [filter_sub hnd (q6 w hw).2.1]
      rfl
    rw [h, List.map_id]
  obtain ⟨m, o5, e5, f5, hmm⟩ := of0 (fp := fp) (r := r) q5 [.non, .non, .int 1, .int 2, .int 3, .int 4] (by decide) (by decide)
  have hM : MemOk m := by
    simp only [List.mem_cons, List.not_mem_nil, or_false] at hmm
    rcases hmm with rfl | rfl | rfl | rfl | rfl | rfl
    · exact .non
    · exact .non
    all_goals exact .int (by decide) (by decide)
  refine ⟨ks, rs, m, o5, run_rt2 (δ := [some (.val (.obj fp.length)), some (.val (.lst (ns.map .str))), some (.val (.int most)), none, none, none, none, none]) rfl ?_, f5, ⟨hK, by omega, hR, hM, hfit⟩, ⟨(1 + a).toNat, by omega, hks⟩, ⟨c.toNat, by omega, by rw [hrn, hnm2]⟩⟩
  unfold b_law_book
  rw [hbb]
  generalize hKK : ks.map kd2 = KK at *
  generalize hRR : rs.map Row.d = RR at *
  generalize hNN : ns.map D.str = NN at *
  generalize hTT : (ns.take (1 + a).toNat).map D.str = TT at *
  generalize hMM : nm2.map D.str = MM at *
  rw [sSeq_a]
  have h1 : (sFrz 3 (fLc [5] (fiA (fSl (fV 1) fNoP (fPt (fOp addD (fC (.int 1)) (fCall 2 m_law_pick (fCons (fV 0) (fCons (fC (.int 3)) fNil))))))) (.nm 5) fYes (fTup (fCons (fV 5) (fCons (fCall 2 m_law_pick (fCons (fV 0) (fCons (fC (.int 100)) fNil))) fNil))))) [some (.val (.obj fp.length)), some (.val (.lst NN)), some (.val (.int most)), none, none, none, none, none] (fp ++ o :: r) = .nx [some (.val (.obj fp.length)), some (.val (.lst NN)), some (.val (.int most)), some (.val (.lst KK)), none, none, none, none] (fp ++ o2 :: r) := by
    simp [e1, ca, ek]
  rw [h1]
  simp [z0, e3, cm]
  rw [el]
  simp [e5, z3, z6]
theorem law_book_ok2 {fp r : List O} {o : O} (hf : Feed o) {ns : List Str} (hN : Names ns) (hl : 7 ≤ ns.length) (hl2 : ns.length ≤ 26) {most : Nat} (hm : most ≤ 4) :
    ∃ ks rs m o', m_law_book [.obj fp.length, .lst (ns.map .str), .int most] (fp ++ o :: r) = .ok (.tup [.lst (ks.map kd2), .lst (rs.map Row.d), m]) (fp ++ o' :: r) ∧ Feed o' ∧ BookDrawn ks rs m ∧ (∃ j : Nat, j ≤ 3 ∧ ks.map (·.1) = ns.take j) ∧ ∃ i : Nat, i ≤ most ∧ rs.map (·.n) = (ns.drop 3).take i := law_book_ok3 hf hN (by omega) hl2 hm
theorem law_book_ok {fp r : List O} {o : O} (hf : Feed o) {ns : List Str} (hN : Names ns) (hl : 7 ≤ ns.length) (hl2 : ns.length ≤ 26) {most : Nat} (hm : most ≤ 4) :
    ∃ ks rs m o', m_law_book [.obj fp.length, .lst (ns.map .str), .int most] (fp ++ o :: r) = .ok (.tup [.lst (ks.map kd2), .lst (rs.map Row.d), m]) (fp ++ o' :: r) ∧ Feed o' ∧ BookDrawn ks rs m := by
  obtain ⟨ks, rs, m, o', e, f, h, _⟩ := law_book_ok2 (fp := fp) (r := r) hf hN hl hl2 hm
  exact ⟨ks, rs, m, o', e, f, h⟩
end DL
namespace DL
open PySem L2
/-- a drawn book, as the laws hand it about -/
def bkT (ks : List (Str × Int)) (rs : List Row) (m : D) : D := .tup [.lst (ks.map kd2), .lst (rs.map Row.d), m]
section
variable {η : List O} {ks : List (Str × Int)} {rs : List Row} {m : D}
theorem bk0 : ixD (bkT ks rs m) (.int 0) = some (.lst (ks.map kd2)) := rfl
theorem bk1 : ixD (bkT ks rs m) (.int 1) = some (.lst (rs.map Row.d)) := rfl
theorem bk2 : ixD (bkT ks rs m) (.int 2) = some m := rfl
theorem law_made_ok (h : BookDrawn ks rs m) : m_law_made [bkT ks rs m] η = .ok (.obj η.length) (η ++ [.ins 0 NSB [.lst (ks.map kd2), .lst (rs.map Row.d), m], .lst ((rs.map (·.n)).map .str)]) := by
  have e := book_init_ok (η := η ++ [.ins 0 [] []]) (n := η.length) (ks := ks) (rs := rs) (m := m) get_last h.k h.r h.m
  unfold bookD at e
  rw [h.fit, set_last, List.append_assoc] at e
  refine run_rt2 (δ := [some (.val (bkT ks rs m))]) rfl ?_
  unfold b_law_made
  simp [-List.map_map, bk0, bk1, bk2, e]
theorem law_stands_ok {z : Str} {r : Row} (hf : rs.find? (fun r => decide (r.n = z)) = some r) : m_law_stands [bkT ks rs m, .str z] η = .ok (.tup (r.st.map .str)) η := by
  have hc : compF (.tp [(.nm 2), (.nm 3), (.nm 4)]) (toB (fOp eqD (fV 2) (fV 1))) (fV 3) (wipeD [some (.val (bkT ks rs m)), some (.val (.str z)), none, none, none] [2, 3, 4]) (rs.map Row.d) η = .ok ((rs.filter fun r => decide (r.n = z)).map fun r => .tup (r.st.map .str)) η := by
    have := comp_filter (t := .tp [(.nm 2), (.nm 3), (.nm 4)]) (ft := toB (fOp eqD (fV 2) (fV 1))) (fe := fV 3) (δw := wipeD [some (.val (bkT ks rs m)), some (.val (.str z)), none, none, none] [2, 3, 4]) (η := η) (p := fun d => match d with | .tup (.str n :: _) => decide (n = z) | _ => false) (g := fun d => match d with | .tup (_ :: s :: _) => s | d => d) (ds := rs.map Row.d) fun x hx => by
      obtain ⟨q, _, rfl⟩ := List.mem_map.mp hx
      refine ⟨[some (.val (bkT ks rs m)), some (.val (.str z)), some (.val (.str q.n)), some (.val (.tup (q.st.map .str))), some (.val (.int q.p))], by simp [Row.d, wipeD], ?_, fun _ => by simp [Row.d]⟩
      show _ = R.ok (decide (q.n = z)) η
      simp
    rw [this, List.filter_map, List.map_map]
    rfl
  have hh : ((rs.filter fun r => decide (r.n = z)).map fun r => D.tup (r.st.map .str)).head? = some (.tup (r.st.map .str)) := by
    rw [List.head?_map, List.head?_filter, hf]; rfl
  refine run_rt2 (δ := [some (.val (bkT ks rs m)), some (.val (.str z)), none, none, none]) rfl ?_
  unfold b_law_stands
  generalize ((rs.filter fun r => decide (r.n = z)).map fun r => D.tup (r.st.map .str)) = l at hc hh
  cases l with
  | nil => cases hh
  | cons x l =>
    cases hh
    have hi : L2.atI (D.tup (r.st.map .str) :: l) 0 = some (.tup (r.st.map .str)) := by rw [atI_of (by decide) (by simp)]; rfl
    simp [bk1, hc, hi]
end
end DL
namespace DL
open PySem L2
section
variable {ks : List (Str × Int)} {rs : List Row} {m : D}
def lineD (l : List Thing) : D := .lst (l.map kd2)
def GoodL (ks : List (Str × Int)) (most : Nat) (l : List Thing) : Prop := l.length ≤ most ∧ ∀ t ∈ l, t.1 ∈ ks.map (·.1) ∧ 0 ≤ t.2
/-! ### words that change no list -/
def frontL : List Thing → List (Thing × Int) → List (Thing × Int)
  | [], k => k
  | t :: ts, k => frontL ts (movedL k t)
/-- items that name the things, one by one -/
inductive For (rs : List Row) : List (Thing × Int) → List (Item rs) → List Thing → Prop
  | nil {k : List (Thing × Int)} : For rs k [] []
  | word {k : List (Thing × Int)} {l : List (Item rs)} {ts : List Thing} {t : Thing} {r : Row} {z : Str} {h : rs.find? (fun r => decide (r.n = z)) = some r} : takenL r.st k = some t → For rs (movedL k t) l ts → For rs k (.word r z h :: l) (t :: ts)
  | thing {k : List (Thing × Int)} {l : List (Item rs)} {ts : List Thing} {t : Thing} : For rs (movedL k t) l ts → For rs k (.thing t :: l) (t :: ts)
theorem For.heard {k : List (Thing × Int)} {l : List (Item rs)} {ts : List Thing} (h : For rs k l ts) : heardL l k = (frontL ts k, ts.map some) := by
  induction h with
  | nil => rfl
  | word e _ ih => first | (rw [heardL, e, ih]; rfl) | (rw [heardL, e]; dsimp only; rw [ih]; rfl)
  | thing _ ih => first | (rw [heardL, ih]; rfl) | (rw [heardL]; dsimp only; rw [ih]; rfl)
theorem For.len {k : List (Thing × Int)} {l : List (Item rs)} {ts : List Thing} (h : For rs k l ts) : l.length = ts.length := by
  induction h with
  | nil => rfl
  | word _ _ ih => rw [List.length_cons, List.length_cons, ih]
  | thing _ ih => rw [List.length_cons, List.length_cons, ih]
theorem For.self : ∀ (ts : List Thing) (k : List (Thing × Int)), For rs k (ts.map Item.thing) ts
  | [], _ => .nil
  | _ :: ts, _ => .thing (For.self ts _)
end
end DL
namespace DL
open PySem L2
def b_law_field : S := (sSeq (sIf (toB (fOp inD (fXf "code" [20, 21, 22, 23, 26, 41] (fV 0)) (fFrz (fLstN (fCons (fC (.str "WrongCount")) fNil))))) (sRet (fXf "what" [20] (fV 0))) SR.nx)
    (sSeq (sIf (toB (fOp inD (fXf "code" [20, 21, 22, 23, 26, 41] (fV 0)) (fFrz (fLstN (fCons (fC (.str "InvalidMemory")) (fCons (fC (.str "InvalidStart")) (fCons (fC (.str "InvalidCount")) (fCons (fC (.str "InvalidSight")) (fCons (fC (.str "UnknownPlace")) fNil))))))))) (sRet (fXf "given" [23] (fV 0))) SR.nx)
    (sSeq (sIf (toB (fOp inD (fXf "code" [20, 21, 22, 23, 26, 41] (fV 0)) (fFrz (fLstN (fCons (fC (.str "InvalidName")) (fCons (fC (.str "AlreadyIn")) (fCons (fC (.str "NotIn")) (fCons (fC (.str "UnknownSort")) (fCons (fC (.str "UnknownWord")) (fCons (fC (.str "UnknownPerson")) fNil)))))))))) (sRet (fXf "name" [41] (fV 0))) SR.nx)
    (sSeq (sIf (toB (fOp inD (fXf "code" [20, 21, 22, 23, 26, 41] (fV 0)) (fFrz (fLstN (fCons (fC (.str "InvalidText")) (fCons (fC (.str "TooMany")) fNil)))))) (sRet (fIf (toB (fOp eqD (fXf "code" [20, 21, 22, 23, 26, 41] (fV 0)) (fC (.str "InvalidText")))) (fXf "line" [] (fV 0)) (fXf "most" [] (fV 0)))) SR.nx)
    (sSeq (sIf (toB (fOp inD (fXf "code" [20, 21, 22, 23, 26, 41] (fV 0)) (fFrz (fLstN (fCons (fC (.str "OtherBook")) (fCons (fC (.str "NothingLeft")) fNil)))))) (sRet (fC .non)) SR.nx)
    (sRet (fIf (toB (fOp eqD (fXf "code" [20, 21, 22, 23, 26, 41] (fV 0)) (fC (.str "UnknownState")))) (fXf "state" [] (fV 0)) (fXf "at" [21, 22, 26] (fV 0)))))))))
def m_law_field : DF := runD 1 b_law_field
end DL
namespace DL
open PySem L2
/-! ### numbers as text -/
section
variable {δ : En} {η : List O} {fa : F D} {c n : Nat} {df : DF} {f : F D} {fs : List (F D)} {acc : Str} {i : Int} {z : Str}
@[simp] theorem jsF_nil : jsF [] acc δ η = .ok (.str acc) η := rfl
@[simp] theorem jsF_cons : jsF (f :: fs) acc δ η = (f δ η).bind fun d η => match d with
    | .str y => if (acc ++ y).length ≤ sizeLine then jsF fs (acc ++ y) δ η else .bad
    | _ => .bad := rfl
@[simp] theorem fmtD_i : fmtD (.int i) = intTx i := rfl
@[simp] theorem strC_i : strC (.int i) = intTx i := rfl
@[simp] theorem fmtD_s : fmtD (.str z) = if z.length ≤ sizeLine then some (.str z) else none := rfl
@[simp] theorem fLenM_a : fLenM c n df fa δ η = (fa δ η).bind fun o η => if insC η c o = true then ((arg n df [o] η).nox).bind fun z η => (match z with | .int i => if 0 ≤ i ∧ i < 2 ^ 63 then .ok (.int i) η else .bad | _ => .bad) else .bad := rfl
@[simp] theorem fReprM_a : fReprM c n df fa δ η = (fa δ η).bind fun o η => if insC η c o = true then ((arg n df [o] η).nox).bind fun z η => (match z with | .str i => .ok (.str i) η | _ => .bad) else .bad := rfl
end
theorem run_ex2 {n : Nat} {b : S} {ds : List D} {η : List O} {c : Nat} {xs : List Str} {l : List D} {δ δ' : En} {η' : List O} (hδ : ds.map (fun d => some (.val d)) ++ List.replicate (n - ds.length) none = δ) (h : b δ η = .exc c xs l δ' η') : runD n b ds η = .exc c xs l η' := by
  subst hδ; unfold runD; rw [h]
/-! ### items that are refused -/
inductive Bad (ks : List (Str × Int)) (rs : List Row) : D → Prop
  | word {z : Str} (h : z ∉ rs.map (·.n)) : Bad ks rs (.str z)
  | thing {t : Thing} (h : t.1 ∈ ks.map (·.1) → t.2 < 0) : Bad ks rs (kd2 t)
section
variable {η : List O} {b h p : Nat} {ks : List (Str × Int)} {rs : List Row} {m : D}
theorem is_thing_no (hb : η[b]? = some (.ins 0 NSB [.lst (ks.map kd2), .lst (rs.map Row.d), m])) {t : Thing} (h : t.1 ∈ ks.map (·.1) → t.2 < 0) : m_is_thing [.obj b, kd2 t] η = .ok (.bl false) η := by
  have hs := sort_names_ok hb
  refine run_rt2 (δ := [some (.val (.obj b)), some (.val (kd2 t)), none, none]) rfl ?_
  unfold b_is_thing
  generalize hn : ks.map (·.1) = ns at hs h
  by_cases e : t.1 ∈ ns
  · have e2 : ¬ 0 ≤ t.2 := by have := h e; omega
    simp [kd2, hb, hs, e, e2]
  · simp [kd2, hb, hs, e]
theorem word_row_none {l0 : D} {z : Str} (hb : η[b]? = some (.ins 0 NSB [l0, .lst (rs.map Row.d), m])) (hf : z ∉ rs.map (·.n)) : m_Book_word_row [.obj b, .str z] η = .exc 41 ["name", "code"] [.str z, .str "UnknownWord"] η := by
  have hl : ∀ (rs : List Row) (y : Option L), z ∉ rs.map (·.n) → ∃ y', loopF (.nm 2) (sIf (toB (fOp eqD (fOp ixD (fV 2) (fC (.int 0))) (fV 1))) (sRet (fV 2)) SR.nx) (rs.map Row.d) [some (.val (.obj b)), some (.val (.str z)), y] η = .nx [some (.val (.obj b)), some (.val (.str z)), y'] η := fun rs => by
    induction rs with
    | nil => intro y h; exact ⟨y, rfl⟩
    | cons q rs ih =>
      intro y h
      have hix : ixD q.d (.int 0) = some (.str q.n) := rfl
      rw [List.map_cons, List.mem_cons, not_or] at h
      obtain ⟨y', e'⟩ := ih (some (.val q.d)) h.2
      refine ⟨y', ?_⟩
      rw [List.map_cons, loopF]
      have e : ¬ q.n = z := fun e => h.1 e.symm
      simp [hix, e]
      exact e'
  obtain ⟨y', e⟩ := hl rs none hf
  refine run_ex2 (δ := [some (.val (.obj b)), some (.val (.str z)), none]) rfl (δ' := [some (.val (.obj b)), some (.val (.str z)), y']) ?_
  unfold b_Book_word_row
  simp [hb, e]
/-! ### why, of these -/
@[simp] theorem fWhy_a {i : Nat} {q : Str} {cs : List Nat} {fld : DF} {f : F D} {δ : En} {η : List O} : fWhy i q cs fld f δ η = if isTbl η i q = true then whyM cs fld (f δ η) else .bad := rfl
end
end DL
namespace DL
open PySem L2
theorem find_of {rs : List Row} {z : Str} (h : z ∈ rs.map (·.n)) : ∃ r0, rs.find? (fun q => decide (q.n = z)) = some r0 := by
  obtain ⟨q, hq, rfl⟩ := List.mem_map.mp h
  cases e : rs.find? (fun q' => decide (q'.n = q.n)) with
  | some r0 => exact ⟨r0, rfl⟩
  | none => exact absurd (List.find?_eq_none.mp e q hq) (by simp)
section
variable {η : List O} {b h p : Nat} {ks : List (Str × Int)} {rs : List Row} {m : D}
/-! ### drawn items -/
/-! ### what the law makes of an utterance -/
/-! ### the hearer is as the law says -/
end
end DL
/-! xs * n for any list that is read -/
namespace PySem
open Sem (wp)
open Builtin
open PySem.AutoSeq1 (wpAny_loadPart')
end PySem
namespace L2
open PySem PySem.Spec PyProof.Rows PySem.SeqAt
section
variable {X : Cx}
end
end L2
namespace DL
open PySem L2
section
variable {X : Cx} {C : Ct}
def mulLD : D → D → Option D
  | .lst l, .int k => if repB l.length k = true then some (.lst (List.replicate k.toNat l).flatten) else none
  | _, _ => none
end
end DL
/-! a, b, c = [..], e, e2: own lists among three -/
namespace DL
open PySem L2
section
variable {X : Cx} {C : Ct} {W : WX} {pos p2 : Pos} {fe fa fb fc fo : F D} {fs fn fm : F (List D)}
def sPar3N (i j l : Nat) (fn : F (List D)) (fb fc : F D) : S := fun δ η => (fn δ η).toS δ fun d η => (fb δ η).toS δ fun e η => (fc δ η).toS δ fun g η => .nx (((δ.set i (some (.own d))).set j (some (.val e))).set l (some (.val g))) η
def sPar3NN (i j l : Nat) (fn fm : F (List D)) (fc : F D) : S := fun δ η => (fn δ η).toS δ fun d η => (fm δ η).toS δ fun e η => (fc δ η).toS δ fun g η => .nx (((δ.set i (some (.own d))).set j (some (.own e))).set l (some (.val g))) η
end
end DL
namespace DL
open PySem L2
section
variable {δ : En} {η : List O} {fa fb fc fe : F D} {fn fm fs : F (List D)} {i j l : Nat}
@[simp] theorem addD_tt {i j : List D} : addD (.tup i) (.tup j) = if i.length + j.length ≤ sizeLine then some (.tup (i ++ j)) else none := rfl
@[simp] theorem slD_t {l : List D} {lo hi : Option Int} : slD (.tup l) lo hi = some (.tup (cutD l lo hi)) := rfl
@[simp] theorem fRev_a : fRev fa δ η = (fa δ η).bind fun d η => lift (revD d) η := rfl
@[simp] theorem revD_l {l : List D} : revD (.lst l) = some (.lst l.reverse) := rfl
@[simp] theorem revD_t {l : List D} : revD (.tup l) = some (.tup l.reverse) := rfl
@[simp] theorem mulLD_l {l : List D} {k : Int} : mulLD (.lst l) (.int k) = if repB l.length k = true then some (.lst (List.replicate k.toNat l).flatten) else none := rfl
@[simp] theorem sSetI_a : sSetI i fe fb δ η = (fe δ η).toS δ fun d η => match δ[i]? with
  | some (some (.own l)) => (fb δ η).toS δ fun k η => match k with
    | .int j => match ixN l.length j with
      | some n => .nx (δ.set i (some (.own (l.set n d)))) η
      | none => .bad
    | _ => .bad
  | _ => .bad := rfl
@[simp] theorem sPar3N_a : sPar3N i j l fn fb fc δ η = (fn δ η).toS δ fun d η => (fb δ η).toS δ fun e η => (fc δ η).toS δ fun g η => .nx (((δ.set i (some (.own d))).set j (some (.val e))).set l (some (.val g))) η := rfl
@[simp] theorem sPar3NN_a : sPar3NN i j l fn fm fc δ η = (fn δ η).toS δ fun d η => (fm δ η).toS δ fun e η => (fc δ η).toS δ fun g η => .nx (((δ.set i (some (.own d))).set j (some (.own e))).set l (some (.val g))) η := rfl
end
end DL
namespace DL
open PySem L2
def b_is_ascending : S := (sRet (fCall1 allC (fFrz (fLc [1, 2] (fiZ (fV 0) (fSl (fV 0) (fPt (fC (.int 1))) fNoP)) (.tp [(.nm 1), (.nm 2)]) fYes (fOp ltD (fV 1) (fV 2))))))
def m_is_ascending : DF := runD 3 b_is_ascending
def b_Policy_starts : S := (sRet (fFrz (fListN (fFld 2 ["state_rows", "start_row"] 1 (fV 0)))))
def m_Policy_starts : DF := runD 1 b_Policy_starts
def b_Policy___len__ : S := (sRet (fCall1 lenD (fFld 2 ["state_rows", "start_row"] 0 (fV 0))))
def m_Policy___len__ : DF := runD 1 b_Policy___len__
end DL
namespace DL
open PySem L2
/-! ### ints in lists and tuples; equality of them -/
theorem pure_ints (n : Nat) : ∀ zs : List Int, pureDs n (zs.map .int) = true
  | [] => rfl
  | z :: zs => by rw [List.map_cons, pureDs, pure_ints n zs]; cases n <;> rfl
theorem inL_ints (z : Int) : ∀ zs : List Int, inL (.int z) (zs.map .int) = decide (z ∈ zs)
  | [] => rfl
  | y :: zs => by
    have ih : (zs.map D.int).any (fun y => eqvD y (.int z)) = decide (z ∈ zs) := inL_ints z zs
    show (eqvD (.int y) (.int z) || (zs.map D.int).any (fun y => eqvD y (.int z))) = decide (z ∈ y :: zs)
    rw [ih, eqv_ii]
    by_cases q : y = z
    · subst q
      rw [decide_eq_true (rfl : y = y), decide_eq_true (List.mem_cons_self : y ∈ y :: zs)]; rfl
    · rw [decide_eq_false q, Bool.false_or]
      refine decide_eq_decide.mpr ⟨fun h => List.mem_cons_of_mem _ h, fun h => ?_⟩
      rcases List.mem_cons.mp h with e | h
      · exact absurd e.symm q
      · exact h
theorem inD_li {z : Int} {zs : List Int} : inD (.int z) (.lst (zs.map .int)) = some (.bl (decide (z ∈ zs))) := by
  unfold inD; dsimp only; rw [inL_ints, if_pos ⟨rfl, pure_ints 20 zs⟩]
theorem inD_ti {z : Int} {zs : List Int} : inD (.int z) (.tup (zs.map .int)) = some (.bl (decide (z ∈ zs))) := by
  unfold inD; dsimp only; rw [inL_ints, if_pos ⟨rfl, pure_ints 20 zs⟩]
theorem notInD_li {z : Int} {zs : List Int} : notInD (.int z) (.lst (zs.map .int)) = some (.bl (!decide (z ∈ zs))) := by unfold notInD; rw [inD_li]; rfl
theorem notInD_ti {z : Int} {zs : List Int} : notInD (.int z) (.tup (zs.map .int)) = some (.bl (!decide (z ∈ zs))) := by unfold notInD; rw [inD_ti]; rfl
theorem neD_nilG {l : List D} (h : pureDs 19 l = true) : neD (.lst l) (.lst []) = some (.bl (!l.isEmpty)) := by
  unfold neD
  rw [if_pos ⟨h, rfl⟩]
  cases l with
  | nil => rfl
  | cons z zs =>
    have : eqvD (.lst (z :: zs)) (.lst []) = false := by
      show PyData.eqv (.list (toPy z :: toPys zs)) (.list []) = false
      rw [PyData.eqv, PyData.eqvAll]
      all_goals (intros; simp_all)
    rw [this]; rfl
theorem cut_drop {l : List D} {m : Nat} (h : m ≤ l.length) : cutD l (some (m : Int)) none = l.drop m := by
  unfold cutD
  have e1 : HT.sIx l.length l.length none = l.length := rfl
  have e2 : HT.sIx l.length 0 (some (m : Int)) = m := by
    have : ¬ (m : Int) < 0 := by omega
    simp [HT.sIx, this]; omega
  rw [e1, e2]
  exact List.take_of_length_le (by rw [List.length_drop]; exact Nat.le_refl _)
@[simp] theorem fSortSet_t {fa : F D} {δ : En} {η : List O} : fSortSet fa δ η = (fa δ η).bind fun d η => match d with
  | .lst l => (match numsOf l with
    | some ns => if ns.length < 64 ∧ (sortU ns).length ≤ sizeLine then .ok ((sortU ns).map .int) η else .bad
    | none => .bad)
  | .tup l => (match numsOf l with
    | some ns => if ns.length < 64 ∧ (sortU ns).length ≤ sizeLine then .ok ((sortU ns).map .int) η else .bad
    | none => .bad)
  | _ => .bad := rfl
/-! ### ascending -/
def ascB : List Int → Bool
  | [] => true
  | [_] => true
  | x :: y :: l => decide (x < y) && ascB (y :: l)
/-! ### a policy's parts -/
abbrev PRow := Int × List Int
def pr (r : PRow) : D := .tup [.int r.1, .tup (r.2.map .int)]
inductive PErr
  | cnt (s : Str) | state (k : Nat) | start (i : Int)
def stateB (r : PRow) (n : Nat) : Bool := decide (r.1 ∈ [(0:Int), 1]) && (decide (1 ≤ r.2.length) && decide (r.2.length ≤ 6)) && (ascB r.2 && r.2.all fun x => decide (0 ≤ x) && decide (x < n))
def startB (n : Nat) (p : Option Int) (x : Int) : Bool := (decide (0 ≤ x) && decide (x < n)) && (match p with | none => true | some y => decide (y < x))
def badStart (n : Nat) : Option Int → List Int → Option Int
  | _, [] => none
  | p, x :: l => if startB n p x = true then badStart n (some x) l else some x
section
variable {η : List O}
theorem all_bls (l : List Bool) : allC (.lst (l.map .bl)) = some (.bl (l.all fun b => b)) := by
  have := blsOf_map (fun b : Bool => b) l
  rw [List.map_id'] at this
  show (blsOf _).map _ = _
  rw [this]; rfl
end
end DL
namespace DL
open PySem L2
/-- the place before, as a list's last item -/
inductive Prev : List Int → Option Int → Prop
  | nil : Prev [] none
  | snoc {q : List Int} {p : Int} : Prev (q ++ [p]) (some p)
section
variable {η : List O}
end
end DL
namespace DL
open PySem L2
def StOk (n : Nat) (st : List Int) : Prop := st ≠ [] ∧ badStart n none st = none
end DL
namespace DL
open PySem L2
/-! ### Book.__init__ at any sorts, rows and memory -/
inductive MemAny : D → Prop
  | non : MemAny .non
  | int {m : Int} : MemAny (.int m)
inductive BErr
  | cnt (s : Str) | sort (k : Nat) | word (k : Nat) | mem (m : D)
section
variable {η : List O}
end
end DL
namespace DL
open PySem L2
/-! ### what a book that is let has -/
section
variable {η : List O}
end
end DL
namespace DLW
open PySem PySem.W PyProof.Rows
section
variable {prog : Program} {w : World} {A : Around} {E : Value → Shared → Prop} {s : Shared} {K : PySem.W.Frag} {x C L f : Addr} {h₀ : Heap} {m : Str → Option Value} {ox : Obj} {od : Option Obj} {b : Value}
end
end DLW
namespace DLW
open PySem PySem.W PyProof.Rows
section
variable {prog : Program} {w : World} {A : Around} {E : Value → Shared → Prop} {s : Shared} {K : PySem.W.Frag} {x C L f : Addr} {h₀ : Heap} {m : Str → Option Value} {ox : Obj} {od : Option Obj} {b : Value}
end
end DLW
namespace DL
open PySem L2
section
variable {X : Cx} {C : Ct} {W : WX} {pos p2 p : Pos} {e a b : Expr} {es : List Expr} {fe fa fb fo : F D} {fs fn fk : F (List D)} {E : XK}
variable {P : Program} {k n : Nat} {g A : Addr} {fd : FuncData} {ps ks : List Str} {df : DF} {x : Str}
/-! ### o != q, both of one class of the text's own that has __eq__ alone -/
/-! ### o + e, o - e by an own method, e of a built-in type or of the same class -/
def okT (T : List String) (o : D) : Bool := match tyN o with
  | some t => T.contains t
  | none => false
def fBinMX (c n : Nat) (df : DF) (T : List String) (fa fb : F D) : F D := fun δ η => (fa δ η).bind fun d η => (fb δ η).bind fun o η => if insC η c d = true ∧ okT T o = true then arg n df [d, o] η else .bad
def fBinM (c n : Nat) (df : DF) (T : List String) (fa fb : F D) : F D := fun δ η => (fa δ η).bind fun d η => (fb δ η).bind fun o η => if insC η c d = true ∧ okT T o = true then (arg n df [d, o] η).nox else .bad
@[simp] theorem fBinMX_a {c n : Nat} {df : DF} {T : List String} {fa fb : F D} {δ : En} {η : List O} : fBinMX c n df T fa fb δ η = (fa δ η).bind fun d η => (fb δ η).bind fun o η => if insC η c d = true ∧ okT T o = true then arg n df [d, o] η else .bad := rfl
@[simp] theorem fBinM_a {c n : Nat} {df : DF} {T : List String} {fa fb : F D} {δ : En} {η : List O} : fBinM c n df T fa fb δ η = (fa δ η).bind fun d η => (fb δ η).bind fun o η => if insC η c d = true ∧ okT T o = true then (arg n df [d, o] η).nox else .bad := rfl
end
end DL
namespace DL
open PySem L2
@[simp] theorem fEqM_a {c n : Nat} {df : DF} {fa fb : F D} {δ : En} {η : List O} : fEqM c n df fa fb δ η = (fa δ η).bind fun d η => (fb δ η).bind fun o η => if insC η c d = true ∧ insC η c o = true then ((arg n df [d, o] η).nox).bind fun z η => (match z with | .bl b => .ok (.bl b) η | _ => .bad) else .bad := rfl
end DL
namespace DL
open PySem L2
/-! ### equality of data without bools is equality -/
mutual
def datD : D → Bool
  | .non => true
  | .int _ => true
  | .str _ => true
  | .lst l => datDs l
  | .tup l => datDs l
  | _ => false
def datDs : List D → Bool
  | [] => true
  | d :: l => datD d && datDs l
end
mutual
theorem eqv_dat : ∀ d e : D, datD d = true → datD e = true → (PyData.eqv (toPy d) (toPy e) = true ↔ d = e)
  | d, e, hd, he => by
    cases d <;> first | (exfalso; simp [datD] at hd; done) | skip
    all_goals (cases e <;> first | (exfalso; simp [datD] at he; done) | skip)
    all_goals first
      | (simp only [toPy, PyData.eqv, D.int.injEq, D.str.injEq, beq_iff_eq]; done)
      | (simp only [toPy, PyData.eqv]; simp; done)
      | skip
    · rename_i l m
      rw [datD] at hd he
      rw [toPy, toPy, PyData.eqv, eqvs_dat l m hd he]; simp
    · rename_i l m
      rw [datD] at hd he
      rw [toPy, toPy, PyData.eqv, eqvs_dat l m hd he]; simp
theorem eqvs_dat : ∀ l m : List D, datDs l = true → datDs m = true → (PyData.eqvAll (toPys l) (toPys m) = true ↔ l = m)
  | [], [], _, _ => by simp [toPys, PyData.eqvAll]
  | [], _ :: _, _, _ => by simp [toPys, PyData.eqvAll]
  | _ :: _, [], _, _ => by simp [toPys, PyData.eqvAll]
  | d :: l, e :: m, hd, he => by
    rw [datDs, Bool.and_eq_true] at hd he
    rw [toPys, toPys, PyData.eqvAll, Bool.and_eq_true, eqv_dat d e hd.1 he.1, eqvs_dat l m hd.2 he.2]
    simp
end
open Classical in
theorem eqvD_dat {d e : D} (hd : datD d = true) (he : datD e = true) : eqvD d e = decide (d = e) := by
  have h := eqv_dat d e hd he
  unfold eqvD
  by_cases z : d = e
  · rw [h.mpr z]; simp [z]
  · have : ¬ PyData.eqv (toPy d) (toPy e) = true := fun q => z (h.mp q)
    simp [z, this]
open Classical in
theorem eqD_dat {d e : D} (hd : datD d = true) (he : datD e = true) (pd : okq d = true) (pe : okq e = true) : eqD d e = some (.bl (decide (d = e))) := by
  unfold eqD; rw [if_pos ⟨pd, pe⟩, eqvD_dat hd he]
open Classical in
theorem neD_dat {d e : D} (hd : datD d = true) (he : datD e = true) (pd : okq d = true) (pe : okq e = true) : neD d e = some (.bl (!decide (d = e))) := by
  unfold neD; rw [if_pos ⟨pd, pe⟩, eqvD_dat hd he]
theorem pureDs_iff {n : Nat} {l : List D} : pureDs n l = true ↔ ∀ d ∈ l, pureD n d = true := by
  induction l with
  | nil => simp [pureDs]
  | cons d l ih => rw [pureDs, Bool.and_eq_true, ih]; simp
theorem pureDs_map {α : Type} {n : Nat} {f : α → D} {l : List α} (h : ∀ x ∈ l, pureD n (f x) = true) : pureDs n (l.map f) = true := pureDs_iff.mpr fun d hd => by
  obtain ⟨x, hx, rfl⟩ := List.mem_map.mp hd
  exact h x hx
theorem dat_kd2 (k : Str × Int) : datD (kd2 k) = true := rfl
end DL
namespace DL
open PySem L2
end DL
namespace DL
open PySem L2
section
variable {η : List O} {a b : Nat}
structure OkD (x : D) : Prop where
  d : datD x = true
  p : okq x = true
end
/-! ### loops -/
theorem rngD_eq (n : Nat) : rngD 0 n = (List.range' 0 n).map fun k : Nat => D.int (k : Int) := by
  unfold rngD
  rw [List.range_eq_range']
  apply List.map_congr_left
  intro k _
  rw [Int.zero_add]
theorem at_map {α : Type} {f : α → D} {l : List α} {k : Nat} {x : α} (h : l[k]? = some x) : L2.atI (l.map f) (k : Int) = some (f x) := by
  obtain ⟨h1, h2⟩ := List.getElem?_eq_some_iff.mp h
  rw [atI_of (Int.natCast_nonneg k) (by rw [List.length_map]; omega)]
  simp [h2]
theorem cut_from {l : List D} {k : Nat} (h : k + 1 ≤ l.length) : cutD l (some ((k : Int) + 1)) none = l.drop (k + 1) := by
  have := cut_drop (l := l) (m := k + 1) h
  rw [← this]; rfl
theorem sz (n : Nat) (h : n ≤ 1000) : n ≤ sizeLine := by rw [sizeLine_eq]; omega
end DL
namespace PySem.SeqAt
open AutoSeq1 (wpAny_loadPart')
open MeetsSeq MeetsSeq2 MeetsSeq3 SeqRoads2
/-- tuples compared pair by pair, a comparison may change the state -/
def TChain (M : Model) (A : Around) (E : Value → Shared → Prop) (R : Bool → Shared → Prop) (fin : Bool) : List (Value × Value) → Shared → Prop
  | [], s => R fin s
  | p :: r, s => wpAny M A (eqBool p.1 p.2) (fun b s' => if b = true then TChain M A E R fin r s' else R false s') E s
section
variable {prog : Program} {w : World}
theorem TChain.mono {M : Model} {A : Around} {E : Value → Shared → Prop} {R R' : Bool → Shared → Prop} {fin : Bool} (h : ∀ c s, R c s → R' c s) : ∀ {zs : List (Value × Value)} {s : Shared}, TChain M A E R fin zs s → TChain M A E R' fin zs s
  | [], s, q => h _ _ q
  | p :: r, s, q => wpAny_mono q (fun b s' z => by
      cases b with
      | true => rw [if_pos rfl] at z ⊢; exact TChain.mono h z
      | false => rw [if_neg Bool.false_ne_true] at z ⊢; exact h _ _ z) fun _ _ e => e
end
end PySem.SeqAt
namespace DL
open PySem L2
/-- d == e for two pairs whose second items may be objects of one own class -/
def cmpT2 (c n : Nat) (df : DF) (d e : D) (η : List O) : R Bool := match d, e with
  | .tup [a1, a2], .tup [b1, b2] => if okq a1 = true ∧ okq b1 = true then
      if eqvD a1 b1 = true then
        if okq a2 = true ∧ okq b2 = true then .ok (eqvD a2 b2) η else match a2, b2 with
          | .obj i, .obj j => if i ≠ j ∧ insC η c (.obj i) = true ∧ insC η c (.obj j) = true then ((arg n df [.obj i, .obj j] η).nox).bind fun z η => (match z with | .bl b => .ok b η | _ => .bad) else .bad
          | _, _ => .bad
      else .ok false η
    else .bad
  | _, _ => .bad
def fCmpT (c n : Nat) (df : DF) (neg : Bool) (fa fb : F D) : F D := fun δ η => (fa δ η).bind fun d η => (fb δ η).bind fun e η => (cmpT2 c n df d e η).bind fun b η => .ok (.bl (neg != b)) η
@[simp] theorem fCmpT_a {c n : Nat} {df : DF} {neg : Bool} {fa fb : F D} {δ : En} {η : List O} : fCmpT c n df neg fa fb δ η = (fa δ η).bind fun d η => (fb δ η).bind fun e η => (cmpT2 c n df d e η).bind fun b η => .ok (.bl (neg != b)) η := rfl
section
variable {X : Cx} {C : Ct} {W : WX} {pos p2 p : Pos} {e a b : Expr} {es : List Expr} {fe fa fb fo : F D} {fs fn fk : F (List D)} {E : XK}
variable {P : Program} {k n : Nat} {g A : Addr} {fd : FuncData} {ps ks : List Str} {df : DF} {x : Str}
end
end DL
namespace DL
open PySem L2
def b_Book_words : S := (sRet (fFrz (fListN (fFld 0 ["sort_rows", "word_rows", "own_memory"] 1 (fV 0)))))
def m_Book_words : DF := runD 1 b_Book_words
end DL
namespace DL
open PySem L2
section
variable {η : List O} {a : Nat} {ks : List (Str × Int)} {rs : List Row} {m m' : D}
end
end DL
namespace DL
open PySem L2
theorem MemOk.any {m : D} (h : MemOk m) : MemAny m := by cases h <;> constructor
section
variable {ks : List (Str × Int)} {rs : List Row} {m : D}
end
mutual
theorem sam_of : ∀ (n : Nat) (d : D), pureD n d = true → samB (n + 1) d = true
  | _, .non, _ => rfl
  | _, .bl _, _ => rfl
  | _, .int _, _ => rfl
  | _, .str _, _ => rfl
  | 0, .lst _, h => by simp [pureD] at h
  | 0, .tup _, h => by simp [pureD] at h
  | n + 1, .lst l, h => by rw [pureD] at h; rw [samB]; exact sams_of n l h
  | n + 1, .tup l, h => by rw [pureD] at h; rw [samB]; exact sams_of n l h
  | n, .ins _ _ _, h => by cases n <;> simp [pureD] at h
  | n, .obj _, h => by cases n <;> simp [pureD] at h
  | n, .exn _ _ _, h => by cases n <;> simp [pureD] at h
  | n, .cls _, h => by cases n <;> simp [pureD] at h
theorem sams_of : ∀ (n : Nat) (l : List D), pureDs n l = true → samL (n + 1) l = true
  | _, [], _ => rfl
  | n, d :: l, h => by
    rw [pureDs, Bool.and_eq_true] at h
    rw [samL, sam_of n d h.1, sams_of n l h.2]; rfl
end
end DL
namespace DL
open PySem PySem.Spec PyProof.Rows L2
/-! ### a def with a star parameter, called without keywords -/
section
variable {P : Program} {w : World} {K : PySem.W.Frag} {mg : Str → Option Value} {base : Heap} {C : Ct}
end
section
variable {X : Cx} {C : Ct} {W : WX} {pos p2 p : Pos} {e a b : Expr} {es : List Expr} {fe fa fb fo : F D} {fs fn fk : F (List D)} {E : XK}
variable {P : Program} {k n np : Nat} {g A f : Addr} {fd : FuncData} {ps ks : List Str} {df : DF} {x : Str} {c : Nat}
def mkR (c np : Nat) (df : DF) (ds : List D) (η : List O) : R D := if np ≤ ds.length + 1 ∧ ds.length < sizeLine then (df ((.obj η.length :: ds).take np ++ [.tup ((.obj η.length :: ds).drop np)]) (η ++ [.ins c [] []])).bind fun z η2 => (match z with
  | .non => .ok (.obj η.length) η2
  | _ => .bad) else .bad
def fNewRX (c np : Nat) (df : DF) (fs : F (List D)) : F D := fun δ η => (fs δ η).bind fun ds η => mkR c np df ds η
def fNewR (c np : Nat) (df : DF) (fs : F (List D)) : F D := fun δ η => (fs δ η).bind fun ds η => (mkR c np df ds η).nox
@[simp] theorem fNewRX_a {δ : En} {η : List O} : fNewRX c np df fs δ η = (fs δ η).bind fun ds η => mkR c np df ds η := rfl
@[simp] theorem fNewR_a {δ : En} {η : List O} : fNewR c np df fs δ η = (fs δ η).bind fun ds η => (mkR c np df ds η).nox := rfl
variable (hg : Gl X x := by rfl)
end
end DL
/-! a comprehension's loop at any depth, told once; a set of ints made by two fors -/
namespace CG
open PySem PySem.Spec PyProof.Rows L2
/-- a wish that nothing is raised -/
abbrev NE : Value → Shared → Prop := fun _ _ => False
abbrev tests (ifs : List Expr) (env : Env) : Sem Bool := forIn ifs true fun c r => if r = true then do let ok ← isTrue c env (eval c env); pure (ForInStep.yield ok) else pure (ForInStep.yield r)
section
variable {P : Program} {w : World} {A : Around} {R : Result → Shared → Prop} {s : Shared} {elt t : Expr} {gs : List Comprehension} {scope : Scope} {pos : Pos} {d : Nat} {it acc : Value} {env : Env} {i : Pos} {ifs : List Expr} {emit : Sem PySem.Fin}
def Turns (e t : Expr) (d : Nat) (it acc : Value) (env : Env) (i : Pos) (ifs : List Expr) (emit : Sem PySem.Fin) : Prop := compTurn e d it acc env = (do
  standAt i
  match ← pyNext it with
  | none => pure (.done .next)
  | some v =>
    letOwnedTupleGo t it v
    assign t env v
    let mut ok := true
    for c in ifs do
      if ok then ok ← isTrue c env (eval c env)
    if ok then emit else again (.compLoop e d it acc env))
/-- one depth's loop by an invariant -/
theorem loop_any (hT : Turns (.SetComp elt gs scope pos) t d it acc env i ifs emit) (I : Nat → Shared → Prop)
    (step : ∀ n s, I n s → wpAny (model P w) A (pyNext it) (fun r s1 => match r with
      | none => R (.ok .next) s1
      | some v => wpAny (model P w) A (letOwnedTupleGo t it v) (fun _ s2 => wpAny (model P w) A (assign t env v) (fun _ s3 => wpAny (model P w) A (tests ifs env) (fun ok s4 =>
          if ok = true then wpAny (model P w) A emit (fun f s5 => f = .again (.compLoop (.SetComp elt gs scope pos) d it acc env) ∧ ∃ m, m < n ∧ I m s5) NE s4 else ∃ m, m < n ∧ I m s4) NE s3) NE s2) NE s1) NE s) (n : Nat) (h : I n s) :
    codeAny (model P w) A (.compLoop (.SetComp elt gs scope pos) d it acc env) R s := by
  refine codeAny_loop rfl I (fun n s hI => ?_) n h
  show wpAny _ A ((compTurn (.SetComp elt gs scope pos) d it acc env).onRaise (fun x => do noteFrame x env; theTreesLotGoes x)) _ _ s
  refine wpAny_noted ?_
  rw [hT]
  refine wpAny_bind (wpAny_standAt (wpAny_bind (wpAny_mono (step n s hI) (fun r s1 h1 => ?_) fun _ _ z => z.elim)))
  match r, h1 with
  | none, h1 => exact wpAny_pure h1
  | some v, h1 =>
    refine wpAny_bind (wpAny_mono h1 (fun _ s2 h2 => wpAny_bind (wpAny_mono h2 (fun _ s3 h3 => wpAny_bind (wpAny_mono h3 (fun ok s4 h4 => ?_) fun _ _ z => z.elim)) fun _ _ z => z.elim)) fun _ _ z => z.elim)
    cases ok with
    | false => exact wpAny_pure ⟨rfl, h4⟩
    | true => exact wpAny_mono h4 (fun f s5 ⟨e, h5⟩ => by subst e; exact ⟨rfl, h5⟩) fun _ _ z => z.elim
end
section
variable {Y : Cx} {R : Result → Shared → Prop} {elt tg : Expr} {gs : List Comprehension} {scope : Scope} {pos i : Pos} {d : Nat} {acc : Value} {ifs : List Expr} {emit : Sem PySem.Fin} {J : It} {fp : List Addr} {it : Addr} {tn : Nat → Heap → Prop} {g : TG} {tt : TT} {p0 : List (Addr × Obj)} {σw : L2.St} {vs : List Nat}
/-- one depth's walk: the data's turns give the loop -/
theorem walk (hT : Turns (.SetComp elt gs scope pos) tg d (.ref it) acc Y.env i ifs emit) (hc : Y.calm = true) (hE : ∀ e s, Y.xe e s → False) (T : Turn Y.prog Y.w Y.K tg J fp it tn) (pg : PG Y tg g) (pt : PTs Y ifs tt)
    (static : ∀ H : Hp, (∀ b ∈ fp, H b = none) → ∀ b ∈ fp, FpOk Y p0 H b) (BT : L2.St → Hp → (Hp → Prop) → Prop)
    (hb : ∀ (pins : List (Addr × Obj)) (s : Shared) (σ : L2.St) (H : Hp) (Nx : Hp → Prop), Inv Y pins σ H s → BT σ H Nx → wpAny (model Y.prog Y.w) Y.A emit (fun f s' => f = .again (.compLoop (.SetComp elt gs scope pos) d (.ref it) acc Y.env) ∧ ∃ H', Inv Y pins (wipe σ vs) H' s' ∧ Nx H') NE s)
    (W : Nat → Nat → Hp → Prop) (Done : Hp → Prop)
    (turn : ∀ i m H, W i m H → (J.stop i H ∧ Done H) ∨ (J.go i H ∧ ∃ Nx : Hp → Prop, (∀ H', Nx H' → ∃ m', m' < m ∧ W (i + 1) m' H') ∧ ∀ x H', J.yld i H x H' → g x σw H' fun σ2 H2 => wipe σ2 vs = σw ∧ tt σ2 H2 fun b H3 => if b = true then BT σ2 H3 Nx else Nx H3))
    (fin : ∀ H s, Inv Y p0 σw H s → Done H → R (.ok .next) s) {s : Shared} {H : Hp} {m : Nat} (I0 : Inv Y p0 σw H s) (t0 : tn 0 s.heap) (f0 : ∀ b ∈ fp, H b = none) (w0 : W 0 m H) :
    codeAny (model Y.prog Y.w) Y.A (.compLoop (.SetComp elt gs scope pos) d (.ref it) acc Y.env) R s := by
  refine loop_any hT (fun n s' => ∃ i H', Inv Y p0 σw H' s' ∧ tn i s'.heap ∧ (∀ b ∈ fp, H' b = none) ∧ W i n H') ?_ m ⟨0, H, I0, t0, f0, w0⟩
  rintro n s1 ⟨k, H1, I1, t1, f1, w1⟩
  rcases turn k n H1 w1 with ⟨stop, dn⟩ | ⟨go, Nx, hNx, step⟩
  · refine wpAny_mono (T.done Y rfl rfl rfl hc k p0 s1 σw H1 NE I1 (static H1 f1) t1 stop) (fun r s2 z => ?_) fun _ _ z => z
    obtain ⟨rfl, I2⟩ := z
    exact fin H1 s2 I2 dn
  · refine wpAny_mono (T.item Y rfl rfl rfl hc k p0 s1 σw H1 NE I1 (static H1 f1) t1 go) (fun r s2 z => ?_) fun _ _ z => z
    obtain ⟨u, rfl, z⟩ := z
    refine wpAny_mono z (fun _ s3 z => ?_) fun _ _ z => z
    obtain ⟨x, H3, I3, r3, y3, t3, f3⟩ := z
    have I3' := I3.pinned (static H3 f3) (T.obj _ _ t3)
    -- the turn ends in the block's slots
    have close : ∀ {s' : Shared} {H' : Hp}, Inv Y (p0 ++ pinsAt fp s3.heap) σw H' s' → Nx H' → ∃ m, m < n ∧ ∃ i H', Inv Y p0 σw H' s' ∧ tn i s'.heap ∧ (∀ b ∈ fp, H' b = none) ∧ W i m H' := fun {s' H'} I' nx => by
      obtain ⟨m', hm, w'⟩ := hNx H' nx
      have at' : ∀ b ∈ fp, ∀ o, s3.heap.get? b = some o → s'.heap.get? b = some o ∧ H' b = none := fun b hb o e => by
        have q := I'.pin (b, o) (List.mem_append_right _ (List.mem_append_right _ (mem_pinsAt hb e)))
        exact ⟨q.1, q.2.1⟩
      refine ⟨m', hm, k + 1, H', I'.unpinned, T.keep _ _ _ t3 fun b hb o e => (at' b hb o e).1, fun b hb => ?_, w'⟩
      obtain ⟨o, e, _⟩ := T.obj _ _ t3 b hb
      exact (at' b hb o e).2
    refine wpAny_mono (pg.run _ s3 σw H3 x u _ I3' r3 (step x H3 y3)) (fun _ s4 z => ?_) fun _ _ z => (hE _ _ z).elim
    obtain ⟨σ4, H4, I4, hw, q4⟩ := z
    have weak : ∀ {s' : Shared} {H' : Hp}, Inv Y (p0 ++ pinsAt fp s3.heap) σ4 H' s' → Inv Y (p0 ++ pinsAt fp s3.heap) (wipe σ4 vs) H' s' := fun I' => I'.weak (wipe_length _ _) fun j v e => (wipe_some e).1
    refine wpAny_mono (pt.run _ s4 σ4 H4 _ I4 q4) (fun b s5 z => ?_) fun _ _ z => (by first | exact z.elim | exact (hE _ _ z).elim)
    obtain ⟨H5, I5, q5⟩ := z
    cases b with
    | false =>
      simp only [Bool.false_eq_true, if_false] at q5 ⊢
      have := weak I5
      rw [hw] at this
      exact close this q5
    | true =>
      simp only [if_true] at q5 ⊢
      refine wpAny_mono (hb _ s5 σ4 H5 Nx I5 q5) (fun _ s6 z => ?_) fun _ _ z => z
      obtain ⟨rfl, H6, I6, nx⟩ := z
      rw [hw] at I6
      exact ⟨rfl, close I6 nx⟩
end
/-! ### two fors -/
section
variable {Y : Cx} {elt tg iter tg1 iter1 : Expr} {ifs ifs1 : List Expr} {scope : Scope} {pos : Pos} {D : Addr} {wi1 : TI} {g1 : TG} {tt1 : TT} {te : TE} {vs vs1 : List Nat}
end
section
variable {X : Cx}
end
end CG
namespace DL
open PySem L2
open PyProof.Rows (envOfC)
section
/-- the second for's list, turn by turn -/
def compF2 (t : Tg) (ft : F Bool) (fi1 : F (List D)) (t1 : Tg) (ft1 : F Bool) (fe : F D) (vs1 : List Nat) (δw : En) : List D → List O → R (List D)
  | [], η => .ok [] η
  | x :: r, η => match asg t x δw with
    | none => .bad
    | some δ1 => (ft δ1 η).nox.bind fun b η => if b = true then (fi1 δ1 η).nox.bind fun es η => (compF t1 ft1 fe (wipeD δ1 vs1) es η).nox.bind fun l η => (compF2 t ft fi1 t1 ft1 fe vs1 δw r η).bind fun ys η => .ok (l ++ ys) η
      else compF2 t ft fi1 t1 ft1 fe vs1 δw r η
def fC2 (k : List D → List O → R (List D)) (vs vs1 : List Nat) (fi : F (List D)) (t : Tg) (ft : F Bool) (fi1 : F (List D)) (t1 : Tg) (ft1 : F Bool) (fe : F D) : F (List D) :=
  fun δ η => (fi δ η).bind fun ds η => (compF2 t ft fi1 t1 ft1 fe vs1 (wipeD δ vs) ds η).nox.bind k
/-- what is at P while a list is gathered there -/
structure AccK (C : Ct) (P : Addr) (o0 : HO) (addP : V → Hp → (Hp → Prop) → Prop) (A : Gh → Hp → List D → Prop) (OK : List D → Prop) (k : List D → List O → R (List D)) : Prop where
  init : ∀ {G : Gh} {H : Hp}, A G (upd H P o0) []
  keep : ∀ {G G' : Gh} {H H' : Hp} {acc : List D}, A G H acc → Stab G H G' H' → H' P = H P → A G' H' acc
  there : ∀ {G : Gh} {H : Hp} {acc : List D}, A G H acc → ∃ o, H P = some o
  pre : ∀ {a b : List D}, OK (a ++ b) → OK a
  ask : ∀ {l : List D} {η : List O}, OK l ∨ k l η = .bad
  add : ∀ {G : Gh} {H : Hp} {acc : List D} {d : D} {v : V} {N : Hp → Prop}, A G H acc → Rp C G H d v → G.M P → OK (acc ++ [d]) → (∀ o, A G (upd H P o) (acc ++ [d]) → N (upd H P o)) → addP v H N
mutual
theorem asg_owns : ∀ (t : Tg) {d : D} {δ δ' : En}, asg t d δ = some δ' → ∀ {i : Nat} {l : L}, δ'[i]? = some (some l) → l.owns = true → i ∉ t.sl ∧ δ[i]? = some (some l)
  | .nm i, d, δ, δ', h, j, l, hj, ho => by
    rw [asg] at h
    cases h
    rcases getSet hj with ⟨_, z⟩ | ⟨z1, z2⟩
    · cases z; cases ho
    · exact ⟨by simpa [Tg.sl] using z1, z2⟩
  | .tp ts, d, δ, δ', h, j, l, hj, ho => by
    cases d with
    | tup ds => rw [asg] at h; rw [Tg.sl]; exact asgs_owns ts h hj ho
    | _ => simp [asg] at h
theorem asgs_owns : ∀ (ts : List Tg) {ds : List D} {δ δ' : En}, asgs ts ds δ = some δ' → ∀ {i : Nat} {l : L}, δ'[i]? = some (some l) → l.owns = true → i ∉ Tg.sls ts ∧ δ[i]? = some (some l)
  | [], ds, δ, δ', h, j, l, hj, ho => by
    cases ds with
    | nil => rw [asgs] at h; cases h; exact ⟨by simp [Tg.sls], hj⟩
    | cons d ds => simp [asgs] at h
  | t :: ts, ds, δ, δ', h, j, l, hj, ho => by
    cases ds with
    | nil => simp [asgs] at h
    | cons d ds =>
      rw [asgs] at h
      cases q : asg t d δ with
      | none => rw [q] at h; cases h
      | some δ1 =>
        rw [q] at h
        obtain ⟨n1, e1⟩ := asgs_owns ts h hj ho
        obtain ⟨n2, e2⟩ := asg_owns t q e1 ho
        exact ⟨by rw [Tg.sls]; simp [n1, n2], e2⟩
end
variable {X : Cx} {C : Ct} {W : WX}
/-! ### lists and sets -/
def kLst : List D → List O → R (List D) := fun l η => if l.length ≤ sizeLine then .ok l η else .bad
def kSet : List D → List O → R (List D) := fun l η => match numsOf l with
  | some ns => if (sortU ns).length < 64 then .ok ((sortU ns).map .int) η else .bad
  | none => .bad
variable {elt tg iter tg1 iter1 : Expr} {ifs ifs1 : List Expr} {scope : Scope} {pos p2 p3 p4 q4 spos py : Pos} {fi fi1 : F (List D)} {t t1 : Tg} {ft ft1 : F Bool} {felt : F D}
/-- a new list is handed back; name i stood for its set -/
def sRetI (i : Nat) (f : F (List D)) : S := fun δ η => if i < δ.length then sRet (fFrz f) δ η else .bad
end
end DL
namespace DL
open PySem PySem.Spec PyProof.Rows L2
section
variable {X : Cx} {C : Ct} {W : WX} {e a : Expr} {fa : F D} {ta : TE} {p p2 q pos : Pos}
def fSortSetW (fa : F D) : F (List D) := fun δ η => (fa δ η).bind fun d η => match d with
  | .lst l => match numsOf l with
    | some ns => if (ns.length < 4000 ∧ (sortU ns).length < 64) ∧ (sortU ns).length ≤ sizeLine then .ok ((sortU ns).map .int) η else .bad
    | none => .bad
  | .tup l => match numsOf l with
    | some ns => if (ns.length < 4000 ∧ (sortU ns).length < 64) ∧ (sortU ns).length ≤ sizeLine then .ok ((sortU ns).map .int) η else .bad
    | none => .bad
  | _ => .bad
end
end DL
namespace DL
open PySem L2
section
variable {X : Cx} {C : Ct} {W : WX} {a b c e : Expr} {fa fb fc fe : F D} {tg : Expr} {p pos : Pos}
/-- range(a, b) -/
def fiR2 (fa fb : F D) : F (List D) := fun δ η => (fa δ η).bind fun x η => (fb δ η).bind fun y η => match x, y with
  | .int i, .int j => if (-16777216 ≤ i ∧ i ≤ 16777216) ∧ (-16777216 ≤ j ∧ j ≤ 16777216) ∧ j - i ≤ 16777216 then .ok (rngD i (j - i).toNat) η else .bad
  | _, _ => .bad
/-- range(a, b, -1) -/
def rngC (lo c : Int) (n : Nat) : List D := (List.range n).map fun (k : Nat) => D.int (lo + (k : Int) * c)
def fiR3 (fa fb fc : F D) : F (List D) := fun δ η => (fa δ η).bind fun x η => (fb δ η).bind fun y η => (fc δ η).bind fun z η => match x, y, z with
  | .int i, .int j, .int k => if (-16777216 ≤ i ∧ i ≤ 16777216) ∧ (-16777216 ≤ j ∧ j ≤ 16777216) ∧ i - j ≤ 16777216 ∧ k = -1 then .ok (rngC i (-1) (i - j).toNat) η else .bad
  | _, _, _ => .bad
/-! ### a module's tuple -/
/-! ### an own list goes out as an object of the store -/
def sRetOO (i : Nat) : S := fun δ η => match δ[i]? with
  | some (some (.own l)) => .rt (.obj η.length) (η ++ [.lst l])
  | _ => .bad
end
end DL
namespace DL
open PySem L2
def b_Policy_state_row : S := (sSeq (sIf (fNotB (toB (fCh leD ltD (fC (.int 0)) (fV 1) (fCall1 lenD (fFld 2 ["state_rows", "start_row"] 0 (fV 0)))))) (sRaise1 42 "state" "UnknownState" (fV 1)) SR.nx)
    (sRet (fOp ixD (fFld 2 ["state_rows", "start_row"] 0 (fV 0)) (fV 1))))
def m_Policy_state_row : DF := runD 2 b_Policy_state_row
def b_Policy_is_present : S := (sRet (fOp eqD (fOp ixD (fMethX 2 ["state_rows", "start_row"] 2 0 2 m_Policy_state_row [0, 1] [] (fV 0) (fCons (fV 1) fNil) fNil) (fC (.int 0))) (fC (.int 1))))
def m_Policy_is_present : DF := runD 2 b_Policy_is_present
def b_Policy_nexts : S := (sRet (fOp ixD (fMethX 2 ["state_rows", "start_row"] 2 0 2 m_Policy_state_row [0, 1] [] (fV 0) (fCons (fV 1) fNil) fNil) (fC (.int 1))))
def m_Policy_nexts : DF := runD 2 b_Policy_nexts
end DL
/-! paths in layers: the first one in order is the greedy one (no program in sight) -/
namespace PL
def dfs (E : Int → Bool) : List (Int → List Int) → Int → List (List Int)
  | [], s => if E s = true then [[s]] else []
  | f :: fs, s => ((f s).flatMap (dfs E fs)).map (s :: ·)
def alive (E : Int → Bool) (fs : List (Int → List Int)) (s : Int) : Bool := !(dfs E fs s).isEmpty
def go : List (Int → List Int) → List (List Int) → Int → List Int
  | f :: fs, w :: W, s => s :: (match (f s).filter (fun t => decide (t ∈ w)) with
    | t :: _ => go fs W t
    | [] => [])
  | _, _, s => [s]
/-- w holds just the live ones of those that are reached -/
def Good (E : Int → Bool) : List Int → List (Int → List Int) → List (List Int) → Prop
  | _, [], [] => True
  | F, f :: fs, w :: W => (∀ s ∈ F, ∀ t ∈ f s, (t ∈ w ↔ alive E fs t = true)) ∧ Good E (F.flatMap f) fs W
  | _, _, _ => False
theorem Good.sub {E : Int → Bool} : ∀ {fs : List (Int → List Int)} {W : List (List Int)} {F F' : List Int}, Good E F fs W → (∀ s ∈ F', s ∈ F) → Good E F' fs W
  | [], [], _, _, _, _ => trivial
  | f :: fs, w :: W, F, F', h, k => ⟨fun s hs => h.1 s (k s hs), h.2.sub fun t ht => by
    obtain ⟨s, hs, e⟩ := List.mem_flatMap.mp ht
    exact List.mem_flatMap.mpr ⟨s, k s hs, e⟩⟩
  | [], _ :: _, _, _, h, _ => h.elim
  | _ :: _, [], _, _, h, _ => h.elim
theorem filter_congr {α : Type} {p q : α → Bool} {l : List α} (h : ∀ x ∈ l, p x = q x) : l.filter p = l.filter q := List.filter_congr h
/-! ### all paths, one longer each time -/
def ext (nx : Int → List Int) (q : List Int) : List (List Int) := (nx (q.getLastD 0)).map fun t => q ++ [t]
def extN (nx : Int → List Int) : Nat → List (List Int) → List (List Int)
  | 0, l => l
  | n + 1, l => extN nx n (l.flatMap (ext nx))
def paths (nx : Int → List Int) (st : List Int) (n : Nat) : List (List Int) := extN nx n (st.map fun s => [s])
def tt (_ : Int) : Bool := true
/-! ### layers forward, live ones backward -/
/-- the steps that the program walks, and those that are meant -/
def Rel : List (Int → List Int) → List (Int → List Int) → List (List Int) → Prop
  | [], [], [_] => True
  | g :: gs, f :: fs, _ :: l :: r => (∀ s, ∃ b : Int → Bool, f s = (g s).filter b ∧ ∀ t ∈ g s, t ∈ l → b t = true) ∧ Rel gs fs (l :: r)
  | _, _, _ => False
end PL
namespace DL
open PySem L2 PL
section
variable {δ : En} {η : List O}
@[simp] theorem fC2_a {k : List D → List O → R (List D)} {vs vs1 : List Nat} {fi fi1 : F (List D)} {t t1 : Tg} {ft ft1 : F Bool} {fe : F D} : fC2 k vs vs1 fi t ft fi1 t1 ft1 fe δ η = (fi δ η).bind fun ds η => (compF2 t ft fi1 t1 ft1 fe vs1 (wipeD δ vs) ds η).nox.bind k := rfl
@[simp] theorem fiR2_a {fa fb : F D} : fiR2 fa fb δ η = (fa δ η).bind fun x η => (fb δ η).bind fun y η => (match x, y with
  | .int i, .int j => if (-16777216 ≤ i ∧ i ≤ 16777216) ∧ (-16777216 ≤ j ∧ j ≤ 16777216) ∧ j - i ≤ 16777216 then .ok (rngD i (j - i).toNat) η else .bad
  | _, _ => .bad) := rfl
@[simp] theorem fiR3_a {fa fb fc : F D} : fiR3 fa fb fc δ η = (fa δ η).bind fun x η => (fb δ η).bind fun y η => (fc δ η).bind fun z η => (match x, y, z with
  | .int i, .int j, .int k => if (-16777216 ≤ i ∧ i ≤ 16777216) ∧ (-16777216 ≤ j ∧ j ≤ 16777216) ∧ i - j ≤ 16777216 ∧ k = -1 then .ok (rngC i (-1) (i - j).toNat) η else .bad
  | _, _, _ => .bad) := rfl
@[simp] theorem sRetI_a {i : Nat} {f : F (List D)} : sRetI i f δ η = if i < δ.length then sRet (fFrz f) δ η else .bad := rfl
@[simp] theorem sRetOO_a {i : Nat} : sRetOO i δ η = (match δ[i]? with | some (some (.own l)) => .rt (.obj η.length) (η ++ [.lst l]) | _ => .bad) := rfl
theorem comp_enc {α β : Type} {t : Tg} {ft : F Bool} {fe : F D} {δw : En} {η : List O} (enc : α → D) (p : α → Bool) (g : α → β) (dec : β → D) : ∀ {xs : List α}, (∀ x ∈ xs, ∃ δ1, asg t (enc x) δw = some δ1 ∧ ft δ1 η = .ok (p x) η ∧ (p x = true → fe δ1 η = .ok (dec (g x)) η)) → compF t ft fe δw (xs.map enc) η = .ok (((xs.filter p).map g).map dec) η
  | [], _ => rfl
  | x :: r, h => by
    obtain ⟨δ1, e1, e2, e3⟩ := h x (List.mem_cons_self ..)
    have ih := comp_enc enc p g dec (xs := r) fun y hy => h y (List.mem_cons_of_mem _ hy)
    rw [List.map_cons, compF, e1]
    cases hp : p x with
    | true => simp only [e2, e3 hp, hp, nox_ok, bind_ok, if_true, ih, List.filter_cons_of_pos hp, List.map_cons]
    | false => simp only [e2, hp, nox_ok, bind_ok, Bool.false_eq_true, if_false, ih, List.filter_cons_of_neg (by simp [hp] : ¬ p x = true)]
theorem comp2_enc {α β : Type} {t t1 : Tg} {ft ft1 : F Bool} {fi1 : F (List D)} {fe : F D} {vs1 : List Nat} {δw : En} {η : List O} (enc : α → D) (p : α → Bool) (g : α → List β) (dec : β → D) : ∀ {xs : List α}, (∀ x ∈ xs, ∃ δ1, asg t (enc x) δw = some δ1 ∧ ft δ1 η = .ok (p x) η ∧ (p x = true → ∃ es, fi1 δ1 η = .ok es η ∧ compF t1 ft1 fe (wipeD δ1 vs1) es η = .ok ((g x).map dec) η)) →
    compF2 t ft fi1 t1 ft1 fe vs1 δw (xs.map enc) η = .ok (((xs.filter p).flatMap g).map dec) η
  | [], _ => rfl
  | x :: r, h => by
    obtain ⟨δ1, e1, e2, e3⟩ := h x (List.mem_cons_self ..)
    have ih := comp2_enc enc p g dec (xs := r) fun y hy => h y (List.mem_cons_of_mem _ hy)
    rw [List.map_cons, compF2, e1]
    cases hp : p x with
    | true =>
      obtain ⟨es, e4, e5⟩ := e3 hp
      simp only [e2, e4, e5, hp, nox_ok, bind_ok, if_true, ih, List.filter_cons_of_pos hp, List.flatMap_cons, List.map_append]
    | false => simp only [e2, hp, nox_ok, bind_ok, Bool.false_eq_true, if_false, ih, List.filter_cons_of_neg (by simp [hp] : ¬ p x = true)]
theorem at_last {α : Type} {l : List α} {x : α} : L2.atI (l ++ [x]) (-1) = some x := by
  have e : ixN (l ++ [x]).length (-1) = some l.length := by
    unfold ixN
    rw [List.length_append, List.length_singleton]
    simp
    omega
  unfold L2.atI
  rw [e]
  simp
theorem any_bls (l : List Bool) : anyC (.lst (l.map .bl)) = some (.bl (l.any fun b => b)) := by
  have := blsOf_map (fun b : Bool => b) l
  rw [List.map_id'] at this
  show (blsOf _).map _ = _
  rw [this]; rfl
end
section
variable {η : List O} {n : Nat} {rows : List PRow} {st : List Int}
abbrev Vs (rows : List PRow) (ss : List Int) : Prop := ∀ s ∈ ss, 0 ≤ s ∧ s < rows.length
/-- a right policy -/
structure Pol (rows : List PRow) (st : List Int) : Prop where
  one : 1 ≤ rows.length
  few : rows.length ≤ 8
  ok : ∀ q ∈ rows, stateB q rows.length = true
  st : StOk rows.length st
theorem row_at {s : Int} (h : 0 ≤ s ∧ s < rows.length) : ∃ r, rows[s.toNat]? = some r := ⟨_, List.getElem?_eq_getElem (by omega)⟩
/-! ### the path -/
end
end DL
namespace DL
open PySem L2 PL
section
variable {η : List O} {rows : List PRow} {st : List Int}
/-- what a path is made of -/
structure PathOk (rows : List PRow) (q : List Int) (n : Nat) : Prop where
  len : q.length = n + 1
  vs : Vs rows q
theorem PathOk.last {q : List Int} {n : Nat} (h : PathOk rows q n) : 0 ≤ q.getLastD 0 ∧ q.getLastD 0 < rows.length := by
  have hne : q ≠ [] := fun e => by have := h.len; rw [e] at this; cases this
  have e : q.getLastD 0 = q.getLast hne := by
    cases q with
    | nil => exact (hne rfl).elim
    | cons a l => rw [List.getLastD_eq_getLast?, List.getLast?_eq_getLast hne]; rfl
  rw [e]
  exact h.vs _ (List.getLast_mem hne)
/-! ### the two agree -/
end
end DL
namespace DL
open PySem PySem.Spec L2
section
variable {X : Cx} {C : Ct} {W : WX} {E : XK} {pos p apos : Pos} {e : Expr} {es : List Expr} {x m : Str} {i : Nat}
variable {k n np nk : Nat} {f g A : Addr} {fd : FuncData} {ps ks : List Str} {df : DF} {ix : List Nat} {kws : List Keyword} {dv : List D} {fs fk : F (List D)}
/-! ### a class by its name; cls(..) -/
def fLocC (i c : Nat) (f : F D) : F D := fun δ η => match δ[i]? with
  | some (some (.val (.cls c'))) => if c' = c then f δ η else .bad
  | _ => .bad
/-! ### C.m(..), m a classmethod -/
def fCM (c n : Nat) (df : DF) (fs : F (List D)) : F D := fun δ η => (fs δ η).bind fun ds η => (arg n df (.cls c :: ds) η).nox
def fCMX (c n : Nat) (df : DF) (fs : F (List D)) : F D := fun δ η => (fs δ η).bind fun ds η => arg n df (.cls c :: ds) η
end
section
variable {δ : En} {η : List O}
@[simp] theorem fLocC_a {i c : Nat} {f : F D} : fLocC i c f δ η = (match δ[i]? with | some (some (.val (.cls c'))) => if c' = c then f δ η else .bad | _ => .bad) := rfl
@[simp] theorem fCM_a {c n : Nat} {df : DF} {fs : F (List D)} : fCM c n df fs δ η = (fs δ η).bind fun ds η => (arg n df (.cls c :: ds) η).nox := rfl
@[simp] theorem fCMX_a {c n : Nat} {df : DF} {fs : F (List D)} : fCMX c n df fs δ η = (fs δ η).bind fun ds η => arg n df (.cls c :: ds) η := rfl
end
end DL
namespace DL
open PySem L2
def b_check_sight : S := (sIf (toB (fOp notInD (fV 0) (fC (.tup [.str "unseen", .str "bell", .str "stands"])))) (sRaise1 30 "given" "InvalidSight" (fV 0)) SR.nx)
def m_check_sight : DF := runD 1 b_check_sight
def b_is_observation : S := (sSeq (sIf (toB (fOp eqD (fV 1) (fC (.str "unseen")))) (sRet (fOp isN (fV 2) (fC .non))) SR.nx)
    (sSeq (sIf (toB (fOp eqD (fV 1) (fC (.str "bell")))) (sRet (fAnd (fCall1 (isD "int") (fV 2)) (fOp inD (fV 2) (fTup (fCons (fC (.int 0)) (fCons (fC (.int 1)) fNil)))))) SR.nx)
    (sSeq (sIf (fOrB (fNotB (fTru (fCall1 (isD "tuple") (fV 2)))) (fNotB (fTru (fCall1 allC (fFrz (fLc [3] (fiA (fV 2)) (.nm 3) fYes (fCh leD ltD (fC (.int 0)) (fV 3) (fLenM 2 1 m_Policy___len__ (fV 0))))))))) (sRet (fC (.bl false))) SR.nx)
    (sRet (fAnd (fCall 1 m_is_ascending (fCons (fV 2) fNil)) (fCall1 allC (fFrz (fLc [3] (fiA (fV 2)) (.nm 3) fYes (fMeth 2 ["state_rows", "start_row"] 2 0 2 m_Policy_is_present [0, 1] [] (fV 0) (fCons (fV 3) fNil) fNil)))))))))
def m_is_observation : DF := runD 4 b_is_observation
def b_check_seen : S := (sSeq (sDrop (fCallX 1 m_check_sight (fCons (fV 1) fNil)))
    (sFor (fiE (fV 2)) (.tp [(.nm 3), (.nm 4)]) (sIf (fNotB (fTru (fCall 3 m_is_observation (fCons (fV 0) (fCons (fV 1) (fCons (fV 4) fNil)))))) (sRaise1 31 "at" "InvalidSeen" (fV 3)) SR.nx)))
def m_check_seen : DF := runD 5 b_check_seen
def b_may_step : S := (sSeq (sIf (fOrB (toB (fOp eqD (fV 1) (fC (.str "unseen")))) (fNotB (fTru (fMethX 2 ["state_rows", "start_row"] 2 0 2 m_Policy_is_present [0, 1] [] (fV 0) (fCons (fV 4) fNil) fNil)))) (sRet (fC (.bl true))) SR.nx)
    (sSeq (sIf (toB (fOp eqD (fV 1) (fC (.str "stands")))) (sRet (fOp inD (fV 4) (fV 2))) SR.nx)
    (sRet (fOr (fOp eqD (fV 2) (fC (.int 1))) (fAnd (fOp notN (fV 3) (fC .non)) (fMethX 2 ["state_rows", "start_row"] 2 0 2 m_Policy_is_present [0, 1] [] (fV 0) (fCons (fV 3) fNil) fNil))))))
def m_may_step : DF := runD 5 b_may_step
def b_first_fitting : S := (sRet (fFrz (fLc [3] (fiA (fMeth 2 ["state_rows", "start_row"] 1 0 1 m_Policy_starts [0] [] (fV 0) fNil fNil)) (.nm 3) (fTru (fCall 5 m_may_step (fCons (fV 0) (fCons (fV 1) (fCons (fV 2) (fCons (fC .non) (fCons (fV 3) fNil))))))) (fV 3))))
def m_first_fitting : DF := runD 4 b_first_fitting
def b_later_fitting : S := (sRet (fFrz (fLc [4] (fiA (fMethX 2 ["state_rows", "start_row"] 2 0 2 m_Policy_nexts [0, 1] [] (fV 0) (fCons (fV 3) fNil) fNil)) (.nm 4) (fTru (fCall 5 m_may_step (fCons (fV 0) (fCons (fV 1) (fCons (fV 2) (fCons (fV 3) (fCons (fV 4) fNil))))))) (fV 4))))
def m_later_fitting : DF := runD 5 b_later_fitting
def b_fitting_layers : S := (sSeq (sOwn 3 (fLstN fNil))
    (sSeq (sFor (fiE (fV 2)) (.tp [(.nm 4), (.nm 5)]) (sIf (toB (fOp eqD (fV 4) (fC (.int 0)))) (sMut 3 muApp (fCons (fCall 3 m_first_fitting (fCons (fV 0) (fCons (fV 1) (fCons (fV 5) fNil)))) fNil)) (sMut 3 muApp (fCons (fFrz (fC2 kSet [6, 7] [7] (fiA (fOp ixD (fVo 3) (fNeg (fC (.int 1))))) (.nm 6) fYes (fiA (fCall 4 m_later_fitting (fCons (fV 0) (fCons (fV 1) (fCons (fV 5) (fCons (fV 6) fNil)))))) (.nm 7) fYes (fV 7))) fNil))))
    (sFz 3 (sRet (fV 3)))))
def m_fitting_layers : DF := runD 8 b_fitting_layers
end DL
/-! the first path that ends in a given state -/
namespace PL
end PL
namespace DL
open PySem L2 PL
inductive Eye where
  | un | be | st
  deriving DecidableEq
def Eye.s : Eye → Str
  | .un => "unseen"
  | .be => "bell"
  | .st => "stands"
inductive Ob where
  | non | bell (b : Int) | st (l : List Int)
section
variable {η : List O} {n : Nat} {rows : List PRow} {st : List Int} {e : Eye} {o : Ob}
end
abbrev FP1 : S := (sDrop (fCallX 3 m_check_seen (fCons (fV 0) (fCons (fV 1) (fCons (fV 2) fNil)))))
abbrev FP2t1 : S := (sRaise1 42 "state" "UnknownState" (fV 3))
abbrev FP2t : S := FP2t1
abbrev FP2 : S := (sIf (fNotB (toB (fCh leD ltD (fC (.int 0)) (fV 3) (fLenM 2 1 m_Policy___len__ (fV 0))))) FP2t SR.nx)
abbrev FP3 : S := (sParN 4 5 (fCall 3 m_fitting_layers (fCons (fV 0) (fCons (fV 1) (fCons (fV 2) fNil)))) (fLstN fNil))
abbrev FP4 : S := (sOwn 6 (fLstN (fCons (fFrz (fLstN (fCons (fV 3) fNil))) fNil)))
abbrev FP5b1 : S := (sMut 6 muIns (fCons (fC (.int 0)) (fCons (fFrz (fLc [8] (fiA (fOp ixD (fV 4) (fOp subD (fV 7) (fC (.int 1))))) (.nm 8) (fTru (fCall1 anyC (fFrz (fLc [9] (fiA (fCall 4 m_later_fitting (fCons (fV 0) (fCons (fV 1) (fCons (fOp ixD (fV 2) (fV 7)) (fCons (fV 8) fNil)))))) (.nm 9) fYes (fOp inD (fV 9) (fOp ixD (fVo 6) (fC (.int 0)))))))) (fV 8))) fNil)))
abbrev FP5b : S := FP5b1
abbrev FP5 : S := (sFor (fiR3 (fOp subD (fCall1 lenD (fV 4)) (fC (.int 1))) (fC (.int 0)) (fNeg (fC (.int 1)))) (.nm 7) FP5b)
abbrev FP6t1 : S := (sRet (fC .non))
abbrev FP6t : S := FP6t1
abbrev FP6 : S := (sIf (fOrB (toB (fOp eqD (fV 4) (fFrz (fLstN fNil)))) (toB (fOp notInD (fV 3) (fOp ixD (fV 4) (fNeg (fC (.int 1))))))) FP6t SR.nx)
abbrev FP7 : S := (sMut 5 muApp (fCons (fIf (toB (fOp gtD (fCall1 lenD (fV 4)) (fC (.int 1)))) (fOp ixD (fOp ixD (fVo 6) (fC (.int 0))) (fC (.int 0))) (fV 3)) fNil))
abbrev FP8b1 : S := (sMut 5 muApp (fCons (fOp ixD (fFrz (fLc [9] (fiA (fCallX 4 m_later_fitting (fCons (fV 0) (fCons (fV 1) (fCons (fOp ixD (fV 2) (fV 7)) (fCons (fOp ixD (fVo 5) (fNeg (fC (.int 1)))) fNil)))))) (.nm 9) (toB (fOp inD (fV 9) (fOp ixD (fVo 6) (fV 7)))) (fV 9))) (fC (.int 0))) fNil))
abbrev FP8b : S := FP8b1
abbrev FP8 : S := (sFor (fiR2 (fC (.int 1)) (fCall1 lenD (fV 4))) (.nm 7) FP8b)
abbrev FP9z1 : S := (sRet (fV 5))
abbrev FP9z : S := FP9z1
abbrev FP9 : S := (sFz 5 FP9z)
abbrev FP : S := (sSeq FP1 (sSeq FP2 (sSeq FP3 (sSeq FP4 (sSeq FP5 (sSeq FP6 (sSeq FP7 (sSeq FP8 FP9))))))))
section
variable {η : List O} {n : Nat} {rows : List PRow} {st : List Int} {e : Eye} {o : Ob}
end
end DL
namespace DL
open PySem L2 PL
section
variable {η : List O} {n : Nat} {rows : List PRow} {st : List Int} {e : Eye} {os : List Ob} {goal : Int} {Ls : List (List Int)}
variable {x0 x1 x2 x3 x4 x5 x6 x7 x8 x9 : Option L}
end
end DL
namespace DL
open PySem L2 PL
section
variable {η : List O} {n : Nat} {rows : List PRow} {st : List Int} {e : Eye} {os : List Ob} {o : Ob} {q : List Int}
end
section
variable {fp r : List O} {o : O} {rows : List PRow} {st : List Int} {e : Eye}
theorem x1 {η : List O} {m : Nat} {a b c : Option L} (z1 : (1 : Nat) ≤ sizeLine) : (fFrz (fLstN (fCons (fC .non) fNil))) [a, b, c, some (.val (.int m)), none, none, none] η = .ok (.lst [.non]) η := by
  simp [z1]
theorem x2 {η : List O} {m : Nat} {a b c : Option L} : (fV 3) [a, b, c, some (.val (.int m)), none, none, none] η = .ok (.int m) η := by simp
theorem x3 {η : List O} {m : Nat} {Y : D} {fa fb : F D} {δ : En} (h1 : fa δ η = .ok (.lst [.non]) η) (h2 : fb δ η = .ok (.int m) η) (hmul : mulLD (.lst [.non]) (.int m) = some Y) : (fOp mulLD fa fb) δ η = .ok Y η := by
  rw [fOp_a, h1, bind_ok, h2, bind_ok, hmul, lift_some]
theorem rep_ok (m : Nat) (h : m ≤ 1000) : repB 1 (m : Int) = true := by
  unfold repB
  rw [Bool.and_eq_true, Bool.and_eq_true]
  exact ⟨⟨decide_eq_true (by omega), decide_eq_true (by omega)⟩, decide_eq_true (by rw [sizeLine_eq]; omega)⟩
end
end DL
/-! zip of three lists -/
namespace Z3
open PySem PySem.Spec
section
abbrev IsTri (h : Heap) (T : Addr) (a b c : Value) : Prop := h.get? T = some { cls := .type "tuple", data := .seq #[a, b, c] }
/-- the zip at z draws from three lists -/
structure Drawn (h : Heap) (z TI TO i1 i2 i3 l1 l2 l3 : Addr) (k : Nat) (f0 : Value) : Prop where
  zip : IsZip h z TI TO f0
  ti : IsTri h TI (.ref i1) (.ref i2) (.ref i3)
  to_ : ∃ a b c, IsTri h TO a b c
  d1 : h.IsListIter i1 l1 k
  d2 : h.IsListIter i2 l2 k
  d3 : h.IsListIter i3 l3 k
structure Apart (z TI TO i1 i2 i3 l1 l2 l3 : Addr) : Prop where
  nd : [z, TI, TO, i1, i2, i3].Nodup
  n1 : l1 ∉ [z, TO, i1, i2, i3]
  n2 : l2 ∉ [z, TO, i1, i2, i3]
  n3 : l3 ∉ [z, TO, i1, i2, i3]
variable {prog : Program} {w : World} {A : Around} {E : Value → Shared → Prop} {s : Shared}
theorem upd_tri {T : Addr} {a b c x : Value} {k : Nat} {Q : Unit → Shared → Prop} (hT : IsTri s.heap T a b c)
    (h : ∀ h', h'.get? T = some { cls := .type "tuple", data := .seq ((#[a, b, c] : Array Value).setIfInBounds k x) } → Heap.SameBut T s.heap h' → Q () { s with heap := h' }) :
    wpAny (model prog w) A (updateSeq T (·.setIfInBounds k x)) Q E s := by
  refine wpAny_updateSeq hT rfl (h _ ?_ (Heap.SameBut.update ..))
  rw [Heap.get?_update_self _ hT rfl]
  simp [Obj.mapSeq]
set_option maxHeartbeats 1000000 in
theorem item {z TI TO i1 i2 i3 l1 l2 l3 : Addr} {k : Nat} {xs ys zs : Array Value} {x y v : Value} {Q : Value → Shared → Prop} (D : Apart z TI TO i1 i2 i3 l1 l2 l3) (st : Drawn s.heap z TI TO i1 i2 i3 l1 l2 l3 k .none)
    (hl1 : s.heap.IsList l1 xs) (hl2 : s.heap.IsList l2 ys) (hl3 : s.heap.IsList l3 zs) (hx : xs[k]? = some x) (hy : ys[k]? = some y) (hv : zs[k]? = some v)
    (hQ : ∀ h', Drawn h' z TI TO i1 i2 i3 l1 l2 l3 (k + 1) (rawInt s.heap.objs.size) → IsTri h' s.heap.objs.size x y v → h'.objs.size = s.heap.objs.size + 1 →
      (∀ c o, c ∉ [z, TO, i1, i2, i3] → s.heap.get? c = some o → h'.get? c = some o) → Q (.ref s.heap.objs.size) { s with heap := h' }) :
    wpAny (model prog w) A (Builtin.«zip.__next__» ⟨[.ref z], []⟩) (fun fin s' => ∃ v, fin = .done (.ret v) ∧ Q v s') E s := by
  obtain ⟨hz, hTI, ⟨a, b, c, hTO⟩, h1, h2, h3⟩ := st
  obtain ⟨nd, n1, n2, n3⟩ := D
  simp only [List.nodup_cons, List.mem_cons, List.not_mem_nil, or_false, not_or, not_false_eq_true, List.nodup_nil, and_true] at nd n1 n2 n3
  obtain ⟨⟨zTI, zTO, z1, z2, z3⟩, ⟨TITO, TI1, TI2, TI3⟩, ⟨TO1, TO2, TO3⟩, ⟨a12, a13⟩, a23⟩ := nd
  obtain ⟨p1, p2, p3, p4, p5⟩ := n1
  obtain ⟨q1, q2, q3, q4, q5⟩ := n2
  obtain ⟨r1, r2, r3, r4, r5⟩ := n3
  show wpAny _ _ (field (.ref z) 2 >>= _) _ _ _
  refine wpAny_bind (wpAny_field hz rfl (x := .bool false) rfl ?_)
  show wpAny _ _ (field (.ref z) 3 >>= _) _ _ _
  refine wpAny_bind (wpAny_field hz rfl (x := .ref TI) rfl ?_)
  refine wpAny_bind (wpAny_seqItems hTI rfl ?_)
  show wpAny _ _ (Builtin.SmallTypes.ownedTupleIsFree (.ref z) >>= _) _ _ _
  refine wpAny_bind ?_
  unfold Builtin.SmallTypes.ownedTupleIsFree
  refine wpAny_bind (wpAny_field hz rfl (x := .none) rfl (wpAny_pure ?_))
  simp only [if_true]
  refine wpAny_bind (wpAny_rule ?_)
  refine wpAny_bind (wpAny_field hz rfl (x := .ref TO) rfl ?_)
  refine wpAny_bind (wpAny_setField_rec hz (by simp) fun g1 hz1 s1 => ?_)
  replace hz1 : IsZip g1 z TI TO .ellipsis := hz1
  refine wpAny_bind ?_
  simp only [List.zipIdx_cons, List.zipIdx_nil, List.forIn_cons, List.forIn_nil]
  -- the first
  refine wpAny_bind (wpAny_bind (wpAny_onRaise ?_))
  show wpAny _ _ (Builtin.SmallTypes.nextOf (.ref i1) >>= _) _ _ _
  refine wpAny_bind (wpAny_nextOf_list_item (h1.extBut s1.extBut (Ne.symm z1)) (hl1.extBut s1.extBut p1) hx fun g2 h1b s2 => wpAny_pure ?_)
  have k2 : ∀ c o, c ≠ z → c ≠ i1 → s.heap.get? c = some o → g2.get? c = some o := fun c o c1 c2 e => s2.extBut _ _ c2 (s1.extBut _ _ c1 e)
  have hTO2 : IsTri g2 TO a b c := k2 _ _ (Ne.symm zTO) TO1 hTO
  refine wpAny_bind (wpAny_seqItems hTO2 rfl ?_)
  refine wpAny_bind (upd_tri hTO2 fun g3 hTO3 s3 => ?_)
  replace hTO3 : IsTri g3 TO x b c := hTO3
  refine wpAny_bind (wpAny_letGo (wpAny_pure ?_))
  have k3 : ∀ c o, c ≠ z → c ≠ i1 → c ≠ TO → s.heap.get? c = some o → g3.get? c = some o := fun c o c1 c2 c3 e => s3.extBut _ _ c3 (k2 c o c1 c2 e)
  -- the second
  refine wpAny_bind (wpAny_bind (wpAny_onRaise ?_))
  show wpAny _ _ (Builtin.SmallTypes.nextOf (.ref i2) >>= _) _ _ _
  refine wpAny_bind (wpAny_nextOf_list_item (h2.at fun o e => k3 _ o (Ne.symm z2) (Ne.symm a12) (Ne.symm TO2) e) (hl2.at fun o e => k3 _ o q1 q3 q2 e) hy fun g4 h2b s4 => wpAny_pure ?_)
  have hTO4 : IsTri g4 TO x b c := s4.extBut _ _ TO2 hTO3
  refine wpAny_bind (wpAny_seqItems hTO4 rfl ?_)
  refine wpAny_bind (upd_tri hTO4 fun g5 hTO5 s5 => ?_)
  replace hTO5 : IsTri g5 TO x y c := hTO5
  refine wpAny_bind (wpAny_letGo (wpAny_pure ?_))
  have k5 : ∀ c o, c ≠ z → c ≠ i1 → c ≠ TO → c ≠ i2 → s.heap.get? c = some o → g5.get? c = some o := fun c o c1 c2 c3 c4 e => s5.extBut _ _ c3 (s4.extBut _ _ c4 (k3 c o c1 c2 c3 e))
  -- the third
  refine wpAny_bind (wpAny_bind (wpAny_onRaise ?_))
  show wpAny _ _ (Builtin.SmallTypes.nextOf (.ref i3) >>= _) _ _ _
  refine wpAny_bind (wpAny_nextOf_list_item (h3.at fun o e => k5 _ o (Ne.symm z3) (Ne.symm a13) (Ne.symm TO3) (Ne.symm a23) e) (hl3.at fun o e => k5 _ o r1 r3 r2 r4 e) hv fun g6 h3b s6 => wpAny_pure ?_)
  have hTO6 : IsTri g6 TO x y c := s6.extBut _ _ TO3 hTO5
  refine wpAny_bind (wpAny_seqItems hTO6 rfl ?_)
  refine wpAny_bind (upd_tri hTO6 fun g7 hTO7 s7 => ?_)
  replace hTO7 : IsTri g7 TO x y v := hTO7
  refine wpAny_bind (wpAny_letGo (wpAny_pure (wpAny_pure ?_)))
  have k7 : ∀ c o, c ∉ [z, TO, i1, i2, i3] → s.heap.get? c = some o → g7.get? c = some o := fun c o hc e => by
    simp only [List.mem_cons, List.not_mem_nil, or_false, not_or] at hc
    obtain ⟨c1, c2, c3, c4, c5⟩ := hc
    exact s7.extBut _ _ c2 (s6.extBut _ _ c5 (k5 c o c1 c3 c2 c4 e))
  refine wpAny_bind (wpAny_seqItems hTO7 rfl ?_)
  refine wpAny_bind (wpAny_newTuple ?_)
  have hsz : g7.objs.size = s.heap.objs.size := by rw [s7.1, s6.1, s5.1, s4.1, s3.1, s2.1, s1.1]
  have hz7 : IsZip g7 z TI TO .ellipsis := s7.extBut _ _ zTO (s6.extBut _ _ z3 (s5.extBut _ _ zTO (s4.extBut _ _ z2 (s3.extBut _ _ zTO (s2.extBut _ _ z1 hz1)))))
  have h17 : g7.IsListIter i1 l1 (k + 1) := h1b.at fun o e => s7.extBut _ _ (Ne.symm TO1) (s6.extBut _ _ a13 (s5.extBut _ _ (Ne.symm TO1) (s4.extBut _ _ a12 (s3.extBut _ _ (Ne.symm TO1) e))))
  have h27 : g7.IsListIter i2 l2 (k + 1) := h2b.at fun o e => s7.extBut _ _ (Ne.symm TO2) (s6.extBut _ _ a23 (s5.extBut _ _ (Ne.symm TO2) e))
  have h37 : g7.IsListIter i3 l3 (k + 1) := h3b.at fun o e => s7.extBut _ _ (Ne.symm TO3) e
  have hTI7 : IsTri g7 TI (.ref i1) (.ref i2) (.ref i3) := k7 _ _ (by simp [Ne.symm zTI, TITO, TI1, TI2, TI3]) hTI
  have hzlt : z < g7.objs.size := Heap.lt_size hz7
  show wpAny _ _ (Builtin.SmallTypes.ownedTupleHandOut (.ref z) (.ref g7.objs.size) >>= _) _ _ _
  refine wpAny_bind ?_
  unfold Builtin.SmallTypes.ownedTupleHandOut
  have hz8 : IsZip (g7.push { cls := .type "tuple", data := .seq #[x, y, v] }) z TI TO .ellipsis := Heap.get?_push_of_some _ hz7
  refine wpAny_bind (wpAny_setField_rec hz8 (by simp) fun g9 hz9 s9 => ?_)
  replace hz9 : IsZip g9 z TI TO (rawInt g7.objs.size) := hz9
  refine wpAny_setField_rec hz9 (by simp) fun g10 hz10 s10 => ?_
  replace hz10 : IsZip g10 z TI TO (rawInt g7.objs.size) := hz10
  have up : ∀ c o, c ≠ z → g7.get? c = some o → g10.get? c = some o := fun c o c1 e => s10.extBut _ _ c1 (s9.extBut _ _ c1 (Heap.get?_push_of_some _ e))
  have hT10 : IsTri g10 g7.objs.size x y v := s10.extBut _ _ (Nat.ne_of_gt hzlt) (s9.extBut _ _ (Nat.ne_of_gt hzlt) (Heap.get?_push_size _ rfl))
  have h10 : g10.objs.size = g7.objs.size + 1 := by rw [s10.1, s9.1, Heap.size_push]
  rw [hsz] at hz10 hT10 h10
  refine wpAny_pure ⟨_, rfl, ?_⟩
  show Q (.ref g7.objs.size) _
  rw [hsz]
  exact hQ g10 ⟨hz10, up _ _ (Ne.symm zTI) hTI7, ⟨_, _, _, up _ _ (Ne.symm zTO) hTO7⟩, h17.at fun o e => up _ o (Ne.symm z1) e, h27.at fun o e => up _ o (Ne.symm z2) e, h37.at fun o e => up _ o (Ne.symm z3) e⟩ hT10 h10
    fun c o hc e => up c o (by simp only [List.mem_cons, not_or] at hc; exact hc.1) (k7 c o hc e)
/-! ### the zip is made -/
abbrev itO (l : Addr) : Obj := { cls := .type "list_iterator", data := .fields #[.ref l, .int 0 0] }
abbrev m1 (h : Heap) (l1 : Addr) : Heap := h.push (itO l1)
abbrev m2 (h : Heap) (l1 l2 : Addr) : Heap := (m1 h l1).push (itO l2)
abbrev m3 (h : Heap) (l1 l2 l3 : Addr) : Heap := (m2 h l1 l2).push (itO l3)
end
end Z3
namespace Z3
open PySem PySem.Spec PyProof.Rows L2
end Z3
namespace DL
open PySem L2
section
variable {X : Cx} {C : Ct} {W : WX} {a b c : Expr} {fa fb fc : F D} {p pos tpos : Pos} {elts : List Expr} {kk : Nat}
/-- zip of three lists -/
def zip3D (l m k : List D) : List D := (l.zip (m.zip k)).map fun p => .tup [p.1, p.2.1, p.2.2]
def fiZ3 (fa fb fc : F D) : F (List D) := fun δ η => (fa δ η).bind fun d η => (fb δ η).bind fun e η => (fc δ η).bind fun g η => match d, e, g with
  | .lst l, .lst m, .lst k => .ok (zip3D l m k) η
  | _, _, _ => .bad
end
section
variable {δ : En} {η : List O}
@[simp] theorem fiZ3_a {fa fb fc : F D} : fiZ3 fa fb fc δ η = (fa δ η).bind fun d η => (fb δ η).bind fun e η => (fc δ η).bind fun g η => (match d, e, g with
  | .lst l, .lst m, .lst k => .ok (zip3D l m k) η
  | _, _, _ => .bad) := rfl
@[simp] theorem fSortSetW_t {fa : F D} : fSortSetW fa δ η = (fa δ η).bind fun d η => (match d with
  | .lst l => (match numsOf l with
    | some ns => if (ns.length < 4000 ∧ (sortU ns).length < 64) ∧ (sortU ns).length ≤ sizeLine then .ok ((sortU ns).map .int) η else .bad
    | none => .bad)
  | .tup l => (match numsOf l with
    | some ns => if (ns.length < 4000 ∧ (sortU ns).length < 64) ∧ (sortU ns).length ≤ sizeLine then .ok ((sortU ns).map .int) η else .bad
    | none => .bad)
  | _ => .bad) := rfl
end
end DL
namespace DL
open PySem L2
end DL
namespace DL
open PySem L2 PL
section
variable {η : List O} {n : Nat} {rows : List PRow} {st : List Int} {e : Eye} {os : List Ob} {q : List Int}
end
end DL
namespace DL
open PySem L2
end DL
namespace DL
open PySem L2 PL
section
variable {fp r : List O} {o : O} {n : Nat}
variable {x0 x1 x2 x3 x4 x5 x6 x7 : Option L}
end
end DL
namespace DL
open PySem L2 PL
section
variable {η : List O} {n : Nat} {rows : List PRow} {st : List Int} {e : Eye} {os : List Ob} {dq : D}
end
end DL
/-! a lambda with one parameter that stands at an int: made, handed to a def, called without arguments -/
namespace DL
open PySem PySem.Spec PyProof.Rows L2 LamX
/-- the names of a lambda whose one parameter is a -/
structure LamA (a : Str) (sc scope : Scope) : Prop where
  kind : scope.kind = .function
  co : scope.isCoroutine = false
  gen : scope.isGenerator = false
  cell : ∀ y ∈ scope.names, y.2 ≠ .cell
  loc : ∀ y ∈ scope.names, y.2 = .local → y.1 = a
  par : scope.names.lookup a = some .local
  free : ∀ y ∈ scope.names, y.2 = .free → sc.names.lookup y.1 = some .cell ∨ sc.names.lookup y.1 = some .free
section
variable {X : Cx} {pins : List (Addr × Obj)} {σ : L2.St} {H HZ : Hp} {s s1 : Shared} {a : Str} {scope : Scope}
theorem LamA.has (L : LamA a X.env.scope scope) (ok : X.Ok) : ∀ y ∈ scope.names, y.2 = .free → ∃ c, X.env.cells.lookup y.1 = some c := fun y hy e => ok.has _ (L.free y hy e)
/-- what the written part, the frames and the heap keep of the made lambda -/
structure MadeA (X : Cx) (H1 : Hp) (h : Heap) (f t c' : Addr) (q : Str) (params : Arguments) (body : Expr) (scope : Scope) (v doc pm ctv : Value) : Prop where
  fo : h.get? f = some (PySem.W.kdv_obj "<lambda>" q params (.expr body) scope (cloFrom X.env.cells scope.names []) (.ref t) doc pm c' ctv)
  to : h.get? t = some (PySem.W.kdv_tup [v])
  fn : H1 f = none
  tn : H1 t = none
  ff : f ∉ frs X.stack
  tf : t ∉ frs X.stack
  co : H1 c' = some (CodeO c' q)
end
section
variable {X : Cx} {C : Ct} {W : WX}
variable {i k : Nat} {q : Str} {cs : List Nat} {fld : DF} {fb : F D} {st : Stmt} {g c : Addr} {fdg : FuncData} {hs : List Value} {params : Arguments} {body e : Expr} {scope : Scope} {p lpos pos : Pos}
end
end DL
/-! xs.index(k), xs.count(k) of a list of ints -/
namespace DL
open PySem PySem.Spec PyProof.Rows L2
/-- a method of a list that only reads it -/
def fLm (g : List D → D → Option D) (fo fa : F D) : F D := fun δ η => (fo δ η).bind fun d η => match d with
  | .lst l => (fa δ η).bind fun e η => lift (g l e) η
  | _ => .bad
section
variable {X : Cx} {C : Ct} {W : WX} {o e : Expr} {fo fa : F D} {apos cpos : Pos}
end
end DL
/-! C.m(k = v, ..), m a classmethod -/
namespace DL
open PySem PySem.Spec PyProof.Rows L2
section
variable {X : Cx} {C : Ct} {W : WX} {E : XK} {pos p apos : Pos} {e : Expr} {es : List Expr} {x m : Str} {i : Nat}
variable {k n np nk : Nat} {f g A : Addr} {fd : FuncData} {ps ks : List Str} {df : DF} {ix : List Nat} {kws : List Keyword} {dv : List D} {fs fk : F (List D)}
def fCMK (c nk n : Nat) (df : DF) (ix : List Nat) (dv : List D) (fk : F (List D)) : F D := fun δ η => (fk δ η).bind fun es η => argK 1 nk n df ix dv [.cls c] es η
def fCMKX (c nk n : Nat) (df : DF) (ix : List Nat) (dv : List D) (fk : F (List D)) : F D := fun δ η => (fk δ η).bind fun es η => argKX 1 nk n df ix dv [.cls c] es η
end
section
variable {δ : En} {η : List O}
@[simp] theorem fCMK_a {c nk n : Nat} {df : DF} {ix : List Nat} {dv : List D} {fk : F (List D)} : fCMK c nk n df ix dv fk δ η = (fk δ η).bind fun es η => argK 1 nk n df ix dv [.cls c] es η := rfl
@[simp] theorem fCMKX_a {c nk n : Nat} {df : DF} {ix : List Nat} {dv : List D} {fk : F (List D)} : fCMKX c nk n df ix dv fk δ η = (fk δ η).bind fun es η => argKX 1 nk n df ix dv [.cls c] es η := rfl
@[simp] theorem fLm_a {g : List D → D → Option D} {fo fa : F D} : fLm g fo fa δ η = (fo δ η).bind fun d η => match d with | .lst l => (fa δ η).bind fun e η => lift (g l e) η | _ => .bad := rfl
end
end DL
/-! xs + ys: a new list, xs a list or an object of the store -/
namespace DL
open PySem PySem.Spec PyProof.Rows L2
def lsOf (η : List O) : D → Option (List D)
  | .lst l => some l
  | .obj n => match η[n]? with
    | some (.lst l) => some l
    | _ => none
  | _ => none
def fAddN (fa fb : F D) : F (List D) := fun δ η => (fa δ η).bind fun d η => (fb δ η).bind fun e η => match lsOf η d, e with
  | some l, .lst m => if (l ++ m).length ≤ sizeLine then .ok (l ++ m) η else .bad
  | _, _ => .bad
section
variable {X : Cx} {C : Ct} {W : WX} {a b : Expr} {fa fb : F D} {pos : Pos}
end
section
variable {δ : En} {η : List O}
@[simp] theorem fAddN_a {fa fb : F D} : fAddN fa fb δ η = (fa δ η).bind fun d η => (fb δ η).bind fun e η => match lsOf η d, e with | some l, .lst m => if (l ++ m).length ≤ sizeLine then .ok (l ++ m) η else .bad | _, _ => .bad := rfl
end
end DL
namespace DL
open PySem L2
section
variable {X : Cx} {C : Ct} {W : WX} {pos apos : Pos} {e a b : Expr} {fe fa fb : F D} {f : S} {body : List Stmt} {h₀ : ExceptHandler} {hs : List ExceptHandler}
def fStrN (g : Str → D → Option (List D)) (fa fb : F D) : F (List D) := fun δ η => (fa δ η).bind fun d η => match d with
  | .str z => (fb δ η).bind fun e η => lift (g z e) η
  | _ => .bad
variable {fn fm : F (List D)}
/-- two lists of the frame's own -/
def sParNN (i j : Nat) (fn fm : F (List D)) : S := fun δ η => (fn δ η).toS δ fun d η => (fm δ η).toS δ fun e η => .nx ((δ.set i (some (.own d))).set j (some (.own e))) η
@[simp] theorem sParNN_a {i j : Nat} {δ : En} {η : List O} : sParNN i j fn fm δ η = (fn δ η).toS δ fun d η => (fm δ η).toS δ fun e η => .nx ((δ.set i (some (.own d))).set j (some (.own e))) η := rfl
@[simp] theorem fStrN_a {g : Str → D → Option (List D)} {δ : En} {η : List O} : fStrN g fa fb δ η = (fa δ η).bind fun d η => (match d with | .str z => (fb δ η).bind fun e η => lift (g z e) η | _ => .bad) := rfl
/-- int(x), of a text too -/
def intSC : D → Option D
  | .str z => if z.length ≤ 640 then (PySem.intText? z).map .int else none
  | d => intC d
@[simp] theorem intSC_s {z : Str} : intSC (.str z) = if z.length ≤ 640 then (PySem.intText? z).map .int else none := rfl
end
end DL
namespace DL
open PySem L2
/-- what the combinators do, in one -/
def DLS := (And.intro (And.intro (And.intro (And.intro (And.intro (And.intro (And.intro @lift_some (And.intro @bind_ok @bind_exc)) (And.intro (And.intro @toS_ok @toS_exc) (And.intro @seq_nx @seq_rt))) (And.intro (And.intro (And.intro @seq_bk @seq_ct) (And.intro @seq_exc @nox_ok)) (And.intro (And.intro @nox_bad @nox_exc) (And.intro @fV_a @fVo_a)))) (And.intro (And.intro (And.intro @fC_a (And.intro @fOp_a @toB_a)) (And.intro (And.intro @fCh_a @fTru_a) (And.intro @fAndB_a @fOrB_a))) (And.intro (And.intro (And.intro @fNotB_a @fAnd_a) (And.intro @fOr_a @fNot_a)) (And.intro (And.intro @fIf_a @fNil_a) (And.intro @fCons_a @fTup_a))))) (And.intro (And.intro (And.intro (And.intro @fLst_a (And.intro @fLstN_a @fIxO_a)) (And.intro (And.intro @fNoP_a @fPt_a) (And.intro @fSl_a @fCall1_a))) (And.intro (And.intro (And.intro @fStrM_a @fNeg_a) (And.intro @fFrz_a @fListN_a)) (And.intro (And.intro @fNewO_a @fCall_a) (And.intro @fCallK_a @fLc_a)))) (And.intro (And.intro (And.intro @fYes_a (And.intro @fiA_a @fiL_a)) (And.intro (And.intro @fiE_a @fiZ_a) (And.intro @fiR1_a @sSeq_a))) (And.intro (And.intro (And.intro @sRet_a @sRetN_a) (And.intro @sRetO_a @sIf_a)) (And.intro (And.intro @sDrop_a @sSet_a) (And.intro @sFrz_a @sOwn_a)))))) (And.intro (And.intro (And.intro (And.intro (And.intro @sApp_a (And.intro @sAsg_a @sPar_a)) (And.intro (And.intro @sFor_a @sSetO_a) (And.intro @arg_a @asg_nm))) (And.intro (And.intro (And.intro @asg_tp @asgs_nil) (And.intro @asgs_cons @addD_ii)) (And.intro (And.intro @subD_ii @mulD_ii) (And.intro @modD_ii @fdivD_ii)))) (And.intro (And.intro (And.intro @powD_ii (And.intro @ltD_ii @leD_ii)) (And.intro (And.intro @gtD_ii @geD_ii) (And.intro @addD_ss @addD_ll))) (And.intro (And.intro (And.intro @intC_i @lenD_l) (And.intro @lenD_t @lenD_s)) (And.intro (And.intro @ixD_l @ixD_t) (And.intro @walkD_l @walkD_t))))) (And.intro (And.intro (And.intro (And.intro @walkD_s (And.intro @seqOf_l @seqOf_t)) (And.intro (And.intro @lstOf_l @itemsD_l) (And.intro @itemsD_t @slD_l))) (And.intro (And.intro (And.intro @slD_s @truD_b) (And.intro @truD_i @truD_n)) (And.intro (And.intro @truD_l @truD_t) (And.intro @isN_n @notN_n)))) (And.intro (And.intro (And.intro @isNon_n (And.intro @isNon_b @isNon_i)) (And.intro (And.intro @isNon_s @isNon_l) (And.intro @isNon_t @okq_n))) (And.intro (And.intro (And.intro @okq_b @okq_i) (And.intro @okq_s @eqv_ii)) (And.intro (And.intro @eqv_bb @eqv_ss) (And.intro @eqD_ii @eqD_bb))))))) (And.intro (And.intro (And.intro (And.intro (And.intro (And.intro @eqD_ss (And.intro @neD_ii @neD_bb)) (And.intro (And.intro @neD_ss @insD_a) (And.intro @insC_a @fFld_a))) (And.intro (And.intro (And.intro @sFldN_a @sFldO_a) (And.intro @sFldA_a @argK_a)) (And.intro (And.intro @fMeth_a @fNewI_a) (And.intro @argKX_a @fMethX_a)))) (And.intro (And.intro (And.intro @fNewIX_a (And.intro @fCallX_a @fCallKX_a)) (And.intro (And.intro @sRaise1_a @sRaise0_a) (And.intro @fProp_a @fInM_a))) (And.intro (And.intro (And.intro @fStar_a @sMut_a) (And.intro @sMutO_a @sParN_a)) (And.intro (And.intro @sFz_a @fDr_a) (And.intro @fLenSet_a @fBad_a))))) (And.intro (And.intro (And.intro (And.intro @sBad_a (And.intro @muApp_a @muClr_a)) (And.intro (And.intro @muIns_a @tupC_l) (And.intro @pick_nil @pick_cons))) (And.intro (And.intro (And.intro @inD_ls @inD_ts) (And.intro @sParNV_a @sPar3_a)) (And.intro (And.intro @jsF_nil @jsF_cons) (And.intro @fmtD_i @strC_i)))) (And.intro (And.intro (And.intro @fmtD_s (And.intro @fLenM_a @fReprM_a)) (And.intro (And.intro @fWhy_a @addD_tt) (And.intro @slD_t @fRev_a))) (And.intro (And.intro (And.intro @revD_l @revD_t) (And.intro @mulLD_l @sSetI_a)) (And.intro (And.intro @sPar3N_a @sPar3NN_a) (And.intro @fSortSet_t @fBinMX_a)))))) (And.intro (And.intro (And.intro (And.intro (And.intro @fBinM_a (And.intro @fEqM_a @fCmpT_a)) (And.intro (And.intro @fNewRX_a @fNewR_a) (And.intro @fC2_a @fiR2_a))) (And.intro (And.intro (And.intro @fiR3_a @sRetI_a) (And.intro @sRetOO_a @fLocC_a)) (And.intro (And.intro @fCM_a @fCMX_a) (And.intro @fiZ3_a @fSortSetW_t)))) (And.intro (And.intro (And.intro @fCMK_a (And.intro @fCMKX_a @fLm_a)) (And.intro (And.intro @fAddN_a @sParNN_a) (And.intro @fStrN_a @intSC_s))) (And.intro (And.intro (And.intro @decide_true @decide_false) (And.intro @Bool.not_true @Bool.not_false)) (And.intro (And.intro @Bool.false_eq_true @and_self) (And.intro @and_true @true_and))))) (And.intro (And.intro (And.intro (And.intro @and_false (And.intro @false_and @or_true)) (And.intro (And.intro @true_or @or_false) (And.intro @false_or @not_true_eq_false))) (And.intro (And.intro (And.intro @not_false_eq_true @Bool.and_true) (And.intro @Bool.true_and @Bool.and_false)) (And.intro (And.intro @Bool.false_and @Bool.or_true) (And.intro @Bool.true_or @Bool.or_false)))) (And.intro (And.intro (And.intro (And.intro @Bool.false_or @eq_self.{1}) (And.intro @if_true.{1} @if_false.{1})) (And.intro (And.intro @List.length_cons.{0} @List.length_nil.{0}) (And.intro @List.length_set.{0} @List.set_cons_zero.{0}))) (And.intro (And.intro (And.intro @List.set_cons_succ.{0} @List.getElem?_cons_zero.{0}) (And.intro @List.getElem?_cons_succ.{0} @List.getElem?_set.{0})) (And.intro (And.intro @List.cons_append.{0} @List.nil_append.{0}) (And.intro @List.isEmpty_cons.{0} @List.isEmpty_nil.{0}))))))))
theorem szT {n : Nat} (h : n ≤ 1000000) : (n ≤ sizeLine) = True := by rw [sizeLine_eq]; exact eq_true (by omega)
theorem szlT {n : Nat} (h : n < 1000000) : (n < sizeLine) = True := by rw [sizeLine_eq]; exact eq_true (by omega)
/-! ### frames by what their slots hold -/
abbrev vl (d : D) : Option L := some (.val d)
abbrev ow (l : List D) : Option L := some (.own l)
/-- δ' is δ but for the slots W -/
def Kp (W : List Nat) (δ δ' : En) : Prop := δ'.length = δ.length ∧ ∀ i, i ∉ W → δ'[i]? = δ[i]?
theorem Kp.refl {W : List Nat} {δ : En} : Kp W δ δ := ⟨rfl, fun _ _ => rfl⟩
theorem Kp.st {W : List Nat} {δ δ' : En} {i : Nat} {x : Option L} (h : Kp W δ δ') (hi : i ∈ W) : Kp W δ (δ'.set i x) := by
  refine ⟨by rw [List.length_set]; exact h.1, fun j hj => ?_⟩
  rw [List.getElem?_set_ne (fun e => hj (by rw [← e]; exact hi))]
  exact h.2 j hj
theorem Kp.trans {W : List Nat} {δ δ' δ2 : En} (h : Kp W δ δ') (h2 : Kp W δ' δ2) : Kp W δ δ2 := ⟨h2.1.trans h.1, fun i hi => (h2.2 i hi).trans (h.2 i hi)⟩
theorem Kp.mono {W V : List Nat} {δ δ' : En} (h : Kp W δ δ') (s : ∀ i ∈ W, i ∈ V) : Kp V δ δ' := ⟨h.1, fun i hi => h.2 i fun z => hi (s i z)⟩
theorem Kp.tr {W V : List Nat} {δ δ' δ2 : En} (h : Kp V δ δ') (h2 : Kp W δ' δ2) (s : ∀ i ∈ W, i ∈ V) : Kp V δ δ2 := h.trans (h2.mono s)
/-- a walk whose body goes on -/
theorem loop_k {t : Tg} {b : S} (W : List Nat) (I : Nat → En → List O → Prop) : ∀ {ds : List D} {δ : En} {η : List O}, I 0 δ η →
    (∀ k x δ1 η1, ds[k]? = some x → Kp W δ δ1 → I k δ1 η1 → ∃ δ1', asg t x δ1 = some δ1' ∧ ∃ δ2 η2, (b δ1' η1 = .nx δ2 η2 ∨ b δ1' η1 = .ct δ2 η2) ∧ Kp W δ δ2 ∧ I (k + 1) δ2 η2) →
    ∃ δ' η', loopF t b ds δ η = .nx δ' η' ∧ Kp W δ δ' ∧ I ds.length δ' η' := by
  intro ds δ η h0 hs
  obtain ⟨δ', η', e, k, q1, q2, q3⟩ := loop_inv (t := t) (b := b) (P := fun r δ1 η1 => ∃ k, r = ds.drop k ∧ k ≤ ds.length ∧ Kp W δ δ1 ∧ I k δ1 η1) (ds := ds) (δ := δ) (η := η) ⟨0, rfl, Nat.zero_le _, Kp.refl, h0⟩ fun x r δ1 η1 ⟨k, q1, q0, q2, q3⟩ => by
    have hx : ds[k]? = some x := by
      have := congrArg (fun l => l[0]?) q1
      simpa using this.symm
    obtain ⟨δ1', e1, δ2, η2, e2, k2, i2⟩ := hs k x δ1 η1 hx q2 q3
    refine ⟨δ1', e1, δ2, η2, e2, k + 1, ?_, ?_, k2, i2⟩
    · have := congrArg List.tail q1
      simpa using this
    · exact (List.getElem?_eq_some_iff.mp hx).1
  have hk : k = ds.length := by
    have := congrArg List.length q1
    simp at this
    omega
  subst hk
  exact ⟨δ', η', e, q3.1, q3.2⟩
/-- a walk over encoded items -/
theorem loop_m {α : Type} {t : Tg} {b : S} {enc : α → D} {xs : List α} (W : List Nat) (I : Nat → En → List O → Prop) {δ : En} {η : List O} (h0 : I 0 δ η)
    (hs : ∀ k x δ1 η1, xs[k]? = some x → Kp W δ δ1 → I k δ1 η1 → ∃ δ1', asg t (enc x) δ1 = some δ1' ∧ ∃ δ2 η2, (b δ1' η1 = .nx δ2 η2 ∨ b δ1' η1 = .ct δ2 η2) ∧ Kp W δ δ2 ∧ I (k + 1) δ2 η2) :
    ∃ δ' η', loopF t b (xs.map enc) δ η = .nx δ' η' ∧ Kp W δ δ' ∧ I xs.length δ' η' := by
  have := loop_k (t := t) (b := b) W I (ds := xs.map enc) h0 fun k x δ1 η1 hx hk hi => by
    rw [List.getElem?_map] at hx
    cases h : xs[k]? with
    | none => rw [h] at hx; cases hx
    | some y => rw [h] at hx; cases hx; exact hs k y δ1 η1 h hk hi
  rwa [List.length_map] at this
/-- statements one by one -/
theorem sq {A B : S} {δ δ1 : En} {η η1 : List O} {r : SR} (h : A δ η = .nx δ1 η1) (h2 : B δ1 η1 = r) : (sSeq A B) δ η = r := by rw [sSeq_a, h]; exact h2
theorem for_of {fi : F (List D)} {t : Tg} {b : S} {δ : En} {η η1 : List O} {ds : List D} {r : SR} (h : fi δ η = .ok ds η1) (h2 : loopF t b ds δ η1 = r) : (sFor fi t b) δ η = r := by rw [sFor_a, h]; exact h2
end DL
namespace DL
open PySem L2
section
variable {X : Cx} {C : Ct} {W : WX} {pos : Pos} {tg iter : Expr} {fa : F D}
variable {a b : Expr} {fb : F D} {n : Nat} {df : DF}
theorem fiR1_of {δ : En} {η η1 : List O} {j : Int} (h : fa δ η = .ok (.int j) η1) (hj : j ≤ 16777216 ∧ -16777216 ≤ j) : fiR1 fa δ η = .ok (rngD 0 j.toNat) η1 := by rw [fiR1_a, h, bind_ok]; exact if_pos hj
theorem app_of {δ : En} {η η1 : List O} {i : Nat} {l : List D} {d : D} {fs : F (List D)} (h : δ[i]? = some (ow l)) (h2 : fs δ η = .ok [d] η1) (hz : l.length < 1000000) : sMut i muApp fs δ η = .nx (δ.set i (ow (l ++ [d]))) η1 := by
  rw [sMut_a, h]
  dsimp only
  rw [h2, toS_ok, muApp_a, if_pos (by rw [sizeLine_eq]; omega)]
theorem frz_of {δ : En} {η : List O} {i : Nat} {l : List D} {b : S} {r : SR} (h : δ[i]? = some (ow l)) (h2 : b (δ.set i (vl (.lst l))) η = r) : sFz i b δ η = r := by
  rw [sFz_a, h]; exact h2
theorem ret_of {δ : En} {η η1 : List O} {d : D} (h : fa δ η = .ok d η1) : sRet fa δ η = .rt d η1 := by rw [sRet_a, h]; rfl
theorem set_of {δ : En} {η η1 : List O} {i : Nat} {d : D} (h : fa δ η = .ok d η1) : sSet i fa δ η = .nx (δ.set i (vl d)) η1 := by rw [sSet_a, h]; rfl
theorem rng_get {n : Nat} {i : Int} {k : Nat} {x : D} (h : (rngD i n)[k]? = some x) : k < n ∧ x = .int (i + k) := by
  unfold rngD at h
  rw [List.getElem?_map] at h
  by_cases hk : k < n
  · rw [List.getElem?_range hk] at h
    exact ⟨hk, (Option.some.inj h).symm⟩
  · rw [List.getElem?_eq_none (by simpa using hk)] at h
    cases h
theorem if_t {t : F Bool} {x y : S} {δ : En} {η η1 : List O} {r : SR} (h : t δ η = .ok true η1) (h2 : x δ η1 = r) : sIf t x y δ η = r := by rw [sIf_a, h, toS_ok, if_pos rfl]; exact h2
theorem if_f {t : F Bool} {x y : S} {δ : En} {η η1 : List O} {r : SR} (h : t δ η = .ok false η1) (h2 : y δ η1 = r) : sIf t x y δ η = r := by rw [sIf_a, h, toS_ok, if_neg (by decide)]; exact h2
theorem if_fn {t : F Bool} {x : S} {δ : En} {η η1 : List O} (h : t δ η = .ok false η1) : sIf t x SR.nx δ η = .nx δ η1 := if_f h rfl
end
end DL
namespace DL
open PySem L2
end DL
namespace DL
open PySem L2
def b_check_things : S := (sFor (fiE (fV 1)) (.tp [(.nm 2), (.nm 3)]) (sIf (fOrB (toB (fOp eqD (fV 2) (fC (.int 12)))) (fNotB (fTru (fCall 2 m_is_thing (fCons (fV 0) (fCons (fV 3) fNil)))))) (sRaise1 24 "at" "InvalidThing" (fV 2)) SR.nx))
def m_check_things : DF := runD 4 b_check_things
def b_plain_things : S := (sRet (fFrz (fLc [1, 2] (fiA (fV 0)) (.tp [(.nm 1), (.nm 2)]) fYes (fTup (fCons (fV 1) (fCons (fV 2) fNil))))))
def m_plain_things : DF := runD 3 b_plain_things
end DL
namespace DL
open PySem L2
end DL
namespace DL
open PySem L2
end DL
/-! a, b, c = e, [..], [..] -/
namespace DL
open PySem L2
section
variable {X : Cx} {C : Ct} {W : WX} {pos p2 : Pos} {fe fa fb fc fo : F D} {fs fn fm : F (List D)}
end
end DL
/-! parameters that are left to their default, None -/
namespace DL
open PySem L2
section
variable {K : PySem.W.Frag} {fd : FuncData} {ps ks : List Str} {np : Nat} {ix : List Nat} {T D : Addr} {o : Obj} {its : Array Value} {m : Nat}
end
section
variable {X : Cx} {C : Ct} {W : WX} {pos apos : Pos} {a b : Expr} {fa fb : F D}
end
end DL
namespace DL
open PySem L2
end DL
/-! ### lists of the store, read as they stand: walks, comprehensions, unpacking -/
namespace DL
open PySem L2
section
variable {C : Ct} {G G2 : Gh} {H H2 : Hp} {η η2 : List O} {d : D} {v : V} {l : List D}
/-- the items of a list, a tuple, a list of the store -/
def rdA (η : List O) : D → Option (List D)
  | .lst l => some l
  | .tup l => some l
  | .obj n => match η[n]? with
    | some (.lst l) => some l
    | _ => none
  | _ => none
def isTup : D → Bool
  | .tup _ => true
  | _ => false
theorem rd_lst (h : rdA η d = some l) (r : Rp C G H d v) (hh : Rh C G H η) (nt : isTup d = false) : ∃ a vs, v = .ref a ∧ SqL C.K H a vs ∧ Rps C G H l vs ∧ l.length ≤ sizeLine := by
  cases r with
  | lst q z r => cases h; exact ⟨_, _, rfl, q.sq, r, z⟩
  | tup q z r => cases nt
  | @obj n a ho =>
    unfold rdA at h
    dsimp only at h
    cases hn : η[n]? with
    | none => rw [hn] at h; cases h
    | some o =>
      rw [hn] at h
      cases o with
      | lst l' =>
        cases h
        obtain ⟨m, q⟩ := hh.ob n _ a hn ho
        cases q with
        | lst e z r => exact ⟨_, _, rfl, SqL.of e, r, z⟩
      | _ => cases h
  | _ => cases h
theorem rd_tup (h : rdA η d = some l) (r : Rp C G H d v) (nt : isTup d = true) : ∃ a vs, v = .ref a ∧ SqT C.K H a vs ∧ Rps C G H l vs ∧ l.length ≤ sizeLine := by
  cases r with
  | tup q z r => cases h; exact ⟨_, _, rfl, q.sq, r, z⟩
  | _ => cases nt
/-! ### targets -/
mutual
def asgR (η : List O) : Tg → D → En → Option En
  | .nm i, d, δ => some (δ.set i (some (.val d)))
  | .tp ts, d, δ => match rdA η d with
    | some l => asgsR η ts l δ
    | none => none
def asgsR (η : List O) : List Tg → List D → En → Option En
  | [], [], δ => some δ
  | t :: ts, d :: l, δ => (asgR η t d δ).bind fun δ' => asgsR η ts l δ'
  | _, _, _ => none
end
def gE (K : PySem.W.Frag) (n : Nat) (t : TGs) : TG := fun v σ H Q => gTup K n t v σ H Q ∨ gUnl K n t v σ H Q
mutual
def gVR (K : PySem.W.Frag) : Tg → TG
  | .nm i => gName i
  | .tp l => gE K l.length (gVRs K l)
def gVRs (K : PySem.W.Frag) : List Tg → TGs
  | [] => gNil
  | t :: l => gCons (gVR K t) (gVRs K l)
end
theorem asgsR_len : ∀ {ts : List Tg} {l : List D} {δ δ' : En}, asgsR η ts l δ = some δ' → l.length = ts.length
  | [], [], _, _, _ => rfl
  | [], _ :: _, _, _, h => by simp [asgsR] at h
  | _ :: _, [], _, _, h => by simp [asgsR] at h
  | t :: ts, d :: l, δ, δ', h => by
    rw [asgsR] at h
    cases q : asgR η t d δ with
    | none => rw [q] at h; cases h
    | some δ1 => rw [q] at h; rw [List.length_cons, List.length_cons, asgsR_len h]
variable {X : Cx}
mutual
theorem gVR_ok (hK : X.K = C.K) : ∀ (t : Tg) (d : D) (v : V) (G : Gh) (H : Hp) (δ δ' : En) (σ : St) (η0 η : List O) (Q : St → Hp → Prop), asgR η0 t d δ = some δ' → Rp C G H d v → Rh C G H η0 →
    (∀ σ', (∀ B, Hold C B G H δ σ η → Hold C B G H δ' σ' η) → (At C G H δ σ η → At C G H δ' σ' η) → Same' t.sl σ σ' → Q σ' H) → gVR X.K t v σ H Q
  | .nm i, d, v, G, H, δ, δ', σ, η0, η, Q, h, r, hh, q => by
    rw [asgR] at h
    cases h
    rw [gVR]
    exact q _ (fun B h => h.setVal r) (fun h => h.setVal r) ⟨by simp, fun j hj => List.getElem?_set_ne (by simpa [Tg.sl, eq_comm] using hj)⟩
  | .tp ts, d, v, G, H, δ, δ', σ, η0, η, Q, h, r, hh, q => by
    rw [asgR] at h
    cases hl : rdA η0 d with
    | none => rw [hl] at h; cases h
    | some l =>
      rw [hl] at h
      dsimp only at h
      have len := asgsR_len h
      rw [gVR]
      cases nt : isTup d with
      | true =>
        obtain ⟨a, vs, rfl, hs, hr, _⟩ := rd_tup hl r nt
        rw [← hK] at hs
        exact .inl ⟨a, vs, rfl, hs, by rw [← hr.length]; exact len, gVRs_ok hK ts l vs G H δ δ' σ η0 η Q h hr hh fun σ' h1 h2 h3 => q σ' h1 h2 (by rw [Tg.sl]; exact h3)⟩
      | false =>
        obtain ⟨a, vs, rfl, hs, hr, _⟩ := rd_lst hl r hh nt
        rw [← hK] at hs
        exact .inr ⟨a, vs, rfl, hs, by rw [← hr.length]; exact len, gVRs_ok hK ts l vs G H δ δ' σ η0 η Q h hr hh fun σ' h1 h2 h3 => q σ' h1 h2 (by rw [Tg.sl]; exact h3)⟩
theorem gVRs_ok (hK : X.K = C.K) : ∀ (ts : List Tg) (l : List D) (vs : List V) (G : Gh) (H : Hp) (δ δ' : En) (σ : St) (η0 η : List O) (Q : St → Hp → Prop), asgsR η0 ts l δ = some δ' → Rps C G H l vs → Rh C G H η0 →
    (∀ σ', (∀ B, Hold C B G H δ σ η → Hold C B G H δ' σ' η) → (At C G H δ σ η → At C G H δ' σ' η) → Same' (Tg.sls ts) σ σ' → Q σ' H) → gVRs X.K ts vs σ H Q
  | [], l, vs, G, H, δ, δ', σ, η0, η, Q, h, r, hh, q => by
    cases l with
    | nil =>
      rw [asgsR] at h
      cases h
      cases r
      rw [gVRs]
      exact ⟨rfl, q _ (fun _ h => h) (fun h => h) .refl⟩
    | cons _ _ => simp [asgsR] at h
  | t :: ts, l, vs, G, H, δ, δ', σ, η0, η, Q, h, r, hh, q => by
    cases l with
    | nil => simp [asgsR] at h
    | cons d l =>
      rw [asgsR] at h
      cases q1 : asgR η0 t d δ with
      | none => rw [q1] at h; cases h
      | some δ1 =>
        rw [q1] at h
        cases r with
        | @cons _ v _ vs r rr =>
          rw [gVRs]
          refine ⟨v, vs, rfl, ?_⟩
          refine gVR_ok hK t d v G H δ δ1 σ η0 η _ q1 r hh fun σ1 a1 b1 c1 => ?_
          refine gVRs_ok hK ts l vs G H δ1 δ' σ1 η0 η _ h rr hh fun σ2 a2 b2 c2 => ?_
          refine q σ2 (fun B z => a2 B (a1 B z)) (fun z => b2 (b1 z)) ?_
          rw [Tg.sls]
          exact (c1.mono fun i z => List.mem_append_left _ z).trans (c2.mono fun i z => List.mem_append_right _ z)
end
variable {pos : Pos}
variable {W : WX} {fe fa fb : F D} {st : Stmt}
/-! ### what is walked -/
inductive Src | one (d : D) | enm (d : D) | zip (d e : D)
def curS (η : List O) : Src → Nat → Option (Option D)
  | .one d, k => (rdA η d).map fun l => l[k]?
  | .enm d, k => (rdA η d).map fun l => (l[k]?).map fun x => .tup [.int (k : Nat), x]
  | .zip d e, k => match rdA η d, rdA η e with
    | some l, some m => some (match l[k]?, m[k]? with
      | some x, some y => some (.tup [x, y])
      | _, _ => none)
    | _, _ => none
theorem curS_one (h : rdA η d = some l) (k : Nat) : curS η (.one d) k = some (l[k]?) := by
  show (rdA η d).map _ = _
  rw [h]; rfl
theorem curS_enm (h : rdA η d = some l) (k : Nat) : curS η (.enm d) k = some ((l[k]?).map fun x => .tup [.int (k : Nat), x]) := by
  show (rdA η d).map _ = _
  rw [h]; rfl
def sizeS (η : List O) : Src → Nat
  | .one d => ((rdA η d).getD []).length
  | .enm d => ((rdA η d).getD []).length
  | .zip d _ => ((rdA η d).getD []).length
def ItL (C : Ct) (G : Gh) (H : Hp) (J : It) (src : Src) : Prop := ∀ G2 H2 η2 k, Stab G H G2 H2 → Rh C G2 H2 η2 → match curS η2 src k with
  | none => True
  | some none => J.stop k H2
  | some (some d) => J.go k H2 ∧ ∀ x H3, J.yld k H2 x H3 → (∀ a o, H2 a = some o → H3 a = some o) ∧ Rp C G2 H3 d x
def FinIL (C : Ct) (E : XK) (G : Gh) (H : Hp) (r : R Src) (K : It → Hp → Prop) : Prop := match r with
  | .ok src η' => ∀ J G' H', Nx G H G' H' → Rh C G' H' η' → sizeS η' src ≤ sizeLine → ItL C G' H' J src → K J H'
  | .exc c ns l η' => ∀ x vs G' H', Nx G H G' H' → Rh C G' H' η' → Xd G' H' x (ns.zip vs) → Rps C G' H' l vs → E (.ref (C.cl c)) (some x) H'
  | .bad => False
def tIL (C : Ct) (W : WX) (f : F Src) : TI := fun σ H R => ∃ G δ η, At C G H δ σ η ∧ FinIL C (fun c d H' => W c d σ H') G H (f δ η) R
theorem FinIL.next {E : XK} {G G' : Gh} {H H' : Hp} {r : R Src} {K : It → Hp → Prop} (h : FinIL C E G H r K) (x : Nx G H G' H') : FinIL C E G' H' r K := by
  cases r with
  | ok d η' => exact fun v G2 H2 y q1 q2 => h v G2 H2 (x.trans y) q1 q2
  | exc c ns l η' => exact fun a vs G2 H2 y q1 q2 q3 => h a vs G2 H2 (x.trans y) q1 q2 q3
  | bad => exact h
theorem tIL.bind {α β : Type} {Rel : Gh → Hp → α → β → Prop} {f : F α} {k : α → List O → R Src} {G : Gh} {δ : En} {η : List O} {σ : St} {H : Hp} {R : It → Hp → Prop} {Q : β → Hp → Prop} (a : At C G H δ σ η) (fin : FinIL C (fun c d H' => W c d σ H') G H ((f δ η).bind k) R)
    (h : ∀ x v G1 H1 η1, At C G1 H1 δ σ η1 → Nx G H G1 H1 → Rel G1 H1 x v → FinIL C (fun c d H' => W c d σ H') G1 H1 (k x η1) R → Q v H1) : tG C Rel W f σ H Q := by
  refine ⟨G, δ, η, a, ?_⟩
  cases hf : f δ η with
  | ok d η1 =>
    rw [hf] at fin
    exact fun v G1 H1 x q1 q2 => h d v G1 H1 η1 (a.next x q1) x q2 (FinIL.next (r := k d η1) fin x)
  | exc c ns l η1 => rw [hf] at fin; exact fin
  | bad => rw [hf] at fin; exact fin
/-! ### the three walks -/
variable {e a b tg : Expr}
def fsOne (fa : F D) : F Src := fun δ η => (fa δ η).bind fun d η => match rdA η d with
  | some _ => .ok (.one d) η
  | none => .bad
def fsEnm (fa : F D) : F Src := fun δ η => (fa δ η).bind fun d η => match rdA η d with
  | some _ => .ok (.enm d) η
  | none => .bad
end
end DL
/-! ### a for over what is read live, a comprehension over it -/
namespace DL
open PySem L2
section
variable {X : Cx} {C : Ct} {W : WX} {pos : Pos} {tg iter : Expr}
/-! ### comprehensions -/
def compL (t : Tg) (ft : F Bool) (fe : F D) (δw : En) (src : Src) : Nat → Nat → List O → R (List D)
  | 0, _, _ => .bad
  | f + 1, k, η => match curS η src k with
    | none => .bad
    | some none => .ok [] η
    | some (some x) => match asgR η t x δw with
      | none => .bad
      | some δ1 => (ft δ1 η).nox.bind fun b η => if b = true then (fe δ1 η).nox.bind fun y η => (compL t ft fe δw src f (k + 1) η).bind fun ys η => .ok (y :: ys) η else compL t ft fe δw src f (k + 1) η
def fLcL (vs : List Nat) (fs : F Src) (t : Tg) (ft : F Bool) (fe : F D) : F (List D) := fun δ η => (fs δ η).bind fun src η => compL t ft fe (wipeD δ vs) src (sizeS η src + 1) 0 η
variable {fe : F D}
variable {elt : Expr} {ifs : List Expr} {scope : Scope} {pos' : Pos} {fi : F Src} {t : Tg} {ft : F Bool} {felt : F D}
end
end DL
/-! ### items and slices of what may be a list of the store; what the walks and comprehensions give -/
namespace DL
open PySem L2
section
variable {C : Ct} {G : Gh} {H : Hp} {η : List O} {d : D} {v : V}
def drD (η : List O) : D → D
  | .obj n => match η[n]? with
    | some (.lst l) => .lst l
    | _ => .obj n
  | d => d
variable {X : Cx} {W : WX} {a b : Expr} {fa fb : F D} {pos p2 : Pos}
variable {lo hi : Option Expr} {fl fh : F (Option Int)}
def fSlL (fa : F D) (fl fh : F (Option Int)) : F D := fun δ η => (fa δ η).bind fun d η => (fl δ η).bind fun lo η => (fh δ η).bind fun hi η => lift (slD (drD η d) lo hi) η
end
/-! ### how they run -/
section
variable {η η1 η2 : List O} {δ : En} {fa fb : F D} {d e : D} {l m : List D} {n : Nat}
theorem rd_obj (h : η[n]? = some (.lst l)) : rdA η (.obj n) = some l := by unfold rdA; dsimp only; rw [h]
theorem rd_t : rdA η (.tup l) = some l := rfl
theorem dr_obj (h : η[n]? = some (.lst l)) : drD η (.obj n) = .lst l := by unfold drD; dsimp only; rw [h]
theorem one_of (h : fa δ η = .ok d η1) (hr : rdA η1 d = some l) : fsOne fa δ η = .ok (.one d) η1 := by
  unfold fsOne
  rw [h, bind_ok, hr]
theorem enm_of (h : fa δ η = .ok d η1) (hr : rdA η1 d = some l) : fsEnm fa δ η = .ok (.enm d) η1 := by
  unfold fsEnm
  rw [h, bind_ok, hr]
theorem size_one (hr : rdA η d = some l) : sizeS η (.one d) = l.length := by show ((rdA η d).getD []).length = _; rw [hr]; rfl
theorem size_enm (hr : rdA η d = some l) : sizeS η (.enm d) = l.length := by show ((rdA η d).getD []).length = _; rw [hr]; rfl
theorem lcL_run {vs : List Nat} {fs : F Src} {t : Tg} {ft : F Bool} {fe : F D} {src : Src} {r : R (List D)} (h : fs δ η = .ok src η1) (h2 : compL t ft fe (wipeD δ vs) src (sizeS η1 src + 1) 0 η1 = r) : fLcL vs fs t ft fe δ η = r := by
  unfold fLcL
  rw [h, bind_ok]; exact h2
end
end DL
/-! ### an own instance beside a number: ==, isinstance -/
namespace DL
open PySem L2
section
variable {X : Cx} {C : Ct} {W : WX} {pos p2 p : Pos} {e a b : Expr} {es : List Expr} {fe fa fb : F D}
variable {P : Program} {k n : Nat} {g A : Addr} {fd : FuncData} {ps ks : List Str} {df : DF} {x : Str}
end
end DL
namespace DL
open PySem L2
variable {X : Cx} {C : Ct} {W : WX} {fn : F (List D)}
end DL
namespace DL
open PySem L2
section
variable {X : Cx} {C : Ct} {W : WX} {a b : Expr} {fa fb : F D} {pos : Pos} {g : D → D → Option D} {op : CmpOp}
end
end DL
namespace DL
open PySem L2
/-! ### isinstance of what may be a list of the store -/
section
variable {X : Cx} {C : Ct} {W : WX} {e : Expr} {fe : F D} {pos : Pos}
end
end DL
namespace DL
open PySem PySem.Spec PyProof.Rows L2
/-! ### xs.pop() of a list of the store as a value; o.a, o.b, o.c = e -/
section
variable {X : Cx} {C : Ct} {W : WX} {e o : Expr} {fe fo : F D} {pos : Pos}
end
end DL
/-! ### a comprehension of two fors whose first walks what is read live (printed by mkdsa.py from DP9) -/
namespace DL
open PySem L2
open PyProof.Rows (envOfC)
section
variable {X : Cx} {C : Ct} {W : WX}
def compL2 (t : Tg) (ft : F Bool) (fi1 : F (List D)) (t1 : Tg) (ft1 : F Bool) (fe : F D) (vs1 : List Nat) (δw : En) (src : Src) : Nat → Nat → List O → R (List D)
  | 0, _, _ => .bad
  | f + 1, k, η => match curS η src k with
    | none => .bad
    | some none => .ok [] η
    | some (some x) => match asg t x δw with
      | none => .bad
      | some δ1 => (ft δ1 η).nox.bind fun b η => if b = true then (fi1 δ1 η).nox.bind fun es η => (compF t1 ft1 fe (wipeD δ1 vs1) es η).nox.bind fun l η => (compL2 t ft fi1 t1 ft1 fe vs1 δw src f (k + 1) η).bind fun ys η => .ok (l ++ ys) η
        else compL2 t ft fi1 t1 ft1 fe vs1 δw src f (k + 1) η
def fC2L (k : List D → List O → R (List D)) (vs vs1 : List Nat) (fi : F Src) (t : Tg) (ft : F Bool) (fi1 : F (List D)) (t1 : Tg) (ft1 : F Bool) (fe : F D) : F (List D) :=
  fun δ η => (fi δ η).bind fun src η => (compL2 t ft fi1 t1 ft1 fe vs1 (wipeD δ vs) src (sizeS η src + 1) 0 η).nox.bind k
variable {elt tg iter tg1 iter1 : Expr} {ifs ifs1 : List Expr} {scope : Scope} {pos p2 p3 p4 q4 spos py : Pos} {fi : F Src} {fi1 : F (List D)} {t t1 : Tg} {ft ft1 : F Bool} {felt : F D}
/-! for math -/
theorem fC2L_a {k : List D → List O → R (List D)} {vs vs1 : List Nat} {fi : F Src} {t : Tg} {ft : F Bool} {fi1 : F (List D)} {t1 : Tg} {ft1 : F Bool} {fe : F D} {δ : En} {η : List O} : fC2L k vs vs1 fi t ft fi1 t1 ft1 fe δ η = (fi δ η).bind fun src η => (compL2 t ft fi1 t1 ft1 fe vs1 (wipeD δ vs) src (sizeS η src + 1) 0 η).nox.bind k := rfl
end
end DL
namespace DL
open PySem PySem.Spec PyProof.Rows L2
/-! ### xs.index(z) of a list of texts -/
def idxS : List D → D → Option D
  | l, .str k => match strsOf l with
    | some ns => if k ∈ ns then some (.int (ns.idxOf k : Nat)) else none
    | none => none
  | _, _ => none
section
variable {X : Cx} {C : Ct} {W : WX} {o e : Expr} {fo fa : F D} {apos cpos : Pos}
theorem idxS_of {l : List Str} {z : Str} (h : z ∈ l) : idxS (l.map .str) (.str z) = some (.int (l.idxOf z : Nat)) := by
  unfold idxS
  dsimp only
  rw [strsOf_map]
  exact if_pos h
end
end DL
namespace DL
open PySem L2
def b_Guide_book : S := (sRet (fFld 3 ["own_book", "own_rows"] 0 (fV 0)))
def m_Guide_book : DF := runD 1 b_Guide_book
def b_Book_word_names : S := (sRet (fFrz (fLc [1, 2, 3] (fiA (fFld 0 ["sort_rows", "word_rows", "own_memory"] 1 (fV 0))) (.tp [(.nm 1), (.nm 2), (.nm 3)]) fYes (fV 1))))
def m_Book_word_names : DF := runD 4 b_Book_word_names
def b_Book_name_price : S := (sSeq (sFor (fiA (fFld 0 ["sort_rows", "word_rows", "own_memory"] 0 (fV 0))) (.tp [(.nm 2), (.nm 3)]) (sIf (toB (fOp eqD (fV 2) (fV 1))) (sRet (fV 3)) SR.nx))
    (sRaise1 40 "name" "UnknownSort" (fV 1)))
def m_Book_name_price : DF := runD 4 b_Book_name_price
def b_Book_can_stand : S := (sSeq (sSet 3 (fOp ixD (fMethX 0 ["sort_rows", "word_rows", "own_memory"] 2 0 2 m_Book_word_row [0, 1] [] (fV 0) (fCons (fV 1) fNil) fNil) (fC (.int 1))))
    (sSeq (sDrop (fMethX 0 ["sort_rows", "word_rows", "own_memory"] 2 0 2 m_Book_name_price [0, 1] [] (fV 0) (fCons (fV 2) fNil) fNil))
    (sRet (fOp inD (fV 2) (fV 3)))))
def m_Book_can_stand : DF := runD 4 b_Book_can_stand
def b_plain_holds : S := (sSeq (sAsg (fV 2) (.tp [(.nm 3), (.nm 4), (.nm 5), (.nm 6), (.nm 7), (.nm 8)]))
    (sSeq (sIf (toB (fOp eqD (fOp ixD (fV 0) (fC (.int 0))) (fC (.str "last")))) (sRet (fOp notInD (fV 1) (fV 7))) SR.nx)
    (sSeq (sIf (toB (fOp eqD (fOp ixD (fV 0) (fC (.int 0))) (fC (.str "told")))) (sRet (fOp leD (fV 3) (fOp ixD (fV 0) (fC (.int 1))))) SR.nx)
    (sSeq (sIf (toB (fOp eqD (fOp ixD (fV 0) (fC (.int 0))) (fC (.str "named")))) (sRet (fOp leD (fV 4) (fOp ixD (fV 0) (fC (.int 1))))) SR.nx)
    (sSeq (sIf (toB (fOp eqD (fOp ixD (fV 0) (fC (.int 0))) (fC (.str "quiet")))) (sRet (fOp gtD (fOp ixD (fV 8) (fV 1)) (fOp ixD (fV 0) (fC (.int 1))))) SR.nx)
    (sRet (fIf (toB (fOp eqD (fOp ixD (fV 0) (fC (.int 0))) (fC (.str "calm")))) (fOp eqD (fV 6) (fC (.int 1))) (fOp eqD (fV 5) (fC (.int 1))))))))))
def m_plain_holds : DF := runD 9 b_plain_holds
def b_test_holds : S := (sSeq (sIf (toB (fOp eqD (fOp ixD (fV 0) (fC (.int 0))) (fC (.str "not")))) (sRet (fNot (fCall 3 m_plain_holds (fCons (fOp ixD (fV 0) (fC (.int 1))) (fCons (fV 1) (fCons (fV 2) fNil)))))) SR.nx)
    (sRet (fCall 3 m_plain_holds (fCons (fV 0) (fCons (fV 1) (fCons (fV 2) fNil))))))
def m_test_holds : DF := runD 3 b_test_holds
def b_Guide_word_by : S := (sSeq (sIf (toB (fOp ltD (fOp ixD (fV 2) (fC (.int 0))) (fC (.int 0)))) (sRet (fC .non)) SR.nx)
    (sSeq (sSet 3 (fMeth 0 ["sort_rows", "word_rows", "own_memory"] 1 0 1 m_Book_word_names [0] [] (fFld 3 ["own_book", "own_rows"] 0 (fV 0)) fNil fNil))
    (sSeq (sFor (fiA (fFld 3 ["own_book", "own_rows"] 1 (fV 0))) (.tp [(.nm 4), (.nm 5)]) (sIf (fTru (fMethX 0 ["sort_rows", "word_rows", "own_memory"] 3 0 3 m_Book_can_stand [0, 1, 2] [] (fFld 3 ["own_book", "own_rows"] 0 (fV 0)) (fCons (fV 4) (fCons (fV 1) fNil)) fNil)) (sIf (fTru (fCall1 allC (fFrz (fLc [6] (fiA (fV 5)) (.nm 6) fYes (fCall 3 m_test_holds (fCons (fV 6) (fCons (fLm idxS (fV 3) (fV 4)) (fCons (fV 2) fNil)))))))) (sRet (fV 4)) SR.nx) SR.nx))
    (sRet (fC .non)))))
def m_Guide_word_by : DF := runD 7 b_Guide_word_by
def b_test_reach : S := (sSeq (sSet 1 (fIf (toB (fOp eqD (fOp ixD (fV 0) (fC (.int 0))) (fC (.str "not")))) (fOp ixD (fV 0) (fC (.int 1))) (fV 0)))
    (sRet (fIf (toB (fOp eqD (fCall1 lenD (fV 1)) (fC (.int 2)))) (fOp ixD (fV 1) (fC (.int 1))) (fC (.int 0)))))
def m_test_reach : DF := runD 2 b_test_reach
def b_Guide_reach : S := (sRet (fCall1 maxC (fFrz (fLstN (fCons (fC (.int 0)) (fStar (fFrz (fC2 kLst [1, 2, 3] [3] (fiA (fFld 3 ["own_book", "own_rows"] 1 (fV 0))) (.tp [(.nm 1), (.nm 2)]) fYes (fiA (fV 2)) (.nm 3) fYes (fCall 1 m_test_reach (fCons (fV 3) fNil)))) fNil))))))
def m_Guide_reach : DF := runD 4 b_Guide_reach
def b_Speaker_view_of : S := (sSeq (sPar 3 4 (fOp subD (fCall1 lenD (fDr (fFld 4 ["own_guide", "own_told", "own_rings"] 2 (fV 0)))) (fC (.int 1))) (fOp addD (fProp 3 1 m_Guide_reach (fFld 4 ["own_guide", "own_told", "own_rings"] 0 (fV 0))) (fC (.int 1))))
    (sSeq (sSet 5 (fMeth 0 ["sort_rows", "word_rows", "own_memory"] 1 0 1 m_Book_words [0] [] (fProp 3 1 m_Guide_book (fFld 4 ["own_guide", "own_told", "own_rings"] 0 (fV 0))) fNil fNil))
    (sSeq (sFrz 6 (fLcL [17] (fsOne (fV 2)) (.nm 17) (toB (fOp eqD (fOp ixD (fV 17) (fC (.int 1))) (fV 1))) (fV 17)))
    (sSeq (sOwn 7 (fLstN fNil))
    (sSeq (sFor (fiA (fV 5)) (.tp [(.nm 8), (.nm 9), (.nm 10)]) (sSeq (sFrz 11 (fLcL [17] (fsOne (fV 2)) (.nm 17) (fAndB (toB (fOp neD (fOp ixD (fV 17) (fC (.int 1))) (fV 1))) (toB (fOp inD (fOp ixD (fOp ixD (fV 17) (fC (.int 1))) (fC (.int 0))) (fV 9)))) (fOp ixD (fV 17) (fC (.int 0)))))
    (sMut 7 muApp (fCons (fIf (toB (fOp neD (fV 11) (fFrz (fLstN fNil)))) (fCall1 minC (fFrz (fLstN (fCons (fV 4) (fCons (fOp subD (fV 3) (fOp ixD (fV 11) (fNeg (fC (.int 1))))) fNil))))) (fV 4)) fNil))))
    (sSeq (sIf (toB (fOp eqD (fV 6) (fFrz (fLstN fNil)))) (sRet (fTup (fCons (fNeg (fC (.int 1))) (fCons (fNeg (fC (.int 1))) (fCons (fC (.int 0)) (fCons (fC (.int 0)) (fCons (fTup fNil) (fCons (fCall1 tupC (fVo 7)) fNil)))))))) SR.nx)
    (sSeq (sSet 12 (fCall1 maxC (fFrz (fLcL [18, 17] (fsEnm (fV 2)) (.tp [(.nm 18), (.nm 17)]) (toB (fOp eqD (fOp ixD (fV 17) (fC (.int 1))) (fV 1))) (fV 18)))))
    (sSeq (sSet 13 (fSlL (fV 2) (fPt (fOp addD (fV 12) (fC (.int 1)))) fNoP))
    (sSeq (sFrz 14 (fLc [18, 17] (fiE (fV 5)) (.tp [(.nm 18), (.nm 17)]) (fTru (fCall1 anyC (fFrz (fLc [19] (fiA (fV 13)) (.nm 19) fYes (fOp inD (fOp ixD (fOp ixD (fV 19) (fC (.int 1))) (fC (.int 0))) (fOp ixD (fV 17) (fC (.int 1)))))))) (fV 18)))
    (sSeq (sFrz 15 (fLc [17] (fiA (fV 6)) (.nm 17) (toB (fOp isN (fOp ixD (fV 17) (fC (.int 2))) (fC .non))) (fOp ixD (fV 17) (fC (.int 0)))))
    (sSeq (sSet 16 (fCall1 intC (fOp notInD (fC (.int 1)) (fSlL (fFld 4 ["own_guide", "own_told", "own_rings"] 2 (fV 0)) (fPt (fOp addD (fOp ixD (fOp ixD (fV 6) (fNeg (fC (.int 1)))) (fC (.int 0))) (fC (.int 1)))) fNoP))))
    (sRet (fTup (fCons (fCall1 minC (fFrz (fLstN (fCons (fV 4) (fCons (fOp subD (fV 3) (fOp ixD (fOp ixD (fV 6) (fNeg (fC (.int 1)))) (fC (.int 0)))) fNil))))) (fCons (fCall1 minC (fFrz (fLstN (fCons (fV 4) (fCons (fOp subD (fV 3) (fOp ixD (fV 15) (fNeg (fC (.int 1))))) fNil))))) (fCons (fCall1 intC (fOp isN (fOp ixD (fOp ixD (fV 6) (fNeg (fC (.int 1)))) (fC (.int 2))) (fC .non))) (fCons (fV 16) (fCons (fCall1 tupC (fV 14)) (fCons (fCall1 tupC (fVo 7)) fNil)))))))))))))))))))
def m_Speaker_view_of : DF := runD 20 b_Speaker_view_of
def b_Speaker_say : S := (sSeq (sDrop (fCallX 2 m_check_things (fCons (fProp 3 1 m_Guide_book (fFld 4 ["own_guide", "own_told", "own_rings"] 0 (fV 0))) (fCons (fV 1) fNil))))
    (sSeq (sIf (toB (fOp notInD (fV 2) (fTup (fCons (fC (.int 0)) (fCons (fC (.int 1)) fNil))))) (sRaise1 33 "at" "InvalidBell" (fCall1 lenD (fDr (fFld 4 ["own_guide", "own_told", "own_rings"] 2 (fV 0))))) SR.nx)
    (sSeq (sMutO muApp (fFld 4 ["own_guide", "own_told", "own_rings"] 2 (fV 0)) (fCons (fV 2) fNil))
    (sSeq (sParNV 3 4 (fLstN fNil) (fNewO (fC2L kLst [8, 9] [9] (fsOne (fFld 4 ["own_guide", "own_told", "own_rings"] 1 (fV 0))) (.nm 8) fYes (fiA (fV 8)) (.nm 9) fYes (fV 9))))
    (sSeq (sSet 5 (fCall1 lenD (fDr (fV 4))))
    (sSeq (sFor (fiA (fCall 1 m_plain_things (fCons (fV 1) fNil))) (.nm 6) (sSeq (sSet 7 (fMethX 3 ["own_book", "own_rows"] 3 0 3 m_Guide_word_by [0, 1, 2] [] (fFld 4 ["own_guide", "own_told", "own_rings"] 0 (fV 0)) (fCons (fOp ixD (fV 6) (fC (.int 0))) (fCons (fMeth 4 ["own_guide", "own_told", "own_rings"] 3 0 3 m_Speaker_view_of [0, 1, 2] [] (fV 0) (fCons (fV 6) (fCons (fV 4) fNil)) fNil) fNil)) fNil))
    (sSeq (sMut 3 muApp (fCons (fIf (toB (fOp isN (fV 7) (fC .non))) (fV 6) (fV 7)) fNil))
    (sMutO muApp (fV 4) (fCons (fTup (fCons (fOp subD (fCall1 lenD (fDr (fFld 4 ["own_guide", "own_told", "own_rings"] 2 (fV 0)))) (fC (.int 1))) (fCons (fV 6) (fCons (fV 7) fNil)))) fNil)))))
    (sFz 3 (sSeq (sMutO muApp (fFld 4 ["own_guide", "own_told", "own_rings"] 1 (fV 0)) (fCons (fSlL (fV 4) (fPt (fV 5)) fNoP) fNil))
    (sRet (fV 3))))))))))
def m_Speaker_say : DF := runD 10 b_Speaker_say
end DL
namespace DL
open PySem PySem.Spec PyProof.Rows L2
/-! ### o.a, o.b = e -/
section
variable {X : Cx} {C : Ct} {W : WX} {e o : Expr} {fe fo : F D} {pos : Pos}
end
section
variable {K : PySem.W.Frag} {fd : FuncData} {ps ks : List Str} {np : Nat} {ix : List Nat} {T D : Addr} {o : Obj} {its : Array Value} {m : Nat}
end
end DL
namespace DL
open PySem PySem.Spec PyProof.Rows L2 PySem.W
/-! ### sorted(xs) of plain data -/
def hdB : D → Bool | .tup (_ :: _) => true | _ => false
def flB : D → Bool | .bl _ => true | .int _ => true | .str _ => true | .lst _ => true | _ => false
def sortableB (l : List D) : Bool := (l.all fun d => l.all fun e => alike (toPy d) (toPy e)) && (l.all hdB || l.all flB)
def sortD (l : List D) : List D := l.mergeSort (dataLe false toPy)
theorem alike_of {l : List D} (h : sortableB l = true) : AllAlike (l.map toPy) := by
  unfold sortableB at h
  rw [Bool.and_eq_true, List.all_eq_true] at h
  intro d hd e he
  obtain ⟨x, hx, rfl⟩ := List.mem_map.mp hd
  obtain ⟨y, hy, rfl⟩ := List.mem_map.mp he
  exact (List.all_eq_true.mp (h.1 x hx)) y hy
theorem sortable_of {l : List D} (h : sortableB l = true) : Sortable (l.map toPy) := by
  unfold sortableB at h
  rw [Bool.and_eq_true, Bool.or_eq_true, List.all_eq_true, List.all_eq_true, List.all_eq_true] at h
  rcases h.2 with h | h
  · left
    intro d hd
    obtain ⟨x, hx, rfl⟩ := List.mem_map.mp hd
    have := h x hx
    unfold hdB at this
    split at this
    · exact ⟨_, _, by rw [toPy, toPys]⟩
    · cases this
  · right
    intro d hd
    obtain ⟨x, hx, rfl⟩ := List.mem_map.mp hd
    have := h x hx
    cases x <;> first | (cases this; done) | (rw [toPy]; exact ⟨(fun z => by cases z), (fun _ z => by cases z)⟩)
section
variable {X : Cx} {C : Ct} {W : WX} {e a : Expr} {fa : F D} {ta : TE} {p p2 q pos : Pos}
theorem each_of {l : List D} : ∀ {vs : List V} {us : List Value}, l.length = vs.length → Vals vs us → EachIs (fun (u : Value) (b : D × V) => RelV b.2 u) us (l.zip vs) := by
  induction l with
  | nil =>
    intro vs us h r
    cases vs with
    | nil => cases r; exact .nil
    | cons v vs => cases h
  | cons d l ih =>
    intro vs us h r
    cases vs with
    | nil => cases h
    | cons v vs =>
      cases r with
      | cons r1 r2 => exact .cons r1 (ih (Nat.succ.inj h) r2)
theorem vals_of_each : ∀ {us : List Value} {bs : List (D × V)}, EachIs (fun (u : Value) (b : D × V) => RelV b.2 u) us bs → Vals (bs.map (·.2)) us
  | _, _, .nil => .nil
  | _, _, .cons r s => .cons r (vals_of_each s)
def tSortD (K : PySem.W.Frag) (ta : TE) : TE := fun σ H Q => ta σ H fun x H1 => ∃ (a : Addr) (l : List D) (vs : List V), x = .ref a ∧ SqL K H1 a vs ∧ l.length = vs.length ∧ l.length ≤ 1000 ∧ (∀ b ∈ l.zip vs, Dp K H1 b.2 (toPy b.1) ∧ (toPy b.1).depth ≤ 20) ∧ sortableB l = true ∧
  ∀ p, H1 p = none → Q (.ref p) (upd H1 p (.lst (((l.zip vs).mergeSort (dataLe false fun b => toPy b.1)).map (·.2))))
theorem pe_sortD (hu : X.A.units + 64 < cLine) (hg : Gl X "sorted") (hm : X.mg "sorted" = none) (hb : bootBuiltins "sorted" = some (.builtin "sorted")) (ha : PE X a ta)
    (na : starEach [a] X.env = (false, eval a X.env) :: starEach [] X.env := by rfl) : PE X (.Call (.Name "sorted" p) [a] [] pos) (tSortD X.K ta) := by
  refine ⟨fun pins s σ H Q I h => Call_ (ld_blt I hg hm hb (callWith_builtin1 (args_cons (thn (ha.run pins s σ H _ I h) fun v s1 ⟨x, H1, I1, r1, l, ld, vs, ex, hq, hlen, hz, hd, hs, q1⟩ => args_nil ?_) na) na rfl))⟩
  subst ex
  cases r1
  obtain ⟨its, r, pl, _⟩ := I1.list hq
  have e1 := each_of hlen r
  have zl : (ld.zip vs).length = ld.length := by rw [List.length_zip, ← hlen, Nat.min_self]
  have zf : (ld.zip vs).map (fun b => toPy b.1) = ld.map toPy := by
    rw [show (fun b : D × V => toPy b.1) = toPy ∘ Prod.fst from rfl, ← List.map_map, List.map_fst_zip (by omega)]
  have e2 : EachIs (fun (u : Value) (b : D × V) => ∃ as, Reads s1.heap u (toPy b.1) as) its (ld.zip vs) := (each_mem e1).mono fun u b ⟨hr, hb⟩ => Dp.reads I1 _ _ _ (hd b hb).1 hr
  have hl : s1.heap.IsList l its.toArray := by simpa using pl.isList
  show wpAny (model X.prog X.w) _ (call (.builtin "sorted") [.ref l]) _ _ s1
  refine sorted_data (enc := fun b : D × V => toPy b.1) hl e1 e2 (by rw [zf]; exact alike_of hs) (by rw [zf]; exact sortable_of hs) (by rw [zl, sizeLine_eq]; omega) (fun b hb => by have := (hd b hb).2; omega) fun out lo eo => ?_
  obtain ⟨c, hc⟩ := sortedAll_at s1.heap its out.toArray
  have hn : H1 (s1.heap.objs.size + 1) = none := I1.hok.fresh (Nat.le_succ _)
  have hlen2 : (((ld.zip vs).mergeSort (dataLe false fun b => toPy b.1)).map (·.2)).length ≤ sizeLine := by rw [List.length_map, List.length_mergeSort, zl, sizeLine_eq]; omega
  have J : Inv X pins σ (upd H1 (s1.heap.objs.size + 1) (.lst (((ld.zip vs).mergeSort (dataLe false fun b => toPy b.1)).map (·.2)))) { s1 with heap := sortedAll s1.heap its out.toArray } :=
    Inv.laid (t' := s1.toks) I1 (fun b u z => sortedAll_old z) (Nat.le_succ _) ⟨hlen2, out, c, vals_of_each eo, by simpa using hc⟩
  exact ⟨.ref (s1.heap.objs.size + 1), _, J, rfl, q1 _ hn⟩
def fSortD (fa : F D) : F (List D) := fun δ η => (fa δ η).bind fun d η => match d with
  | .lst l => if pureDs 20 l = true ∧ sortableB l = true ∧ l.length ≤ 1000 then .ok (sortD l) η else .bad
  | _ => .bad
theorem rps_len {G : Gh} {H : Hp} : ∀ {l : List D} {vs : List V}, Rps C G H l vs → l.length = vs.length
  | _, _, .nil => rfl
  | _, _, .cons _ r => by rw [List.length_cons, List.length_cons, rps_len r]
theorem rps_zip {G : Gh} {H : Hp} : ∀ {l : List D} {vs : List V}, Rps C G H l vs → ∀ b ∈ l.zip vs, Rp C G H b.1 b.2
  | _, _, .nil, b, h => by cases h
  | _, _, .cons r s, b, h => by
    rw [List.zip_cons_cons] at h
    rcases List.mem_cons.mp h with rfl | h
    · exact r
    · exact rps_zip s b h
theorem rps_of_zip {G : Gh} {H : Hp} : ∀ {bs : List (D × V)}, (∀ b ∈ bs, Rp C G H b.1 b.2) → Rps C G H (bs.map (·.1)) (bs.map (·.2))
  | [], _ => .nil
  | b :: bs, h => .cons (h b (List.mem_cons_self ..)) (rps_of_zip fun c hc => h c (List.mem_cons_of_mem _ hc))
theorem fn_sortD (hK : X.K = C.K) (hu : X.A.units + 64 < cLine) (hm : X.mg "sorted" = none) (hb : bootBuiltins "sorted" = some (.builtin "sorted")) (ha : FE C W X a fa) (hg : Gl X "sorted" := by rfl)
    (na : starEach [a] X.env = (false, eval a X.env) :: starEach [] X.env := by rfl) : FN C W X (.Call (.Name "sorted" p) [a] [] pos) (fSortD fa) := by
  refine PE.imp (pe_sortD hu hg hm hb ha na) fun σ H Q ⟨G, δ, η, a0, fin⟩ => ?_
  refine tN.bind (Rel := Rp C) a0 fin fun d v G1 H1 η1 a1 x1 r1 fin1 => ?_
  cases r1 with
  | @lst a vs l h z r =>
    dsimp only at fin1
    split at fin1
    · rename_i hz
      have h2 := h.sq
      rw [← hK] at h2
      have ll := rps_len r
      have mf : ((l.zip vs).mergeSort (dataLe false fun b : D × V => toPy b.1)).map (·.1) = sortD l := by
        unfold sortD
        have := sort_maps (r := dataLe false fun b : D × V => toPy b.1) (s := dataLe false toPy) (fun b : D × V => b.1) (l := l.zip vs) fun a _ b _ => rfl
        rw [this, show (fun b : D × V => b.1) = Prod.fst from rfl, List.map_fst_zip (by omega)]
      have rs : Rps C G1 H1 (((l.zip vs).mergeSort (dataLe false fun b : D × V => toPy b.1)).map (·.1)) (((l.zip vs).mergeSort (dataLe false fun b : D × V => toPy b.1)).map (·.2)) := rps_of_zip fun b hb => rps_zip r b (List.mem_mergeSort.mp hb)
      rw [mf] at rs
      refine ⟨_, l, vs, rfl, h2, ll, hz.2.2, fun b hb => ?_, hz.2.1, fun p hp => FinN.of Nx.refl fin1 a1.he rs (by unfold sortD; rw [List.length_mergeSort, sizeLine_eq]; omega) hp⟩
      have hp : pureD 20 b.1 = true := by
        have := (pureDs_iff.mp hz.1) b.1 (List.of_mem_zip hb).1
        exact this
      obtain ⟨d1, _, d3⟩ := dp_of (K := X.K) hK (rps_zip r b hb) hp
      exact ⟨d1, d3⟩
    · exact fin1.elim
  | _ => exact fin1.elim
@[simp] theorem fSortD_a {δ : En} {η : List O} : fSortD fa δ η = (fa δ η).bind fun d η => (match d with
  | .lst l => if pureDs 20 l = true ∧ sortableB l = true ∧ l.length ≤ 1000 then .ok (sortD l) η else .bad
  | _ => .bad) := rfl
end
end DL
namespace DL
open PySem PySem.Spec PyProof.Rows L2
/-! ### dict(pairs)[k], pairs with texts as keys, each key once -/
def prsD : List D → Option (List (Str × D))
  | [] => some []
  | .tup [.str z, v] :: l => (prsD l).map fun r => (z, v) :: r
  | _ => none
def fDictIx (fa fi : F D) : F D := fun δ η => (fa δ η).bind fun d η => match d with
  | .lst l => match prsD l with
    | some ps => if (ps.map (·.1)).Nodup then (fi δ η).bind fun k η => (match k with
      | .str z => match ps.find? (fun p => decide (p.1 = z)) with
        | some p => .ok p.2 η
        | none => .bad
      | _ => .bad) else .bad
    | none => .bad
  | _ => .bad
theorem putK_new {kvs : List (Key × V)} {k : Key} {v : V} (h : k ∉ kvs.map (·.1)) : putK kvs k v = kvs ++ [(k, v)] := by
  unfold putK
  rw [if_neg]
  intro q
  obtain ⟨p, hp, e⟩ := List.any_eq_true.mp q
  exact h (List.mem_map.mpr ⟨p, hp, of_decide_eq_true e⟩)
theorem merge_nodup : ∀ {more kvs : List (Key × V)}, ((kvs ++ more).map (·.1)).Nodup → mergeK kvs more = kvs ++ more
  | [], kvs, _ => (List.append_nil _).symm
  | p :: more, kvs, h => by
    have e : kvs ++ p :: more = (kvs ++ [p]) ++ more := by simp
    rw [e] at h ⊢
    have hp : p.1 ∉ kvs.map (·.1) := by
      intro q
      rw [List.map_append, List.map_append, List.nodup_append] at h
      obtain ⟨h1, _, _⟩ := h
      rw [List.nodup_append] at h1
      exact h1.2.2 p.1 q p.1 (List.mem_singleton.mpr rfl) rfl
    show mergeK (putK kvs p.1 p.2) more = _
    rw [putK_new hp]
    exact merge_nodup h
theorem prsD_cons {d : D} {l : List D} {ps : List (Str × D)} (h : prsD (d :: l) = some ps) : ∃ z v ps', d = .tup [.str z, v] ∧ prsD l = some ps' ∧ ps = (z, v) :: ps' := by
  unfold prsD at h
  split at h
  · contradiction
  · rename_i z v l' e
    cases e
    cases hl : prsD l with
    | none => rw [hl] at h; cases h
    | some ps' => rw [hl] at h; cases h; exact ⟨z, v, ps', rfl, rfl, rfl⟩
  · cases h
section
variable {C : Ct} {G : Gh} {H : Hp}
theorem prs_of {K : PySem.W.Frag} (hK : K = C.K) : ∀ {l : List D} {vs : List V} {ps : List (Str × D)}, Rps C G H l vs → prsD l = some ps → ∃ (as : List Addr) (ws : List V), vs = as.map V.ref ∧ Rps C G H (ps.map (·.2)) ws ∧ ps.length = ws.length ∧
    Paired (fun (p : Addr) (kv : Key × V) => SqT K H p [kV kv.1, kv.2]) as ((ps.zip ws).map fun x => ((Sum.inr x.1.1 : Key), x.2))
  | [], _, ps, .nil, h => by
    cases h
    exact ⟨[], [], rfl, .nil, rfl, .nil⟩
  | d :: l, _, ps, .cons r rs, h => by
    obtain ⟨z, v, ps', rfl, hl, rfl⟩ := prsD_cons h
    obtain ⟨as, ws, e1, e2, e3, e4⟩ := prs_of hK rs hl
    cases r with
    | @tup a us _ hT zz rr =>
      cases rr with
      | @cons _ u1 _ _ r1 rr =>
        cases rr with
        | @cons _ u2 _ _ r2 rr =>
          cases rr
          cases r1
          have sq := hT.sq
          rw [← hK] at sq
          exact ⟨a :: as, u2 :: ws, by rw [e1]; rfl, .cons r2 e2, by rw [List.length_cons, List.length_cons, e3], .cons sq e4⟩
theorem find_zip {z : Str} : ∀ {ps : List (Str × D)} {ws : List V} {p : Str × D}, Rps C G H (ps.map (·.2)) ws → ps.find? (fun p => decide (p.1 = z)) = some p → ∃ w, valV ((ps.zip ws).map fun x => ((Sum.inr x.1.1 : Key), x.2)) (Sum.inr z) = some w ∧ Rp C G H p.2 w
  | [], _, p, _, h => by cases h
  | q :: ps, _, p, .cons r rs, h => by
    rw [List.zip_cons_cons, List.map_cons]
    by_cases c : q.1 = z
    · rw [List.find?_cons_of_pos (by simpa using c)] at h
      cases h
      exact ⟨_, valV_pos (by dsimp only; rw [c]), r⟩
    · rw [List.find?_cons_of_neg (by simpa using c)] at h
      obtain ⟨w, e, rw_⟩ := find_zip rs h
      exact ⟨w, by rw [valV_neg (by dsimp only; intro e; exact c (Sum.inr.inj e))]; exact e, rw_⟩
end
section
variable {X : Cx} {C : Ct} {W : WX} {a i : Expr} {fa fi : F D} {p p2 q pos : Pos}
theorem fe_dictIx (hK : X.K = C.K) (hc : X.calm = true) (hu : X.A.units + 64 < cLine) (hm : X.mg "dict" = none) (ha : FE C W X a fa) (hi : FE C W X i fi) (hs : NoSl i := by exact fun _ _ => rfl) (hg : Gl X "dict" := by rfl) (hv : bootBuiltins "dict" = some (.type "dict") := by decide +kernel)
    (na : starEach [a] X.env = (false, eval a X.env) :: starEach [] X.env := by rfl) (hpl : (backTo q (starEach [] X.env)).any (·.1) = false := by rfl) : FE C W X (.Subscript (.Call (.Name "dict" p) [a] [] q) i pos) (fDictIx fa fi) := by
  refine PE.imp (pe_dget (by omega) (pe_callTy (call_dictP hc) hg hm hv (pa_cons ha pa_nil na) (by decide) (by decide) na hpl) hi hs) fun σ H Q ⟨G, δ, η, at0, fin⟩ => ?_
  refine tG.bind (Rel2 := Rp C) at0 fin fun d v G1 H1 η1 a1 x1 r1 fin1 => ?_
  cases r1 with
  | @lst ad vs l h z r =>
    dsimp only at fin1
    cases hps : prsD l with
    | none => rw [hps] at fin1; exact fin1.elim
    | some ps =>
      rw [hps] at fin1
      dsimp only at fin1
      split at fin1
      · rename_i hnd
        have h2 := h.sq
        rw [← hK] at h2
        obtain ⟨as, ws, e1, e2, e3, e4⟩ := prs_of (K := X.K) hK r hps
        subst e1
        refine ⟨ad, as, _, rfl, h2, e4, fun pn hn => ?_⟩
        have nx : Nx G1 H1 G1 (upd H1 pn (.dK (mergeK [] ((ps.zip ws).map fun x => ((Sum.inr x.1.1 : Key), x.2))))) := Nx.alloc hn
        have a2 := a1.next nx (a1.he.alloc hn)
        refine tG.bind (Rel2 := Rp C) a2 (fin1.next nx) fun k w G2 H2 η2 a3 x3 r3 fin3 => ?_
        split at fin3
        · rename_i zk
          cases r3 with
          | str _ okz =>
            split at fin3
            · rename_i pr hf
              have hmm : mergeK [] ((ps.zip ws).map fun x => ((Sum.inr x.1.1 : Key), x.2)) = (ps.zip ws).map fun x => ((Sum.inr x.1.1 : Key), x.2) := by
                refine merge_nodup ?_
                rw [List.nil_append, List.map_map]
                have : ((ps.zip ws).map ((fun x : Key × V => x.1) ∘ fun x => ((Sum.inr x.1.1 : Key), x.2))) = (ps.map (·.1)).map (Sum.inr : Str → Key) := by
                  rw [show ((fun x : Key × V => x.1) ∘ fun x : (Str × D) × V => ((Sum.inr x.1.1 : Key), x.2)) = (fun x : Str × D => (Sum.inr x.1 : Key)) ∘ Prod.fst from rfl, ← List.map_map, List.map_fst_zip (by omega), List.map_map]
                  rfl
                rw [this]
                exact List.pairwise_map.mpr (hnd.imp fun e z => e (Sum.inr.inj z))
              obtain ⟨w, ew, rw_⟩ := find_zip (z := zk) e2 hf
              have st := nx.stab a1.he
              have st2 := x3.stab a2.he
              have hd : H2 pn = some (.dK (mergeK [] ((ps.zip ws).map fun x => ((Sum.inr x.1.1 : Key), x.2)))) := x3.keep _ _ upd_same fun m => a1.he.fresh hn (a1.he.adsM m)
              have dg := DGet.k (k := (Sum.inr zk : Key)) hd
              rw [hmm, ew] at dg
              exact ⟨pn, w, rfl, dg, (fin3.gives (o := some pr.2) a3.he).same a3.he ((rw_.stab st).stab st2)⟩
            · exact fin3.elim
        · exact fin3.elim
      · exact fin1.elim
  | _ => exact fin1.elim
@[simp] theorem fDictIx_a {δ : En} {η : List O} : fDictIx fa fi δ η = (fa δ η).bind fun d η => (match d with
  | .lst l => match prsD l with
    | some ps => if (ps.map (·.1)).Nodup then (fi δ η).bind fun k η => (match k with
      | .str z => match ps.find? (fun p => decide (p.1 = z)) with
        | some p => .ok p.2 η
        | none => .bad
      | _ => .bad) else .bad
    | none => .bad
  | _ => .bad) := rfl
end
end DL
namespace DL
open PySem L2 PL
/-! ### plain: rows that policies with one way each allow -/
/-! the five policies -/
section
variable {bits : List Int}
/-! what they ask -/
end
end DL
namespace DL
open PySem L2 PL
section
variable {η : List O}
end
end DL
namespace DL
open PySem L2 PL
/-! ### stores: all but the feed stays, more may come -/
def FA_ (n : Nat) (η : List O) : Prop := ∃ o, η[n]? = some o ∧ Feed o
structure FSt (n : Nat) (η η' : List O) : Prop where
  feed : FA_ n η'
  keep : ∀ i x, i ≠ n → η[i]? = some x → η'[i]? = some x
  len : η.length ≤ η'.length
theorem FSt.trans {n : Nat} {a b c : List O} (h : FSt n a b) (h2 : FSt n b c) : FSt n a c := ⟨h2.feed, fun i x hi hx => h2.keep i x hi (h.keep i x hi hx), Nat.le_trans h.len h2.len⟩
theorem FSt.refl {n : Nat} {η : List O} (h : FA_ n η) : FSt n η η := ⟨h, fun _ _ _ h => h, Nat.le_refl _⟩
theorem FSt.app {n : Nat} {η : List O} (h : FA_ n η) (x : List O) : FSt n η (η ++ x) := by
  have k : ∀ (i : Nat) (o : O), η[i]? = some o → (η ++ x)[i]? = some o := fun i o e => by rw [List.getElem?_append_left (List.getElem?_eq_some_iff.mp e).1]; exact e
  obtain ⟨o, e, f⟩ := h
  exact ⟨⟨o, k _ _ e, f⟩, fun i o _ e => k i o e, by rw [List.length_append]; omega⟩
theorem FSt.ext {n : Nat} {η η' : List O} (h : FSt n η η') (x : List O) : FSt n η (η' ++ x) := h.trans (.app h.feed x)
theorem FSt.new {n : Nat} {η η' : List O} (h : FSt n η η') (x : O) : (η' ++ [x])[η'.length]? = some x := get_last
/-- a store around its feed -/
theorem FA_.split {n : Nat} {η : List O} (h : FA_ n η) : ∃ fp o r, η = fp ++ o :: r ∧ fp.length = n ∧ Feed o := by
  obtain ⟨o, e, f⟩ := h
  obtain ⟨h1, h2⟩ := List.getElem?_eq_some_iff.mp e
  refine ⟨η.take n, o, η.drop (n + 1), ?_, by rw [List.length_take]; omega, f⟩
  rw [← h2, ← List.drop_eq_getElem_cons h1, List.take_append_drop]
theorem FSt.mk' {fp r r' : List O} {o o' : O} (f : Feed o') (hr : ∀ (i : Nat) x, r[i]? = some x → r'[i]? = some x) (hl : r.length ≤ r'.length) : FSt fp.length (fp ++ o :: r) (fp ++ o' :: r') := by
  refine ⟨⟨o', get_fp, f⟩, fun i x hi hx => ?_, by simp; omega⟩
  by_cases h : i < fp.length
  · rw [List.getElem?_append_left h] at hx ⊢; exact hx
  · rw [List.getElem?_append_right (by omega)] at hx ⊢
    obtain ⟨j, hj⟩ : ∃ j, i - fp.length = j + 1 := ⟨i - fp.length - 1, by omega⟩
    rw [hj, List.getElem?_cons_succ] at hx ⊢
    exact hr j x hx
theorem FSt.mk0 {fp r : List O} {o o' : O} (f : Feed o') : FSt fp.length (fp ++ o :: r) (fp ++ o' :: r) := .mk' f (fun _ _ h => h) (Nat.le_refl _)
section
variable {n : Nat} {η : List O} {ks : List (Str × Int)} {rs : List Row} {m : D}
theorem feedF {ns : List Int} (h : ns.length ≤ 63) (η : List O) : ∃ η', m_law_feed [.lst (ns.map .int)] η = .ok (.obj η.length) η' ∧ FA_ η.length η' ∧ ∀ (i : Nat) (x : O), η[i]? = some x → η'[i]? = some x := by
  obtain ⟨o, e, f⟩ := feed_ok (η := η) h
  exact ⟨_, e, ⟨o, get_last, f⟩, fun i x e => by rw [List.getElem?_append_left (List.getElem?_eq_some_iff.mp e).1]; exact e⟩
theorem ofF (h : FA_ n η) (l : List D) (h0 : 0 < l.length) (h1 : l.length < 1073741824) : ∃ d η', m_law_of [.obj n, .lst l] η = .ok d η' ∧ FSt n η η' ∧ d ∈ l := by
  obtain ⟨fp, o, r, rfl, rfl, f⟩ := h.split
  obtain ⟨d, o', e, f', hd⟩ := of0 (fp := fp) (r := r) f l h0 h1
  exact ⟨d, _, e, .mk0 f', hd⟩
theorem ofM {α : Type} {enc : α → D} (h : FA_ n η) (l : List α) (h0 : 0 < l.length) (h1 : l.length < 1073741824) : ∃ x η', m_law_of [.obj n, .lst (l.map enc)] η = .ok (enc x) η' ∧ FSt n η η' ∧ x ∈ l := by
  obtain ⟨d, η', e, s, hd⟩ := ofF h (l.map enc) (by rw [List.length_map]; exact h0) (by rw [List.length_map]; exact h1)
  obtain ⟨x, hx, rfl⟩ := List.mem_map.mp hd
  exact ⟨x, η', e, s, hx⟩
theorem namesF (h : FA_ n η) {m : Nat} (hm : m ≤ 26) : ∃ ns η', m_law_names [.obj n, .int m] η = .ok (.lst (ns.map .str)) η' ∧ FSt n η η' ∧ ns.length = m ∧ Names ns := by
  obtain ⟨fp, o, r, rfl, rfl, f⟩ := h.split
  obtain ⟨ns, o', e, f', h1, h2⟩ := names_ok (fp := fp) (r := r) f hm
  exact ⟨ns, _, e, .mk0 f', h1, h2⟩
theorem bookF (h : FA_ n η) {ns : List Str} (hN : Names ns) (hl : 7 ≤ ns.length) (hl2 : ns.length ≤ 26) {most : Nat} (hm : most ≤ 4) : ∃ ks rs m η', m_law_book [.obj n, .lst (ns.map .str), .int most] η = .ok (bkT ks rs m) η' ∧ FSt n η η' ∧ BookDrawn ks rs m := by
  obtain ⟨fp, o, r, rfl, rfl, f⟩ := h.split
  obtain ⟨ks, rs, m, o', e, f', h1⟩ := law_book_ok (fp := fp) (r := r) f hN hl hl2 hm
  exact ⟨ks, rs, m, _, e, .mk0 f', h1⟩
theorem madeF (hB : BookDrawn ks rs m) : m_law_made [bkT ks rs m] η = .ok (.obj η.length) (η ++ [.ins 0 NSB [.lst (ks.map kd2), .lst (rs.map Row.d), m], .lst ((rs.map (·.n)).map .str)]) := law_made_ok hB
end
section
variable {δ : En} {η η1 η2 η3 : List O} {fa fb fc fo : F D} {fs : F (List D)} {d e g : D} {l l0 : List D} {n : Nat}
theorem args1 (h : fa δ η = .ok d η1) : fCons fa fNil δ η = .ok [d] η1 := by rw [fCons_a, h]; rfl
theorem args2 (h : fa δ η = .ok d η1) (h2 : fb δ η1 = .ok e η2) : fCons fa (fCons fb fNil) δ η = .ok [d, e] η2 := by rw [fCons_a, h, bind_ok, args1 h2]; rfl
theorem appO_of (h : fo δ η = .ok (.obj n) η) (hn : η[n]? = some (.lst l0)) (h2 : fs δ η = .ok [d] η1) (hn1 : η1[n]? = some (.lst l)) (hz : l.length < 1000000) : sMutO muApp fo fs δ η = .nx δ (η1.set n (.lst (l ++ [d]))) := by
  rw [sMutO_a, h, toS_ok]
  try dsimp only
  rw [hn]
  try dsimp only
  rw [h2, toS_ok]
  try dsimp only
  rw [hn1]
  try dsimp only
  rw [muApp_a, if_pos (by rw [sizeLine_eq]; omega)]
theorem lc_of' {vs : List Nat} {fi : F (List D)} {tg : Tg} {t : F Bool} {ds ys : List D} (h : fi δ η = .ok ds η1) (h2 : compF tg t fa (wipeD δ vs) ds η1 = .ok ys η2) : fLc vs fi tg t fa δ η = .ok ys η2 := by rw [fLc_a, h, bind_ok]; exact h2
theorem frzE_of {fn : F (List D)} (h : fn δ η = .ok l η1) : fFrz fn δ η = .ok (.lst l) η1 := by rw [fFrz_a, h]; rfl
end
end DL
namespace DL
open PySem L2 PL
/-- a walk that may end within -/
theorem loop_x {t : Tg} {b : S} (W : List Nat) (I : Nat → En → List O → Prop) (R : SR → Prop) {ds : List D} {δ : En} {η : List O} (h0 : I 0 δ η)
    (hs : ∀ k x δ1 η1, ds[k]? = some x → Kp W δ δ1 → I k δ1 η1 → ∃ δ1', asg t x δ1 = some δ1' ∧ ((∃ δ2 η2, (b δ1' η1 = .nx δ2 η2 ∨ b δ1' η1 = .ct δ2 η2) ∧ Kp W δ δ2 ∧ I (k + 1) δ2 η2) ∨ (R (b δ1' η1) ∧ ∀ f : S, (b δ1' η1).turn f = b δ1' η1))) :
    (∃ δ' η', loopF t b ds δ η = .nx δ' η' ∧ Kp W δ δ' ∧ I ds.length δ' η') ∨ R (loopF t b ds δ η) := by
  have go : ∀ (n k : Nat) (δ1 : En) (η1 : List O), n + k = ds.length → Kp W δ δ1 → I k δ1 η1 → (∃ δ' η', loopF t b (ds.drop k) δ1 η1 = .nx δ' η' ∧ Kp W δ δ' ∧ I ds.length δ' η') ∨ R (loopF t b (ds.drop k) δ1 η1) := by
    intro n
    induction n with
    | zero =>
      intro k δ1 η1 h1 hk hi
      have e : k = ds.length := by omega
      subst e
      rw [List.drop_length]
      exact .inl ⟨_, _, rfl, hk, hi⟩
    | succ n ih =>
      intro k δ1 η1 h1 hk hi
      have hlt : k < ds.length := by omega
      obtain ⟨δ1', e1, hh⟩ := hs k ds[k] δ1 η1 (List.getElem?_eq_getElem hlt) hk hi
      rw [List.drop_eq_getElem_cons hlt, loopF, e1]
      dsimp only
      rcases hh with ⟨δ2, η2, e2, k2, i2⟩ | ⟨r1, r2⟩
      · have : (b δ1' η1).turn (loopF t b (ds.drop (k + 1))) = loopF t b (ds.drop (k + 1)) δ2 η2 := by
          rcases e2 with e2 | e2 <;> rw [e2] <;> rfl
        rw [this]
        exact ih (k + 1) δ2 η2 (by omega) k2 i2
      · rw [r2]; exact .inr r1
  have := go ds.length 0 δ η (by omega) Kp.refl h0
  rwa [List.drop_zero] at this
theorem enum_get {l : List D} {k : Nat} {x : D} (h : (enumD l)[k]? = some x) : ∃ d, l[k]? = some d ∧ x = .tup [.int (k : Nat), d] := by
  unfold enumD at h
  rw [List.getElem?_map, List.getElem?_zipIdx] at h
  cases hd : l[k]? with
  | none => rw [hd] at h; cases h
  | some d => rw [hd] at h; cases h; exact ⟨d, rfl, by simp⟩
theorem enum_len {l : List D} : (enumD l).length = l.length := by simp [enumD]
theorem map_get {α : Type} {f : α → D} {l : List α} {k : Nat} {d : D} (h : (l.map f)[k]? = some d) : ∃ x, l[k]? = some x ∧ d = f x := by
  rw [List.getElem?_map] at h
  cases hx : l[k]? with
  | none => rw [hx] at h; cases h
  | some x => rw [hx] at h; cases h; exact ⟨x, rfl, rfl⟩
theorem fiE_of {fa : F D} {d : D} {l : List D} {δ : En} {η η1 : List O} (h : fa δ η = .ok d η1) (hd : seqOf d = some l) : fiE fa δ η = .ok (enumD l) η1 := by rw [fiE_a, h, bind_ok, hd]; rfl
theorem fiA_of {fa : F D} {d : D} {l : List D} {δ : En} {η η1 : List O} (h : fa δ η = .ok d η1) (hd : walkD d = some l) : fiA fa δ η = .ok l η1 := by rw [fiA_a, h, bind_ok, hd]; rfl
/-! ### talks -/
abbrev bkO (ks : List (Str × Int)) (rs : List Row) (m : D) : O := .ins 0 NSB [.lst (ks.map kd2), .lst (rs.map Row.d), m]
def thB (names : List Str) (t : Thing) : Bool := decide (t.1 ∈ names) && decide (0 ≤ t.2)
/-- the first item that is none, or one too many -/
def badTh (names : List Str) : List Thing → Nat → Option Nat
  | [], _ => none
  | t :: l, i => if i = 12 ∨ thB names t = false then some i else badTh names l (i + 1)
section
variable {η : List O} {b t : Nat} {ks : List (Str × Int)} {rs : List Row} {m : D} {δ : En}
theorem is_thing_any (hb : η[b]? = some (bkO ks rs m)) (t : Thing) : m_is_thing [.obj b, kd2 t] η = .ok (.bl (thB (ks.map (·.1)) t)) η := by
  by_cases h : t.1 ∈ ks.map (·.1)
  · by_cases h2 : 0 ≤ t.2
    · rw [is_thing_ok hb h h2]; simp [thB, h, h2]
    · rw [is_thing_no hb fun _ => by omega]; simp [thB, h2]
  · rw [is_thing_no hb fun z => absurd z h]; simp [thB, h]
theorem check_things_ok (hb : η[b]? = some (bkO ks rs m)) {d : D} {l : List Thing} (hd : seqOf d = some (l.map kd2)) :
    m_check_things [.obj b, d] η = match badTh (ks.map (·.1)) l 0 with | none => .ok .non η | some i => .exc 24 ["at", "code"] [.int i, .str "InvalidThing"] η := by
  have h := loop_x (t := .tp [.nm 2, .nm 3]) (b := sIf (fOrB (toB (fOp eqD (fV 2) (fC (.int 12)))) (fNotB (fTru (fCall 2 m_is_thing (fCons (fV 0) (fCons (fV 3) fNil)))))) (sRaise1 24 "at" "InvalidThing" (fV 2)) SR.nx) [2, 3]
    (fun k δ η1 => η1 = η ∧ badTh (ks.map (·.1)) (l.drop k) k = badTh (ks.map (·.1)) l 0) (fun r => ∃ i : Nat, badTh (ks.map (·.1)) l 0 = some i ∧ ∃ δ', r = .exc 24 ["at", "code"] [.int i, .str "InvalidThing"] δ' η)
    (ds := enumD (l.map kd2)) (δ := [vl (.obj b), vl d, none, none]) (η := η) ⟨rfl, rfl⟩ fun k x δ1 η1 hx hk ⟨hη, hi⟩ => by
      subst hη
      obtain ⟨d', hd', rfl⟩ := enum_get hx
      obtain ⟨th, hth, rfl⟩ := map_get hd'
      have e1 := is_thing_any hb th
      have hdr : l.drop k = th :: l.drop (k + 1) := by
        obtain ⟨q1, q2⟩ := List.getElem?_eq_some_iff.mp hth
        rw [List.drop_eq_getElem_cons q1, q2]
      rw [hdr, badTh] at hi
      refine ⟨_, by rw [asg_tp, asgs_cons, asg_nm]; rfl, ?_⟩
      by_cases c : k = 12 ∨ thB (ks.map (·.1)) th = false
      · rw [if_pos c] at hi
        refine .inr ?_
        have e : sIf (fOrB (toB (fOp eqD (fV 2) (fC (.int 12)))) (fNotB (fTru (fCall 2 m_is_thing (fCons (fV 0) (fCons (fV 3) fNil)))))) (sRaise1 24 "at" "InvalidThing" (fV 2)) SR.nx ((δ1.set 2 (vl (.int k))).set 3 (vl (kd2 th))) η1 = .exc 24 ["at", "code"] [.int k, .str "InvalidThing"] ((δ1.set 2 (vl (.int k))).set 3 (vl (kd2 th))) η1 := by
          refine if_t (η1 := η1) ?_ (by (try simp only [DLS, Nat.reduceAdd, Nat.reduceLeDiff, Nat.reduceEqDiff, Nat.reduceSub, Nat.reduceMul, Nat.reduceBEq, Nat.reduceLT, Int.reduceAdd, Int.reduceSub, Int.reduceMul, Int.reduceNeg, Int.reduceLE, Int.reduceLT, Int.reduceEq, Int.reduceNe, Int.reduceToNat, reduceIte, szT, szlT, hk.1]) <;> rfl)
          by_cases c1 : k = 12
          · have : (k : Int) = 12 := by omega
            simp only [DLS, Nat.reduceAdd, Nat.reduceLeDiff, Nat.reduceEqDiff, Nat.reduceSub, Nat.reduceMul, Nat.reduceBEq, Nat.reduceLT, Int.reduceAdd, Int.reduceSub, Int.reduceMul, Int.reduceNeg, Int.reduceLE, Int.reduceLT, Int.reduceEq, Int.reduceNe, Int.reduceToNat, reduceIte, szT, szlT, hk.1, this]
          · have c1' : ¬ (k : Int) = 12 := by omega
            have c2 := c.resolve_left c1
            simp only [DLS, Nat.reduceAdd, Nat.reduceLeDiff, Nat.reduceEqDiff, Nat.reduceSub, Nat.reduceMul, Nat.reduceBEq, Nat.reduceLT, Int.reduceAdd, Int.reduceSub, Int.reduceMul, Int.reduceNeg, Int.reduceLE, Int.reduceLT, Int.reduceEq, Int.reduceNe, Int.reduceToNat, reduceIte, szT, szlT, hk.1, hk.2 0 (by decide), c1', e1, c2]
        exact ⟨⟨k, hi.symm, _, e⟩, fun f => by rw [show (δ1.set 2 (some (L.val (D.int (k : Int))))) = δ1.set 2 (vl (.int k)) from rfl]; rw [e]; rfl⟩
      · rw [if_neg c] at hi
        have c1 : ¬ (k : Int) = 12 := by intro z; exact c (.inl (by omega))
        have c2 : thB (ks.map (·.1)) th = true := by
          cases h : thB (ks.map (·.1)) th with
          | true => rfl
          | false => exact absurd (.inr h) c
        exact .inl ⟨_, _, .inl (if_fn (η1 := η1) (by (try simp only [DLS, Nat.reduceAdd, Nat.reduceLeDiff, Nat.reduceEqDiff, Nat.reduceSub, Nat.reduceMul, Nat.reduceBEq, Nat.reduceLT, Int.reduceAdd, Int.reduceSub, Int.reduceMul, Int.reduceNeg, Int.reduceLE, Int.reduceLT, Int.reduceEq, Int.reduceNe, Int.reduceToNat, reduceIte, szT, szlT, hk.1, hk.2 0 (by decide), c1, e1, c2]) <;> rfl)), .st (.st hk (by decide)) (by decide), rfl, hi⟩
  have hR : (fiE (fV 1)) [vl (.obj b), vl d, none, none] η = .ok (enumD (l.map kd2)) η := fiE_of rfl hd
  rcases h with ⟨δ', η', el, kp, rfl, hi⟩ | ⟨i, hi, δ', el⟩
  · rw [enum_len, List.length_map, List.drop_length, badTh] at hi
    rw [← hi]
    exact run_nx2 rfl (for_of hR el)
  · rw [hi]
    exact run_ex2 rfl (for_of hR el)
theorem plain_ok {d : D} {l : List Thing} (hd : walkD d = some (l.map kd2)) : m_plain_things [d] η = .ok (lineD l) η := by
  have z2 : (2 : Nat) ≤ sizeLine := by rw [sizeLine_eq]; decide
  refine run_rt2 (δ := [vl d, none, none]) rfl (ret_of (frzE_of (lc_of' (fiA_of rfl hd) ?_)))
  have := comp_enc (t := .tp [.nm 1, .nm 2]) (ft := fYes) (fe := fTup (fCons (fV 1) (fCons (fV 2) fNil))) (δw := wipeD [vl d, none, none] [1, 2]) (η := η) kd2 (fun _ => true) (fun t => t) kd2 (xs := l) fun t ht => by
    refine ⟨_, by rw [kd2, asg_tp, asgs_cons, asg_nm]; rfl, rfl, fun _ => ?_⟩
    simp only [DLS, Nat.reduceAdd, Nat.reduceLeDiff, Nat.reduceEqDiff, Nat.reduceSub, Nat.reduceMul, Nat.reduceBEq, Nat.reduceLT, Int.reduceAdd, Int.reduceSub, Int.reduceMul, Int.reduceNeg, Int.reduceLE, Int.reduceLT, Int.reduceEq, Int.reduceNe, Int.reduceToNat, reduceIte, szT, szlT, kd2, wipeD]
  rw [this, List.map_id', List.filter_eq_self.mpr fun _ _ => rfl]
theorem good_of {names : List Str} : ∀ {l : List Thing} {i : Nat}, i + l.length ≤ 12 → (∀ t ∈ l, t.1 ∈ names ∧ 0 ≤ t.2) → badTh names l i = none
  | [], _, _, _ => rfl
  | t :: l, i, h, ht => by
    have h1 : i + (l.length + 1) ≤ 12 := h
    obtain ⟨q1, q2⟩ := ht t (List.mem_cons_self ..)
    rw [badTh, if_neg (by simp [thB, q1, q2]; omega)]
    exact good_of (by omega) fun x hx => ht x (List.mem_cons_of_mem _ hx)
end
end DL
namespace DL
open PySem L2 PL
theorem sqx {A B : S} {δ δ' : En} {η η' : List O} {c : Nat} {ns : List Str} {l : List D} (h : A δ η = .exc c ns l δ' η') : (sSeq A B) δ η = .exc c ns l δ' η' := by rw [sSeq_a, h]; rfl
theorem sqr {A B : S} {δ : En} {η η' : List O} {d : D} (h : A δ η = .rt d η') : (sSeq A B) δ η = .rt d η' := by rw [sSeq_a, h]; rfl
section
variable {η : List O} {b t : Nat} {ks : List (Str × Int)} {rs : List Row} {m : D} {δ : En} {rows : List (List Thing)} {bits : List Int} {bd : D}
end
end DL
namespace DL
open PySem L2 PL
open SX (S)
/-! ### texts as lists of code points -/
/-! numbers -/
section
variable {η : List O}
end
end DL
namespace DL
open PySem L2 PL
open SX (S)
/-! ### the texts of talks -/
abbrev cd (z : Str) : List Nat := z.cps.toList
/-- things with such names and numbers -/
structure ThOk (t : Thing) : Prop where
  nm : nameB t.1 = true
  n0 : 0 ≤ t.2
  n1 : t.2 < 10 ^ 6
section
variable {η : List O}
theorem line : ("\n" : Str) = SX.S [10] := by decide +kernel
end
end DL
namespace DL
open PySem L2 PL
section
variable {η : List O} {b b' t t' : Nat} {ks : List (Str × Int)} {rs : List Row} {m : D} {rows : List (List Thing)}
end
end DL
namespace DL
open PySem L2 PL
/-! ### the texts of books -/
section
variable {η : List O}
theorem ix10 {a : D} : L2.atI [a] 0 = some a := rfl
theorem ix20 {a b : D} : L2.atI [a, b] 0 = some a := rfl
theorem ix21 {a b : D} : L2.atI [a, b] 1 = some b := rfl
end
section
variable {η : List O}
end
end DL
namespace DL
open PySem L2 PL
section
variable {η : List O}
/-! the text -/
variable {ks : List (Str × Int)} {rs : List Row} {m : D} {b : Nat}
structure RowT (r : Row) : Prop where
  nm : nameB r.n = true
  st : ∀ s ∈ r.st, nameB s = true
  ne : r.st ≠ []
  few : r.st.length ≤ 100
  p0 : 0 ≤ r.p
  p1 : r.p ≤ 99
end
end DL
namespace DL
open PySem L2 PL
section
variable {η : List O} {ks : List (Str × Int)} {rs : List Row} {m : D} {b : Nat}
end
end DL
namespace DL
open PySem L2 PL
/-! ### a drawn book's text read back -/
section
variable {η : List O} {ks : List (Str × Int)} {rs : List Row} {m : D} {b : Nat}
end
end DL
namespace DL
open PySem L2 PL
section
variable {η : List O} {ks : List (Str × Int)} {rs : List Row} {m : D} {b : Nat}
end
end DL
namespace DL
open PySem L2 PL
section
variable {η : List O} {ks : List (Str × Int)} {rs : List Row} {m : D} {b : Nat}
theorem FA_.pos {n : Nat} (f : FA_ n η) : n < η.length := by obtain ⟨o, ho, _⟩ := f; exact (List.getElem?_eq_some_iff.mp ho).1
end
end DL
namespace DL
open PySem L2 PL
/-! ### guides -/
inductive ZW | last | calm | plain
inductive NW | told | named | quiet
def ZW.s : ZW → Str | .last => "last" | .calm => "calm" | .plain => "plain"
def NW.s : NW → Str | .told => "told" | .named => "named" | .quiet => "quiet"
inductive Pl | z (w : ZW) | n (w : NW) (k : Nat)
def Pl.d : Pl → D | .z w => .tup [.str w.s] | .n w k => .tup [.str w.s, .int (k : Nat)]
def Pl.ok : Pl → Prop | .z _ => True | .n _ k => k ≤ 3
structure Ts where
  neg : Bool
  p : Pl
def Ts.d (t : Ts) : D := if t.neg then .tup [.str "not", t.p.d] else t.p.d
def Ts.ok (t : Ts) : Prop := t.p.ok
abbrev Gr : Type := Str × List Ts
def grD (g : Gr) : D := .tup [.str g.1, .tup (g.2.map Ts.d)]
abbrev NSG : List Str := ["own_book", "own_rows"]
abbrev gdO (b : Nat) (gs : List Gr) : O := .ins 3 NSG [.obj b, .lst (gs.map grD)]
section
variable {η : List O} {b t n : Nat} {ks : List (Str × Int)} {rs : List Row} {m : D} {δ : En}
theorem z_not (w : ZW) : eqD (.str w.s) (.str "not") = some (.bl false) := by cases w <;> rfl
theorem n_not (w : NW) : eqD (.str w.s) (.str "not") = some (.bl false) := by cases w <;> rfl
theorem len1 {d : D} : lenD (.tup [d]) = some (.int 1) := rfl
theorem len2 {d e : D} : lenD (.tup [d, e]) = some (.int 2) := rfl
end
end DL
namespace DL
open PySem L2 PL
theorem eqD_nilG {l : List D} (h : pureDs 19 l = true) : eqD (.lst l) (.lst []) = some (.bl l.isEmpty) := by
  have e := neD_nilG h
  unfold neD at e
  unfold eqD
  rw [if_pos ⟨h, rfl⟩] at e ⊢
  have := Option.some.inj e
  cases he : eqvD (.lst l) (.lst []) <;> rw [he] at this <;> cases l <;> first | rfl | cases this
structure GrOk (words : List Str) (g : Gr) : Prop where
  w : g.1 ∈ words
  n3 : g.2.length ≤ 3
  t : ∀ t ∈ g.2, t.ok
structure GsOk (words : List Str) (gs : List Gr) : Prop where
  n6 : gs.length ≤ 6
  g : ∀ g ∈ gs, GrOk words g
section
variable {η : List O} {b t n : Nat} {ks : List (Str × Int)} {rs : List Row} {m : D} {δ : En}
end
end DL
namespace DL
open PySem L2 PL
/-! ### the texts of guides -/
def Pl.ps : Pl → List (List Nat) | .z w => [cd w.s] | .n w k => [cd w.s, TL.numL k]
abbrev wNot : List Nat := [110, 111, 116]
def Ts.ps (t : Ts) : List (List Nat) := if t.neg then wNot :: t.p.ps else t.p.ps
def Pl.l (p : Pl) : List Nat := TL.joinL [32] p.ps
def Ts.l (t : Ts) : List Nat := TL.joinL [32] t.ps
theorem z_len (w : ZW) : (cd w.s).length ≤ 5 := by cases w <;> decide
section
variable {η : List O} {b t n : Nat} {ks : List (Str × Int)} {rs : List Row} {m : D} {δ : En}
theorem eq_not : eqD (.str "not") (.str "not") = some (.bl true) := rfl
end
end DL
namespace DL
open PySem L2 PL
structure GrT (g : Gr) : Prop where
  w : nameB g.1 = true
  n3 : g.2.length ≤ 3
  t : ∀ t ∈ g.2, t.ok
theorem gr_tp (g : Gr) (δ : En) (i j : Nat) : asg (.tp [.nm i, .nm j]) (grD g) δ = some ((δ.set i (vl (.str g.1))).set j (vl (.tup (g.2.map Ts.d)))) := by
  rw [grD, asg_tp, asgs_cons, asg_nm]; rfl
section
variable {η : List O} {b t n : Nat} {ks : List (Str × Int)} {rs : List Row} {m : D} {δ : En}
end
end DL
namespace DL
open PySem L2 PL
/-! ### guides read back -/
section
variable {η : List O} {b t n : Nat} {ks : List (Str × Int)} {rs : List Row} {m : D} {δ : En}
end
end DL
namespace DL
open PySem L2 PL
section
variable {η : List O}
end
end DL
namespace DL
open PySem L2 PL
/-! ### bending texts -/
end DL
namespace DL
open PySem L2 PL
/-! ### a bent text -/
section
variable {η : List O} {n : Nat}
end
end DL
namespace DL
open PySem L2 PL
/-! ### tests and rows of a guide out of any text -/
section
variable {η : List O}
end
end DL
namespace DL
open PySem L2 PL
section
variable {η : List O}
end
end DL
namespace DL
open PySem L2 PL
inductive GErr | cnt | row (i : Nat)
section
variable {η : List O} {b t n : Nat} {ks : List (Str × Int)} {rs : List Row} {m : D} {δ : En}
end
end DL
namespace DL
open PySem L2 PL
section
variable {η : List O} {b t n : Nat} {ks : List (Str × Int)} {rs : List Row} {m : D} {δ : En}
end
end DL
namespace DL
open PySem L2 PL
end DL
namespace DL
open PySem L2
section
variable {η η1 η2 : List O} {δ δ' : En} {fa fb : F D} {d e x : D} {l m : List D} {n : Nat} {t : Tg} {ts : List Tg}
theorem asgR_nm {i : Nat} : asgR η (.nm i) d δ = some (δ.set i (some (.val d))) := by rw [asgR]
theorem asgR_tp (h : rdA η d = some l) : asgR η (.tp ts) d δ = asgsR η ts l δ := by rw [asgR, h]
theorem asgsR_nil : asgsR η [] [] δ = some δ := by rw [asgsR]
theorem asgsR_cons : asgsR η (t :: ts) (d :: l) δ = (asgR η t d δ).bind fun δ' => asgsR η ts l δ' := by rw [asgsR]
theorem asgR2 {i j : Nat} (h : rdA η d = some [e, x]) : asgR η (.tp [.nm i, .nm j]) d δ = some ((δ.set i (some (.val e))).set j (some (.val x))) := by
  rw [asgR_tp h, asgsR_cons, asgR_nm, Option.bind_some, asgsR_cons, asgR_nm, Option.bind_some, asgsR_nil]
theorem fSlL_a {fl fh : F (Option Int)} : fSlL fa fl fh δ η = (fa δ η).bind fun d η => (fl δ η).bind fun lo η => (fh δ η).bind fun hi η => lift (slD (drD η d) lo hi) η := rfl
/-- a comprehension that changes nothing -/
theorem comp_encL {α β : Type} {ft : F Bool} {fe : F D} {δw : En} {src : Src} (enc : α → D) (p : α → Bool) (g : α → β) (dec : β → D) {xs : List α} (hc : ∀ k, curS η src k = some ((xs.map enc)[k]?))
    (h : ∀ x ∈ xs, ∃ δ1, asgR η t (enc x) δw = some δ1 ∧ ft δ1 η = .ok (p x) η ∧ (p x = true → fe δ1 η = .ok (dec (g x)) η)) {F : Nat} (hF : xs.length + 1 ≤ F) :
    compL t ft fe δw src F 0 η = .ok (((xs.filter p).map g).map dec) η := by
  have go : ∀ (f k : Nat), xs.length + 1 ≤ f + k → k ≤ xs.length → compL t ft fe δw src f k η = .ok ((((xs.drop k).filter p).map g).map dec) η := by
    intro f
    induction f with
    | zero => intro k h1 h2; omega
    | succ f ih =>
      intro k h1 h2
      rw [compL, hc k, List.getElem?_map]
      cases hx : xs[k]? with
      | none =>
        rw [List.drop_eq_nil_of_le (List.getElem?_eq_none_iff.mp hx)]; rfl
      | some x =>
        obtain ⟨hlt, hx2⟩ := List.getElem?_eq_some_iff.mp hx
        have hd : xs.drop k = x :: xs.drop (k + 1) := by rw [List.drop_eq_getElem_cons hlt, hx2]
        obtain ⟨δ1, e1, e2, e3⟩ := h x (List.mem_of_getElem? hx)
        have e4 := ih (k + 1) (by omega) hlt
        rw [hd]
        show (match asgR η t (enc x) δw with | none => R.bad | some δ1 => _) = _
        rw [e1]
        dsimp only
        rw [e2, nox_ok, bind_ok]
        cases hp : p x with
        | true => rw [if_pos rfl, e3 hp, nox_ok, bind_ok, e4, bind_ok, List.filter_cons_of_pos hp]; rfl
        | false => rw [if_neg (by decide), e4, List.filter_cons_of_neg (by rw [hp]; decide)]
  have := go F 0 (by omega) (Nat.zero_le _)
  rwa [List.drop_zero] at this
/-- two lists, item by item -/
inductive All2 {α β : Type} (R : α → β → Prop) : List α → List β → Prop
  | nil : All2 R [] []
  | cons {a : α} {b : β} {l : List α} {m : List β} : R a b → All2 R l m → All2 R (a :: l) (b :: m)
end
end DL
namespace DL
open PySem L2 PL
abbrev PV1 : S := (sPar 3 4 (fOp subD (fCall1 lenD (fDr (fFld 4 ["own_guide", "own_told", "own_rings"] 2 (fV 0)))) (fC (.int 1))) (fOp addD (fProp 3 1 m_Guide_reach (fFld 4 ["own_guide", "own_told", "own_rings"] 0 (fV 0))) (fC (.int 1))))
abbrev PV2 : S := (sSet 5 (fMeth 0 ["sort_rows", "word_rows", "own_memory"] 1 0 1 m_Book_words [0] [] (fProp 3 1 m_Guide_book (fFld 4 ["own_guide", "own_told", "own_rings"] 0 (fV 0))) fNil fNil))
abbrev PV3 : S := (sFrz 6 (fLcL [17] (fsOne (fV 2)) (.nm 17) (toB (fOp eqD (fOp ixD (fV 17) (fC (.int 1))) (fV 1))) (fV 17)))
abbrev PV4 : S := (sOwn 7 (fLstN fNil))
abbrev PV5b1 : S := (sFrz 11 (fLcL [17] (fsOne (fV 2)) (.nm 17) (fAndB (toB (fOp neD (fOp ixD (fV 17) (fC (.int 1))) (fV 1))) (toB (fOp inD (fOp ixD (fOp ixD (fV 17) (fC (.int 1))) (fC (.int 0))) (fV 9)))) (fOp ixD (fV 17) (fC (.int 0)))))
abbrev PV5b2 : S := (sMut 7 muApp (fCons (fIf (toB (fOp neD (fV 11) (fFrz (fLstN fNil)))) (fCall1 minC (fFrz (fLstN (fCons (fV 4) (fCons (fOp subD (fV 3) (fOp ixD (fV 11) (fNeg (fC (.int 1))))) fNil))))) (fV 4)) fNil))
abbrev PV5b : S := (sSeq PV5b1 PV5b2)
abbrev PV5 : S := (sFor (fiA (fV 5)) (.tp [(.nm 8), (.nm 9), (.nm 10)]) PV5b)
abbrev PV6t1 : S := (sRet (fTup (fCons (fNeg (fC (.int 1))) (fCons (fNeg (fC (.int 1))) (fCons (fC (.int 0)) (fCons (fC (.int 0)) (fCons (fTup fNil) (fCons (fCall1 tupC (fVo 7)) fNil))))))))
abbrev PV6t : S := PV6t1
abbrev PV6 : S := (sIf (toB (fOp eqD (fV 6) (fFrz (fLstN fNil)))) PV6t SR.nx)
abbrev PV7 : S := (sSet 12 (fCall1 maxC (fFrz (fLcL [18, 17] (fsEnm (fV 2)) (.tp [(.nm 18), (.nm 17)]) (toB (fOp eqD (fOp ixD (fV 17) (fC (.int 1))) (fV 1))) (fV 18)))))
abbrev PV8 : S := (sSet 13 (fSlL (fV 2) (fPt (fOp addD (fV 12) (fC (.int 1)))) fNoP))
abbrev PV9 : S := (sFrz 14 (fLc [18, 17] (fiE (fV 5)) (.tp [(.nm 18), (.nm 17)]) (fTru (fCall1 anyC (fFrz (fLc [19] (fiA (fV 13)) (.nm 19) fYes (fOp inD (fOp ixD (fOp ixD (fV 19) (fC (.int 1))) (fC (.int 0))) (fOp ixD (fV 17) (fC (.int 1)))))))) (fV 18)))
abbrev PV10 : S := (sFrz 15 (fLc [17] (fiA (fV 6)) (.nm 17) (toB (fOp isN (fOp ixD (fV 17) (fC (.int 2))) (fC .non))) (fOp ixD (fV 17) (fC (.int 0)))))
abbrev PV11 : S := (sSet 16 (fCall1 intC (fOp notInD (fC (.int 1)) (fSlL (fFld 4 ["own_guide", "own_told", "own_rings"] 2 (fV 0)) (fPt (fOp addD (fOp ixD (fOp ixD (fV 6) (fNeg (fC (.int 1)))) (fC (.int 0))) (fC (.int 1)))) fNoP))))
abbrev PV12 : S := (sRet (fTup (fCons (fCall1 minC (fFrz (fLstN (fCons (fV 4) (fCons (fOp subD (fV 3) (fOp ixD (fOp ixD (fV 6) (fNeg (fC (.int 1)))) (fC (.int 0)))) fNil))))) (fCons (fCall1 minC (fFrz (fLstN (fCons (fV 4) (fCons (fOp subD (fV 3) (fOp ixD (fV 15) (fNeg (fC (.int 1))))) fNil))))) (fCons (fCall1 intC (fOp isN (fOp ixD (fOp ixD (fV 6) (fNeg (fC (.int 1)))) (fC (.int 2))) (fC .non))) (fCons (fV 16) (fCons (fCall1 tupC (fV 14)) (fCons (fCall1 tupC (fVo 7)) fNil))))))))
abbrev PV : S := (sSeq PV1 (sSeq PV2 (sSeq PV3 (sSeq PV4 (sSeq PV5 (sSeq PV6 (sSeq PV7 (sSeq PV8 (sSeq PV9 (sSeq PV10 (sSeq PV11 PV12)))))))))))
theorem PV_eq : b_Speaker_view_of = PV := rfl
abbrev PW1t1 : S := (sRet (fC .non))
abbrev PW1t : S := PW1t1
abbrev PW1 : S := (sIf (toB (fOp ltD (fOp ixD (fV 2) (fC (.int 0))) (fC (.int 0)))) PW1t SR.nx)
abbrev PW2 : S := (sSet 3 (fMeth 0 ["sort_rows", "word_rows", "own_memory"] 1 0 1 m_Book_word_names [0] [] (fFld 3 ["own_book", "own_rows"] 0 (fV 0)) fNil fNil))
abbrev PW3b1t1t1 : S := (sRet (fV 4))
abbrev PW3b1t1t : S := PW3b1t1t1
abbrev PW3b1t1 : S := (sIf (fTru (fCall1 allC (fFrz (fLc [6] (fiA (fV 5)) (.nm 6) fYes (fCall 3 m_test_holds (fCons (fV 6) (fCons (fLm idxS (fV 3) (fV 4)) (fCons (fV 2) fNil)))))))) PW3b1t1t SR.nx)
abbrev PW3b1t : S := PW3b1t1
abbrev PW3b1 : S := (sIf (fTru (fMethX 0 ["sort_rows", "word_rows", "own_memory"] 3 0 3 m_Book_can_stand [0, 1, 2] [] (fFld 3 ["own_book", "own_rows"] 0 (fV 0)) (fCons (fV 4) (fCons (fV 1) fNil)) fNil)) PW3b1t SR.nx)
abbrev PW3b : S := PW3b1
abbrev PW3 : S := (sFor (fiA (fFld 3 ["own_book", "own_rows"] 1 (fV 0))) (.tp [(.nm 4), (.nm 5)]) PW3b)
abbrev PW4 : S := (sRet (fC .non))
abbrev PW : S := (sSeq PW1 (sSeq PW2 (sSeq PW3 PW4)))
theorem PW_eq : b_Guide_word_by = PW := rfl
abbrev PY2t1 : S := (sRaise1 33 "at" "InvalidBell" (fCall1 lenD (fDr (fFld 4 ["own_guide", "own_told", "own_rings"] 2 (fV 0)))))
abbrev PY2t : S := PY2t1
abbrev PY2 : S := (sIf (toB (fOp notInD (fV 2) (fTup (fCons (fC (.int 0)) (fCons (fC (.int 1)) fNil))))) PY2t SR.nx)
abbrev PY3 : S := (sMutO muApp (fFld 4 ["own_guide", "own_told", "own_rings"] 2 (fV 0)) (fCons (fV 2) fNil))
abbrev PY4 : S := (sParNV 3 4 (fLstN fNil) (fNewO (fC2L kLst [8, 9] [9] (fsOne (fFld 4 ["own_guide", "own_told", "own_rings"] 1 (fV 0))) (.nm 8) fYes (fiA (fV 8)) (.nm 9) fYes (fV 9))))
abbrev PY5 : S := (sSet 5 (fCall1 lenD (fDr (fV 4))))
abbrev PY6b1 : S := (sSet 7 (fMethX 3 ["own_book", "own_rows"] 3 0 3 m_Guide_word_by [0, 1, 2] [] (fFld 4 ["own_guide", "own_told", "own_rings"] 0 (fV 0)) (fCons (fOp ixD (fV 6) (fC (.int 0))) (fCons (fMeth 4 ["own_guide", "own_told", "own_rings"] 3 0 3 m_Speaker_view_of [0, 1, 2] [] (fV 0) (fCons (fV 6) (fCons (fV 4) fNil)) fNil) fNil)) fNil))
abbrev PY6b2 : S := (sMut 3 muApp (fCons (fIf (toB (fOp isN (fV 7) (fC .non))) (fV 6) (fV 7)) fNil))
abbrev PY6b3 : S := (sMutO muApp (fV 4) (fCons (fTup (fCons (fOp subD (fCall1 lenD (fDr (fFld 4 ["own_guide", "own_told", "own_rings"] 2 (fV 0)))) (fC (.int 1))) (fCons (fV 6) (fCons (fV 7) fNil)))) fNil))
abbrev PY6b : S := (sSeq PY6b1 (sSeq PY6b2 PY6b3))
abbrev PY7z1 : S := (sMutO muApp (fFld 4 ["own_guide", "own_told", "own_rings"] 1 (fV 0)) (fCons (fSlL (fV 4) (fPt (fV 5)) fNoP) fNil))
abbrev PY7z2 : S := (sRet (fV 3))
abbrev PY7z : S := (sSeq PY7z1 PY7z2)
abbrev PY7 : S := (sFz 3 PY7z)
abbrev PPH1 : S := (sAsg (fV 2) (.tp [(.nm 3), (.nm 4), (.nm 5), (.nm 6), (.nm 7), (.nm 8)]))
abbrev PPH2t1 : S := (sRet (fOp notInD (fV 1) (fV 7)))
abbrev PPH2t : S := PPH2t1
abbrev PPH2 : S := (sIf (toB (fOp eqD (fOp ixD (fV 0) (fC (.int 0))) (fC (.str "last")))) PPH2t SR.nx)
abbrev PPH3t1 : S := (sRet (fOp leD (fV 3) (fOp ixD (fV 0) (fC (.int 1)))))
abbrev PPH3t : S := PPH3t1
abbrev PPH3 : S := (sIf (toB (fOp eqD (fOp ixD (fV 0) (fC (.int 0))) (fC (.str "told")))) PPH3t SR.nx)
abbrev PPH4t1 : S := (sRet (fOp leD (fV 4) (fOp ixD (fV 0) (fC (.int 1)))))
abbrev PPH4t : S := PPH4t1
abbrev PPH4 : S := (sIf (toB (fOp eqD (fOp ixD (fV 0) (fC (.int 0))) (fC (.str "named")))) PPH4t SR.nx)
abbrev PPH5t1 : S := (sRet (fOp gtD (fOp ixD (fV 8) (fV 1)) (fOp ixD (fV 0) (fC (.int 1)))))
abbrev PPH5t : S := PPH5t1
abbrev PPH5 : S := (sIf (toB (fOp eqD (fOp ixD (fV 0) (fC (.int 0))) (fC (.str "quiet")))) PPH5t SR.nx)
abbrev PPH6 : S := (sRet (fIf (toB (fOp eqD (fOp ixD (fV 0) (fC (.int 0))) (fC (.str "calm")))) (fOp eqD (fV 6) (fC (.int 1))) (fOp eqD (fV 5) (fC (.int 1)))))
abbrev PPH : S := (sSeq PPH1 (sSeq PPH2 (sSeq PPH3 (sSeq PPH4 (sSeq PPH5 PPH6)))))
theorem PPH_eq : b_plain_holds = PPH := rfl
abbrev PTH1t1 : S := (sRet (fNot (fCall 3 m_plain_holds (fCons (fOp ixD (fV 0) (fC (.int 1))) (fCons (fV 1) (fCons (fV 2) fNil))))))
abbrev PTH1t : S := PTH1t1
abbrev PTH1 : S := (sIf (toB (fOp eqD (fOp ixD (fV 0) (fC (.int 0))) (fC (.str "not")))) PTH1t SR.nx)
abbrev PTH2 : S := (sRet (fCall 3 m_plain_holds (fCons (fV 0) (fCons (fV 1) (fCons (fV 2) fNil)))))
abbrev PTH : S := (sSeq PTH1 PTH2)
theorem PTH_eq : b_test_holds = PTH := rfl
abbrev PCS1 : S := (sSet 3 (fOp ixD (fMethX 0 ["sort_rows", "word_rows", "own_memory"] 2 0 2 m_Book_word_row [0, 1] [] (fV 0) (fCons (fV 1) fNil) fNil) (fC (.int 1))))
abbrev PCS2 : S := (sDrop (fMethX 0 ["sort_rows", "word_rows", "own_memory"] 2 0 2 m_Book_name_price [0, 1] [] (fV 0) (fCons (fV 2) fNil) fNil))
abbrev PCS3 : S := (sRet (fOp inD (fV 2) (fV 3)))
abbrev PCS : S := (sSeq PCS1 (sSeq PCS2 PCS3))
theorem PCS_eq : b_Book_can_stand = PCS := rfl
section
variable {η : List O} {δ : En} {t b : Nat} {gs : List Gr}
def plR : Pl → Nat | .z _ => 0 | .n _ k => k
def rs1 (gs : List Gr) : List Nat := gs.flatMap fun g => g.2.map fun t => plR t.p
def reachL (gs : List Gr) : Nat := (rs1 gs).foldl max 0
theorem intsOf_m : ∀ l : List Nat, intsOf (l.map fun k : Nat => D.int (k : Nat)) = some (l.map fun k : Nat => (k : Int))
  | [] => rfl
  | k :: l => by
    rw [List.map_cons, List.map_cons]
    show (intsOf _).map _ = _
    rw [intsOf_m l]; rfl
theorem maxOf_nat : ∀ (l : List Nat) (a : Nat), maxOf (a : Int) (l.map fun k : Nat => (k : Int)) = ((l.foldl max a : Nat) : Int)
  | [], a => rfl
  | k :: l, a => by
    have := maxOf_nat l (max a k)
    unfold maxOf at *
    rw [List.map_cons, List.foldl_cons, List.foldl_cons, ← this]
    congr 1
    omega
theorem maxC_nat (a : Nat) (l : List Nat) : maxC (.lst (.int (a : Nat) :: l.map fun k : Nat => D.int (k : Nat))) = some (.int (l.foldl max a : Nat)) := by
  have e := intsOf_m (a :: l)
  rw [List.map_cons, List.map_cons] at e
  unfold maxC
  dsimp only
  rw [e]
  show some (D.int (maxOf (a : Int) (l.map fun k : Nat => (k : Int)))) = _
  rw [maxOf_nat]
theorem test_reach_ok (t : Ts) : m_test_reach [t.d] η = .ok (.int (plR t.p : Nat)) η := by
  obtain ⟨g, p⟩ := t
  refine run_rt2 (δ := [vl (Ts.mk g p).d, none]) rfl ?_
  unfold b_test_reach
  refine sq (δ1 := [vl (Ts.mk g p).d, vl p.d]) (η1 := η) (set_of (d := p.d) (η1 := η) ?_) (ret_of ?_)
  · cases g with
    | true =>
      show (fIf _ _ _) [vl (.tup [.str "not", p.d]), none] η = _
      exact (by (try simp only [DLS, Int.cast_ofNat_Int, Nat.reduceAdd, Nat.reduceLeDiff, Nat.reduceEqDiff, Nat.reduceSub, Nat.reduceMul, Nat.reduceBEq, Nat.reduceLT, Int.reduceAdd, Int.reduceSub, Int.reduceMul, Int.reduceNeg, Int.reduceLE, Int.reduceLT, Int.reduceEq, Int.reduceNe, Int.reduceToNat, reduceIte, szT, szlT, ix20, ix21, eq_not]) <;> rfl)
    | false =>
      show (fIf _ _ _) [vl p.d, none] η = _
      cases p with
      | z w =>
        unfold Pl.d at *
        have := z_not w
        exact (by (try simp only [DLS, Int.cast_ofNat_Int, Nat.reduceAdd, Nat.reduceLeDiff, Nat.reduceEqDiff, Nat.reduceSub, Nat.reduceMul, Nat.reduceBEq, Nat.reduceLT, Int.reduceAdd, Int.reduceSub, Int.reduceMul, Int.reduceNeg, Int.reduceLE, Int.reduceLT, Int.reduceEq, Int.reduceNe, Int.reduceToNat, reduceIte, szT, szlT, ix10, this]) <;> rfl)
      | n w k =>
        have q := n_not w
        unfold Pl.d at *
        exact (by (try simp only [DLS, Int.cast_ofNat_Int, Nat.reduceAdd, Nat.reduceLeDiff, Nat.reduceEqDiff, Nat.reduceSub, Nat.reduceMul, Nat.reduceBEq, Nat.reduceLT, Int.reduceAdd, Int.reduceSub, Int.reduceMul, Int.reduceNeg, Int.reduceLE, Int.reduceLT, Int.reduceEq, Int.reduceNe, Int.reduceToNat, reduceIte, szT, szlT, ix20, q]) <;> rfl)
  · cases p with
    | z w =>
      unfold Pl.d plR
      exact (by (try simp only [DLS, Int.cast_ofNat_Int, Nat.reduceAdd, Nat.reduceLeDiff, Nat.reduceEqDiff, Nat.reduceSub, Nat.reduceMul, Nat.reduceBEq, Nat.reduceLT, Int.reduceAdd, Int.reduceSub, Int.reduceMul, Int.reduceNeg, Int.reduceLE, Int.reduceLT, Int.reduceEq, Int.reduceNe, Int.reduceToNat, reduceIte, szT, szlT]) <;> rfl)
    | n w k =>
      unfold Pl.d plR
      exact (by (try simp only [DLS, Int.cast_ofNat_Int, Nat.reduceAdd, Nat.reduceLeDiff, Nat.reduceEqDiff, Nat.reduceSub, Nat.reduceMul, Nat.reduceBEq, Nat.reduceLT, Int.reduceAdd, Int.reduceSub, Int.reduceMul, Int.reduceNeg, Int.reduceLE, Int.reduceLT, Int.reduceEq, Int.reduceNe, Int.reduceToNat, reduceIte, szT, szlT, ix21]) <;> rfl)
theorem reach_ok (h : η[t]? = some (gdO b gs)) (h6 : gs.length ≤ 6) (h3 : ∀ g ∈ gs, g.2.length ≤ 3) : m_Guide_reach [.obj t] η = .ok (.int (reachL gs : Nat)) η := by
  have ec := comp2_enc (t := .tp [.nm 1, .nm 2]) (t1 := .nm 3) (ft := fYes) (ft1 := fYes) (fi1 := fiA (fV 2)) (fe := fCall 1 m_test_reach (fCons (fV 3) fNil)) (vs1 := [3]) (δw := wipeD [vl (.obj t), none, none, none] [1, 2, 3]) (η := η) grD (fun _ => true) (fun g => g.2.map fun t => plR t.p) (fun k : Nat => D.int (k : Nat)) (xs := gs) fun g hg =>
    ⟨_, gr_tp g _ 1 2, rfl, fun _ => ⟨g.2.map Ts.d, fiA_of (d := .tup (g.2.map Ts.d)) (η1 := η) (by (try simp only [DLS, Int.cast_ofNat_Int, Nat.reduceAdd, Nat.reduceLeDiff, Nat.reduceEqDiff, Nat.reduceSub, Nat.reduceMul, Nat.reduceBEq, Nat.reduceLT, Int.reduceAdd, Int.reduceSub, Int.reduceMul, Int.reduceNeg, Int.reduceLE, Int.reduceLT, Int.reduceEq, Int.reduceNe, Int.reduceToNat, reduceIte, szT, szlT, wipeD]) <;> rfl) rfl, by
      have := comp_enc (t := .nm 3) (ft := fYes) (fe := fCall 1 m_test_reach (fCons (fV 3) fNil)) (δw := wipeD (((wipeD [vl (.obj t), none, none, none] [1, 2, 3]).set 1 (vl (.str g.1))).set 2 (vl (.tup (g.2.map Ts.d)))) [3]) (η := η) Ts.d (fun _ => true) (fun t => plR t.p) (fun k : Nat => D.int (k : Nat)) (xs := g.2) fun u hu => by
        have e := test_reach_ok (η := η) u
        exact ⟨_, asg_nm, rfl, fun _ => (by (try simp only [DLS, Int.cast_ofNat_Int, Nat.reduceAdd, Nat.reduceLeDiff, Nat.reduceEqDiff, Nat.reduceSub, Nat.reduceMul, Nat.reduceBEq, Nat.reduceLT, Int.reduceAdd, Int.reduceSub, Int.reduceMul, Int.reduceNeg, Int.reduceLE, Int.reduceLT, Int.reduceEq, Int.reduceNe, Int.reduceToNat, reduceIte, szT, szlT, wipeD, e]) <;> rfl)⟩
      rw [this, List.filter_eq_self.mpr fun _ _ => rfl]⟩⟩
  rw [List.filter_eq_self.mpr fun _ _ => rfl] at ec
  have hz : ∀ gs : List Gr, (∀ g ∈ gs, g.2.length ≤ 3) → (rs1 gs).length ≤ 3 * gs.length := fun gs => by
    induction gs with
    | nil => intro _; exact Nat.le_refl _
    | cons g l ih =>
      intro h
      have := ih fun x hx => h x (List.mem_cons_of_mem _ hx)
      have := h g (List.mem_cons_self ..)
      unfold rs1 at *
      rw [List.flatMap_cons, List.length_append, List.length_map, List.length_cons]
      omega
  have hz := hz gs h3
  have ef : (fFrz (fC2 kLst [1, 2, 3] [3] (fiA (fFld 3 ["own_book", "own_rows"] 1 (fV 0))) (.tp [(.nm 1), (.nm 2)]) fYes (fiA (fV 2)) (.nm 3) fYes (fCall 1 m_test_reach (fCons (fV 3) fNil)))) [vl (.obj t), none, none, none] η = .ok (.lst ((rs1 gs).map fun k : Nat => D.int (k : Nat))) η := by
    rw [fFrz_a, fC2_a, fiA_of (fa := (fFld 3 ["own_book", "own_rows"] 1 (fV 0))) (d := .lst (gs.map grD)) (η1 := η) (by (try simp only [DLS, Int.cast_ofNat_Int, Nat.reduceAdd, Nat.reduceLeDiff, Nat.reduceEqDiff, Nat.reduceSub, Nat.reduceMul, Nat.reduceBEq, Nat.reduceLT, Int.reduceAdd, Int.reduceSub, Int.reduceMul, Int.reduceNeg, Int.reduceLE, Int.reduceLT, Int.reduceEq, Int.reduceNe, Int.reduceToNat, reduceIte, szT, szlT, h]) <;> rfl) rfl, bind_ok]
    rw [ec, nox_ok, bind_ok]
    show (kLst ((rs1 gs).map fun k : Nat => D.int (k : Nat)) η).bind _ = _
    unfold kLst
    rw [if_pos (by rw [List.length_map, sizeLine_eq]; omega), bind_ok]
  have em := maxC_nat 0 (rs1 gs)
  refine run_rt2 (δ := [vl (.obj t), none, none, none]) rfl (ret_of ?_)
  have z1 : (0 :: (rs1 gs)).length ≤ sizeLine := by rw [List.length_cons, sizeLine_eq]; omega
  have el : (fFrz (fLstN (fCons (fC (.int 0)) (fStar (fFrz (fC2 kLst [1, 2, 3] [3] (fiA (fFld 3 ["own_book", "own_rows"] 1 (fV 0))) (.tp [(.nm 1), (.nm 2)]) fYes (fiA (fV 2)) (.nm 3) fYes (fCall 1 m_test_reach (fCons (fV 3) fNil)))) fNil)))) [vl (.obj t), none, none, none] η = .ok (.lst (.int (0 : Nat) :: (rs1 gs).map fun k : Nat => D.int (k : Nat))) η := by
    rw [fFrz_a, fLstN_a, fCons_a, fC_a, bind_ok, fStar_a, ef, bind_ok]
    dsimp only
    rw [fNil_a, bind_ok, List.append_nil]
    simp only [bind_ok]
    rw [if_pos (by rw [List.length_cons, List.length_map, ← List.length_cons (a := (0:Nat))]; exact z1)]
    rfl
  rw [fCall1_a, el, bind_ok, em]; rfl
end
/-! ### mentions -/
structure Mn where
  k : Nat
  t : Thing
  w : Option Str
def wD : Option Str → D
  | none => .non
  | some z => .str z
def mnD (x : Mn) : D := .tup [.int (x.k : Nat), kd2 x.t, wD x.w]
theorem mn0 {x : Mn} : ixD (mnD x) (.int 0) = some (.int (x.k : Nat)) := rfl
theorem mn1 {x : Mn} : ixD (mnD x) (.int 1) = some (kd2 x.t) := rfl
theorem mn2 {x : Mn} : ixD (mnD x) (.int 2) = some (wD x.w) := rfl
theorem kd0 {t : Thing} : ixD (kd2 t) (.int 0) = some (.str t.1) := rfl
theorem wD_non (o : Option Str) : (wD o).isNon = o.isNone := by cases o <;> rfl
open Classical in
theorem kd_iff (s t : Thing) : kd2 s = kd2 t ↔ s = t := ⟨fun e => by
  unfold kd2 at e
  injection e with e
  injection e with e1 e
  injection e with e2 e
  injection e1 with e1
  injection e2 with e2
  exact Prod.ext e1 e2, fun e => by rw [e]⟩
open Classical in
theorem eq_kd (s t : Thing) : eqD (kd2 s) (kd2 t) = some (.bl (decide (s = t))) := by
  rw [eqD_dat (dat_kd2 s) (dat_kd2 t) rfl rfl]
  exact congrArg (fun b => some (D.bl b)) (decide_eq_decide.mpr (kd_iff s t))
open Classical in
theorem ne_kd (s t : Thing) : neD (kd2 s) (kd2 t) = some (.bl (decide (s ≠ t))) := by
  rw [neD_dat (dat_kd2 s) (dat_kd2 t) rfl rfl]
  refine congrArg (fun b => some (D.bl b)) ?_
  rw [decide_not]
  exact congrArg not (decide_eq_decide.mpr (kd_iff s t))
def ownL (M : List Mn) (t : Thing) : List Mn := M.filter fun x => decide (x.t = t)
def othL (M : List Mn) (t : Thing) (st : List Str) : List Mn := M.filter fun x => decide (x.t ≠ t) && decide (x.t.1 ∈ st)
def namL (M : List Mn) (t : Thing) : List Mn := (ownL M t).filter fun x => x.w.isNone
theorem minC2 (a b : Int) : minC (.lst [.int a, .int b]) = some (.int (min a b)) := rfl
/-- how long a word was quiet -/
def qui (M : List Mn) (t : Thing) (now cap : Nat) (st : List Str) : Int := match (othL M t st).getLast? with
  | none => (cap : Int)
  | some q => min (cap : Int) ((now : Int) - (q.k : Nat))
abbrev NSS : List Str := ["own_guide", "own_told", "own_rings"]
abbrev spO (gd T R : Nat) : O := .ins 4 NSS [.obj gd, .obj T, .obj R]
theorem nth {α : Type} {f : α → D} {l : List α} {x : α} : ixD (.lst ((l ++ [x]).map f)) (.int (-1)) = some (f x) := by
  rw [ixD_l, List.map_append]; exact at_last
theorem getL {α : Type} {l : List α} : (l.getLast? = none ∧ l = []) ∨ ∃ l' x, l = l' ++ [x] ∧ l.getLast? = some x := by
  rcases List.eq_nil_or_concat l with rfl | ⟨l', x, e⟩
  · exact .inl ⟨rfl, rfl⟩
  · rw [List.concat_eq_append] at e
    subst e
    exact .inr ⟨l', x, rfl, by simp⟩
section
variable {η : List O} {δ : En} {sp gd T R n b : Nat} {gs : List Gr} {ks : List (Str × Int)} {rs : List Row} {m : D} {M : List Mn} {rings : List Int} {now : Nat} {t : Thing}
/-- what a speaker's view is made of -/
structure SpOk (η : List O) (sp gd T R n b : Nat) (gs : List Gr) (ks : List (Str × Int)) (rs : List Row) (m : D) (M : List Mn) (rings : List Int) (now : Nat) : Prop where
  hs : η[sp]? = some (spO gd T R)
  hg : η[gd]? = some (gdO b gs)
  hb : η[b]? = some (bkO ks rs m)
  hR : η[R]? = some (.lst (rings.map .int))
  hn : η[n]? = some (.lst (M.map mnD))
  hl : rings.length = now + 1
  g6 : gs.length ≤ 6
  g3 : ∀ g ∈ gs, g.2.length ≤ 3
  M1 : M.length ≤ 1000
  r4 : rs.length ≤ 4
theorem own_comp {δw : En} (hn : η[n]? = some (.lst (M.map mnD))) (hl : δw.length = 20) (h1 : δw[1]? = some (vl (kd2 t))) : compL (.nm 17) (toB (fOp eqD (fOp ixD (fV 17) (fC (.int 1))) (fV 1))) (fV 17) δw (.one (.obj n)) (sizeS η (.one (.obj n)) + 1) 0 η = .ok ((ownL M t).map mnD) η := by
  have ec := comp_encL (t := .nm 17) (ft := (toB (fOp eqD (fOp ixD (fV 17) (fC (.int 1))) (fV 1)))) (fe := fV 17) (δw := δw) (η := η) (src := .one (.obj n)) mnD (fun x => decide (x.t = t)) (fun x => x) mnD (xs := M)
    (fun k => by rw [curS_one (rd_obj hn)]) (fun x hx => ⟨_, asgR_nm, by
      have e := eq_kd x.t t
      have e1 := mn1 (x := x)
      generalize mnD x = XD at *
      generalize kd2 x.t = XT at *
      generalize kd2 t = KT at *
      exact (by (try simp only [DLS, Int.cast_ofNat_Int, Nat.reduceAdd, Nat.reduceLeDiff, Nat.reduceEqDiff, Nat.reduceSub, Nat.reduceMul, Nat.reduceBEq, Nat.reduceLT, Int.reduceAdd, Int.reduceSub, Int.reduceMul, Int.reduceNeg, Int.reduceLE, Int.reduceLT, Int.reduceEq, Int.reduceNe, Int.reduceToNat, reduceIte, szT, szlT, hl, h1, e1, e]) <;> rfl), fun _ => by
      generalize mnD x = XD at *
      exact (by (try simp only [DLS, Int.cast_ofNat_Int, Nat.reduceAdd, Nat.reduceLeDiff, Nat.reduceEqDiff, Nat.reduceSub, Nat.reduceMul, Nat.reduceBEq, Nat.reduceLT, Int.reduceAdd, Int.reduceSub, Int.reduceMul, Int.reduceNeg, Int.reduceLE, Int.reduceLT, Int.reduceEq, Int.reduceNe, Int.reduceToNat, reduceIte, szT, szlT, hl]) <;> rfl)⟩) (F := sizeS η (.one (.obj n)) + 1) (by rw [size_one (rd_obj hn), List.length_map]; exact Nat.le_refl _)
  rw [List.map_id'] at ec
  exact ec
theorem oth_comp {δw : En} {st : List Str} (hn : η[n]? = some (.lst (M.map mnD))) (hl : δw.length = 20) (h1 : δw[1]? = some (vl (kd2 t))) (h9 : δw[9]? = some (vl (.tup (st.map .str)))) :
    compL (.nm 17) (fAndB (toB (fOp neD (fOp ixD (fV 17) (fC (.int 1))) (fV 1))) (toB (fOp inD (fOp ixD (fOp ixD (fV 17) (fC (.int 1))) (fC (.int 0))) (fV 9)))) (fOp ixD (fV 17) (fC (.int 0))) δw (.one (.obj n)) (sizeS η (.one (.obj n)) + 1) 0 η = .ok ((othL M t st).map fun x => D.int (x.k : Nat)) η := by
  have ec := comp_encL (t := .nm 17) (ft := (fAndB (toB (fOp neD (fOp ixD (fV 17) (fC (.int 1))) (fV 1))) (toB (fOp inD (fOp ixD (fOp ixD (fV 17) (fC (.int 1))) (fC (.int 0))) (fV 9))))) (fe := (fOp ixD (fV 17) (fC (.int 0)))) (δw := δw) (η := η) (src := .one (.obj n)) mnD (fun x => decide (x.t ≠ t) && decide (x.t.1 ∈ st)) (fun x => x) (fun x => D.int (x.k : Nat)) (xs := M)
    (fun k => by rw [curS_one (rd_obj hn)]) (fun x hx => ⟨_, asgR_nm, by
      have e := ne_kd x.t t
      have e1 := mn1 (x := x)
      have e0 := kd0 (t := x.t)
      have ei : inD (.str x.t.1) (.tup (st.map .str)) = some (.bl (decide (x.t.1 ∈ st))) := inD_ts
      generalize mnD x = XD at *
      generalize kd2 x.t = XT at *
      generalize kd2 t = KT at *
      generalize st.map D.str = SD at *
      generalize decide (x.t.1 ∈ st) = p2 at *
      generalize decide (x.t ≠ t) = p1 at *
      cases p1 <;> exact (by (try simp only [DLS, Int.cast_ofNat_Int, Nat.reduceAdd, Nat.reduceLeDiff, Nat.reduceEqDiff, Nat.reduceSub, Nat.reduceMul, Nat.reduceBEq, Nat.reduceLT, Int.reduceAdd, Int.reduceSub, Int.reduceMul, Int.reduceNeg, Int.reduceLE, Int.reduceLT, Int.reduceEq, Int.reduceNe, Int.reduceToNat, reduceIte, szT, szlT, hl, h1, h9, e1, e, e0, ei]) <;> rfl), fun _ => by
      have e0 := mn0 (x := x)
      generalize mnD x = XD at *
      exact (by (try simp only [DLS, Int.cast_ofNat_Int, Nat.reduceAdd, Nat.reduceLeDiff, Nat.reduceEqDiff, Nat.reduceSub, Nat.reduceMul, Nat.reduceBEq, Nat.reduceLT, Int.reduceAdd, Int.reduceSub, Int.reduceMul, Int.reduceNeg, Int.reduceLE, Int.reduceLT, Int.reduceEq, Int.reduceNe, Int.reduceToNat, reduceIte, szT, szlT, hl, e0]) <;> rfl)⟩) (F := sizeS η (.one (.obj n)) + 1) (by rw [size_one (rd_obj hn), List.length_map]; exact Nat.le_refl _)
  rw [List.map_id'] at ec
  exact ec
/-- the view's first part -/
theorem view_pre (So : SpOk η sp gd T R n b gs ks rs m M rings now) {f : S} {r : SR}
    (hf : ∀ δ' : En, δ'.length = 20 → δ'[0]? = some (vl (.obj sp)) → δ'[1]? = some (vl (kd2 t)) → δ'[2]? = some (vl (.obj n)) → δ'[3]? = some (vl (.int (now : Nat))) → δ'[4]? = some (vl (.int ((reachL gs + 1 : Nat) : Int))) → δ'[5]? = some (vl (.lst (rs.map Row.d))) → δ'[6]? = some (vl (.lst ((ownL M t).map mnD))) → δ'[7]? = some (ow (rs.map fun q => .int (qui M t now (reachL gs + 1) q.st))) → f δ' η = r) :
    (sSeq PV1 (sSeq PV2 (sSeq PV3 (sSeq PV4 (sSeq PV5 f))))) [vl (.obj sp), vl (kd2 t), vl (.obj n), none, none, none, none, none, none, none, none, none, none, none, none, none, none, none, none, none] η = r := by
  have hs : η[sp]? = some (.ins 4 NSS [.obj gd, .obj T, .obj R]) := So.hs
  have hR := So.hR
  have ig : insC η 3 (.obj gd) = true := by rw [insC_a, So.hg]; rfl
  have ib : insC η 0 (.obj b) = true := by rw [insC_a, So.hb]; rfl
  have er := reach_ok So.hg So.g6 So.g3
  have eb : m_Guide_book [.obj gd] η = .ok (.obj b) η := by
    have hg : η[gd]? = some (.ins 3 NSG [.obj b, .lst (gs.map grD)]) := So.hg
    generalize gs.map grD = GG at *
    exact run_rt2 (δ := [vl (.obj gd)]) rfl (ret_of (by (try simp only [DLS, Int.cast_ofNat_Int, Nat.reduceAdd, Nat.reduceLeDiff, Nat.reduceEqDiff, Nat.reduceSub, Nat.reduceMul, Nat.reduceBEq, Nat.reduceLT, Int.reduceAdd, Int.reduceSub, Int.reduceMul, Int.reduceNeg, Int.reduceLE, Int.reduceLT, Int.reduceEq, Int.reduceNe, Int.reduceToNat, reduceIte, szT, szlT, hg]) <;> rfl))
  have hb' : η[b]? = some (.ins 0 NSB [.lst (ks.map kd2), .lst (rs.map Row.d), m]) := So.hb
  have ew : m_Book_words [.obj b] η = .ok (.lst (rs.map Row.d)) η := by
    generalize rs.map Row.d = RR at *
    generalize ks.map kd2 = KK at *
    exact run_rt2 (δ := [vl (.obj b)]) rfl (ret_of (by (try simp only [DLS, Int.cast_ofNat_Int, Nat.reduceAdd, Nat.reduceLeDiff, Nat.reduceEqDiff, Nat.reduceSub, Nat.reduceMul, Nat.reduceBEq, Nat.reduceLT, Int.reduceAdd, Int.reduceSub, Int.reduceMul, Int.reduceNeg, Int.reduceLE, Int.reduceLT, Int.reduceEq, Int.reduceNe, Int.reduceToNat, reduceIte, szT, szlT, hb']) <;> rfl))
  have lR : lenD (.lst (rings.map .int)) = some (.int ((now + 1 : Nat) : Int)) := by rw [lenD_l, List.length_map, So.hl]
  have e1 : PV1 [vl (.obj sp), vl (kd2 t), vl (.obj n), none, none, none, none, none, none, none, none, none, none, none, none, none, none, none, none, none] η = .nx [vl (.obj sp), vl (kd2 t), vl (.obj n), vl (.int (now : Nat)), vl (.int ((reachL gs + 1 : Nat) : Int)), none, none, none, none, none, none, none, none, none, none, none, none, none, none, none] η := by
    have a1 : (fOp subD (fCall1 lenD (fDr (fFld 4 ["own_guide", "own_told", "own_rings"] 2 (fV 0)))) (fC (.int 1))) [vl (.obj sp), vl (kd2 t), vl (.obj n), none, none, none, none, none, none, none, none, none, none, none, none, none, none, none, none, none] η = .ok (.int (now : Nat)) η := by
      have : ((now + 1 : Nat) : Int) - 1 = (now : Nat) := by omega
      rw [← this]
      generalize rings.map D.int = RD at *
      generalize kd2 t = KT at *
      exact (by (try simp only [DLS, Int.cast_ofNat_Int, Nat.reduceAdd, Nat.reduceLeDiff, Nat.reduceEqDiff, Nat.reduceSub, Nat.reduceMul, Nat.reduceBEq, Nat.reduceLT, Int.reduceAdd, Int.reduceSub, Int.reduceMul, Int.reduceNeg, Int.reduceLE, Int.reduceLT, Int.reduceEq, Int.reduceNe, Int.reduceToNat, reduceIte, szT, szlT, hs, hR, lR]) <;> rfl)
    have a2 : (fOp addD (fProp 3 1 m_Guide_reach (fFld 4 ["own_guide", "own_told", "own_rings"] 0 (fV 0))) (fC (.int 1))) [vl (.obj sp), vl (kd2 t), vl (.obj n), none, none, none, none, none, none, none, none, none, none, none, none, none, none, none, none, none] η = .ok (.int ((reachL gs + 1 : Nat) : Int)) η := by
      have hp : (fProp 3 1 m_Guide_reach (fFld 4 ["own_guide", "own_told", "own_rings"] 0 (fV 0))) [vl (.obj sp), vl (kd2 t), vl (.obj n), none, none, none, none, none, none, none, none, none, none, none, none, none, none, none, none, none] η = .ok (.int (reachL gs : Nat)) η := by
        rw [fProp_a, show (fFld 4 ["own_guide", "own_told", "own_rings"] 0 (fV 0)) [vl (.obj sp), vl (kd2 t), vl (.obj n), none, none, none, none, none, none, none, none, none, none, none, none, none, none, none, none, none] η = .ok (.obj gd) η from (by (try simp only [DLS, Int.cast_ofNat_Int, Nat.reduceAdd, Nat.reduceLeDiff, Nat.reduceEqDiff, Nat.reduceSub, Nat.reduceMul, Nat.reduceBEq, Nat.reduceLT, Int.reduceAdd, Int.reduceSub, Int.reduceMul, Int.reduceNeg, Int.reduceLE, Int.reduceLT, Int.reduceEq, Int.reduceNe, Int.reduceToNat, reduceIte, szT, szlT, hs]) <;> rfl), bind_ok, if_pos ig, arg_a]
        exact congrArg DL.R.nox ((if_pos rfl).trans er)
      rw [fOp_a, hp, bind_ok]
      rfl
    show sPar _ _ _ _ _ _ = _
    rw [sPar_a, a1, toS_ok, a2]
    rfl
  have e2 : PV2 [vl (.obj sp), vl (kd2 t), vl (.obj n), vl (.int (now : Nat)), vl (.int ((reachL gs + 1 : Nat) : Int)), none, none, none, none, none, none, none, none, none, none, none, none, none, none, none] η = .nx [vl (.obj sp), vl (kd2 t), vl (.obj n), vl (.int (now : Nat)), vl (.int ((reachL gs + 1 : Nat) : Int)), vl (.lst (rs.map Row.d)), none, none, none, none, none, none, none, none, none, none, none, none, none, none] η := set_of (by
    have hp : (fProp 3 1 m_Guide_book (fFld 4 ["own_guide", "own_told", "own_rings"] 0 (fV 0))) [vl (.obj sp), vl (kd2 t), vl (.obj n), vl (.int (now : Nat)), vl (.int ((reachL gs + 1 : Nat) : Int)), none, none, none, none, none, none, none, none, none, none, none, none, none, none, none] η = .ok (.obj b) η := by
      rw [fProp_a, show (fFld 4 ["own_guide", "own_told", "own_rings"] 0 (fV 0)) [vl (.obj sp), vl (kd2 t), vl (.obj n), vl (.int (now : Nat)), vl (.int ((reachL gs + 1 : Nat) : Int)), none, none, none, none, none, none, none, none, none, none, none, none, none, none, none] η = .ok (.obj gd) η from (by (try simp only [DLS, Int.cast_ofNat_Int, Nat.reduceAdd, Nat.reduceLeDiff, Nat.reduceEqDiff, Nat.reduceSub, Nat.reduceMul, Nat.reduceBEq, Nat.reduceLT, Int.reduceAdd, Int.reduceSub, Int.reduceMul, Int.reduceNeg, Int.reduceLE, Int.reduceLT, Int.reduceEq, Int.reduceNe, Int.reduceToNat, reduceIte, szT, szlT, hs]) <;> rfl), bind_ok, if_pos ig, arg_a]
      exact congrArg DL.R.nox ((if_pos rfl).trans eb)
    generalize (fProp 3 1 m_Guide_book (fFld 4 ["own_guide", "own_told", "own_rings"] 0 (fV 0))) = FP at *
    generalize rs.map Row.d = RR at *
    generalize ks.map kd2 = KK at *
    generalize kd2 t = KT at *
    simp only [DLS, Int.cast_ofNat_Int, Nat.reduceAdd, Nat.reduceLeDiff, Nat.reduceEqDiff, Nat.reduceSub, Nat.reduceMul, Nat.reduceBEq, Nat.reduceLT, Int.reduceAdd, Int.reduceSub, Int.reduceMul, Int.reduceNeg, Int.reduceLE, Int.reduceLT, Int.reduceEq, Int.reduceNe, Int.reduceToNat, reduceIte, szT, szlT, hp, hb', ew])
  have e3 : PV3 [vl (.obj sp), vl (kd2 t), vl (.obj n), vl (.int (now : Nat)), vl (.int ((reachL gs + 1 : Nat) : Int)), vl (.lst (rs.map Row.d)), none, none, none, none, none, none, none, none, none, none, none, none, none, none] η = .nx [vl (.obj sp), vl (kd2 t), vl (.obj n), vl (.int (now : Nat)), vl (.int ((reachL gs + 1 : Nat) : Int)), vl (.lst (rs.map Row.d)), vl (.lst ((ownL M t).map mnD)), none, none, none, none, none, none, none, none, none, none, none, none, none] η := by
    have ec := own_comp (t := t) (δw := wipeD [vl (.obj sp), vl (kd2 t), vl (.obj n), vl (.int (now : Nat)), vl (.int ((reachL gs + 1 : Nat) : Int)), vl (.lst (rs.map Row.d)), none, none, none, none, none, none, none, none, none, none, none, none, none, none] [17]) So.hn rfl rfl
    show sFrz _ _ _ _ = _
    rw [sFrz_a, lcL_run (vs := [17]) (one_of (fa := fV 2) (η1 := η) rfl (rd_obj So.hn)) ec]
    rfl
  refine sq e1 (sq e2 (sq e3 (sq (δ1 := [vl (.obj sp), vl (kd2 t), vl (.obj n), vl (.int (now : Nat)), vl (.int ((reachL gs + 1 : Nat) : Int)), vl (.lst (rs.map Row.d)), vl (.lst ((ownL M t).map mnD)), ow [], none, none, none, none, none, none, none, none, none, none, none, none]) (η1 := η) (by (try simp only [DLS, Int.cast_ofNat_Int, Nat.reduceAdd, Nat.reduceLeDiff, Nat.reduceEqDiff, Nat.reduceSub, Nat.reduceMul, Nat.reduceBEq, Nat.reduceLT, Int.reduceAdd, Int.reduceSub, Int.reduceMul, Int.reduceNeg, Int.reduceLE, Int.reduceLT, Int.reduceEq, Int.reduceNe, Int.reduceToNat, reduceIte, szT, szlT]) <;> rfl) ?_)))
  obtain ⟨δ', η', el, kp, he, h7⟩ := loop_m (t := .tp [.nm 8, .nm 9, .nm 10]) (b := PV5b) (enc := Row.d) (xs := rs) [7, 8, 9, 10, 11] (fun k δ η1 => η = η1 ∧ δ[7]? = some (ow ((rs.take k).map fun q => .int (qui M t now (reachL gs + 1) q.st))))
    (δ := [vl (.obj sp), vl (kd2 t), vl (.obj n), vl (.int (now : Nat)), vl (.int ((reachL gs + 1 : Nat) : Int)), vl (.lst (rs.map Row.d)), vl (.lst ((ownL M t).map mnD)), ow [], none, none, none, none, none, none, none, none, none, none, none, none]) (η := η) ⟨rfl, rfl⟩ fun k q δ1 η1 hx hk ⟨he, h7⟩ => by
      subst he
      have l1 : δ1.length = 20 := hk.1
      have b1 : δ1[1]? = some (vl (kd2 t)) := hk.2 1 (by decide)
      have b2 : δ1[2]? = some (vl (.obj n)) := hk.2 2 (by decide)
      have b3 : δ1[3]? = some (vl (.int (now : Nat))) := hk.2 3 (by decide)
      have b4 : δ1[4]? = some (vl (.int ((reachL gs + 1 : Nat) : Int))) := hk.2 4 (by decide)
      have as : asg (.tp [.nm 8, .nm 9, .nm 10]) q.d δ1 = some (((δ1.set 8 (vl (.str q.n))).set 9 (vl (.tup (q.st.map .str)))).set 10 (vl (.int q.p))) := by rw [Row.d, asg_tp, asgs_cons, asg_nm]; rfl
      generalize hδ2 : ((δ1.set 8 (vl (.str q.n))).set 9 (vl (.tup (q.st.map .str)))).set 10 (vl (.int q.p)) = δ2
      rw [hδ2] at as
      have k2 : Kp [7, 8, 9, 10, 11] δ1 δ2 := by rw [← hδ2]; exact .st (.st (.st .refl (by decide)) (by decide)) (by decide)
      have l2 : δ2.length = 20 := k2.1.trans l1
      have c7 : δ2[7]? = some (ow ((rs.take k).map fun q => .int (qui M t now (reachL gs + 1) q.st))) := by
        rw [← hδ2]
        generalize (rs.take k).map (fun q => D.int (qui M t now (reachL gs + 1) q.st)) = QQ at *
        generalize q.st.map D.str = SD
        simp only [DLS, Int.cast_ofNat_Int, Nat.reduceAdd, Nat.reduceLeDiff, Nat.reduceEqDiff, Nat.reduceSub, Nat.reduceMul, Nat.reduceBEq, Nat.reduceLT, Int.reduceAdd, Int.reduceSub, Int.reduceMul, Int.reduceNeg, Int.reduceLE, Int.reduceLT, Int.reduceEq, Int.reduceNe, Int.reduceToNat, reduceIte, szT, szlT, h7]
      have c9 : δ2[9]? = some (vl (.tup (q.st.map .str))) := by
        rw [← hδ2]
        generalize q.st.map D.str = SD
        simp only [DLS, Int.cast_ofNat_Int, Nat.reduceAdd, Nat.reduceLeDiff, Nat.reduceEqDiff, Nat.reduceSub, Nat.reduceMul, Nat.reduceBEq, Nat.reduceLT, Int.reduceAdd, Int.reduceSub, Int.reduceMul, Int.reduceNeg, Int.reduceLE, Int.reduceLT, Int.reduceEq, Int.reduceNe, Int.reduceToNat, reduceIte, szT, szlT, l1]
      have c1 := (k2.2 1 (by decide)).trans b1
      have c2 := (k2.2 2 (by decide)).trans b2
      have c3 := (k2.2 3 (by decide)).trans b3
      have c4 := (k2.2 4 (by decide)).trans b4
      have ec := oth_comp (t := t) (st := q.st) (δw := wipeD δ2 [17]) So.hn (by simp only [DLS, Int.cast_ofNat_Int, Nat.reduceAdd, Nat.reduceLeDiff, Nat.reduceEqDiff, Nat.reduceSub, Nat.reduceMul, Nat.reduceBEq, Nat.reduceLT, Int.reduceAdd, Int.reduceSub, Int.reduceMul, Int.reduceNeg, Int.reduceLE, Int.reduceLT, Int.reduceEq, Int.reduceNe, Int.reduceToNat, reduceIte, szT, szlT, wipeD, l2]) (by
        generalize kd2 t = KT at *
        simp only [DLS, Int.cast_ofNat_Int, Nat.reduceAdd, Nat.reduceLeDiff, Nat.reduceEqDiff, Nat.reduceSub, Nat.reduceMul, Nat.reduceBEq, Nat.reduceLT, Int.reduceAdd, Int.reduceSub, Int.reduceMul, Int.reduceNeg, Int.reduceLE, Int.reduceLT, Int.reduceEq, Int.reduceNe, Int.reduceToNat, reduceIte, szT, szlT, wipeD, c1]) (by
        generalize q.st.map D.str = SD at *
        simp only [DLS, Int.cast_ofNat_Int, Nat.reduceAdd, Nat.reduceLeDiff, Nat.reduceEqDiff, Nat.reduceSub, Nat.reduceMul, Nat.reduceBEq, Nat.reduceLT, Int.reduceAdd, Int.reduceSub, Int.reduceMul, Int.reduceNeg, Int.reduceLE, Int.reduceLT, Int.reduceEq, Int.reduceNe, Int.reduceToNat, reduceIte, szT, szlT, wipeD, c9])
      have s1 : PV5b1 δ2 η = .nx (δ2.set 11 (vl (.lst ((othL M t q.st).map fun x => D.int (x.k : Nat))))) η := by
        show sFrz _ _ _ _ = _
        rw [sFrz_a, lcL_run (vs := [17]) (one_of (fa := fV 2) (η1 := η) (by (try simp only [DLS, Int.cast_ofNat_Int, Nat.reduceAdd, Nat.reduceLeDiff, Nat.reduceEqDiff, Nat.reduceSub, Nat.reduceMul, Nat.reduceBEq, Nat.reduceLT, Int.reduceAdd, Int.reduceSub, Int.reduceMul, Int.reduceNeg, Int.reduceLE, Int.reduceLT, Int.reduceEq, Int.reduceNe, Int.reduceToNat, reduceIte, szT, szlT, c2]) <;> rfl) (rd_obj So.hn)) ec]
        rfl
      have hz : ((rs.take k).map fun q => D.int (qui M t now (reachL gs + 1) q.st)).length < 1000000 := by have := So.r4; simp; omega
      have z2 : (2 : Nat) ≤ sizeLine := by rw [sizeLine_eq]; decide
      have ev : (fIf (toB (fOp neD (fV 11) (fFrz (fLstN fNil)))) (fCall1 minC (fFrz (fLstN (fCons (fV 4) (fCons (fOp subD (fV 3) (fOp ixD (fV 11) (fNeg (fC (.int 1))))) fNil))))) (fV 4)) (δ2.set 11 (vl (.lst ((othL M t q.st).map fun x => D.int (x.k : Nat))))) η = .ok (.int (qui M t now (reachL gs + 1) q.st)) η := by
        unfold qui
        rcases getL (l := othL M t q.st) with ⟨e1, e2⟩ | ⟨l', x, e2, e1⟩
        · rw [e1, e2]
          have nn : neD (.lst []) (.lst []) = some (.bl false) := rfl
          show _ = DL.R.ok (D.int ((reachL gs + 1 : Nat) : Int)) η
          exact (by (try simp only [DLS, Int.cast_ofNat_Int, Nat.reduceAdd, Nat.reduceLeDiff, Nat.reduceEqDiff, Nat.reduceSub, Nat.reduceMul, Nat.reduceBEq, Nat.reduceLT, Int.reduceAdd, Int.reduceSub, Int.reduceMul, Int.reduceNeg, Int.reduceLE, Int.reduceLT, Int.reduceEq, Int.reduceNe, Int.reduceToNat, reduceIte, szT, szlT, l2, c4, List.map_nil, nn]) <;> rfl)
        · rw [e1]
          have nn : neD (.lst ((othL M t q.st).map fun x => D.int (x.k : Nat))) (.lst []) = some (.bl true) := by
            rw [neD_nilG (pureDs_map (n := 19) fun _ _ => rfl), e2]
            simp
          have il : ixD (.lst ((othL M t q.st).map fun x => D.int (x.k : Nat))) (.int (-1)) = some (.int (x.k : Nat)) := by rw [e2]; exact nth (f := fun x : Mn => D.int (x.k : Nat))
          have mc := minC2 ((reachL gs + 1 : Nat) : Int) ((now : Int) - (x.k : Nat))
          show _ = DL.R.ok (D.int (min ((reachL gs + 1 : Nat) : Int) ((now : Int) - (x.k : Nat)))) η
          generalize (othL M t q.st).map (fun x => D.int (x.k : Nat)) = OL at *
          generalize hnn : fNeg (fC (.int 1)) = fN at *
          have n1 : ∀ δ η, fN δ η = .ok (.int (-1)) η := fun δ η => by rw [← hnn]; rfl
          exact (by (try simp only [DLS, Int.cast_ofNat_Int, Nat.reduceAdd, Nat.reduceLeDiff, Nat.reduceEqDiff, Nat.reduceSub, Nat.reduceMul, Nat.reduceBEq, Nat.reduceLT, Int.reduceAdd, Int.reduceSub, Int.reduceMul, Int.reduceNeg, Int.reduceLE, Int.reduceLT, Int.reduceEq, Int.reduceNe, Int.reduceToNat, reduceIte, szT, szlT, l2, c3, c4, nn, n1, il, mc, z2]) <;> rfl)
      have s2 : PV5b2 (δ2.set 11 (vl (.lst ((othL M t q.st).map fun x => D.int (x.k : Nat))))) η = .nx ((δ2.set 11 (vl (.lst ((othL M t q.st).map fun x => D.int (x.k : Nat))))).set 7 (ow (((rs.take k).map fun q => .int (qui M t now (reachL gs + 1) q.st)) ++ [.int (qui M t now (reachL gs + 1) q.st)]))) η := app_of (i := 7) (l := (rs.take k).map fun q => .int (qui M t now (reachL gs + 1) q.st)) (η1 := η) (by
        generalize (rs.take k).map (fun q => D.int (qui M t now (reachL gs + 1) q.st)) = QQ at *
        generalize (othL M t q.st).map (fun x => D.int (x.k : Nat)) = OL at *
        simp only [DLS, Int.cast_ofNat_Int, Nat.reduceAdd, Nat.reduceLeDiff, Nat.reduceEqDiff, Nat.reduceSub, Nat.reduceMul, Nat.reduceBEq, Nat.reduceLT, Int.reduceAdd, Int.reduceSub, Int.reduceMul, Int.reduceNeg, Int.reduceLE, Int.reduceLT, Int.reduceEq, Int.reduceNe, Int.reduceToNat, reduceIte, szT, szlT, c7]) (args1 ev) hz
      refine ⟨δ2, as, _, η, .inl (sq s1 s2), .st (.st (hk.tr k2 (by decide)) (by decide)) (by decide), rfl, ?_⟩
      rw [List.take_add_one, hx]
      simp only [Option.toList, List.map_append, List.map_cons, List.map_nil]
      generalize (rs.take k).map (fun q => D.int (qui M t now (reachL gs + 1) q.st)) ++ [D.int (qui M t now (reachL gs + 1) q.st)] = QQ at *
      generalize (othL M t q.st).map (fun x => D.int (x.k : Nat)) = OL at *
      simp only [DLS, Int.cast_ofNat_Int, Nat.reduceAdd, Nat.reduceLeDiff, Nat.reduceEqDiff, Nat.reduceSub, Nat.reduceMul, Nat.reduceBEq, Nat.reduceLT, Int.reduceAdd, Int.reduceSub, Int.reduceMul, Int.reduceNeg, Int.reduceLE, Int.reduceLT, Int.reduceEq, Int.reduceNe, Int.reduceToNat, reduceIte, szT, szlT, l2]
  subst he
  rw [List.take_length] at h7
  exact sq (for_of (fiA_of (fa := fV 5) (d := .lst (rs.map Row.d)) (η1 := η) rfl rfl) el) (hf δ' kp.1 (kp.2 0 (by decide)) (kp.2 1 (by decide)) (kp.2 2 (by decide)) (kp.2 3 (by decide)) (kp.2 4 (by decide)) (kp.2 5 (by decide)) (kp.2 6 (by decide)) h7)
end
end DL
namespace DL
open PySem L2 PL
section
variable {η : List O} {δ : En} {sp gd T R n b : Nat} {gs : List Gr} {ks : List (Str × Int)} {rs : List Row} {m : D} {M A B : List Mn} {rings : List Int} {now : Nat} {t : Thing} {r q : Mn}
theorem pure_mn (k : Nat) (x : Mn) : pureD (k + 2) (mnD x) = true := by
  obtain ⟨a, t, w⟩ := x
  cases w <;> rfl
/-- the last of its own mentions -/
structure LastAt (M A B : List Mn) (r : Mn) (t : Thing) : Prop where
  e : M = A ++ r :: B
  rt : r.t = t
  no : ∀ x ∈ B, x.t ≠ t
theorem LastAt.own (L : LastAt M A B r t) : ownL M t = ownL A t ++ [r] := by
  have hB : B.filter (fun x => decide (x.t = t)) = [] := List.filter_eq_nil_iff.mpr fun x hx => by simpa using L.no x hx
  rw [L.e]
  unfold ownL
  rw [List.filter_append, List.filter_cons_of_pos (by simpa using L.rt), hB]
theorem max_last {l : List Nat} {a : Nat} (h : ∀ x ∈ l, x < a) : maxC (.lst ((l ++ [a]).map fun k : Nat => D.int (k : Nat))) = some (.int (a : Nat)) := by
  cases l with
  | nil => exact maxC_nat a []
  | cons c l =>
    rw [List.cons_append, List.map_cons, maxC_nat, List.foldl_append, List.foldl_cons, List.foldl_nil]
    have : ∀ (l : List Nat) (c : Nat), c < a → (∀ x ∈ l, x < a) → l.foldl max c < a := fun l => by
      induction l with
      | nil => intro c hc _; exact hc
      | cons d l ih => intro c hc hl; exact ih _ (by have := hl d (List.mem_cons_self ..); omega) fun x hx => hl x (List.mem_cons_of_mem _ hx)
    have := this l c (h c (List.mem_cons_self ..)) fun x hx => h x (List.mem_cons_of_mem _ hx)
    rw [Nat.max_eq_right (by omega)]
theorem LastAt.idx (L : LastAt M A B r t) : ∃ I : List Nat, (∀ x ∈ I, x < A.length) ∧ ((M.zipIdx.filter fun p => decide (p.1.t = t)).map fun p => p.2) = I ++ [A.length] := by
  refine ⟨(A.zipIdx.filter fun p => decide (p.1.t = t)).map fun p => p.2, fun x hx => ?_, ?_⟩
  · obtain ⟨p, hp, rfl⟩ := List.mem_map.mp hx
    have := List.mem_zipIdx (List.mem_filter.mp hp).1
    omega
  · have hB : (B.zipIdx (A.length + 1)).filter (fun p => decide (p.1.t = t)) = [] := List.filter_eq_nil_iff.mpr fun p hp => by
      have h := List.mem_zipIdx hp
      have hm : p.1 ∈ B := by rw [h.2.2]; exact List.getElem_mem _
      simpa using L.no _ hm
    rw [L.e, List.zipIdx_append, List.zipIdx_cons, List.filter_append, List.filter_cons_of_pos (by simpa using L.rt), Nat.zero_add, hB, List.map_append]
    simp
def aftL (B : List Mn) (rs : List Row) : List Nat := (rs.zipIdx.filter fun p => B.any fun x => decide (x.t.1 ∈ p.1.st)).map fun p => p.2
def quiL (M : List Mn) (t : Thing) (now cap : Nat) (rs : List Row) : List Int := rs.map fun q => qui M t now cap q.st
def viewN (M : List Mn) (t : Thing) (now cap : Nat) (rs : List Row) : D := .tup [.int (-1), .int (-1), .int 0, .int 0, .tup [], .tup ((quiL M t now cap rs).map .int)]
def bI (b : Bool) : Int := if b then 1 else 0
def viewY (M B : List Mn) (r q : Mn) (rings : List Int) (t : Thing) (now cap : Nat) (rs : List Row) : D :=
  .tup [.int (min (cap : Int) ((now : Int) - (r.k : Nat))), .int (min (cap : Int) ((now : Int) - (q.k : Nat))), .int (bI r.w.isNone), .int (bI (!decide ((1 : Int) ∈ rings.drop (r.k + 1)))), .tup ((aftL B rs).map fun k : Nat => D.int (k : Nat)), .tup ((quiL M t now cap rs).map .int)]
theorem qmap : (rs.map fun q => D.int (qui M t now (reachL gs + 1) q.st)) = (quiL M t now (reachL gs + 1) rs).map .int := by
  unfold quiL
  rw [List.map_map]; rfl
theorem view_no (So : SpOk η sp gd T R n b gs ks rs m M rings now) (h : ownL M t = []) : m_Speaker_view_of [.obj sp, kd2 t, .obj n] η = .ok (viewN M t now (reachL gs + 1) rs) η := by
  refine run_rt2 (δ := [vl (.obj sp), vl (kd2 t), vl (.obj n), none, none, none, none, none, none, none, none, none, none, none, none, none, none, none, none, none]) rfl ?_
  rw [PV_eq]
  refine view_pre So fun δ l1 d0 d1 d2 d3 d4 d5 d6 d7 => ?_
  rw [qmap] at d7
  rw [h] at d6
  have ee : eqD (.lst []) (.lst []) = some (.bl true) := rfl
  have z6 : (6 : Nat) ≤ sizeLine := by rw [sizeLine_eq]; decide
  have z0 : (0 : Nat) ≤ sizeLine := Nat.zero_le _
  refine sqr (if_t (η1 := η) (by (try simp only [DLS, Int.cast_ofNat_Int, Nat.reduceAdd, Nat.reduceLeDiff, Nat.reduceEqDiff, Nat.reduceSub, Nat.reduceMul, Nat.reduceBEq, Nat.reduceLT, Int.reduceAdd, Int.reduceSub, Int.reduceMul, Int.reduceNeg, Int.reduceLE, Int.reduceLT, Int.reduceEq, Int.reduceNe, Int.reduceToNat, reduceIte, szT, szlT, d6, List.map_nil, ee]) <;> rfl) (ret_of ?_))
  unfold viewN
  have tt : tupC (.lst ((quiL M t now (reachL gs + 1) rs).map .int)) = some (.tup ((quiL M t now (reachL gs + 1) rs).map .int)) := rfl
  generalize (quiL M t now (reachL gs + 1) rs).map D.int = QQ at *
  generalize hnn : fNeg (fC (.int 1)) = fN at *
  have n1 : ∀ δ η, fN δ η = .ok (.int (-1)) η := fun δ η => by rw [← hnn]; rfl
  exact (by (try simp only [DLS, Int.cast_ofNat_Int, Nat.reduceAdd, Nat.reduceLeDiff, Nat.reduceEqDiff, Nat.reduceSub, Nat.reduceMul, Nat.reduceBEq, Nat.reduceLT, Int.reduceAdd, Int.reduceSub, Int.reduceMul, Int.reduceNeg, Int.reduceLE, Int.reduceLT, Int.reduceEq, Int.reduceNe, Int.reduceToNat, reduceIte, szT, szlT, d7, tt, n1, z6, z0]) <;> rfl)
theorem view_yes (So : SpOk η sp gd T R n b gs ks rs m M rings now) (L : LastAt M A B r t) {N' : List Mn} (hN : namL M t = N' ++ [q]) (rk : r.k ≤ now) : m_Speaker_view_of [.obj sp, kd2 t, .obj n] η = .ok (viewY M B r q rings t now (reachL gs + 1) rs) η := by
  refine run_rt2 (δ := [vl (.obj sp), vl (kd2 t), vl (.obj n), none, none, none, none, none, none, none, none, none, none, none, none, none, none, none, none, none]) rfl ?_
  rw [PV_eq]
  refine view_pre So fun δ l1 d0 d1 d2 d3 d4 d5 d6 d7 => ?_
  rw [qmap] at d7
  have hs : η[sp]? = some (.ins 4 NSS [.obj gd, .obj T, .obj R]) := So.hs
  have hR := So.hR
  have ho := L.own
  have lM : M.length = A.length + (B.length + 1) := by rw [L.e, List.length_append, List.length_cons]
  have ee : eqD (.lst ((ownL M t).map mnD)) (.lst []) = some (.bl false) := by
    rw [eqD_nilG (pureDs_map (n := 19) fun x _ => pure_mn 17 x), ho]
    simp
  have io : ixD (.lst ((ownL M t).map mnD)) (.int (-1)) = some (mnD r) := by rw [ho]; exact nth
  refine sq (if_fn (η1 := η) (by
    generalize (ownL M t).map mnD = OW at *
    exact (by (try simp only [DLS, Int.cast_ofNat_Int, Nat.reduceAdd, Nat.reduceLeDiff, Nat.reduceEqDiff, Nat.reduceSub, Nat.reduceMul, Nat.reduceBEq, Nat.reduceLT, Int.reduceAdd, Int.reduceSub, Int.reduceMul, Int.reduceNeg, Int.reduceLE, Int.reduceLT, Int.reduceEq, Int.reduceNe, Int.reduceToNat, reduceIte, szT, szlT, d6, ee]) <;> rfl))) ?_
  -- the last place
  obtain ⟨I, hI, eI⟩ := L.idx
  have ec7 := comp_encL (t := .tp [.nm 18, .nm 17]) (ft := (toB (fOp eqD (fOp ixD (fV 17) (fC (.int 1))) (fV 1)))) (fe := fV 18) (δw := wipeD δ [18, 17]) (η := η) (src := .enm (.obj n)) (fun p : Mn × Nat => D.tup [.int (p.2 : Nat), mnD p.1]) (fun p => decide (p.1.t = t)) (fun p => p.2) (fun k : Nat => D.int (k : Nat)) (xs := M.zipIdx)
    (fun k => by
      rw [curS_enm (rd_obj So.hn), List.getElem?_map, List.getElem?_map, List.getElem?_zipIdx]
      cases M[k]? with
      | none => rfl
      | some x => simp) (fun p hp => ⟨_, asgR2 rd_t, by
      have e := eq_kd p.1.t t
      have e1 := mn1 (x := p.1)
      generalize mnD p.1 = XD at *
      generalize kd2 p.1.t = XT at *
      generalize kd2 t = KT at *
      exact (by (try simp only [DLS, Int.cast_ofNat_Int, Nat.reduceAdd, Nat.reduceLeDiff, Nat.reduceEqDiff, Nat.reduceSub, Nat.reduceMul, Nat.reduceBEq, Nat.reduceLT, Int.reduceAdd, Int.reduceSub, Int.reduceMul, Int.reduceNeg, Int.reduceLE, Int.reduceLT, Int.reduceEq, Int.reduceNe, Int.reduceToNat, reduceIte, szT, szlT, wipeD, l1, d1, e1, e]) <;> rfl), fun _ => by
      generalize mnD p.1 = XD at *
      exact (by (try simp only [DLS, Int.cast_ofNat_Int, Nat.reduceAdd, Nat.reduceLeDiff, Nat.reduceEqDiff, Nat.reduceSub, Nat.reduceMul, Nat.reduceBEq, Nat.reduceLT, Int.reduceAdd, Int.reduceSub, Int.reduceMul, Int.reduceNeg, Int.reduceLE, Int.reduceLT, Int.reduceEq, Int.reduceNe, Int.reduceToNat, reduceIte, szT, szlT, wipeD, l1]) <;> rfl)⟩) (F := sizeS η (.enm (.obj n)) + 1) (by rw [size_enm (rd_obj So.hn), List.length_zipIdx, List.length_map]; exact Nat.le_refl _)
  rw [eI] at ec7
  have el7 := frzE_of (lcL_run (vs := [18, 17]) (δ := δ) (enm_of (fa := fV 2) (η1 := η) (by (try simp only [DLS, Int.cast_ofNat_Int, Nat.reduceAdd, Nat.reduceLeDiff, Nat.reduceEqDiff, Nat.reduceSub, Nat.reduceMul, Nat.reduceBEq, Nat.reduceLT, Int.reduceAdd, Int.reduceSub, Int.reduceMul, Int.reduceNeg, Int.reduceLE, Int.reduceLT, Int.reduceEq, Int.reduceNe, Int.reduceToNat, reduceIte, szT, szlT, d2]) <;> rfl) (rd_obj So.hn)) ec7)
  have e7 : PV7 δ η = .nx (δ.set 12 (vl (.int (A.length : Nat)))) η := set_of (by rw [fCall1_a, el7, bind_ok, max_last hI]; rfl)
  refine sq e7 ?_
  have cB : slD (.lst (M.map mnD)) (some ((A.length : Int) + 1)) none = some (.lst (B.map mnD)) := by
    rw [slD_l, cut_from (by rw [List.length_map]; omega), ← List.map_drop, L.e, show A ++ r :: B = (A ++ [r]) ++ B by simp, show A.length + 1 = (A ++ [r]).length by simp, List.drop_left]
  have dn := dr_obj So.hn
  have e8 : PV8 (δ.set 12 (vl (.int (A.length : Nat)))) η = .nx ((δ.set 12 (vl (.int (A.length : Nat)))).set 13 (vl (.lst (B.map mnD)))) η := set_of (by
    generalize B.map mnD = BB at *
    generalize M.map mnD = MM at *
    exact (by (try simp only [DLS, Int.cast_ofNat_Int, Nat.reduceAdd, Nat.reduceLeDiff, Nat.reduceEqDiff, Nat.reduceSub, Nat.reduceMul, Nat.reduceBEq, Nat.reduceLT, Int.reduceAdd, Int.reduceSub, Int.reduceMul, Int.reduceNeg, Int.reduceLE, Int.reduceLT, Int.reduceEq, Int.reduceNe, Int.reduceToNat, reduceIte, szT, szlT, fSlL_a, l1, d2, dn, cB]) <;> rfl))
  refine sq e8 ?_
  have k2 : Kp [12, 13] δ ((δ.set 12 (vl (.int (A.length : Nat)))).set 13 (vl (.lst (B.map mnD)))) := .st (.st .refl (by decide)) (by decide)
  have c13 : ((δ.set 12 (vl (.int (A.length : Nat)))).set 13 (vl (.lst (B.map mnD))))[13]? = some (vl (.lst (B.map mnD))) := by
    generalize B.map mnD = BB at *
    simp only [DLS, Int.cast_ofNat_Int, Nat.reduceAdd, Nat.reduceLeDiff, Nat.reduceEqDiff, Nat.reduceSub, Nat.reduceMul, Nat.reduceBEq, Nat.reduceLT, Int.reduceAdd, Int.reduceSub, Int.reduceMul, Int.reduceNeg, Int.reduceLE, Int.reduceLT, Int.reduceEq, Int.reduceNe, Int.reduceToNat, reduceIte, szT, szlT, l1]
  have c0 := (k2.2 0 (by decide)).trans d0
  have c3 := (k2.2 3 (by decide)).trans d3
  have c4 := (k2.2 4 (by decide)).trans d4
  have c5 := (k2.2 5 (by decide)).trans d5
  have c6 := (k2.2 6 (by decide)).trans d6
  have c7 := (k2.2 7 (by decide)).trans d7
  have l2 := k2.1.trans l1
  generalize (δ.set 12 (vl (.int (A.length : Nat)))).set 13 (vl (.lst (B.map mnD))) = δ2 at *
  -- the words of sorts behind
  have ec9 := comp_enc (t := .tp [.nm 18, .nm 17]) (ft := (fTru (fCall1 anyC (fFrz (fLc [19] (fiA (fV 13)) (.nm 19) fYes (fOp inD (fOp ixD (fOp ixD (fV 19) (fC (.int 1))) (fC (.int 0))) (fOp ixD (fV 17) (fC (.int 1))))))))) (fe := fV 18) (δw := wipeD δ2 [18, 17]) (η := η) (fun p : Row × Nat => D.tup [.int (p.2 : Nat), p.1.d]) (fun p => B.any fun x => decide (x.t.1 ∈ p.1.st)) (fun p => p.2) (fun k : Nat => D.int (k : Nat)) (xs := rs.zipIdx) fun p hp => by
      refine ⟨((wipeD δ2 [18, 17]).set 18 (vl (.int (p.2 : Nat)))).set 17 (vl p.1.d), by rw [asg_tp, asgs_cons, asg_nm]; rfl, ?_, fun _ => by
        generalize p.1.d = PD at *
        exact (by (try simp only [DLS, Int.cast_ofNat_Int, Nat.reduceAdd, Nat.reduceLeDiff, Nat.reduceEqDiff, Nat.reduceSub, Nat.reduceMul, Nat.reduceBEq, Nat.reduceLT, Int.reduceAdd, Int.reduceSub, Int.reduceMul, Int.reduceNeg, Int.reduceLE, Int.reduceLT, Int.reduceEq, Int.reduceNe, Int.reduceToNat, reduceIte, szT, szlT, wipeD, l2]) <;> rfl)⟩
      have f13 : (((wipeD δ2 [18, 17]).set 18 (vl (.int (p.2 : Nat)))).set 17 (vl p.1.d))[13]? = some (vl (.lst (B.map mnD))) := by
        generalize p.1.d = PD at *
        generalize B.map mnD = BB at *
        simp only [DLS, Int.cast_ofNat_Int, Nat.reduceAdd, Nat.reduceLeDiff, Nat.reduceEqDiff, Nat.reduceSub, Nat.reduceMul, Nat.reduceBEq, Nat.reduceLT, Int.reduceAdd, Int.reduceSub, Int.reduceMul, Int.reduceNeg, Int.reduceLE, Int.reduceLT, Int.reduceEq, Int.reduceNe, Int.reduceToNat, reduceIte, szT, szlT, wipeD, c13]
      have f17 : (((wipeD δ2 [18, 17]).set 18 (vl (.int (p.2 : Nat)))).set 17 (vl p.1.d))[17]? = some (vl p.1.d) := by
        generalize p.1.d = PD at *
        simp only [DLS, Int.cast_ofNat_Int, Nat.reduceAdd, Nat.reduceLeDiff, Nat.reduceEqDiff, Nat.reduceSub, Nat.reduceMul, Nat.reduceBEq, Nat.reduceLT, Int.reduceAdd, Int.reduceSub, Int.reduceMul, Int.reduceNeg, Int.reduceLE, Int.reduceLT, Int.reduceEq, Int.reduceNe, Int.reduceToNat, reduceIte, szT, szlT, wipeD, l2]
      have lf : (((wipeD δ2 [18, 17]).set 18 (vl (.int (p.2 : Nat)))).set 17 (vl p.1.d)).length = 20 := by simp only [DLS, Int.cast_ofNat_Int, Nat.reduceAdd, Nat.reduceLeDiff, Nat.reduceEqDiff, Nat.reduceSub, Nat.reduceMul, Nat.reduceBEq, Nat.reduceLT, Int.reduceAdd, Int.reduceSub, Int.reduceMul, Int.reduceNeg, Int.reduceLE, Int.reduceLT, Int.reduceEq, Int.reduceNe, Int.reduceToNat, reduceIte, szT, szlT, wipeD, l2]
      generalize ((wipeD δ2 [18, 17]).set 18 (vl (.int (p.2 : Nat)))).set 17 (vl p.1.d) = δ3 at *
      have ip : ixD p.1.d (.int 1) = some (.tup (p.1.st.map .str)) := rfl
      have eci := comp_enc (t := .nm 19) (ft := fYes) (fe := (fOp inD (fOp ixD (fOp ixD (fV 19) (fC (.int 1))) (fC (.int 0))) (fOp ixD (fV 17) (fC (.int 1))))) (δw := wipeD δ3 [19]) (η := η) mnD (fun _ => true) (fun x => decide (x.t.1 ∈ p.1.st)) D.bl (xs := B) fun x hx => ⟨_, asg_nm, rfl, fun _ => by
        have e1 := mn1 (x := x)
        have e0 := kd0 (t := x.t)
        have ei : inD (.str x.t.1) (.tup (p.1.st.map .str)) = some (.bl (decide (x.t.1 ∈ p.1.st))) := inD_ts
        generalize mnD x = XD at *
        generalize kd2 x.t = XT at *
        generalize p.1.st.map D.str = SD at *
        generalize p.1.d = PD at *
        exact (by (try simp only [DLS, Int.cast_ofNat_Int, Nat.reduceAdd, Nat.reduceLeDiff, Nat.reduceEqDiff, Nat.reduceSub, Nat.reduceMul, Nat.reduceBEq, Nat.reduceLT, Int.reduceAdd, Int.reduceSub, Int.reduceMul, Int.reduceNeg, Int.reduceLE, Int.reduceLT, Int.reduceEq, Int.reduceNe, Int.reduceToNat, reduceIte, szT, szlT, wipeD, lf, f17, e1, e0, ip, ei]) <;> rfl)⟩
      rw [List.filter_eq_self.mpr fun _ _ => rfl] at eci
      have eli := frzE_of (lc_of' (vs := [19]) (δ := δ3) (fiA_of (fa := fV 13) (η := η) (d := .lst (B.map mnD)) (η1 := η) (by
        generalize B.map mnD = BB at *
        exact (by (try simp only [DLS, Int.cast_ofNat_Int, Nat.reduceAdd, Nat.reduceLeDiff, Nat.reduceEqDiff, Nat.reduceSub, Nat.reduceMul, Nat.reduceBEq, Nat.reduceLT, Int.reduceAdd, Int.reduceSub, Int.reduceMul, Int.reduceNeg, Int.reduceLE, Int.reduceLT, Int.reduceEq, Int.reduceNe, Int.reduceToNat, reduceIte, szT, szlT, f13]) <;> rfl)) rfl) eci)
      rw [fTru_a, fCall1_a, eli, bind_ok, any_bls]
      show DL.R.ok _ η = _
      rw [List.any_map]
      rfl
  have en5 : enumD (rs.map Row.d) = rs.zipIdx.map fun p : Row × Nat => D.tup [.int (p.2 : Nat), p.1.d] := by
    unfold enumD
    rw [List.zipIdx_map, List.map_map]
    rfl
  rw [← en5] at ec9
  have s9 : PV9 δ2 η = .nx (δ2.set 14 (vl (.lst ((aftL B rs).map fun k : Nat => D.int (k : Nat))))) η := by
    show sFrz _ _ _ _ = _
    rw [sFrz_a, lc_of' (vs := [18, 17]) (δ := δ2) (fiE_of (fa := fV 5) (d := .lst (rs.map Row.d)) (η1 := η) (by
      generalize rs.map Row.d = RR at *
      exact (by (try simp only [DLS, Int.cast_ofNat_Int, Nat.reduceAdd, Nat.reduceLeDiff, Nat.reduceEqDiff, Nat.reduceSub, Nat.reduceMul, Nat.reduceBEq, Nat.reduceLT, Int.reduceAdd, Int.reduceSub, Int.reduceMul, Int.reduceNeg, Int.reduceLE, Int.reduceLT, Int.reduceEq, Int.reduceNe, Int.reduceToNat, reduceIte, szT, szlT, c5]) <;> rfl)) rfl) ec9]
    rfl
  refine sq s9 ?_
  -- the names
  have ec10 := comp_enc (t := .nm 17) (ft := (toB (fOp isN (fOp ixD (fV 17) (fC (.int 2))) (fC .non)))) (fe := (fOp ixD (fV 17) (fC (.int 0)))) (δw := wipeD (δ2.set 14 (vl (.lst ((aftL B rs).map fun k : Nat => D.int (k : Nat))))) [17]) (η := η) mnD (fun x => x.w.isNone) (fun x => x) (fun x => D.int (x.k : Nat)) (xs := ownL M t) fun x hx => ⟨_, asg_nm, by
      have e2 := mn2 (x := x)
      have en := wD_non x.w
      generalize mnD x = XD at *
      generalize wD x.w = WD at *
      generalize (aftL B rs).map (fun k : Nat => D.int (k : Nat)) = AF at *
      exact (by (try simp only [DLS, Int.cast_ofNat_Int, Nat.reduceAdd, Nat.reduceLeDiff, Nat.reduceEqDiff, Nat.reduceSub, Nat.reduceMul, Nat.reduceBEq, Nat.reduceLT, Int.reduceAdd, Int.reduceSub, Int.reduceMul, Int.reduceNeg, Int.reduceLE, Int.reduceLT, Int.reduceEq, Int.reduceNe, Int.reduceToNat, reduceIte, szT, szlT, wipeD, l2, e2, en]) <;> rfl), fun _ => by
      have e0 := mn0 (x := x)
      generalize mnD x = XD at *
      generalize (aftL B rs).map (fun k : Nat => D.int (k : Nat)) = AF at *
      exact (by (try simp only [DLS, Int.cast_ofNat_Int, Nat.reduceAdd, Nat.reduceLeDiff, Nat.reduceEqDiff, Nat.reduceSub, Nat.reduceMul, Nat.reduceBEq, Nat.reduceLT, Int.reduceAdd, Int.reduceSub, Int.reduceMul, Int.reduceNeg, Int.reduceLE, Int.reduceLT, Int.reduceEq, Int.reduceNe, Int.reduceToNat, reduceIte, szT, szlT, wipeD, l2, e0]) <;> rfl)⟩
  rw [List.map_id'] at ec10
  have s10 : PV10 (δ2.set 14 (vl (.lst ((aftL B rs).map fun k : Nat => D.int (k : Nat))))) η = .nx ((δ2.set 14 (vl (.lst ((aftL B rs).map fun k : Nat => D.int (k : Nat))))).set 15 (vl (.lst ((namL M t).map fun x => D.int (x.k : Nat))))) η := by
    show sFrz _ _ _ _ = _
    rw [sFrz_a, lc_of' (vs := [17]) (δ := (δ2.set 14 (vl (.lst ((aftL B rs).map fun k : Nat => D.int (k : Nat)))))) (fiA_of (fa := fV 6) (η := η) (d := .lst ((ownL M t).map mnD)) (η1 := η) (by
      generalize (ownL M t).map mnD = OW at *
      generalize (aftL B rs).map (fun k : Nat => D.int (k : Nat)) = AF at *
      exact (by (try simp only [DLS, Int.cast_ofNat_Int, Nat.reduceAdd, Nat.reduceLeDiff, Nat.reduceEqDiff, Nat.reduceSub, Nat.reduceMul, Nat.reduceBEq, Nat.reduceLT, Int.reduceAdd, Int.reduceSub, Int.reduceMul, Int.reduceNeg, Int.reduceLE, Int.reduceLT, Int.reduceEq, Int.reduceNe, Int.reduceToNat, reduceIte, szT, szlT, c6]) <;> rfl)) rfl) ec10]
    rfl
  refine sq s10 ?_
  have k3 : Kp [14, 15] δ2 ((δ2.set 14 (vl (.lst ((aftL B rs).map fun k : Nat => D.int (k : Nat))))).set 15 (vl (.lst ((namL M t).map fun x => D.int (x.k : Nat))))) := .st (.st .refl (by decide)) (by decide)
  have f14 : ((δ2.set 14 (vl (.lst ((aftL B rs).map fun k : Nat => D.int (k : Nat))))).set 15 (vl (.lst ((namL M t).map fun x => D.int (x.k : Nat)))))[14]? = some (vl (.lst ((aftL B rs).map fun k : Nat => D.int (k : Nat)))) := by
    generalize (aftL B rs).map (fun k : Nat => D.int (k : Nat)) = AF at *
    generalize (namL M t).map (fun x => D.int (x.k : Nat)) = NF at *
    simp only [DLS, Int.cast_ofNat_Int, Nat.reduceAdd, Nat.reduceLeDiff, Nat.reduceEqDiff, Nat.reduceSub, Nat.reduceMul, Nat.reduceBEq, Nat.reduceLT, Int.reduceAdd, Int.reduceSub, Int.reduceMul, Int.reduceNeg, Int.reduceLE, Int.reduceLT, Int.reduceEq, Int.reduceNe, Int.reduceToNat, reduceIte, szT, szlT, l2]
  have f15 : ((δ2.set 14 (vl (.lst ((aftL B rs).map fun k : Nat => D.int (k : Nat))))).set 15 (vl (.lst ((namL M t).map fun x => D.int (x.k : Nat)))))[15]? = some (vl (.lst ((namL M t).map fun x => D.int (x.k : Nat)))) := by
    generalize (aftL B rs).map (fun k : Nat => D.int (k : Nat)) = AF at *
    generalize (namL M t).map (fun x => D.int (x.k : Nat)) = NF at *
    simp only [DLS, Int.cast_ofNat_Int, Nat.reduceAdd, Nat.reduceLeDiff, Nat.reduceEqDiff, Nat.reduceSub, Nat.reduceMul, Nat.reduceBEq, Nat.reduceLT, Int.reduceAdd, Int.reduceSub, Int.reduceMul, Int.reduceNeg, Int.reduceLE, Int.reduceLT, Int.reduceEq, Int.reduceNe, Int.reduceToNat, reduceIte, szT, szlT, l2]
  have f0 := (k3.2 0 (by decide)).trans c0
  have f3 := (k3.2 3 (by decide)).trans c3
  have f4 := (k3.2 4 (by decide)).trans c4
  have f6 := (k3.2 6 (by decide)).trans c6
  have f7 := (k3.2 7 (by decide)).trans c7
  have l3 := k3.1.trans l2
  generalize ((δ2.set 14 (vl (.lst ((aftL B rs).map fun k : Nat => D.int (k : Nat))))).set 15 (vl (.lst ((namL M t).map fun x => D.int (x.k : Nat))))) = δ3 at *
  -- calm
  have r0 := mn0 (x := r)
  have r2 := mn2 (x := r)
  have rN := wD_non r.w
  have cR : slD (.lst (rings.map .int)) (some ((r.k : Int) + 1)) none = some (.lst ((rings.drop (r.k + 1)).map .int)) := by
    rw [slD_l, cut_from (by rw [List.length_map, So.hl]; omega), List.map_drop]
  have dR := dr_obj hR
  have ni := notInD_li (z := 1) (zs := rings.drop (r.k + 1))
  have e11 : PV11 δ3 η = .nx (δ3.set 16 (vl (.int (bI (!decide ((1 : Int) ∈ rings.drop (r.k + 1))))))) η := set_of (by
    have ic : intC (.bl (!decide ((1 : Int) ∈ rings.drop (r.k + 1)))) = some (.int (bI (!decide ((1 : Int) ∈ rings.drop (r.k + 1))))) := rfl
    generalize (!decide ((1 : Int) ∈ rings.drop (r.k + 1))) = q1 at *
    generalize (rings.drop (r.k + 1)).map D.int = RD at *
    generalize rings.map D.int = RI at *
    generalize (ownL M t).map mnD = OW at *
    generalize mnD r = RM at *
    generalize hnn : fNeg (fC (.int 1)) = fN at *
    have n1 : ∀ δ η, fN δ η = .ok (.int (-1)) η := fun δ η => by rw [← hnn]; rfl
    exact (by (try simp only [DLS, Int.cast_ofNat_Int, Nat.reduceAdd, Nat.reduceLeDiff, Nat.reduceEqDiff, Nat.reduceSub, Nat.reduceMul, Nat.reduceBEq, Nat.reduceLT, Int.reduceAdd, Int.reduceSub, Int.reduceMul, Int.reduceNeg, Int.reduceLE, Int.reduceLT, Int.reduceEq, Int.reduceNe, Int.reduceToNat, reduceIte, szT, szlT, fSlL_a, f0, f6, hs, dR, io, n1, r0, cR, ni, ic]) <;> rfl))
  refine sq e11 (ret_of ?_)
  have iq : ixD (.lst ((namL M t).map fun x => D.int (x.k : Nat))) (.int (-1)) = some (.int (q.k : Nat)) := by rw [hN]; exact nth (f := fun x : Mn => D.int (x.k : Nat))
  have m1 := minC2 ((reachL gs + 1 : Nat) : Int) ((now : Int) - (r.k : Nat))
  have m2 := minC2 ((reachL gs + 1 : Nat) : Int) ((now : Int) - (q.k : Nat))
  have ic : intC (.bl r.w.isNone) = some (.int (bI r.w.isNone)) := rfl
  have t1 : tupC (.lst ((aftL B rs).map fun k : Nat => D.int (k : Nat))) = some (.tup ((aftL B rs).map fun k : Nat => D.int (k : Nat))) := rfl
  have t2 : tupC (.lst ((quiL M t now (reachL gs + 1) rs).map .int)) = some (.tup ((quiL M t now (reachL gs + 1) rs).map .int)) := rfl
  have z2 : (2 : Nat) ≤ sizeLine := by rw [sizeLine_eq]; decide
  have z6 : (6 : Nat) ≤ sizeLine := by rw [sizeLine_eq]; decide
  unfold viewY
  generalize (quiL M t now (reachL gs + 1) rs).map D.int = QQ at *
  generalize (aftL B rs).map (fun k : Nat => D.int (k : Nat)) = AF at *
  generalize (namL M t).map (fun x => D.int (x.k : Nat)) = NF at *
  generalize (ownL M t).map mnD = OW at *
  generalize bI (!decide ((1 : Int) ∈ rings.drop (r.k + 1))) = CA at *
  generalize mnD r = RM at *
  generalize wD r.w = WR at *
  generalize r.w.isNone = q2 at *
  generalize hnn : fNeg (fC (.int 1)) = fN at *
  have n1 : ∀ δ η, fN δ η = .ok (.int (-1)) η := fun δ η => by rw [← hnn]; rfl
  exact (by (try simp only [DLS, Int.cast_ofNat_Int, Nat.reduceAdd, Nat.reduceLeDiff, Nat.reduceEqDiff, Nat.reduceSub, Nat.reduceMul, Nat.reduceBEq, Nat.reduceLT, Int.reduceAdd, Int.reduceSub, Int.reduceMul, Int.reduceNeg, Int.reduceLE, Int.reduceLT, Int.reduceEq, Int.reduceNe, Int.reduceToNat, reduceIte, szT, szlT, l3, f3, f4, f6, f7, f14, f15, io, r0, r2, rN, iq, n1, m1, m2, ic, t1, t2, z2, z6]) <;> rfl)
end
end DL
namespace DL
open PySem L2 PL
section
variable {η : List O} {δ : En} {sp gd T R n b : Nat} {gs : List Gr} {ks : List (Str × Int)} {rs : List Row} {m : D} {M A B : List Mn} {rings : List Int} {now cap : Nat} {t : Thing} {r q : Mn}
/-- whether a test holds -/
def plBM (M B : List Mn) (r q : Mn) (rings : List Int) (t : Thing) (now : Nat) (st : List Str) : Pl → Bool
  | .z .last => !(B.any fun x => decide (x.t.1 ∈ st))
  | .z .calm => !decide ((1 : Int) ∈ rings.drop (r.k + 1))
  | .z .plain => r.w.isNone
  | .n .told k => decide ((now : Int) - (r.k : Nat) ≤ (k : Nat))
  | .n .named k => decide ((now : Int) - (q.k : Nat) ≤ (k : Nat))
  | .n .quiet k => match (othL M t st).getLast? with
    | none => true
    | some o => decide ((now : Int) - (o.k : Nat) > (k : Nat))
def tsB (M B : List Mn) (r q : Mn) (rings : List Int) (t : Thing) (now : Nat) (st : List Str) (u : Ts) : Bool := if u.neg then !plBM M B r q rings t now st u.p else plBM M B r q rings t now st u.p
theorem aft_mem {j : Nat} {row : Row} (hj : rs[j]? = some row) : j ∈ aftL B rs ↔ (B.any fun x => decide (x.t.1 ∈ row.st)) = true := by
  unfold aftL
  rw [List.mem_map]
  constructor
  · rintro ⟨p, hp, rfl⟩
    obtain ⟨h1, h2⟩ := List.mem_filter.mp hp
    have h3 := List.mk_mem_zipIdx_iff_getElem?.mp (show (p.1, p.2) ∈ rs.zipIdx from h1)
    rw [h3] at hj
    cases hj
    exact h2
  · intro h
    exact ⟨(row, j), List.mem_filter.mpr ⟨List.mk_mem_zipIdx_iff_getElem?.mpr hj, h⟩, rfl⟩
theorem str_eq {a c : Str} : eqD (.str a) (.str c) = some (.bl (decide (a = c))) := eqD_ss
theorem plain_holds_ok {p : Pl} {j : Nat} {row : Row} (hj : rs[j]? = some row) (hc : plR p < cap) : m_plain_holds [p.d, .int (j : Nat), viewY M B r q rings t now cap rs] η = .ok (.bl (plBM M B r q rings t now row.st p)) η := by
  have as : ∀ (a1 a2 a3 a4 a5 a6 : D), asg (.tp [.nm 3, .nm 4, .nm 5, .nm 6, .nm 7, .nm 8]) (.tup [a1, a2, a3, a4, a5, a6]) [vl p.d, vl (.int (j : Nat)), vl (.tup [a1, a2, a3, a4, a5, a6]), none, none, none, none, none, none] = some [vl p.d, vl (.int (j : Nat)), vl (.tup [a1, a2, a3, a4, a5, a6]), vl a1, vl a2, vl a3, vl a4, vl a5, vl a6] := fun _ _ _ _ _ _ => rfl
  refine run_rt2 (δ := [vl p.d, vl (.int (j : Nat)), vl (viewY M B r q rings t now cap rs), none, none, none, none, none, none]) rfl ?_
  rw [PPH_eq]
  have e1 : PPH1 [vl p.d, vl (.int (j : Nat)), vl (viewY M B r q rings t now cap rs), none, none, none, none, none, none] η = .nx [vl p.d, vl (.int (j : Nat)), vl (viewY M B r q rings t now cap rs), vl (.int (min (cap : Int) ((now : Int) - (r.k : Nat)))), vl (.int (min (cap : Int) ((now : Int) - (q.k : Nat)))), vl (.int (bI r.w.isNone)), vl (.int (bI (!decide ((1 : Int) ∈ rings.drop (r.k + 1))))), vl (.tup ((aftL B rs).map fun k : Nat => D.int (k : Nat))), vl (.tup ((quiL M t now cap rs).map .int))] η := by
    show sAsg _ _ _ _ = _
    rw [sAsg_a, show (fV 2) [vl p.d, vl (.int (j : Nat)), vl (viewY M B r q rings t now cap rs), none, none, none, none, none, none] η = .ok (viewY M B r q rings t now cap rs) η from rfl, toS_ok]
    unfold viewY
    rw [as]
  refine sq e1 ?_
  have b1 : ∀ x : Bool, eqD (.int (bI x)) (.int 1) = some (.bl x) := fun x => by cases x <;> rfl
  generalize hV : viewY M B r q rings t now cap rs = PV0 at *
  cases p with
  | z w =>
    have i0 : ixD (Pl.z w).d (.int 0) = some (.str w.s) := rfl
    generalize (Pl.z w).d = PD at *
    cases w with
    | last =>
      have q1 : eqD (.str ZW.last.s) (.str "last") = some (.bl true) := rfl
      have hm : notInD (.int (j : Nat)) (.tup ((aftL B rs).map fun k : Nat => D.int (k : Nat))) = some (.bl (!(B.any fun x => decide (x.t.1 ∈ row.st)))) := by
        rw [show ((aftL B rs).map fun k : Nat => D.int (k : Nat)) = ((aftL B rs).map fun k : Nat => (k : Int)).map .int by rw [List.map_map]; rfl, notInD_ti]
        refine congrArg (fun b => some (D.bl (!b))) ?_
        rw [Bool.eq_iff_iff, decide_eq_true_iff, ← aft_mem hj]
        constructor
        · intro h
          obtain ⟨k, hk, e⟩ := List.mem_map.mp h
          have : k = j := by omega
          subst this
          exact hk
        · intro h
          exact List.mem_map.mpr ⟨j, h, rfl⟩
      show _ = SR.rt (.bl (!(B.any fun x => decide (x.t.1 ∈ row.st)))) η
      generalize (!(B.any fun x => decide (x.t.1 ∈ row.st))) = q2 at *
      generalize (aftL B rs).map (fun k : Nat => D.int (k : Nat)) = AF at *
      generalize (quiL M t now cap rs).map D.int = QQ at *
      exact sqr (if_t (η1 := η) (by (try simp only [DLS, Int.cast_ofNat_Int, Nat.reduceAdd, Nat.reduceLeDiff, Nat.reduceEqDiff, Nat.reduceSub, Nat.reduceMul, Nat.reduceBEq, Nat.reduceLT, Int.reduceAdd, Int.reduceSub, Int.reduceMul, Int.reduceNeg, Int.reduceLE, Int.reduceLT, Int.reduceEq, Int.reduceNe, Int.reduceToNat, reduceIte, szT, szlT, i0, q1]) <;> rfl) (ret_of (by (try simp only [DLS, Int.cast_ofNat_Int, Nat.reduceAdd, Nat.reduceLeDiff, Nat.reduceEqDiff, Nat.reduceSub, Nat.reduceMul, Nat.reduceBEq, Nat.reduceLT, Int.reduceAdd, Int.reduceSub, Int.reduceMul, Int.reduceNeg, Int.reduceLE, Int.reduceLT, Int.reduceEq, Int.reduceNe, Int.reduceToNat, reduceIte, szT, szlT, hm]) <;> rfl)))
    | calm =>
      have q1 : eqD (.str ZW.calm.s) (.str "last") = some (.bl false) := rfl
      have q2 : eqD (.str ZW.calm.s) (.str "told") = some (.bl false) := rfl
      have q3 : eqD (.str ZW.calm.s) (.str "named") = some (.bl false) := rfl
      have q4 : eqD (.str ZW.calm.s) (.str "quiet") = some (.bl false) := rfl
      have q5 : eqD (.str ZW.calm.s) (.str "calm") = some (.bl true) := rfl
      have b2 := b1 (!decide ((1 : Int) ∈ rings.drop (r.k + 1)))
      show _ = SR.rt (.bl (!decide ((1 : Int) ∈ rings.drop (r.k + 1)))) η
      generalize (!decide ((1 : Int) ∈ rings.drop (r.k + 1))) = q6 at *
      generalize (aftL B rs).map (fun k : Nat => D.int (k : Nat)) = AF at *
      generalize (quiL M t now cap rs).map D.int = QQ at *
      generalize bI q6 = BI at *
      exact sq (if_fn (η1 := η) (by (try simp only [DLS, Int.cast_ofNat_Int, Nat.reduceAdd, Nat.reduceLeDiff, Nat.reduceEqDiff, Nat.reduceSub, Nat.reduceMul, Nat.reduceBEq, Nat.reduceLT, Int.reduceAdd, Int.reduceSub, Int.reduceMul, Int.reduceNeg, Int.reduceLE, Int.reduceLT, Int.reduceEq, Int.reduceNe, Int.reduceToNat, reduceIte, szT, szlT, i0, q1]) <;> rfl)) (sq (if_fn (η1 := η) (by (try simp only [DLS, Int.cast_ofNat_Int, Nat.reduceAdd, Nat.reduceLeDiff, Nat.reduceEqDiff, Nat.reduceSub, Nat.reduceMul, Nat.reduceBEq, Nat.reduceLT, Int.reduceAdd, Int.reduceSub, Int.reduceMul, Int.reduceNeg, Int.reduceLE, Int.reduceLT, Int.reduceEq, Int.reduceNe, Int.reduceToNat, reduceIte, szT, szlT, i0, q2]) <;> rfl)) (sq (if_fn (η1 := η) (by (try simp only [DLS, Int.cast_ofNat_Int, Nat.reduceAdd, Nat.reduceLeDiff, Nat.reduceEqDiff, Nat.reduceSub, Nat.reduceMul, Nat.reduceBEq, Nat.reduceLT, Int.reduceAdd, Int.reduceSub, Int.reduceMul, Int.reduceNeg, Int.reduceLE, Int.reduceLT, Int.reduceEq, Int.reduceNe, Int.reduceToNat, reduceIte, szT, szlT, i0, q3]) <;> rfl)) (sq (if_fn (η1 := η) (by (try simp only [DLS, Int.cast_ofNat_Int, Nat.reduceAdd, Nat.reduceLeDiff, Nat.reduceEqDiff, Nat.reduceSub, Nat.reduceMul, Nat.reduceBEq, Nat.reduceLT, Int.reduceAdd, Int.reduceSub, Int.reduceMul, Int.reduceNeg, Int.reduceLE, Int.reduceLT, Int.reduceEq, Int.reduceNe, Int.reduceToNat, reduceIte, szT, szlT, i0, q4]) <;> rfl)) (ret_of (by (try simp only [DLS, Int.cast_ofNat_Int, Nat.reduceAdd, Nat.reduceLeDiff, Nat.reduceEqDiff, Nat.reduceSub, Nat.reduceMul, Nat.reduceBEq, Nat.reduceLT, Int.reduceAdd, Int.reduceSub, Int.reduceMul, Int.reduceNeg, Int.reduceLE, Int.reduceLT, Int.reduceEq, Int.reduceNe, Int.reduceToNat, reduceIte, szT, szlT, i0, q5, b2]) <;> rfl)))))
    | plain =>
      have q1 : eqD (.str ZW.plain.s) (.str "last") = some (.bl false) := rfl
      have q2 : eqD (.str ZW.plain.s) (.str "told") = some (.bl false) := rfl
      have q3 : eqD (.str ZW.plain.s) (.str "named") = some (.bl false) := rfl
      have q4 : eqD (.str ZW.plain.s) (.str "quiet") = some (.bl false) := rfl
      have q5 : eqD (.str ZW.plain.s) (.str "calm") = some (.bl false) := rfl
      have b2 := b1 r.w.isNone
      show _ = SR.rt (.bl r.w.isNone) η
      generalize r.w.isNone = q6 at *
      generalize (aftL B rs).map (fun k : Nat => D.int (k : Nat)) = AF at *
      generalize (quiL M t now cap rs).map D.int = QQ at *
      generalize bI q6 = BI at *
      exact sq (if_fn (η1 := η) (by (try simp only [DLS, Int.cast_ofNat_Int, Nat.reduceAdd, Nat.reduceLeDiff, Nat.reduceEqDiff, Nat.reduceSub, Nat.reduceMul, Nat.reduceBEq, Nat.reduceLT, Int.reduceAdd, Int.reduceSub, Int.reduceMul, Int.reduceNeg, Int.reduceLE, Int.reduceLT, Int.reduceEq, Int.reduceNe, Int.reduceToNat, reduceIte, szT, szlT, i0, q1]) <;> rfl)) (sq (if_fn (η1 := η) (by (try simp only [DLS, Int.cast_ofNat_Int, Nat.reduceAdd, Nat.reduceLeDiff, Nat.reduceEqDiff, Nat.reduceSub, Nat.reduceMul, Nat.reduceBEq, Nat.reduceLT, Int.reduceAdd, Int.reduceSub, Int.reduceMul, Int.reduceNeg, Int.reduceLE, Int.reduceLT, Int.reduceEq, Int.reduceNe, Int.reduceToNat, reduceIte, szT, szlT, i0, q2]) <;> rfl)) (sq (if_fn (η1 := η) (by (try simp only [DLS, Int.cast_ofNat_Int, Nat.reduceAdd, Nat.reduceLeDiff, Nat.reduceEqDiff, Nat.reduceSub, Nat.reduceMul, Nat.reduceBEq, Nat.reduceLT, Int.reduceAdd, Int.reduceSub, Int.reduceMul, Int.reduceNeg, Int.reduceLE, Int.reduceLT, Int.reduceEq, Int.reduceNe, Int.reduceToNat, reduceIte, szT, szlT, i0, q3]) <;> rfl)) (sq (if_fn (η1 := η) (by (try simp only [DLS, Int.cast_ofNat_Int, Nat.reduceAdd, Nat.reduceLeDiff, Nat.reduceEqDiff, Nat.reduceSub, Nat.reduceMul, Nat.reduceBEq, Nat.reduceLT, Int.reduceAdd, Int.reduceSub, Int.reduceMul, Int.reduceNeg, Int.reduceLE, Int.reduceLT, Int.reduceEq, Int.reduceNe, Int.reduceToNat, reduceIte, szT, szlT, i0, q4]) <;> rfl)) (ret_of (by (try simp only [DLS, Int.cast_ofNat_Int, Nat.reduceAdd, Nat.reduceLeDiff, Nat.reduceEqDiff, Nat.reduceSub, Nat.reduceMul, Nat.reduceBEq, Nat.reduceLT, Int.reduceAdd, Int.reduceSub, Int.reduceMul, Int.reduceNeg, Int.reduceLE, Int.reduceLT, Int.reduceEq, Int.reduceNe, Int.reduceToNat, reduceIte, szT, szlT, i0, q5, b2]) <;> rfl)))))
  | n w k =>
    have hk : k < cap := hc
    have i0 : ixD (Pl.n w k).d (.int 0) = some (.str w.s) := rfl
    have i1 : ixD (Pl.n w k).d (.int 1) = some (.int (k : Nat)) := rfl
    generalize (Pl.n w k).d = PD at *
    cases w with
    | told =>
      have q1 : eqD (.str NW.told.s) (.str "last") = some (.bl false) := rfl
      have q2 : eqD (.str NW.told.s) (.str "told") = some (.bl true) := rfl
      have hle : leD (.int (min (cap : Int) ((now : Int) - (r.k : Nat)))) (.int (k : Nat)) = some (.bl (decide ((now : Int) - (r.k : Nat) ≤ (k : Nat)))) := by
        show some (D.bl (decide _)) = _
        refine congrArg (fun b => some (D.bl b)) (decide_eq_decide.mpr ?_)
        omega
      show _ = SR.rt (.bl (decide ((now : Int) - (r.k : Nat) ≤ (k : Nat)))) η
      generalize (aftL B rs).map (fun k : Nat => D.int (k : Nat)) = AF at *
      generalize (quiL M t now cap rs).map D.int = QQ at *
      generalize decide ((now : Int) - (r.k : Nat) ≤ (k : Nat)) = q6 at *
      generalize min (cap : Int) ((now : Int) - (r.k : Nat)) = MM at *
      refine sq (if_fn (η1 := η) (by (try simp only [DLS, Int.cast_ofNat_Int, Nat.reduceAdd, Nat.reduceLeDiff, Nat.reduceEqDiff, Nat.reduceSub, Nat.reduceMul, Nat.reduceBEq, Nat.reduceLT, Int.reduceAdd, Int.reduceSub, Int.reduceMul, Int.reduceNeg, Int.reduceLE, Int.reduceLT, Int.reduceEq, Int.reduceNe, Int.reduceToNat, reduceIte, szT, szlT, i0, q1]) <;> rfl)) (sqr (if_t (η1 := η) (by (try simp only [DLS, Int.cast_ofNat_Int, Nat.reduceAdd, Nat.reduceLeDiff, Nat.reduceEqDiff, Nat.reduceSub, Nat.reduceMul, Nat.reduceBEq, Nat.reduceLT, Int.reduceAdd, Int.reduceSub, Int.reduceMul, Int.reduceNeg, Int.reduceLE, Int.reduceLT, Int.reduceEq, Int.reduceNe, Int.reduceToNat, reduceIte, szT, szlT, i0, q2]) <;> rfl) (ret_of ?_)))
      rw [fOp_a, show (fV 3) [vl PD, vl (.int (j : Nat)), vl PV0, vl (.int MM), vl (.int (min (cap : Int) ((now : Int) - (q.k : Nat)))), vl (.int (bI r.w.isNone)), vl (.int (bI (!decide ((1 : Int) ∈ rings.drop (r.k + 1))))), vl (.tup AF), vl (.tup QQ)] η = .ok (.int MM) η from rfl, bind_ok, show (fOp ixD (fV 0) (fC (.int 1))) [vl PD, vl (.int (j : Nat)), vl PV0, vl (.int MM), vl (.int (min (cap : Int) ((now : Int) - (q.k : Nat)))), vl (.int (bI r.w.isNone)), vl (.int (bI (!decide ((1 : Int) ∈ rings.drop (r.k + 1))))), vl (.tup AF), vl (.tup QQ)] η = .ok (.int (k : Nat)) η from (by (try simp only [DLS, Int.cast_ofNat_Int, Nat.reduceAdd, Nat.reduceLeDiff, Nat.reduceEqDiff, Nat.reduceSub, Nat.reduceMul, Nat.reduceBEq, Nat.reduceLT, Int.reduceAdd, Int.reduceSub, Int.reduceMul, Int.reduceNeg, Int.reduceLE, Int.reduceLT, Int.reduceEq, Int.reduceNe, Int.reduceToNat, reduceIte, szT, szlT, i1]) <;> rfl), bind_ok, hle]; rfl
    | named =>
      have q1 : eqD (.str NW.named.s) (.str "last") = some (.bl false) := rfl
      have q2 : eqD (.str NW.named.s) (.str "told") = some (.bl false) := rfl
      have q3 : eqD (.str NW.named.s) (.str "named") = some (.bl true) := rfl
      have hle : leD (.int (min (cap : Int) ((now : Int) - (q.k : Nat)))) (.int (k : Nat)) = some (.bl (decide ((now : Int) - (q.k : Nat) ≤ (k : Nat)))) := by
        show some (D.bl (decide _)) = _
        refine congrArg (fun b => some (D.bl b)) (decide_eq_decide.mpr ?_)
        omega
      show _ = SR.rt (.bl (decide ((now : Int) - (q.k : Nat) ≤ (k : Nat)))) η
      generalize (aftL B rs).map (fun k : Nat => D.int (k : Nat)) = AF at *
      generalize (quiL M t now cap rs).map D.int = QQ at *
      generalize decide ((now : Int) - (q.k : Nat) ≤ (k : Nat)) = q6 at *
      generalize min (cap : Int) ((now : Int) - (q.k : Nat)) = MM at *
      generalize min (cap : Int) ((now : Int) - (r.k : Nat)) = MR at *
      refine sq (if_fn (η1 := η) (by (try simp only [DLS, Int.cast_ofNat_Int, Nat.reduceAdd, Nat.reduceLeDiff, Nat.reduceEqDiff, Nat.reduceSub, Nat.reduceMul, Nat.reduceBEq, Nat.reduceLT, Int.reduceAdd, Int.reduceSub, Int.reduceMul, Int.reduceNeg, Int.reduceLE, Int.reduceLT, Int.reduceEq, Int.reduceNe, Int.reduceToNat, reduceIte, szT, szlT, i0, q1]) <;> rfl)) (sq (if_fn (η1 := η) (by (try simp only [DLS, Int.cast_ofNat_Int, Nat.reduceAdd, Nat.reduceLeDiff, Nat.reduceEqDiff, Nat.reduceSub, Nat.reduceMul, Nat.reduceBEq, Nat.reduceLT, Int.reduceAdd, Int.reduceSub, Int.reduceMul, Int.reduceNeg, Int.reduceLE, Int.reduceLT, Int.reduceEq, Int.reduceNe, Int.reduceToNat, reduceIte, szT, szlT, i0, q2]) <;> rfl)) (sqr (if_t (η1 := η) (by (try simp only [DLS, Int.cast_ofNat_Int, Nat.reduceAdd, Nat.reduceLeDiff, Nat.reduceEqDiff, Nat.reduceSub, Nat.reduceMul, Nat.reduceBEq, Nat.reduceLT, Int.reduceAdd, Int.reduceSub, Int.reduceMul, Int.reduceNeg, Int.reduceLE, Int.reduceLT, Int.reduceEq, Int.reduceNe, Int.reduceToNat, reduceIte, szT, szlT, i0, q3]) <;> rfl) (ret_of ?_))))
      rw [fOp_a, show (fV 4) [vl PD, vl (.int (j : Nat)), vl PV0, vl (.int MR), vl (.int MM), vl (.int (bI r.w.isNone)), vl (.int (bI (!decide ((1 : Int) ∈ rings.drop (r.k + 1))))), vl (.tup AF), vl (.tup QQ)] η = .ok (.int MM) η from rfl, bind_ok, show (fOp ixD (fV 0) (fC (.int 1))) [vl PD, vl (.int (j : Nat)), vl PV0, vl (.int MR), vl (.int MM), vl (.int (bI r.w.isNone)), vl (.int (bI (!decide ((1 : Int) ∈ rings.drop (r.k + 1))))), vl (.tup AF), vl (.tup QQ)] η = .ok (.int (k : Nat)) η from (by (try simp only [DLS, Int.cast_ofNat_Int, Nat.reduceAdd, Nat.reduceLeDiff, Nat.reduceEqDiff, Nat.reduceSub, Nat.reduceMul, Nat.reduceBEq, Nat.reduceLT, Int.reduceAdd, Int.reduceSub, Int.reduceMul, Int.reduceNeg, Int.reduceLE, Int.reduceLT, Int.reduceEq, Int.reduceNe, Int.reduceToNat, reduceIte, szT, szlT, i1]) <;> rfl), bind_ok, hle]; rfl
    | quiet =>
      have q1 : eqD (.str NW.quiet.s) (.str "last") = some (.bl false) := rfl
      have q2 : eqD (.str NW.quiet.s) (.str "told") = some (.bl false) := rfl
      have q3 : eqD (.str NW.quiet.s) (.str "named") = some (.bl false) := rfl
      have q4 : eqD (.str NW.quiet.s) (.str "quiet") = some (.bl true) := rfl
      have iq : ixD (.tup ((quiL M t now cap rs).map .int)) (.int (j : Nat)) = some (.int (qui M t now cap row.st)) := by
        have hq : (quiL M t now cap rs)[j]? = some (qui M t now cap row.st) := by
          unfold quiL
          rw [List.getElem?_map, hj]; rfl
        exact at_map (f := D.int) hq
      have hgt : gtD (.int (qui M t now cap row.st)) (.int (k : Nat)) = some (.bl (plBM M B r q rings t now row.st (.n .quiet k))) := by
        show some (D.bl (decide (_ > _))) = some (D.bl (match (othL M t row.st).getLast? with | none => true | some o => decide ((now : Int) - (o.k : Nat) > (k : Nat))))
        refine congrArg (fun b => some (D.bl b)) ?_
        unfold qui
        cases (othL M t row.st).getLast? with
        | none => exact decide_eq_true (by show (cap : Int) > (k : Nat); omega)
        | some o => exact decide_eq_decide.mpr (by show min (cap : Int) ((now : Int) - (o.k : Nat)) > (k : Nat) ↔ _; omega)
      generalize plBM M B r q rings t now row.st (.n .quiet k) = q6 at *
      generalize (aftL B rs).map (fun k : Nat => D.int (k : Nat)) = AF at *
      generalize (quiL M t now cap rs).map D.int = QQ at *
      generalize qui M t now cap row.st = QU at *
      refine sq (if_fn (η1 := η) (by (try simp only [DLS, Int.cast_ofNat_Int, Nat.reduceAdd, Nat.reduceLeDiff, Nat.reduceEqDiff, Nat.reduceSub, Nat.reduceMul, Nat.reduceBEq, Nat.reduceLT, Int.reduceAdd, Int.reduceSub, Int.reduceMul, Int.reduceNeg, Int.reduceLE, Int.reduceLT, Int.reduceEq, Int.reduceNe, Int.reduceToNat, reduceIte, szT, szlT, i0, q1]) <;> rfl)) (sq (if_fn (η1 := η) (by (try simp only [DLS, Int.cast_ofNat_Int, Nat.reduceAdd, Nat.reduceLeDiff, Nat.reduceEqDiff, Nat.reduceSub, Nat.reduceMul, Nat.reduceBEq, Nat.reduceLT, Int.reduceAdd, Int.reduceSub, Int.reduceMul, Int.reduceNeg, Int.reduceLE, Int.reduceLT, Int.reduceEq, Int.reduceNe, Int.reduceToNat, reduceIte, szT, szlT, i0, q2]) <;> rfl)) (sq (if_fn (η1 := η) (by (try simp only [DLS, Int.cast_ofNat_Int, Nat.reduceAdd, Nat.reduceLeDiff, Nat.reduceEqDiff, Nat.reduceSub, Nat.reduceMul, Nat.reduceBEq, Nat.reduceLT, Int.reduceAdd, Int.reduceSub, Int.reduceMul, Int.reduceNeg, Int.reduceLE, Int.reduceLT, Int.reduceEq, Int.reduceNe, Int.reduceToNat, reduceIte, szT, szlT, i0, q3]) <;> rfl)) (sqr (if_t (η1 := η) (by (try simp only [DLS, Int.cast_ofNat_Int, Nat.reduceAdd, Nat.reduceLeDiff, Nat.reduceEqDiff, Nat.reduceSub, Nat.reduceMul, Nat.reduceBEq, Nat.reduceLT, Int.reduceAdd, Int.reduceSub, Int.reduceMul, Int.reduceNeg, Int.reduceLE, Int.reduceLT, Int.reduceEq, Int.reduceNe, Int.reduceToNat, reduceIte, szT, szlT, i0, q4]) <;> rfl) (ret_of ?_)))))
      rw [fOp_a, fOp_a, show (fV 8) [vl PD, vl (.int (j : Nat)), vl PV0, vl (.int (min (cap : Int) ((now : Int) - (r.k : Nat)))), vl (.int (min (cap : Int) ((now : Int) - (q.k : Nat)))), vl (.int (bI r.w.isNone)), vl (.int (bI (!decide ((1 : Int) ∈ rings.drop (r.k + 1))))), vl (.tup AF), vl (.tup QQ)] η = .ok (.tup QQ) η from rfl, bind_ok, show (fV 1) [vl PD, vl (.int (j : Nat)), vl PV0, vl (.int (min (cap : Int) ((now : Int) - (r.k : Nat)))), vl (.int (min (cap : Int) ((now : Int) - (q.k : Nat)))), vl (.int (bI r.w.isNone)), vl (.int (bI (!decide ((1 : Int) ∈ rings.drop (r.k + 1))))), vl (.tup AF), vl (.tup QQ)] η = .ok (.int (j : Nat)) η from rfl, bind_ok, iq]
      show ((R.ok (D.int QU) η).bind _) = _
      rw [bind_ok, show (fOp ixD (fV 0) (fC (.int 1))) [vl PD, vl (.int (j : Nat)), vl PV0, vl (.int (min (cap : Int) ((now : Int) - (r.k : Nat)))), vl (.int (min (cap : Int) ((now : Int) - (q.k : Nat)))), vl (.int (bI r.w.isNone)), vl (.int (bI (!decide ((1 : Int) ∈ rings.drop (r.k + 1))))), vl (.tup AF), vl (.tup QQ)] η = .ok (.int (k : Nat)) η from (by (try simp only [DLS, Int.cast_ofNat_Int, Nat.reduceAdd, Nat.reduceLeDiff, Nat.reduceEqDiff, Nat.reduceSub, Nat.reduceMul, Nat.reduceBEq, Nat.reduceLT, Int.reduceAdd, Int.reduceSub, Int.reduceMul, Int.reduceNeg, Int.reduceLE, Int.reduceLT, Int.reduceEq, Int.reduceNe, Int.reduceToNat, reduceIte, szT, szlT, i1]) <;> rfl), bind_ok, hgt]; rfl
theorem test_holds_ok {u : Ts} {j : Nat} {row : Row} (hj : rs[j]? = some row) (hc : plR u.p < cap) : m_test_holds [u.d, .int (j : Nat), viewY M B r q rings t now cap rs] η = .ok (.bl (tsB M B r q rings t now row.st u)) η := by
  have e := plain_holds_ok (η := η) (M := M) (B := B) (r := r) (q := q) (rings := rings) (t := t) (now := now) hj hc
  obtain ⟨g, p⟩ := u
  unfold tsB
  generalize viewY M B r q rings t now cap rs = PV0 at *
  generalize plBM M B r q rings t now row.st p = q1 at *
  refine run_rt2 (δ := [vl (Ts.d ⟨g, p⟩), vl (.int (j : Nat)), vl PV0]) rfl ?_
  rw [PTH_eq]
  cases g with
  | true =>
    have i0 : ixD (Ts.d ⟨true, p⟩) (.int 0) = some (.str "not") := rfl
    have i1 : ixD (Ts.d ⟨true, p⟩) (.int 1) = some p.d := rfl
    have q2 : eqD (.str "not") (.str "not") = some (.bl true) := rfl
    generalize Ts.d ⟨true, p⟩ = TD at *
    generalize p.d = PD at *
    exact sqr (if_t (η1 := η) (by (try simp only [DLS, Int.cast_ofNat_Int, Nat.reduceAdd, Nat.reduceLeDiff, Nat.reduceEqDiff, Nat.reduceSub, Nat.reduceMul, Nat.reduceBEq, Nat.reduceLT, Int.reduceAdd, Int.reduceSub, Int.reduceMul, Int.reduceNeg, Int.reduceLE, Int.reduceLT, Int.reduceEq, Int.reduceNe, Int.reduceToNat, reduceIte, szT, szlT, i0, q2]) <;> rfl) (ret_of (by (try simp only [DLS, Int.cast_ofNat_Int, Nat.reduceAdd, Nat.reduceLeDiff, Nat.reduceEqDiff, Nat.reduceSub, Nat.reduceMul, Nat.reduceBEq, Nat.reduceLT, Int.reduceAdd, Int.reduceSub, Int.reduceMul, Int.reduceNeg, Int.reduceLE, Int.reduceLT, Int.reduceEq, Int.reduceNe, Int.reduceToNat, reduceIte, szT, szlT, i1, e]) <;> rfl)))
  | false =>
    show (sSeq PTH1 PTH2) [vl p.d, vl (.int (j : Nat)), vl PV0] η = SR.rt (.bl q1) η
    have q2 : ∃ z, ixD p.d (.int 0) = some (.str z) ∧ eqD (.str z) (.str "not") = some (.bl false) := by
      cases p with
      | z w => exact ⟨w.s, rfl, z_not w⟩
      | n w k => exact ⟨w.s, rfl, n_not w⟩
    obtain ⟨z, i0, q2⟩ := q2
    generalize p.d = PD at *
    exact sq (if_fn (η1 := η) (by (try simp only [DLS, Int.cast_ofNat_Int, Nat.reduceAdd, Nat.reduceLeDiff, Nat.reduceEqDiff, Nat.reduceSub, Nat.reduceMul, Nat.reduceBEq, Nat.reduceLT, Int.reduceAdd, Int.reduceSub, Int.reduceMul, Int.reduceNeg, Int.reduceLE, Int.reduceLT, Int.reduceEq, Int.reduceNe, Int.reduceToNat, reduceIte, szT, szlT, i0, q2]) <;> rfl)) (ret_of (by (try simp only [DLS, Int.cast_ofNat_Int, Nat.reduceAdd, Nat.reduceLeDiff, Nat.reduceEqDiff, Nat.reduceSub, Nat.reduceMul, Nat.reduceBEq, Nat.reduceLT, Int.reduceAdd, Int.reduceSub, Int.reduceMul, Int.reduceNeg, Int.reduceLE, Int.reduceLT, Int.reduceEq, Int.reduceNe, Int.reduceToNat, reduceIte, szT, szlT, e]) <;> rfl))
end
end DL
namespace DL
open PySem L2 PL
section
variable {η : List O} {δ : En} {sp gd T R n b : Nat} {gs : List Gr} {ks : List (Str × Int)} {rs : List Row} {m : D} {M A B : List Mn} {rings : List Int} {now cap : Nat} {t : Thing} {r q : Mn}
theorem price_ok (hb : η[b]? = some (bkO ks rs m)) {s : Str} (h : s ∈ ks.map (·.1)) : ∃ p, m_Book_name_price [.obj b, .str s] η = .ok (.int p) η := by
  have hb' : η[b]? = some (.ins 0 NSB [.lst (ks.map kd2), .lst (rs.map Row.d), m]) := hb
  have q := loop_x (t := .tp [.nm 2, .nm 3]) (b := (sIf (toB (fOp eqD (fV 2) (fV 1))) (sRet (fV 3)) SR.nx)) [2, 3] (fun k δ η1 => η = η1 ∧ s ∉ (ks.take k).map (·.1)) (fun r => ∃ p, r = SR.rt (.int p) η) (ds := ks.map kd2) (δ := [vl (.obj b), vl (.str s), none, none]) (η := η) ⟨rfl, by simp⟩ fun k x δ1 η1 hx hk ⟨he, hn⟩ => by
    subst he
    obtain ⟨k0, hk0, rfl⟩ := map_get hx
    have l1 : δ1.length = 4 := hk.1
    have b1 : δ1[1]? = some (vl (.str s)) := hk.2 1 (by decide)
    refine ⟨(δ1.set 2 (vl (.str k0.1))).set 3 (vl (.int k0.2)), by rw [kd2, asg_tp, asgs_cons, asg_nm]; rfl, ?_⟩
    have e := str_eq (a := k0.1) (c := s)
    by_cases hs : k0.1 = s
    · rw [decide_eq_true hs] at e
      refine .inr ⟨⟨k0.2, if_t (η1 := η) (by (try simp only [DLS, Int.cast_ofNat_Int, Nat.reduceAdd, Nat.reduceLeDiff, Nat.reduceEqDiff, Nat.reduceSub, Nat.reduceMul, Nat.reduceBEq, Nat.reduceLT, Int.reduceAdd, Int.reduceSub, Int.reduceMul, Int.reduceNeg, Int.reduceLE, Int.reduceLT, Int.reduceEq, Int.reduceNe, Int.reduceToNat, reduceIte, szT, szlT, l1, b1, e]) <;> rfl) (ret_of (by (try simp only [DLS, Int.cast_ofNat_Int, Nat.reduceAdd, Nat.reduceLeDiff, Nat.reduceEqDiff, Nat.reduceSub, Nat.reduceMul, Nat.reduceBEq, Nat.reduceLT, Int.reduceAdd, Int.reduceSub, Int.reduceMul, Int.reduceNeg, Int.reduceLE, Int.reduceLT, Int.reduceEq, Int.reduceNe, Int.reduceToNat, reduceIte, szT, szlT, l1]) <;> rfl))⟩, fun f => ?_⟩
      rw [show (sIf (toB (fOp eqD (fV 2) (fV 1))) (sRet (fV 3)) SR.nx) ((δ1.set 2 (vl (.str k0.1))).set 3 (vl (.int k0.2))) η = .rt (.int k0.2) η from if_t (η1 := η) (by (try simp only [DLS, Int.cast_ofNat_Int, Nat.reduceAdd, Nat.reduceLeDiff, Nat.reduceEqDiff, Nat.reduceSub, Nat.reduceMul, Nat.reduceBEq, Nat.reduceLT, Int.reduceAdd, Int.reduceSub, Int.reduceMul, Int.reduceNeg, Int.reduceLE, Int.reduceLT, Int.reduceEq, Int.reduceNe, Int.reduceToNat, reduceIte, szT, szlT, l1, b1, e]) <;> rfl) (ret_of (by (try simp only [DLS, Int.cast_ofNat_Int, Nat.reduceAdd, Nat.reduceLeDiff, Nat.reduceEqDiff, Nat.reduceSub, Nat.reduceMul, Nat.reduceBEq, Nat.reduceLT, Int.reduceAdd, Int.reduceSub, Int.reduceMul, Int.reduceNeg, Int.reduceLE, Int.reduceLT, Int.reduceEq, Int.reduceNe, Int.reduceToNat, reduceIte, szT, szlT, l1]) <;> rfl))]
      rfl
    · rw [decide_eq_false hs] at e
      refine .inl ⟨_, η, .inl (if_fn (η1 := η) (by (try simp only [DLS, Int.cast_ofNat_Int, Nat.reduceAdd, Nat.reduceLeDiff, Nat.reduceEqDiff, Nat.reduceSub, Nat.reduceMul, Nat.reduceBEq, Nat.reduceLT, Int.reduceAdd, Int.reduceSub, Int.reduceMul, Int.reduceNeg, Int.reduceLE, Int.reduceLT, Int.reduceEq, Int.reduceNe, Int.reduceToNat, reduceIte, szT, szlT, l1, b1, e]) <;> rfl)), .st (.st hk (by decide)) (by decide), rfl, fun z => ?_⟩
      rw [List.take_add_one, hk0, List.map_append] at z
      rcases List.mem_append.mp z with z | z
      · exact hn z
      · exact hs (by simpa using z : s = k0.1).symm
  rcases q with ⟨δ', η', el, kp, rfl, hn⟩ | ⟨p, hr⟩
  · rw [List.length_map, List.take_length] at hn
    exact absurd h hn
  · refine ⟨p, run_rt2 (δ := [vl (.obj b), vl (.str s), none, none]) rfl ?_⟩
    unfold b_Book_name_price
    refine sqr ?_
    have fa : (fiA (fFld 0 ["sort_rows", "word_rows", "own_memory"] 0 (fV 0))) [vl (.obj b), vl (.str s), none, none] η = .ok (ks.map kd2) η := fiA_of (d := .lst (ks.map kd2)) (η1 := η) (by
      generalize ks.map kd2 = KK at *
      generalize rs.map Row.d = RR at *
      exact (by (try simp only [DLS, Int.cast_ofNat_Int, Nat.reduceAdd, Nat.reduceLeDiff, Nat.reduceEqDiff, Nat.reduceSub, Nat.reduceMul, Nat.reduceBEq, Nat.reduceLT, Int.reduceAdd, Int.reduceSub, Int.reduceMul, Int.reduceNeg, Int.reduceLE, Int.reduceLT, Int.reduceEq, Int.reduceNe, Int.reduceToNat, reduceIte, szT, szlT, hb']) <;> rfl)) rfl
    exact for_of fa hr
theorem stand_ok (hb : η[b]? = some (bkO ks rs m)) {w s : Str} {row : Row} (hf : rs.find? (fun q => decide (q.n = w)) = some row) (h : s ∈ ks.map (·.1)) : m_Book_can_stand [.obj b, .str w, .str s] η = .ok (.bl (decide (s ∈ row.st))) η := by
  obtain ⟨p, ep⟩ := price_ok hb h
  have ew := word_row_find (l0 := .lst (ks.map kd2)) (m := m) hb hf
  have i1 : ixD row.d (.int 1) = some (.tup (row.st.map .str)) := rfl
  have hb' : η[b]? = some (.ins 0 NSB [.lst (ks.map kd2), .lst (rs.map Row.d), m]) := hb
  have ei : inD (.str s) (.tup (row.st.map .str)) = some (.bl (decide (s ∈ row.st))) := inD_ts
  refine run_rt2 (δ := [vl (.obj b), vl (.str w), vl (.str s), none]) rfl ?_
  rw [PCS_eq]
  generalize row.st.map D.str = SD at *
  generalize ks.map kd2 = KK at *
  generalize rs.map Row.d = RR at *
  generalize row.d = RD at *
  exact sq (δ1 := [vl (.obj b), vl (.str w), vl (.str s), vl (.tup SD)]) (η1 := η) (set_of (by (try simp only [DLS, Int.cast_ofNat_Int, Nat.reduceAdd, Nat.reduceLeDiff, Nat.reduceEqDiff, Nat.reduceSub, Nat.reduceMul, Nat.reduceBEq, Nat.reduceLT, Int.reduceAdd, Int.reduceSub, Int.reduceMul, Int.reduceNeg, Int.reduceLE, Int.reduceLT, Int.reduceEq, Int.reduceNe, Int.reduceToNat, reduceIte, szT, szlT, hb', ew, i1]) <;> rfl)) (sq (δ1 := [vl (.obj b), vl (.str w), vl (.str s), vl (.tup SD)]) (η1 := η) (by (try simp only [DLS, Int.cast_ofNat_Int, Nat.reduceAdd, Nat.reduceLeDiff, Nat.reduceEqDiff, Nat.reduceSub, Nat.reduceMul, Nat.reduceBEq, Nat.reduceLT, Int.reduceAdd, Int.reduceSub, Int.reduceMul, Int.reduceNeg, Int.reduceLE, Int.reduceLT, Int.reduceEq, Int.reduceNe, Int.reduceToNat, reduceIte, szT, szlT, hb', ep]) <;> rfl) (ret_of (by (try simp only [DLS, Int.cast_ofNat_Int, Nat.reduceAdd, Nat.reduceLeDiff, Nat.reduceEqDiff, Nat.reduceSub, Nat.reduceMul, Nat.reduceBEq, Nat.reduceLT, Int.reduceAdd, Int.reduceSub, Int.reduceMul, Int.reduceNeg, Int.reduceLE, Int.reduceLT, Int.reduceEq, Int.reduceNe, Int.reduceToNat, reduceIte, szT, szlT, ei]) <;> rfl)))
theorem idx_row {w : Str} (nd : (rs.map (·.n)).Nodup) (h : w ∈ rs.map (·.n)) : ∃ row, rs[(rs.map (·.n)).idxOf w]? = some row ∧ rs.find? (fun q => decide (q.n = w)) = some row := by
  obtain ⟨r0, h0⟩ := find_of h
  have hlt := List.idxOf_lt_length_of_mem h
  have hg := List.getElem_idxOf hlt
  have hm := List.mem_of_find?_eq_some h0
  have hn0 := List.find?_some h0
  have hn : r0.n = w := of_decide_eq_true hn0
  obtain ⟨i, hi⟩ := List.mem_iff_getElem?.mp hm
  have hi2 : (rs.map (·.n))[i]? = some w := by rw [List.getElem?_map, hi]; exact congrArg some hn
  have hj2 : (rs.map (·.n))[(rs.map (·.n)).idxOf w]? = some w := by rw [List.getElem?_eq_getElem hlt, hg]
  have : i = (rs.map (·.n)).idxOf w := (List.getElem?_inj (List.getElem?_eq_some_iff.mp hi2).1 nd).mp (hi2.trans hj2.symm)
  exact ⟨r0, by rw [← this]; exact hi, h0⟩
/-- where a word stands -/
def stOf (rs : List Row) (w : Str) : List Str := match rs.find? (fun q => decide (q.n = w)) with
  | some row => row.st
  | none => []
theorem stOf_e {w : Str} {row : Row} (h : rs.find? (fun q => decide (q.n = w)) = some row) : stOf rs w = row.st := by unfold stOf; rw [h]
def cond (M B : List Mn) (r q : Mn) (rings : List Int) (t : Thing) (now : Nat) (rs : List Row) (g : Gr) : Bool := decide (t.1 ∈ stOf rs g.1) && g.2.all fun u => tsB M B r q rings t now (stOf rs g.1) u
theorem plR_le (gs : List Gr) : ∀ g ∈ gs, ∀ u ∈ g.2, plR u.p ≤ reachL gs := fun g hg u hu => by
  have mem : plR u.p ∈ rs1 gs := List.mem_flatMap.mpr ⟨g, hg, List.mem_map.mpr ⟨u, hu, rfl⟩⟩
  have : ∀ (l : List Nat) (a x : Nat), (x ∈ l ∨ x ≤ a) → x ≤ l.foldl max a := fun l => by
    induction l with
    | nil => intro a x h; exact h.resolve_left (by simp)
    | cons c l ih =>
      intro a x h
      rw [List.foldl_cons]
      refine ih _ _ ?_
      rcases h with h | h
      · rcases List.mem_cons.mp h with rfl | h
        · exact .inr (Nat.le_max_right ..)
        · exact .inl h
      · exact .inr (Nat.le_trans h (Nat.le_max_left ..))
  exact this _ 0 _ (.inl mem)
/-- the words of a guide, in order -/
theorem word_by_yes (hg : η[gd]? = some (gdO b gs)) (hb : η[b]? = some (bkO ks rs m)) (Bd : RowsOk (ks.map (·.1)) rs) (G : GsOk (rs.map (·.n)) gs) (ht : t.1 ∈ ks.map (·.1)) (hc : reachL gs < cap) (rk : r.k ≤ now) :
    m_Guide_word_by [.obj gd, .str t.1, viewY M B r q rings t now cap rs] η = .ok (wD ((gs.find? (cond M B r q rings t now rs)).map (·.1))) η := by
  have hg' : η[gd]? = some (.ins 3 NSG [.obj b, .lst (gs.map grD)]) := hg
  have hb' : η[b]? = some (.ins 0 NSB [.lst (ks.map kd2), .lst (rs.map Row.d), m]) := hb
  have i0 : ixD (viewY M B r q rings t now cap rs) (.int 0) = some (.int (min (cap : Int) ((now : Int) - (r.k : Nat)))) := rfl
  have v0 : ¬ min (cap : Int) ((now : Int) - (r.k : Nat)) < 0 := by omega
  have th : ∀ {u : Ts} {j : Nat} {row : Row}, rs[j]? = some row → plR u.p < cap → m_test_holds [u.d, .int (j : Nat), viewY M B r q rings t now cap rs] η = .ok (.bl (tsB M B r q rings t now row.st u)) η := fun hj hc => test_holds_ok hj hc
  generalize viewY M B r q rings t now cap rs = PV0 at *
  have ewn : m_Book_word_names [.obj b] η = .ok (.lst ((rs.map (·.n)).map .str)) η := by
    have ec := comp_enc (t := .tp [.nm 1, .nm 2, .nm 3]) (ft := fYes) (fe := fV 1) (δw := wipeD [vl (.obj b), none, none, none] [1, 2, 3]) (η := η) Row.d (fun _ => true) (fun r => r.n) D.str (xs := rs) fun r hr =>
      ⟨[vl (.obj b), vl (.str r.n), vl (.tup (r.st.map .str)), vl (.int r.p)], by rw [Row.d, asg_tp, asgs_cons, asg_nm]; rfl, rfl, fun _ => rfl⟩
    rw [List.filter_eq_self.mpr fun _ _ => rfl] at ec
    refine run_rt2 (δ := [vl (.obj b), none, none, none]) rfl (ret_of (frzE_of (lc_of' (vs := [1, 2, 3]) (fiA_of (d := .lst (rs.map Row.d)) (η1 := η) ?_ rfl) ec)))
    generalize rs.map Row.d = RR at *
    generalize ks.map kd2 = KK at *
    exact (by (try simp only [DLS, Int.cast_ofNat_Int, Nat.reduceAdd, Nat.reduceLeDiff, Nat.reduceEqDiff, Nat.reduceSub, Nat.reduceMul, Nat.reduceBEq, Nat.reduceLT, Int.reduceAdd, Int.reduceSub, Int.reduceMul, Int.reduceNeg, Int.reduceLE, Int.reduceLT, Int.reduceEq, Int.reduceNe, Int.reduceToNat, reduceIte, szT, szlT, hb']) <;> rfl)
  refine run_rt2 (δ := [vl (.obj gd), vl (.str t.1), vl PV0, none, none, none, none]) rfl ?_
  rw [PW_eq]
  refine sq (if_fn (η1 := η) (by (try simp only [DLS, Int.cast_ofNat_Int, Nat.reduceAdd, Nat.reduceLeDiff, Nat.reduceEqDiff, Nat.reduceSub, Nat.reduceMul, Nat.reduceBEq, Nat.reduceLT, Int.reduceAdd, Int.reduceSub, Int.reduceMul, Int.reduceNeg, Int.reduceLE, Int.reduceLT, Int.reduceEq, Int.reduceNe, Int.reduceToNat, reduceIte, szT, szlT, i0, v0]) <;> rfl)) ?_
  refine sq (δ1 := [vl (.obj gd), vl (.str t.1), vl PV0, vl (.lst ((rs.map (·.n)).map .str)), none, none, none]) (η1 := η) (set_of (by
    generalize (rs.map (·.n)).map D.str = NN at *
    generalize rs.map Row.d = RR at *
    generalize ks.map kd2 = KK at *
    generalize gs.map grD = GG at *
    exact (by (try simp only [DLS, Int.cast_ofNat_Int, Nat.reduceAdd, Nat.reduceLeDiff, Nat.reduceEqDiff, Nat.reduceSub, Nat.reduceMul, Nat.reduceBEq, Nat.reduceLT, Int.reduceAdd, Int.reduceSub, Int.reduceMul, Int.reduceNeg, Int.reduceLE, Int.reduceLT, Int.reduceEq, Int.reduceNe, Int.reduceToNat, reduceIte, szT, szlT, hg', hb', ewn]) <;> rfl))) ?_
  have q := loop_x (t := .tp [.nm 4, .nm 5]) (b := PW3b) [4, 5] (fun k δ η1 => η = η1 ∧ (gs.take k).find? (cond M B r q rings t now rs) = none) (fun r0 => ∃ g, gs.find? (cond M B r q rings t now rs) = some g ∧ r0 = SR.rt (.str g.1) η) (ds := gs.map grD) (δ := [vl (.obj gd), vl (.str t.1), vl PV0, vl (.lst ((rs.map (·.n)).map .str)), none, none, none]) (η := η) ⟨rfl, rfl⟩ fun k x δ1 η1 hx hk ⟨he, hn⟩ => by
    subst he
    obtain ⟨g, hgk, rfl⟩ := map_get hx
    have hgm := List.mem_of_getElem? hgk
    have l1 : δ1.length = 7 := hk.1
    have b0 : δ1[0]? = some (vl (.obj gd)) := hk.2 0 (by decide)
    have b1 : δ1[1]? = some (vl (.str t.1)) := hk.2 1 (by decide)
    have b2 : δ1[2]? = some (vl PV0) := hk.2 2 (by decide)
    have b3 : δ1[3]? = some (vl (.lst ((rs.map (·.n)).map .str))) := hk.2 3 (by decide)
    have as : asg (.tp [.nm 4, .nm 5]) (grD g) δ1 = some ((δ1.set 4 (vl (.str g.1))).set 5 (vl (.tup (g.2.map Ts.d)))) := by
      show asg _ (D.tup [.str g.1, .tup (g.2.map Ts.d)]) _ = _
      rw [asg_tp, asgs_cons, asg_nm]; rfl
    refine ⟨_, as, ?_⟩
    have k2 : Kp [4, 5] δ1 ((δ1.set 4 (vl (.str g.1))).set 5 (vl (.tup (g.2.map Ts.d)))) := .st (.st .refl (by decide)) (by decide)
    have c4 : ((δ1.set 4 (vl (.str g.1))).set 5 (vl (.tup (g.2.map Ts.d))))[4]? = some (vl (.str g.1)) := by
      generalize g.2.map Ts.d = TD at *
      simp only [DLS, Int.cast_ofNat_Int, Nat.reduceAdd, Nat.reduceLeDiff, Nat.reduceEqDiff, Nat.reduceSub, Nat.reduceMul, Nat.reduceBEq, Nat.reduceLT, Int.reduceAdd, Int.reduceSub, Int.reduceMul, Int.reduceNeg, Int.reduceLE, Int.reduceLT, Int.reduceEq, Int.reduceNe, Int.reduceToNat, reduceIte, szT, szlT, l1]
    have c5 : ((δ1.set 4 (vl (.str g.1))).set 5 (vl (.tup (g.2.map Ts.d))))[5]? = some (vl (.tup (g.2.map Ts.d))) := by
      generalize g.2.map Ts.d = TD at *
      simp only [DLS, Int.cast_ofNat_Int, Nat.reduceAdd, Nat.reduceLeDiff, Nat.reduceEqDiff, Nat.reduceSub, Nat.reduceMul, Nat.reduceBEq, Nat.reduceLT, Int.reduceAdd, Int.reduceSub, Int.reduceMul, Int.reduceNeg, Int.reduceLE, Int.reduceLT, Int.reduceEq, Int.reduceNe, Int.reduceToNat, reduceIte, szT, szlT, l1]
    have c0 := (k2.2 0 (by decide)).trans b0
    have c1 := (k2.2 1 (by decide)).trans b1
    have c2 := (k2.2 2 (by decide)).trans b2
    have c3 := (k2.2 3 (by decide)).trans b3
    have l2 := k2.1.trans l1
    generalize (δ1.set 4 (vl (.str g.1))).set 5 (vl (.tup (g.2.map Ts.d))) = δ2 at *
    obtain ⟨row, hrow, hf⟩ := idx_row Bd.nd (G.g g hgm).w
    have es := stand_ok hb hf ht
    have hso := stOf_e hf
    have e1 : (fTru (fMethX 0 ["sort_rows", "word_rows", "own_memory"] 3 0 3 m_Book_can_stand [0, 1, 2] [] (fFld 3 ["own_book", "own_rows"] 0 (fV 0)) (fCons (fV 4) (fCons (fV 1) fNil)) fNil)) δ2 η = .ok (decide (t.1 ∈ row.st)) η := by
      generalize decide (t.1 ∈ row.st) = q1 at *
      generalize rs.map Row.d = RR at *
      generalize ks.map kd2 = KK at *
      generalize gs.map grD = GG at *
      exact (by (try simp only [DLS, Int.cast_ofNat_Int, Nat.reduceAdd, Nat.reduceLeDiff, Nat.reduceEqDiff, Nat.reduceSub, Nat.reduceMul, Nat.reduceBEq, Nat.reduceLT, Int.reduceAdd, Int.reduceSub, Int.reduceMul, Int.reduceNeg, Int.reduceLE, Int.reduceLT, Int.reduceEq, Int.reduceNe, Int.reduceToNat, reduceIte, szT, szlT, c0, c1, c4, hg', hb', es]) <;> rfl)
    have ix := idxS_of (G.g g hgm).w
    have ec := comp_enc (t := .nm 6) (ft := fYes) (fe := (fCall 3 m_test_holds (fCons (fV 6) (fCons (fLm idxS (fV 3) (fV 4)) (fCons (fV 2) fNil))))) (δw := wipeD δ2 [6]) (η := η) Ts.d (fun _ => true) (fun u => tsB M B r q rings t now row.st u) D.bl (xs := g.2) fun u hu => ⟨_, asg_nm, rfl, fun _ => by
      have et := th hrow (u := u) (Nat.lt_of_le_of_lt (plR_le gs g hgm u hu) hc)
      generalize tsB M B r q rings t now row.st u = q2 at *
      generalize (rs.map (·.n)).map D.str = NN at *
      generalize u.d = UD at *
      exact (by (try simp only [DLS, Int.cast_ofNat_Int, Nat.reduceAdd, Nat.reduceLeDiff, Nat.reduceEqDiff, Nat.reduceSub, Nat.reduceMul, Nat.reduceBEq, Nat.reduceLT, Int.reduceAdd, Int.reduceSub, Int.reduceMul, Int.reduceNeg, Int.reduceLE, Int.reduceLT, Int.reduceEq, Int.reduceNe, Int.reduceToNat, reduceIte, szT, szlT, wipeD, fLm_a, l2, c2, c3, c4, ix, et]) <;> rfl)⟩
    rw [List.filter_eq_self.mpr fun _ _ => rfl] at ec
    have el := frzE_of (lc_of' (vs := [6]) (δ := δ2) (fiA_of (fa := fV 5) (η := η) (d := .tup (g.2.map Ts.d)) (η1 := η) (by
      generalize g.2.map Ts.d = TD at *
      exact (by (try simp only [DLS, Int.cast_ofNat_Int, Nat.reduceAdd, Nat.reduceLeDiff, Nat.reduceEqDiff, Nat.reduceSub, Nat.reduceMul, Nat.reduceBEq, Nat.reduceLT, Int.reduceAdd, Int.reduceSub, Int.reduceMul, Int.reduceNeg, Int.reduceLE, Int.reduceLT, Int.reduceEq, Int.reduceNe, Int.reduceToNat, reduceIte, szT, szlT, c5]) <;> rfl)) rfl) ec)
    have e2 : (fTru (fCall1 allC (fFrz (fLc [6] (fiA (fV 5)) (.nm 6) fYes (fCall 3 m_test_holds (fCons (fV 6) (fCons (fLm idxS (fV 3) (fV 4)) (fCons (fV 2) fNil)))))))) δ2 η = .ok (g.2.all fun u => tsB M B r q rings t now row.st u) η := by
      rw [fTru_a, fCall1_a, el, bind_ok, all_bls, List.all_map]
      rfl
    have hcond : cond M B r q rings t now rs g = (decide (t.1 ∈ row.st) && g.2.all fun u => tsB M B r q rings t now row.st u) := by unfold cond; rw [hso]
    have htk : (gs.take (k + 1)) = gs.take k ++ [g] := by rw [List.take_add_one, hgk]; rfl
    by_cases hc1 : cond M B r q rings t now rs g = true
    · rw [hcond, Bool.and_eq_true] at hc1
      rw [hc1.1] at e1
      rw [hc1.2] at e2
      have run : PW3b δ2 η = .rt (.str g.1) η := if_t (η1 := η) e1 (if_t (η1 := η) e2 (ret_of (by (try simp only [DLS, Int.cast_ofNat_Int, Nat.reduceAdd, Nat.reduceLeDiff, Nat.reduceEqDiff, Nat.reduceSub, Nat.reduceMul, Nat.reduceBEq, Nat.reduceLT, Int.reduceAdd, Int.reduceSub, Int.reduceMul, Int.reduceNeg, Int.reduceLE, Int.reduceLT, Int.reduceEq, Int.reduceNe, Int.reduceToNat, reduceIte, szT, szlT, c4]) <;> rfl)))
      refine .inr ⟨⟨g, ?_, run⟩, fun f => by rw [run]; rfl⟩
      have : gs = gs.take k ++ g :: gs.drop (k + 1) := by
        have hlt := (List.getElem?_eq_some_iff.mp hgk).1
        have hd := List.drop_eq_getElem_cons hlt
        rw [(List.getElem?_eq_some_iff.mp hgk).2] at hd
        rw [← hd, List.take_append_drop]
      rw [this, List.find?_append, hn, List.find?_cons_of_pos (by rw [hcond, Bool.and_eq_true]; exact hc1)]
      rfl
    · have run : PW3b δ2 η = .nx δ2 η := by
        rw [hcond] at hc1
        by_cases h1 : t.1 ∈ row.st
        · rw [decide_eq_true h1] at e1 hc1
          have h2 : (g.2.all fun u => tsB M B r q rings t now row.st u) = false := by simpa using hc1
          rw [h2] at e2
          exact if_t (η1 := η) e1 (if_fn (η1 := η) e2)
        · rw [decide_eq_false h1] at e1
          exact if_fn (η1 := η) e1
      refine .inl ⟨δ2, η, .inl run, hk.tr k2 (by decide), rfl, ?_⟩
      rw [htk, List.find?_append, hn, List.find?_cons_of_neg (by simpa using hc1)]
      rfl
  have fa : (fiA (fFld 3 ["own_book", "own_rows"] 1 (fV 0))) [vl (.obj gd), vl (.str t.1), vl PV0, vl (.lst ((rs.map (·.n)).map .str)), none, none, none] η = .ok (gs.map grD) η := fiA_of (d := .lst (gs.map grD)) (η1 := η) (by
    generalize (rs.map (·.n)).map D.str = NN at *
    generalize gs.map grD = GG at *
    exact (by (try simp only [DLS, Int.cast_ofNat_Int, Nat.reduceAdd, Nat.reduceLeDiff, Nat.reduceEqDiff, Nat.reduceSub, Nat.reduceMul, Nat.reduceBEq, Nat.reduceLT, Int.reduceAdd, Int.reduceSub, Int.reduceMul, Int.reduceNeg, Int.reduceLE, Int.reduceLT, Int.reduceEq, Int.reduceNe, Int.reduceToNat, reduceIte, szT, szlT, hg']) <;> rfl)) rfl
  rcases q with ⟨δ', η', el, kp, rfl, hn⟩ | ⟨g, hf, hr⟩
  · rw [List.length_map, List.take_length] at hn
    rw [hn]
    exact sq (for_of fa el) (ret_of (by (try simp only [DLS, Int.cast_ofNat_Int, Nat.reduceAdd, Nat.reduceLeDiff, Nat.reduceEqDiff, Nat.reduceSub, Nat.reduceMul, Nat.reduceBEq, Nat.reduceLT, Int.reduceAdd, Int.reduceSub, Int.reduceMul, Int.reduceNeg, Int.reduceLE, Int.reduceLT, Int.reduceEq, Int.reduceNe, Int.reduceToNat, reduceIte, szT, szlT]) <;> rfl))
  · rw [hf]
    exact sqr (for_of fa hr)
theorem word_by_no (s : Str) : m_Guide_word_by [.obj gd, .str s, viewN M t now cap rs] η = .ok .non η := by
  have i0 : ixD (viewN M t now cap rs) (.int 0) = some (.int (-1)) := rfl
  generalize viewN M t now cap rs = PV0 at *
  refine run_rt2 (δ := [vl (.obj gd), vl (.str s), vl PV0, none, none, none, none]) rfl ?_
  rw [PW_eq]
  have n0 : (-1 : Int) < 0 := by decide
  exact sqr (if_t (η1 := η) (by (try simp only [DLS, Int.cast_ofNat_Int, Nat.reduceAdd, Nat.reduceLeDiff, Nat.reduceEqDiff, Nat.reduceSub, Nat.reduceMul, Nat.reduceBEq, Nat.reduceLT, Int.reduceAdd, Int.reduceSub, Int.reduceMul, Int.reduceNeg, Int.reduceLE, Int.reduceLT, Int.reduceEq, Int.reduceNe, Int.reduceToNat, reduceIte, szT, szlT, i0, n0]) <;> rfl) (ret_of (by (try simp only [DLS, Int.cast_ofNat_Int, Nat.reduceAdd, Nat.reduceLeDiff, Nat.reduceEqDiff, Nat.reduceSub, Nat.reduceMul, Nat.reduceBEq, Nat.reduceLT, Int.reduceAdd, Int.reduceSub, Int.reduceMul, Int.reduceNeg, Int.reduceLE, Int.reduceLT, Int.reduceEq, Int.reduceNe, Int.reduceToNat, reduceIte, szT, szlT]) <;> rfl)))
end
end DL
namespace DL
open PySem L2 PL
section
variable {η : List O} {δ : En} {sp gd T R n b hM hR : Nat} {gs : List Gr} {ks : List (Str × Int)} {rs : List Row} {m tok : D} {M A B : List Mn} {rings : List Int} {now cap : Nat} {t : Thing} {r q : Mn} {st : List Str}
theorem rng_zip (M : List Mn) : rngD 0 M.length = M.zipIdx.map fun p : Mn × Nat => D.int (p.2 : Nat) := by
  have h := List.zipIdx_map_snd 0 M
  unfold rngD
  rw [List.range_eq_range', ← h, List.map_map]
  apply List.map_congr_left
  intro p _
  show D.int (0 + (p.2 : Int)) = D.int (p.2 : Nat)
  rw [Int.zero_add]
/-- what the law's history holds -/
structure HiOk (η : List O) (hM hR : Nat) (M : List Mn) (rings : List Int) (now : Nat) : Prop where
  hm : η[hM]? = some (.lst (M.map mnD))
  hr : η[hR]? = some (.lst (rings.map .int))
  hl : rings.length = now + 1
  M1 : M.length ≤ 1000
end
end DL
namespace DL
open PySem L2 PL
/-! ### the word for a thing -/
def split : List Mn → Thing → Option (List Mn × Mn × List Mn)
  | [], _ => none
  | x :: l, t => match split l t with
    | some (A, r, B) => some (x :: A, r, B)
    | none => if x.t = t then some ([], x, l) else none
theorem split_none : ∀ {M : List Mn} {t : Thing}, split M t = none → ∀ x ∈ M, x.t ≠ t
  | [], _, _, x, hx => by cases hx
  | y :: l, t, h, x, hx => by
    rw [split] at h
    cases q : split l t with
    | some z => rw [q] at h; cases h
    | none =>
      rw [q] at h
      dsimp only at h
      split at h
      · cases h
      · rename_i hy
        rcases List.mem_cons.mp hx with rfl | hx
        · exact hy
        · exact split_none q x hx
theorem split_some : ∀ {M : List Mn} {t : Thing} {A B : List Mn} {r : Mn}, split M t = some (A, r, B) → LastAt M A B r t
  | [], _, _, _, _, h => by cases h
  | y :: l, t, A, B, r, h => by
    rw [split] at h
    cases q : split l t with
    | some z =>
      obtain ⟨A0, r0, B0⟩ := z
      rw [q] at h
      cases h
      have := split_some q
      exact ⟨by rw [this.e]; rfl, this.rt, this.no⟩
    | none =>
      rw [q] at h
      dsimp only at h
      split at h
      · rename_i hy
        cases h
        exact ⟨rfl, hy, split_none q⟩
      · cases h
def sayW (gs : List Gr) (rs : List Row) (M : List Mn) (rings : List Int) (now : Nat) (t : Thing) : Option Str := match split M t with
  | none => none
  | some (_, r, B) => match (namL M t).getLast? with
    | none => none
    | some q => (gs.find? (cond M B r q rings t now rs)).map (·.1)
/-- the first mention is by the name; no mention is late -/
structure Nf (M : List Mn) (now : Nat) : Prop where
  nm : ∀ x ∈ M, namL M x.t ≠ []
  k : ∀ x ∈ M, x.k ≤ now
theorem Nf.add {M : List Mn} {now : Nat} {gs : List Gr} {rs : List Row} {rings : List Int} {t : Thing} (h : Nf M now) : Nf (M ++ [⟨now, t, sayW gs rs M rings now t⟩]) now := by
  refine ⟨fun x hx => ?_, fun x hx => ?_⟩
  · have mono : ∀ s, namL M s ≠ [] → namL (M ++ [⟨now, t, sayW gs rs M rings now t⟩]) s ≠ [] := fun s hs => by
      unfold namL ownL at *
      rw [List.filter_append, List.filter_append]
      intro z
      exact hs (List.append_eq_nil_iff.mp z).1
    rcases List.mem_append.mp hx with hx | hx
    · exact mono _ (h.nm x hx)
    · have : x = ⟨now, t, sayW gs rs M rings now t⟩ := List.mem_singleton.mp hx
      subst this
      show namL _ t ≠ []
      cases q : split M t with
      | none =>
        have hw : sayW gs rs M rings now t = none := by unfold sayW; rw [q]
        rw [hw]
        unfold namL ownL
        rw [List.filter_append, List.filter_append]
        intro z
        have := (List.append_eq_nil_iff.mp z).2
        simp at this
      | some z =>
        obtain ⟨A, r, B⟩ := z
        have L := split_some q
        have hr : r ∈ M := by rw [L.e]; simp
        have := h.nm r hr
        rw [L.rt] at this
        exact mono _ this
  · rcases List.mem_append.mp hx with hx | hx
    · exact h.k x hx
    · rw [List.mem_singleton.mp hx]
      exact Nat.le_refl _
theorem Nf.late {M : List Mn} {now now' : Nat} (h : Nf M now) (l : now ≤ now') : Nf M now' := ⟨h.nm, fun x hx => Nat.le_trans (h.k x hx) l⟩
section
variable {η : List O} {δ : En} {sp gd T R n b hM hR : Nat} {gs : List Gr} {ks : List (Str × Int)} {rs : List Row} {m : D} {M A B : List Mn} {rings : List Int} {now : Nat} {t : Thing}
theorem Nf.get {r : Mn} (h : Nf M now) (L : LastAt M A B r t) : r.k ≤ now ∧ ∃ N' q, namL M t = N' ++ [q] ∧ (namL M t).getLast? = some q := by
  have hr : r ∈ M := by rw [L.e]; simp
  have hn := h.nm r hr
  rw [L.rt] at hn
  rcases getL (l := namL M t) with ⟨_, e⟩ | ⟨N', q, e, e2⟩
  · exact absurd e hn
  · exact ⟨h.k r hr, N', q, e, e2⟩
/-- the word by the program -/
theorem word_ok (So : SpOk η sp gd T R n b gs ks rs m M rings now) (Bd : RowsOk (ks.map (·.1)) rs) (G : GsOk (rs.map (·.n)) gs) (ht : t.1 ∈ ks.map (·.1)) (N : Nf M now) :
    ∃ PV0, m_Speaker_view_of [.obj sp, kd2 t, .obj n] η = .ok PV0 η ∧ m_Guide_word_by [.obj gd, .str t.1, PV0] η = .ok (wD (sayW gs rs M rings now t)) η := by
  cases q : split M t with
  | none =>
    have hn := split_none q
    have ho : ownL M t = [] := List.filter_eq_nil_iff.mpr fun x hx => by simpa using hn x hx
    refine ⟨_, view_no So ho, ?_⟩
    have hw : sayW gs rs M rings now t = none := by unfold sayW; rw [q]
    rw [hw]
    exact word_by_no _
  | some z =>
    obtain ⟨A, r, B⟩ := z
    have L := split_some q
    obtain ⟨rk, N', q0, e1, e2⟩ := N.get L
    refine ⟨_, view_yes So L e1 rk, ?_⟩
    have hw : sayW gs rs M rings now t = (gs.find? (cond M B r q0 rings t now rs)).map (·.1) := by
      unfold sayW
      rw [q]
      dsimp only
      rw [e2]
    rw [hw]
    exact word_by_yes So.hg So.hb Bd G ht (Nat.lt_succ_self _) rk
end
end DL
namespace DL
open PySem L2 PL
/-! ### a sentence -/
def itD (t : Thing) : Option Str → D
  | none => kd2 t
  | some z => .str z
def msD (ms : List Mn) : D := .lst (ms.map mnD)
def sayStep (gs : List Gr) (rs : List Row) (rings : List Int) (now : Nat) (p : List Mn × List D) (t : Thing) : List Mn × List D := (p.1 ++ [⟨now, t, sayW gs rs p.1 rings now t⟩], p.2 ++ [itD t (sayW gs rs p.1 rings now t)])
def sayF (gs : List Gr) (rs : List Row) (rings : List Int) (now : Nat) (M : List Mn) (ts : List Thing) : List Mn × List D := ts.foldl (sayStep gs rs rings now) (M, [])
section
variable {η : List O} {δ : En} {sp gd T R n b hM hR : Nat} {gs : List Gr} {ks : List (Str × Int)} {rs : List Row} {m : D} {M A B : List Mn} {rings : List Int} {now : Nat} {t : Thing} {ts : List Thing} {tl : List (List Mn)} {ring : Int}
theorem sayF_take {k : Nat} (h : ts[k]? = some t) : sayF gs rs rings now M (ts.take (k + 1)) = sayStep gs rs rings now (sayF gs rs rings now M (ts.take k)) t := by
  unfold sayF
  rw [List.take_add_one, h]
  simp only [Option.toList, List.foldl_append, List.foldl_cons, List.foldl_nil]
theorem sayF_fact (N : Nf M now) : ∀ ts : List Thing, Nf (sayF gs rs rings now M ts).1 now ∧ (sayF gs rs rings now M ts).1.length = M.length + ts.length ∧ (sayF gs rs rings now M ts).2.length = ts.length ∧ ∃ X, (sayF gs rs rings now M ts).1 = M ++ X := fun ts => by
  have go : ∀ (ts : List Thing) (p : List Mn × List D), Nf p.1 now → (∃ X, p.1 = M ++ X) → Nf (ts.foldl (sayStep gs rs rings now) p).1 now ∧ (ts.foldl (sayStep gs rs rings now) p).1.length = p.1.length + ts.length ∧ (ts.foldl (sayStep gs rs rings now) p).2.length = p.2.length + ts.length ∧ ∃ X, (ts.foldl (sayStep gs rs rings now) p).1 = M ++ X := fun ts => by
    induction ts with
    | nil => intro p h hx; exact ⟨h, rfl, rfl, hx⟩
    | cons t l ih =>
      intro p h ⟨X, hx⟩
      rw [List.foldl_cons]
      obtain ⟨a, b, c, d⟩ := ih (sayStep gs rs rings now p t) h.add ⟨X ++ [⟨now, t, sayW gs rs p.1 rings now t⟩], by show p.1 ++ _ = _; rw [hx, List.append_assoc]⟩
      refine ⟨a, ?_, ?_, d⟩
      · rw [b]; show (p.1 ++ [_]).length + _ = _; rw [List.length_append, List.length_singleton, List.length_cons]; omega
      · rw [c]; show (p.2 ++ [_]).length + _ = _; rw [List.length_append, List.length_singleton, List.length_cons]; omega
  obtain ⟨a, b, c, d⟩ := go ts (M, []) N ⟨[], (List.append_nil _).symm⟩
  exact ⟨a, b, by rw [show ([] : List D).length = 0 from rfl, Nat.zero_add] at c; exact c, d⟩
/-- the speaker's told rows, one behind another -/
theorem flat2 (hT : η[T]? = some (.lst (tl.map msD))) {δw : En} (hl : δw.length = 10) : ∀ f k, tl.length + 1 ≤ f + k → k ≤ tl.length → compL2 (.nm 8) fYes (fiA (fV 8)) (.nm 9) fYes (fV 9) [9] δw (.one (.obj T)) f k η = .ok (((tl.drop k).flatten).map mnD) η
  | 0, k, h1, h2 => by omega
  | f + 1, k, h1, h2 => by
    rw [compL2, curS_one (rd_obj hT)]
    by_cases hk : k < tl.length
    · rw [List.getElem?_map, List.getElem?_eq_getElem hk, List.drop_eq_getElem_cons hk]
      generalize tl[k] = ms at *
      rw [Option.map_some]
      dsimp only
      rw [asg_nm]
      dsimp only
      have e1 : (fiA (fV 8)) (δw.set 8 (vl (msD ms))) η = .ok (ms.map mnD) η := fiA_of (d := msD ms) (η1 := η) (by
        generalize msD ms = MD at *
        exact (by (try simp only [DLS, Int.cast_ofNat_Int, Nat.reduceAdd, Nat.reduceLeDiff, Nat.reduceEqDiff, Nat.reduceSub, Nat.reduceMul, Nat.reduceBEq, Nat.reduceLT, Int.reduceAdd, Int.reduceSub, Int.reduceMul, Int.reduceNeg, Int.reduceLE, Int.reduceLT, Int.reduceEq, Int.reduceNe, Int.reduceToNat, reduceIte, szT, szlT, hl]) <;> rfl)) rfl
      have e2 := comp_enc (t := .nm 9) (ft := fYes) (fe := fV 9) (δw := wipeD (δw.set 8 (vl (msD ms))) [9]) (η := η) mnD (fun _ => true) (fun x => x) mnD (xs := ms) fun x hx => ⟨_, asg_nm, rfl, fun _ => by
        generalize msD ms = MD at *
        generalize mnD x = XD at *
        exact (by (try simp only [DLS, Int.cast_ofNat_Int, Nat.reduceAdd, Nat.reduceLeDiff, Nat.reduceEqDiff, Nat.reduceSub, Nat.reduceMul, Nat.reduceBEq, Nat.reduceLT, Int.reduceAdd, Int.reduceSub, Int.reduceMul, Int.reduceNeg, Int.reduceLE, Int.reduceLT, Int.reduceEq, Int.reduceNe, Int.reduceToNat, reduceIte, szT, szlT, wipeD, hl]) <;> rfl)⟩
      rw [List.filter_eq_self.mpr fun _ _ => rfl, List.map_id'] at e2
      rw [show fYes (δw.set 8 (vl (msD ms))) η = .ok true η from rfl, nox_ok, bind_ok, if_pos rfl, e1, nox_ok, bind_ok, e2, nox_ok, bind_ok, flat2 hT hl f (k + 1) (by omega) (by omega), bind_ok, List.flatten_cons, List.map_append]
    · have : k = tl.length := by omega
      subst this
      rw [List.getElem?_eq_none (by rw [List.length_map]; exact Nat.le_refl _), List.drop_length]
      rfl
/-- a speaker -/
structure Spk (η : List O) (sp gd T R b : Nat) (gs : List Gr) (ks : List (Str × Int)) (rs : List Row) (m : D) (tl : List (List Mn)) (rings : List Int) : Prop where
  hs : η[sp]? = some (spO gd T R)
  hg : η[gd]? = some (gdO b gs)
  hb : η[b]? = some (bkO ks rs m)
  hT : η[T]? = some (.lst (tl.map msD))
  hR : η[R]? = some (.lst (rings.map .int))
  TR : T ≠ R
abbrev sgS1 (mc : DF) : S := (sDrop (fCallX 2 mc (fCons (fProp 3 1 m_Guide_book (fFld 4 ["own_guide", "own_told", "own_rings"] 0 (fV 0))) (fCons (fV 1) fNil))))
abbrev sgS6 (mp : DF) : S := (sFor (fiA (fCall 1 mp (fCons (fV 1) fNil))) (.nm 6) PY6b)
abbrev sayG (mc mp : DF) : S := sSeq (sgS1 mc) (sSeq PY2 (sSeq PY3 (sSeq PY4 (sSeq PY5 (sSeq (sgS6 mp) PY7)))))
theorem say_gen {mc mp : DF} (K : Spk η sp gd T R b gs ks rs m tl rings) (Bd : RowsOk (ks.map (·.1)) rs) (G : GsOk (rs.map (·.n)) gs) {d : D} (hc : mc [.obj b, d] η = .ok .non η) (hwk : mp [d] (η.set R (.lst ((rings ++ [ring]).map .int)) ++ [O.lst (tl.flatten.map mnD)]) = .ok (lineD ts) (η.set R (.lst ((rings ++ [ring]).map .int)) ++ [O.lst (tl.flatten.map mnD)])) (ok : ∀ t ∈ ts, t.1 ∈ ks.map (·.1) ∧ 0 ≤ t.2) (l12 : ts.length ≤ 12) (h01 : ring = 0 ∨ ring = 1) (N : Nf tl.flatten rings.length)
    (hz : tl.flatten.length ≤ 900) (hr : rings.length ≤ 900) (ht : tl.length ≤ 900) :
    runD 10 (sayG mc mp) [.obj sp, d, .int ring] η = .ok (.lst (sayF gs rs (rings ++ [ring]) rings.length tl.flatten ts).2) (((η.set R (.lst ((rings ++ [ring]).map .int))) ++ [O.lst ((sayF gs rs (rings ++ [ring]) rings.length tl.flatten ts).1.map mnD)]).set T (.lst (tl.map msD ++ [msD ((sayF gs rs (rings ++ [ring]) rings.length tl.flatten ts).1.drop tl.flatten.length)]))) := by
  have hs : η[sp]? = some (.ins 4 NSS [.obj gd, .obj T, .obj R]) := K.hs
  have hgd : η[gd]? = some (.ins 3 NSG [.obj b, .lst (gs.map grD)]) := K.hg
  have nRs : R ≠ sp := fun e => by have := K.hR; rw [e, hs] at this; cases this
  have nRg : R ≠ gd := fun e => by have := K.hR; rw [e, hgd] at this; cases this
  have nRb : R ≠ b := fun e => by have := K.hR; rw [e, K.hb] at this; cases this
  have ltR := (List.getElem?_eq_some_iff.mp K.hR).1
  have ltT := (List.getElem?_eq_some_iff.mp K.hT).1
  have ig : insC η 3 (.obj gd) = true := by rw [insC_a, K.hg]; rfl
  have eb : m_Guide_book [.obj gd] η = .ok (.obj b) η := by
    generalize gs.map grD = GG at *
    exact run_rt2 (δ := [vl (.obj gd)]) rfl (ret_of (by (try simp only [DLS, Int.cast_ofNat_Int, Nat.reduceAdd, Nat.reduceLeDiff, Nat.reduceEqDiff, Nat.reduceSub, Nat.reduceMul, Nat.reduceBEq, Nat.reduceLT, Int.reduceAdd, Int.reduceSub, Int.reduceMul, Int.reduceNeg, Int.reduceLE, Int.reduceLT, Int.reduceEq, Int.reduceNe, Int.reduceToNat, reduceIte, szT, szlT, hgd]) <;> rfl))
  have b1 : sgS1 mc [vl (.obj sp), vl d, vl (.int ring), none, none, none, none, none, none, none] η = .nx [vl (.obj sp), vl d, vl (.int ring), none, none, none, none, none, none, none] η := by
    have hp : (fProp 3 1 m_Guide_book (fFld 4 ["own_guide", "own_told", "own_rings"] 0 (fV 0))) [vl (.obj sp), vl d, vl (.int ring), none, none, none, none, none, none, none] η = .ok (.obj b) η := by
      rw [fProp_a, show (fFld 4 ["own_guide", "own_told", "own_rings"] 0 (fV 0)) [vl (.obj sp), vl d, vl (.int ring), none, none, none, none, none, none, none] η = .ok (.obj gd) η from (by (try simp only [DLS, Int.cast_ofNat_Int, Nat.reduceAdd, Nat.reduceLeDiff, Nat.reduceEqDiff, Nat.reduceSub, Nat.reduceMul, Nat.reduceBEq, Nat.reduceLT, Int.reduceAdd, Int.reduceSub, Int.reduceMul, Int.reduceNeg, Int.reduceLE, Int.reduceLT, Int.reduceEq, Int.reduceNe, Int.reduceToNat, reduceIte, szT, szlT, hs]) <;> rfl), bind_ok, if_pos ig, arg_a]
      exact congrArg DL.R.nox ((if_pos rfl).trans eb)
    show sDrop _ _ _ = _
    rw [sDrop_a, fCallX_a, args2 hp (show (fV 1) [vl (.obj sp), vl d, vl (.int ring), none, none, none, none, none, none, none] η = .ok d η from rfl), bind_ok, arg_a, show (if [D.obj b, d].length = 2 then mc [D.obj b, d] η else DL.R.bad) = mc [D.obj b, d] η from if_pos rfl, hc]
    rfl
  have b2 : PY2 [vl (.obj sp), vl d, vl (.int ring), none, none, none, none, none, none, none] η = .nx [vl (.obj sp), vl d, vl (.int ring), none, none, none, none, none, none, none] η := by
    have z2 : (2 : Nat) ≤ sizeLine := by rw [sizeLine_eq]; decide
    have ni : notInD (.int ring) (.tup [.int 0, .int 1]) = some (.bl false) := by rcases h01 with rfl | rfl <;> rfl
    exact if_fn (η1 := η) (by (try simp only [DLS, Int.cast_ofNat_Int, Nat.reduceAdd, Nat.reduceLeDiff, Nat.reduceEqDiff, Nat.reduceSub, Nat.reduceMul, Nat.reduceBEq, Nat.reduceLT, Int.reduceAdd, Int.reduceSub, Int.reduceMul, Int.reduceNeg, Int.reduceLE, Int.reduceLT, Int.reduceEq, Int.reduceNe, Int.reduceToNat, reduceIte, szT, szlT, ni, z2]) <;> rfl)
  have b3 : PY3 [vl (.obj sp), vl d, vl (.int ring), none, none, none, none, none, none, none] η = .nx [vl (.obj sp), vl d, vl (.int ring), none, none, none, none, none, none, none] (η.set R (.lst (rings.map .int ++ [.int ring]))) := appO_of (n := R) (η1 := η) (by (try simp only [DLS, Int.cast_ofNat_Int, Nat.reduceAdd, Nat.reduceLeDiff, Nat.reduceEqDiff, Nat.reduceSub, Nat.reduceMul, Nat.reduceBEq, Nat.reduceLT, Int.reduceAdd, Int.reduceSub, Int.reduceMul, Int.reduceNeg, Int.reduceLE, Int.reduceLT, Int.reduceEq, Int.reduceNe, Int.reduceToNat, reduceIte, szT, szlT, hs]) <;> rfl) K.hR (by (try simp only [DLS, Int.cast_ofNat_Int, Nat.reduceAdd, Nat.reduceLeDiff, Nat.reduceEqDiff, Nat.reduceSub, Nat.reduceMul, Nat.reduceBEq, Nat.reduceLT, Int.reduceAdd, Int.reduceSub, Int.reduceMul, Int.reduceNeg, Int.reduceLE, Int.reduceLT, Int.reduceEq, Int.reduceNe, Int.reduceToNat, reduceIte, szT, szlT]) <;> rfl) K.hR (by rw [List.length_map]; omega)
  have hR3 : (η.set R (.lst (rings.map .int ++ [.int ring])))[R]? = some (.lst ((rings ++ [ring]).map .int)) := by rw [List.getElem?_set_self ltR, List.map_append]; rfl
  have e3 : (η.set R (.lst (rings.map .int ++ [.int ring]))) = η.set R (.lst ((rings ++ [ring]).map .int)) := by rw [List.map_append]; rfl
  rw [← e3] at hwk ⊢
  have k3 : ∀ i o, i ≠ R → η[i]? = some o → (η.set R (.lst (rings.map .int ++ [.int ring])))[i]? = some o := fun i o hi h => by rw [List.getElem?_set_ne (Ne.symm hi)]; exact h
  have l3 : (η.set R (.lst (rings.map .int ++ [.int ring]))).length = η.length := List.length_set
  generalize η.set R (.lst (rings.map .int ++ [.int ring])) = η3 at *
  have hs3 := k3 sp _ (Ne.symm nRs) hs
  have hT3 := k3 T _ K.TR K.hT
  -- the rows
  have ec := flat2 (δw := wipeD [vl (.obj sp), vl d, vl (.int ring), ow [], none, none, none, none, none, none] [8, 9]) hT3 (by rfl) (sizeS η3 (.one (.obj T)) + 1) 0 (by rw [size_one (rd_obj hT3), List.length_map]; exact Nat.le_refl _) (Nat.zero_le _)
  rw [List.drop_zero] at ec
  have fc : ∀ x, (fC2L kLst [8, 9] [9] (fsOne (fFld 4 ["own_guide", "own_told", "own_rings"] 1 (fV 0))) (.nm 8) fYes (fiA (fV 8)) (.nm 9) fYes (fV 9)) [vl (.obj sp), vl d, vl (.int ring), x, none, none, none, none, none, none] η3 = .ok (tl.flatten.map mnD) η3 := fun x => by
    have ec := flat2 (δw := wipeD [vl (.obj sp), vl d, vl (.int ring), x, none, none, none, none, none, none] [8, 9]) hT3 (by rfl) (sizeS η3 (.one (.obj T)) + 1) 0 (by rw [size_one (rd_obj hT3), List.length_map]; exact Nat.le_refl _) (Nat.zero_le _)
    rw [List.drop_zero] at ec
    rw [fC2L_a, one_of (fa := (fFld 4 ["own_guide", "own_told", "own_rings"] 1 (fV 0))) (η1 := η3) (by (try simp only [DLS, Int.cast_ofNat_Int, Nat.reduceAdd, Nat.reduceLeDiff, Nat.reduceEqDiff, Nat.reduceSub, Nat.reduceMul, Nat.reduceBEq, Nat.reduceLT, Int.reduceAdd, Int.reduceSub, Int.reduceMul, Int.reduceNeg, Int.reduceLE, Int.reduceLT, Int.reduceEq, Int.reduceNe, Int.reduceToNat, reduceIte, szT, szlT, hs3]) <;> rfl) (rd_obj hT3), bind_ok, ec, nox_ok, bind_ok]
    unfold kLst
    rw [if_pos (by rw [List.length_map, sizeLine_eq]; omega)]
  have b4 : PY4 [vl (.obj sp), vl d, vl (.int ring), none, none, none, none, none, none, none] η3 = .nx [vl (.obj sp), vl d, vl (.int ring), ow [], vl (.obj η3.length), none, none, none, none, none] (η3 ++ [.lst (tl.flatten.map mnD)]) := by
    have z0 : (0 : Nat) ≤ sizeLine := Nat.zero_le _
    have fc := fc none
    show sParNV _ _ _ _ _ _ = _
    generalize tl.flatten.map mnD = TF at *
    rw [sParNV_a, show (fLstN fNil) [vl (.obj sp), vl d, vl (.int ring), none, none, none, none, none, none, none] η3 = .ok [] η3 from (by (try simp only [DLS, Int.cast_ofNat_Int, Nat.reduceAdd, Nat.reduceLeDiff, Nat.reduceEqDiff, Nat.reduceSub, Nat.reduceMul, Nat.reduceBEq, Nat.reduceLT, Int.reduceAdd, Int.reduceSub, Int.reduceMul, Int.reduceNeg, Int.reduceLE, Int.reduceLT, Int.reduceEq, Int.reduceNe, Int.reduceToNat, reduceIte, szT, szlT, z0]) <;> rfl), toS_ok, fNewO_a, fc]
    rfl
  have b5 : PY5 [vl (.obj sp), vl d, vl (.int ring), ow [], vl (.obj η3.length), none, none, none, none, none] (η3 ++ [.lst (tl.flatten.map mnD)]) = .nx [vl (.obj sp), vl d, vl (.int ring), ow [], vl (.obj η3.length), vl (.int (tl.flatten.length : Nat)), none, none, none, none] (η3 ++ [.lst (tl.flatten.map mnD)]) := set_of (by
    have hl : lenD (.lst (tl.flatten.map mnD)) = some (.int (tl.flatten.length : Nat)) := by rw [lenD_l, List.length_map]
    have hg : (η3 ++ [O.lst (tl.flatten.map mnD)])[η3.length]? = some (.lst (tl.flatten.map mnD)) := get_last
    generalize η3 ++ [O.lst (tl.flatten.map mnD)] = EX at *
    generalize tl.flatten.map mnD = TF at *
    exact (by (try simp only [DLS, Int.cast_ofNat_Int, Nat.reduceAdd, Nat.reduceLeDiff, Nat.reduceEqDiff, Nat.reduceSub, Nat.reduceMul, Nat.reduceBEq, Nat.reduceLT, Int.reduceAdd, Int.reduceSub, Int.reduceMul, Int.reduceNeg, Int.reduceLE, Int.reduceLT, Int.reduceEq, Int.reduceNe, Int.reduceToNat, reduceIte, szT, szlT, hg, hl]) <;> rfl))
  generalize hM : tl.flatten = M at *
  have keep : ∀ (X : List D) i o, i ≠ R → η[i]? = some o → (η3 ++ [O.lst X])[i]? = some o := fun X i o hi h => by
    have := k3 i o hi h
    rw [List.getElem?_append_left (List.getElem?_eq_some_iff.mp this).1]; exact this
  have keepR : ∀ (X : List D), (η3 ++ [O.lst X])[R]? = some (.lst ((rings ++ [ring]).map .int)) := fun X => by
    rw [List.getElem?_append_left (by omega)]; exact hR3
  -- the things
  obtain ⟨δ6, η6, el, kp, h3, he⟩ := loop_m (t := .nm 6) (b := PY6b) (enc := kd2) (xs := ts) [3, 6, 7] (fun k δ η1 => δ[3]? = some (ow (sayF gs rs (rings ++ [ring]) rings.length M (ts.take k)).2) ∧ η1 = η3 ++ [.lst ((sayF gs rs (rings ++ [ring]) rings.length M (ts.take k)).1.map mnD)])
    (δ := [vl (.obj sp), vl d, vl (.int ring), ow [], vl (.obj η3.length), vl (.int (M.length : Nat)), none, none, none, none]) (η := η3 ++ [.lst (M.map mnD)]) ⟨rfl, rfl⟩ fun k t δ1 η1 hx hk ⟨h3, he⟩ => by
      subst he
      have hf := sayF_fact (gs := gs) (rs := rs) (rings := rings ++ [ring]) (M := M) (now := rings.length) N (ts.take k)
      have lk : (ts.take k).length ≤ 12 := by rw [List.length_take]; omega
      rw [sayF_take hx]
      generalize sayF gs rs (rings ++ [ring]) rings.length M (ts.take k) = P at *
      obtain ⟨M1, u1⟩ := P
      obtain ⟨Nk, len1, len2, _⟩ := hf
      dsimp only at Nk len1 len2 h3 ⊢
      rw [show sayStep gs rs (rings ++ [ring]) rings.length (M1, u1) t = (M1 ++ [⟨rings.length, t, sayW gs rs M1 (rings ++ [ring]) rings.length t⟩], u1 ++ [itD t (sayW gs rs M1 (rings ++ [ring]) rings.length t)]) from rfl]
      dsimp only
      have l1 : δ1.length = 10 := hk.1
      have c0 : δ1[0]? = some (vl (.obj sp)) := hk.2 0 (by decide)
      have c4 : δ1[4]? = some (vl (.obj η3.length)) := hk.2 4 (by decide)
      have hn : (η3 ++ [O.lst (M1.map mnD)])[η3.length]? = some (.lst (M1.map mnD)) := get_last
      have So : SpOk (η3 ++ [.lst (M1.map mnD)]) sp gd T R η3.length b gs ks rs m M1 (rings ++ [ring]) rings.length := ⟨keep _ _ _ (Ne.symm nRs) K.hs, keep _ _ _ (Ne.symm nRg) K.hg, keep _ _ _ (Ne.symm nRb) K.hb, keepR _, hn, by rw [List.length_append]; rfl, G.n6, fun g hg => (G.g g hg).n3, by omega, Bd.l1⟩
      obtain ⟨PV0, ev, ew⟩ := word_ok So Bd G (ok t (List.mem_of_getElem? hx)).1 Nk
      have hsk := keep (M1.map mnD) _ _ (Ne.symm nRs) hs
      have hgk := keep (M1.map mnD) _ _ (Ne.symm nRg) hgd
      have hRk := keepR (M1.map mnD)
      have lR : lenD (.lst ((rings ++ [ring]).map .int)) = some (.int ((rings.length + 1 : Nat) : Int)) := by rw [lenD_l, List.length_map, List.length_append]; rfl
      generalize hEX : η3 ++ [O.lst (M1.map mnD)] = EX at *
      generalize sayW gs rs M1 (rings ++ [ring]) rings.length t = w at *
      have k0 := kd0 (t := t)
      have s1 : PY6b1 (δ1.set 6 (vl (kd2 t))) EX = .nx ((δ1.set 6 (vl (kd2 t))).set 7 (vl (wD w))) EX := set_of (by
        generalize kd2 t = KT at *
        generalize wD w = WD at *
        generalize gs.map grD = GG at *
        exact (by (try simp only [DLS, Int.cast_ofNat_Int, Nat.reduceAdd, Nat.reduceLeDiff, Nat.reduceEqDiff, Nat.reduceSub, Nat.reduceMul, Nat.reduceBEq, Nat.reduceLT, Int.reduceAdd, Int.reduceSub, Int.reduceMul, Int.reduceNeg, Int.reduceLE, Int.reduceLT, Int.reduceEq, Int.reduceNe, Int.reduceToNat, reduceIte, szT, szlT, l1, c0, c4, hsk, hgk, k0, ev, ew]) <;> rfl))
      have wn := wD_non w
      have s2 : PY6b2 ((δ1.set 6 (vl (kd2 t))).set 7 (vl (wD w))) EX = .nx (((δ1.set 6 (vl (kd2 t))).set 7 (vl (wD w))).set 3 (ow (u1 ++ [itD t w]))) EX := app_of (i := 3) (l := u1) (η1 := EX) (by
        generalize kd2 t = KT at *
        generalize wD w = WD at *
        simp only [DLS, Int.cast_ofNat_Int, Nat.reduceAdd, Nat.reduceLeDiff, Nat.reduceEqDiff, Nat.reduceSub, Nat.reduceMul, Nat.reduceBEq, Nat.reduceLT, Int.reduceAdd, Int.reduceSub, Int.reduceMul, Int.reduceNeg, Int.reduceLE, Int.reduceLT, Int.reduceEq, Int.reduceNe, Int.reduceToNat, reduceIte, szT, szlT, h3]) (args1 (by
        cases w with
        | none =>
          show _ = DL.R.ok (kd2 t) EX
          generalize kd2 t = KT at *
          have wn : (wD none).isNon = true := rfl
          generalize wD none = WD at *
          exact (by (try simp only [DLS, Int.cast_ofNat_Int, Nat.reduceAdd, Nat.reduceLeDiff, Nat.reduceEqDiff, Nat.reduceSub, Nat.reduceMul, Nat.reduceBEq, Nat.reduceLT, Int.reduceAdd, Int.reduceSub, Int.reduceMul, Int.reduceNeg, Int.reduceLE, Int.reduceLT, Int.reduceEq, Int.reduceNe, Int.reduceToNat, reduceIte, szT, szlT, l1, wn]) <;> rfl)
        | some z =>
          show _ = DL.R.ok (wD (some z)) EX
          have wn : (wD (some z)).isNon = false := rfl
          generalize kd2 t = KT at *
          generalize wD (some z) = WD at *
          exact (by (try simp only [DLS, Int.cast_ofNat_Int, Nat.reduceAdd, Nat.reduceLeDiff, Nat.reduceEqDiff, Nat.reduceSub, Nat.reduceMul, Nat.reduceBEq, Nat.reduceLT, Int.reduceAdd, Int.reduceSub, Int.reduceMul, Int.reduceNeg, Int.reduceLE, Int.reduceLT, Int.reduceEq, Int.reduceNe, Int.reduceToNat, reduceIte, szT, szlT, l1, wn]) <;> rfl))) (by omega)
      have z3 : (3 : Nat) ≤ sizeLine := by rw [sizeLine_eq]; decide
      have s3 : PY6b3 (((δ1.set 6 (vl (kd2 t))).set 7 (vl (wD w))).set 3 (ow (u1 ++ [itD t w]))) EX = .nx (((δ1.set 6 (vl (kd2 t))).set 7 (vl (wD w))).set 3 (ow (u1 ++ [itD t w]))) (EX.set η3.length (.lst (M1.map mnD ++ [mnD ⟨rings.length, t, w⟩]))) := by
        have nn : ((rings.length + 1 : Nat) : Int) - 1 = (rings.length : Nat) := by omega
        refine appO_of (n := η3.length) (η1 := EX) (by
          generalize itD t w = IT at *
          generalize kd2 t = KT at *
          generalize wD w = WD at *
          exact (by (try simp only [DLS, Int.cast_ofNat_Int, Nat.reduceAdd, Nat.reduceLeDiff, Nat.reduceEqDiff, Nat.reduceSub, Nat.reduceMul, Nat.reduceBEq, Nat.reduceLT, Int.reduceAdd, Int.reduceSub, Int.reduceMul, Int.reduceNeg, Int.reduceLE, Int.reduceLT, Int.reduceEq, Int.reduceNe, Int.reduceToNat, reduceIte, szT, szlT, c4]) <;> rfl)) hn (args1 (by
          show _ = DL.R.ok (D.tup [.int (rings.length : Nat), kd2 t, wD w]) EX
          rw [← nn]
          generalize itD t w = IT at *
          generalize kd2 t = KT at *
          generalize wD w = WD at *
          generalize (rings ++ [ring]).map D.int = RI at *
          exact (by (try simp only [DLS, Int.cast_ofNat_Int, Nat.reduceAdd, Nat.reduceLeDiff, Nat.reduceEqDiff, Nat.reduceSub, Nat.reduceMul, Nat.reduceBEq, Nat.reduceLT, Int.reduceAdd, Int.reduceSub, Int.reduceMul, Int.reduceNeg, Int.reduceLE, Int.reduceLT, Int.reduceEq, Int.reduceNe, Int.reduceToNat, reduceIte, szT, szlT, l1, c0, hsk, hRk, lR, z3]) <;> rfl))) hn (by rw [List.length_map]; omega)
      refine ⟨_, asg_nm, _, _, .inl (sq s1 (sq s2 s3)), .st (.st (.st hk (by decide)) (by decide)) (by decide), ?_, ?_⟩
      · show (((δ1.set 6 (vl (kd2 t))).set 7 (vl (wD w))).set 3 (ow (u1 ++ [itD t w])))[3]? = some (ow (u1 ++ [itD t w]))
        generalize u1 ++ [itD t w] = UI at *
        generalize kd2 t = KT at *
        generalize wD w = WD at *
        simp only [DLS, Int.cast_ofNat_Int, Nat.reduceAdd, Nat.reduceLeDiff, Nat.reduceEqDiff, Nat.reduceSub, Nat.reduceMul, Nat.reduceBEq, Nat.reduceLT, Int.reduceAdd, Int.reduceSub, Int.reduceMul, Int.reduceNeg, Int.reduceLE, Int.reduceLT, Int.reduceEq, Int.reduceNe, Int.reduceToNat, reduceIte, szT, szlT, l1]
      · rw [← hEX, set_last]
        show _ = η3 ++ [O.lst ((M1 ++ [(⟨rings.length, t, w⟩ : Mn)]).map mnD)]
        rw [List.map_append]; rfl
  subst he
  rw [List.take_length] at h3
  obtain ⟨_, lenM, _, X, hX⟩ := sayF_fact (gs := gs) (rs := rs) (rings := rings ++ [ring]) (M := M) (now := rings.length) N ts
  rw [List.take_length] at *
  generalize sayF gs rs (rings ++ [ring]) rings.length M ts = P at *
  obtain ⟨M2, u2⟩ := P
  dsimp only at h3 lenM hX ⊢
  have l6 : δ6.length = 10 := kp.1
  have d0 : δ6[0]? = some (vl (.obj sp)) := kp.2 0 (by decide)
  have d4 : δ6[4]? = some (vl (.obj η3.length)) := kp.2 4 (by decide)
  have d5 : δ6[5]? = some (vl (.int (M.length : Nat))) := kp.2 5 (by decide)
  refine run_rt2 (δ := [vl (.obj sp), vl d, vl (.int ring), none, none, none, none, none, none, none]) rfl ?_
  have hw6 : (fiA (fCall 1 mp (fCons (fV 1) fNil))) [vl (.obj sp), vl d, vl (.int ring), ow [], vl (.obj η3.length), vl (.int (M.length : Nat)), none, none, none, none] (η3 ++ [.lst (M.map mnD)]) = .ok (ts.map kd2) (η3 ++ [.lst (M.map mnD)]) := fiA_of (d := lineD ts) (η1 := η3 ++ [.lst (M.map mnD)]) (by
    generalize η3 ++ [O.lst (M.map mnD)] = EX at *
    generalize lineD ts = LT at *
    exact (by (try simp only [DLS, Int.cast_ofNat_Int, Nat.reduceAdd, Nat.reduceLeDiff, Nat.reduceEqDiff, Nat.reduceSub, Nat.reduceMul, Nat.reduceBEq, Nat.reduceLT, Int.reduceAdd, Int.reduceSub, Int.reduceMul, Int.reduceNeg, Int.reduceLE, Int.reduceLT, Int.reduceEq, Int.reduceNe, Int.reduceToNat, reduceIte, szT, szlT, hwk]) <;> rfl)) rfl
  refine sq b1 (sq b2 (sq b3 (sq b4 (sq b5 (sq (for_of hw6 el) (frz_of h3 ?_))))))
  have hn : (η3 ++ [O.lst (M2.map mnD)])[η3.length]? = some (.lst (M2.map mnD)) := get_last
  have hs6 := keep (M2.map mnD) _ _ (Ne.symm nRs) hs
  have hT6 := keep (M2.map mnD) _ _ K.TR K.hT
  generalize η3 ++ [O.lst (M2.map mnD)] = EX at *
  have dn := dr_obj hn
  have cd : slD (.lst (M2.map mnD)) (some (M.length : Int)) none = some (.lst ((M2.drop M.length).map mnD)) := by
    rw [slD_l, cut_drop (by rw [List.length_map]; omega), List.map_drop]
  have s7 : PY7z1 (δ6.set 3 (vl (.lst u2))) EX = .nx (δ6.set 3 (vl (.lst u2))) (EX.set T (.lst (tl.map msD ++ [msD (M2.drop M.length)]))) := appO_of (n := T) (η1 := EX) (by (try simp only [DLS, Int.cast_ofNat_Int, Nat.reduceAdd, Nat.reduceLeDiff, Nat.reduceEqDiff, Nat.reduceSub, Nat.reduceMul, Nat.reduceBEq, Nat.reduceLT, Int.reduceAdd, Int.reduceSub, Int.reduceMul, Int.reduceNeg, Int.reduceLE, Int.reduceLT, Int.reduceEq, Int.reduceNe, Int.reduceToNat, reduceIte, szT, szlT, d0, hs6]) <;> rfl) hT6 (args1 (by
    show _ = DL.R.ok (D.lst ((M2.drop M.length).map mnD)) EX
    generalize (M2.drop M.length).map mnD = MD at *
    generalize M2.map mnD = MM at *
    exact (by (try simp only [DLS, Int.cast_ofNat_Int, Nat.reduceAdd, Nat.reduceLeDiff, Nat.reduceEqDiff, Nat.reduceSub, Nat.reduceMul, Nat.reduceBEq, Nat.reduceLT, Int.reduceAdd, Int.reduceSub, Int.reduceMul, Int.reduceNeg, Int.reduceLE, Int.reduceLT, Int.reduceEq, Int.reduceNe, Int.reduceToNat, reduceIte, szT, szlT, fSlL_a, d4, d5, dn, cd]) <;> rfl))) hT6 (by rw [List.length_map]; omega)
  exact sq s7 (ret_of (by (try simp only [DLS, Int.cast_ofNat_Int, Nat.reduceAdd, Nat.reduceLeDiff, Nat.reduceEqDiff, Nat.reduceSub, Nat.reduceMul, Nat.reduceBEq, Nat.reduceLT, Int.reduceAdd, Int.reduceSub, Int.reduceMul, Int.reduceNeg, Int.reduceLE, Int.reduceLT, Int.reduceEq, Int.reduceNe, Int.reduceToNat, reduceIte, szT, szlT, l6]) <;> rfl))
theorem say_ok (K : Spk η sp gd T R b gs ks rs m tl rings) (Bd : RowsOk (ks.map (·.1)) rs) (G : GsOk (rs.map (·.n)) gs) {d : D} (hd : seqOf d = some (ts.map kd2)) (hw : walkD d = some (ts.map kd2)) (ok : ∀ t ∈ ts, t.1 ∈ ks.map (·.1) ∧ 0 ≤ t.2) (l12 : ts.length ≤ 12) (h01 : ring = 0 ∨ ring = 1) (N : Nf tl.flatten rings.length)
    (hz : tl.flatten.length ≤ 900) (hr : rings.length ≤ 900) (ht : tl.length ≤ 900) :
    m_Speaker_say [.obj sp, d, .int ring] η = .ok (.lst (sayF gs rs (rings ++ [ring]) rings.length tl.flatten ts).2) (((η.set R (.lst ((rings ++ [ring]).map .int))) ++ [O.lst ((sayF gs rs (rings ++ [ring]) rings.length tl.flatten ts).1.map mnD)]).set T (.lst (tl.map msD ++ [msD ((sayF gs rs (rings ++ [ring]) rings.length tl.flatten ts).1.drop tl.flatten.length)]))) := by
  have hc := check_things_ok K.hb hd
  rw [good_of (by omega) ok] at hc
  exact say_gen (mc := m_check_things) (mp := m_plain_things) K Bd G hc (plain_ok hw) ok l12 h01 N hz hr ht
end
end DL
namespace DL
open PySem L2 PL
/-! ### the law's own guide -/
structure Gp where
  k : Nat
  M : List Mn
  us : List (List D)
def gdStep (gs : List Gr) (rs : List Row) (bells : List Int) (p : Gp) (ts : List Thing) : Gp := ⟨p.k + 1, (sayF gs rs (bells.take (p.k + 1)) p.k p.M ts).1, p.us ++ [(sayF gs rs (bells.take (p.k + 1)) p.k p.M ts).2]⟩
def gdF (gs : List Gr) (rs : List Row) (bells : List Int) (ls : List (List Thing)) : Gp := ls.foldl (gdStep gs rs bells) ⟨0, [], []⟩
section
variable {η : List O} {δ : En} {sp gd T R n b hM hR : Nat} {gs : List Gr} {ks : List (Str × Int)} {rs : List Row} {m : D} {M A B : List Mn} {rings bells : List Int} {now : Nat} {t : Thing} {ts : List Thing} {tl : List (List Mn)} {ls : List (List Thing)} {ring : Int}
theorem gdF_take {k : Nat} (h : ls[k]? = some ts) : gdF gs rs bells (ls.take (k + 1)) = gdStep gs rs bells (gdF gs rs bells (ls.take k)) ts := by
  unfold gdF
  rw [List.take_add_one, h]
  simp only [Option.toList, List.foldl_append, List.foldl_cons, List.foldl_nil]
theorem gdF_fact (ls : List (List Thing)) (h5 : ∀ l ∈ ls, l.length ≤ 12) : (gdF gs rs bells ls).k = ls.length ∧ (gdF gs rs bells ls).us.length = ls.length ∧ (∀ now, ls.length ≤ now + 1 → Nf (gdF gs rs bells ls).M now) ∧ (gdF gs rs bells ls).M.length ≤ 12 * ls.length := by
  have go : ∀ n, n ≤ ls.length → (gdF gs rs bells (ls.take n)).k = n ∧ (gdF gs rs bells (ls.take n)).us.length = n ∧ (∀ now, n ≤ now + 1 → Nf (gdF gs rs bells (ls.take n)).M now) ∧ (gdF gs rs bells (ls.take n)).M.length ≤ 12 * n := fun n => by
    induction n with
    | zero => intro _; exact ⟨rfl, rfl, fun _ _ => ⟨fun x hx => absurd hx (by simp [gdF]), fun x hx => absurd hx (by simp [gdF])⟩, Nat.le_refl _⟩
    | succ n ih =>
      intro hn
      obtain ⟨a, b, c, d⟩ := ih (by omega)
      have e : ls[n]? = some ls[n] := List.getElem?_eq_getElem (by omega)
      have h5 := h5 _ (List.mem_of_getElem? e)
      rw [gdF_take e]
      generalize ls[n] = ts at *
      generalize gdF gs rs bells (ls.take n) = P at *
      unfold gdStep
      dsimp only
      rw [a]
      obtain ⟨n1, n2, n3, _⟩ := sayF_fact (gs := gs) (rs := rs) (rings := bells.take (n + 1)) (c n (by omega)) ts
      refine ⟨rfl, by rw [List.length_append, b]; rfl, fun now hnow => n1.late (by omega), by rw [n2]; omega⟩
  have := go ls.length (Nat.le_refl _)
  rwa [List.take_length] at this
end
end DL
namespace DL
open PySem L2 PL
/-! ### a talk told -/
theorem comp_i {α : Type} {t : Tg} {ft : F Bool} {fe : F D} {δw : En} {enc : α → D} {g : Nat → D} (I : Nat → List O → Prop) : ∀ (xs : List α) (k : Nat) {η : List O}, I k η →
    (∀ j x η1, xs[j]? = some x → I (k + j) η1 → ∃ δ1, asg t (enc x) δw = some δ1 ∧ ft δ1 η1 = .ok true η1 ∧ ∃ η2, fe δ1 η1 = .ok (g (k + j)) η2 ∧ I (k + j + 1) η2) → ∃ η', compF t ft fe δw (xs.map enc) η = .ok ((List.range' k xs.length).map g) η' ∧ I (k + xs.length) η'
  | [], k, η, h, _ => ⟨η, rfl, h⟩
  | x :: r, k, η, h, hs => by
    obtain ⟨δ1, e1, e2, η1, e3, s1⟩ := hs 0 x η rfl h
    obtain ⟨η2, e4, s2⟩ := comp_i I r (k + 1) s1 fun j z η1 hz hi => by
      have := hs (j + 1) z η1 hz (by rw [show k + (j + 1) = k + 1 + j by omega]; exact hi)
      rw [show k + (j + 1) = k + 1 + j by omega] at this
      exact this
    refine ⟨η2, ?_, by rw [List.length_cons, show k + (r.length + 1) = k + 1 + r.length by omega]; exact s2⟩
    rw [List.map_cons, compF, e1]
    simp only [e2, e3, e4, nox_ok, bind_ok, if_true, List.length_cons, List.range'_succ, List.map_cons, Nat.add_zero]
section
variable {η : List O} {δ : En} {sp gd T R n b b2 tk n0 : Nat} {gs : List Gr} {ks : List (Str × Int)} {rs : List Row} {m : D} {bells : List Int} {ts : List Thing} {tl : List (List Mn)} {ls : List (List Thing)} {ring : Int}
def usK (gs : List Gr) (rs : List Row) (bells : List Int) (ls : List (List Thing)) (k : Nat) : List D := (sayF gs rs (bells.take (k + 1)) k (gdF gs rs bells (ls.take k)).M (ls.getD k [])).2
theorem gdF_us (h5 : ∀ l ∈ ls, l.length ≤ 12) : ∀ n, n ≤ ls.length → (gdF gs rs bells (ls.take n)).us = (List.range' 0 n).map (usK gs rs bells ls)
  | 0, _ => rfl
  | n + 1, h => by
    have e : ls[n]? = some ls[n] := List.getElem?_eq_getElem (by omega)
    have ih := gdF_us h5 n (by omega)
    have f1 := (gdF_fact (gs := gs) (rs := rs) (bells := bells) (ls.take n) fun l h => h5 l (List.mem_of_mem_take h)).1
    rw [List.length_take, Nat.min_eq_left (by omega)] at f1
    rw [gdF_take e, List.range'_concat, List.map_append, ← ih]
    unfold gdStep usK
    dsimp only
    rw [f1, List.map_cons, List.map_nil, show 0 + 1 * n = n by omega, List.getD_eq_getElem?_getD, e]
    rfl
def pzD (p : List Thing × Int) : D := .tup [lineD p.1, .int p.2]
theorem tells (K : Spk η sp gd T R b gs ks rs m [] []) (Bd : RowsOk (ks.map (·.1)) rs) (G : GsOk (rs.map (·.n)) gs) (l8 : ls.length ≤ 40) (h5 : ∀ l ∈ ls, GoodL ks 12 l) (lb : bells.length = ls.length) (h01 : ∀ x ∈ bells, x = 0 ∨ x = 1)
    (hT : n0 ≤ T) (hR : n0 ≤ R) {δw : En} (hl : δw.length = 8) (d6 : δw[6]? = some (vl (.obj sp))) :
    ∃ η', compF (.tp [(.nm 7), (.nm 5)]) fYes (fMeth 4 ["own_guide", "own_told", "own_rings"] 3 0 3 m_Speaker_say [0, 1, 2] [] (fV 6) (fCons (fV 7) (fCons (fV 5) fNil)) fNil) δw ((ls.zip bells).map pzD) η = .ok ((gdF gs rs bells ls).us.map .lst) η' ∧ (∀ (i : Nat) (o : O), i < n0 → η[i]? = some o → η'[i]? = some o) ∧ η.length ≤ η'.length := by
  have h5' : ∀ l ∈ ls, l.length ≤ 12 := fun l h => (h5 l h).1
  have := comp_i (t := (.tp [(.nm 7), (.nm 5)])) (ft := fYes) (fe := (fMeth 4 ["own_guide", "own_told", "own_rings"] 3 0 3 m_Speaker_say [0, 1, 2] [] (fV 6) (fCons (fV 7) (fCons (fV 5) fNil)) fNil)) (δw := δw) (enc := pzD) (g := fun k => .lst (usK gs rs bells ls k)) (fun k η1 => ∃ tl, Spk η1 sp gd T R b gs ks rs m tl (bells.take k) ∧ tl.flatten = (gdF gs rs bells (ls.take k)).M ∧ tl.length = k ∧ (∀ i o, i < n0 → η[i]? = some o → η1[i]? = some o) ∧ η.length ≤ η1.length) (ls.zip bells) 0 (η := η) ⟨[], K, rfl, rfl, fun _ _ _ h => h, Nat.le_refl _⟩ fun j x η1 hx ⟨tl, K1, hf, hlen, keep, hle⟩ => by
    rw [Nat.zero_add] at *
    obtain ⟨ts, ring⟩ := x
    obtain ⟨hts, hring⟩ := List.getElem?_zip_eq_some.mp hx
    dsimp only at hts hring
    have hj : j < ls.length := (List.getElem?_eq_some_iff.mp hts).1
    have hg := h5 _ (List.mem_of_getElem? hts)
    obtain ⟨f1, f2, f3, f4⟩ := gdF_fact (gs := gs) (rs := rs) (bells := bells) (ls.take j) fun l h => h5' l (List.mem_of_mem_take h)
    rw [List.length_take, Nat.min_eq_left (by omega)] at f1 f2 f3 f4
    have lr : (bells.take j).length = j := by rw [List.length_take]; omega
    have tk : bells.take j ++ [ring] = bells.take (j + 1) := by rw [List.take_add_one, hring]; rfl
    have N : Nf tl.flatten (bells.take j).length := by rw [hf, lr]; exact f3 j (by omega)
    have es := say_ok (ts := ts) (ring := ring) K1 Bd G (d := lineD ts) rfl rfl hg.2 (by have := hg.1; omega) (h01 _ (List.mem_of_getElem? hring)) N (by rw [hf]; omega) (by omega) (by omega)
    have hu : usK gs rs bells ls j = (sayF gs rs (bells.take j ++ [ring]) (bells.take j).length tl.flatten ts).2 := by
      unfold usK
      rw [tk, lr, hf, List.getD_eq_getElem?_getD, hts]; rfl
    obtain ⟨_, lenM, _, X, hX⟩ := sayF_fact (gs := gs) (rs := rs) (rings := bells.take j ++ [ring]) (M := tl.flatten) (now := (bells.take j).length) N ts
    have hM2 : (gdF gs rs bells (ls.take (j + 1))).M = (sayF gs rs (bells.take j ++ [ring]) (bells.take j).length tl.flatten ts).1 := by
      rw [gdF_take hts]
      unfold gdStep
      dsimp only
      rw [f1, tk, lr, hf]
    rw [← hu] at es
    generalize (sayF gs rs (bells.take j ++ [ring]) (bells.take j).length tl.flatten ts).1 = M2 at *
    have hsp : η1[sp]? = some (.ins 4 NSS [.obj gd, .obj T, .obj R]) := K1.hs
    have nRs : R ≠ sp := fun e => by have := K1.hR; rw [e, hsp] at this; cases this
    have nRg : R ≠ gd := fun e => by have := K1.hR; rw [e, K1.hg] at this; cases this
    have nRb : R ≠ b := fun e => by have := K1.hR; rw [e, K1.hb] at this; cases this
    have nTs : T ≠ sp := fun e => by have := K1.hT; rw [e, hsp] at this; cases this
    have nTg : T ≠ gd := fun e => by have := K1.hT; rw [e, K1.hg] at this; cases this
    have nTb : T ≠ b := fun e => by have := K1.hT; rw [e, K1.hb] at this; cases this
    have ltR := (List.getElem?_eq_some_iff.mp K1.hR).1
    have ltT := (List.getElem?_eq_some_iff.mp K1.hT).1
    have kp : ∀ i o, i ≠ R → i ≠ T → η1[i]? = some o → (((η1.set R (.lst ((bells.take j ++ [ring]).map .int))) ++ [O.lst (M2.map mnD)]).set T (.lst (tl.map msD ++ [msD (M2.drop tl.flatten.length)])))[i]? = some o := fun i o h1 h2 h => by
      rw [List.getElem?_set_ne (Ne.symm h2), List.getElem?_append_left (by rw [List.length_set]; exact (List.getElem?_eq_some_iff.mp h).1), List.getElem?_set_ne (Ne.symm h1)]; exact h
    have as : asg (.tp [.nm 7, .nm 5]) (pzD (ts, ring)) δw = some ((δw.set 7 (vl (lineD ts))).set 5 (vl (.int ring))) := by
      show asg _ (D.tup [lineD ts, .int ring]) _ = _
      rw [asg_tp, asgs_cons, asg_nm]; rfl
    refine ⟨_, as, rfl, _, ?_, tl ++ [M2.drop tl.flatten.length], ⟨kp _ _ (Ne.symm nRs) (Ne.symm nTs) K1.hs, kp _ _ (Ne.symm nRg) (Ne.symm nTg) K1.hg, kp _ _ (Ne.symm nRb) (Ne.symm nTb) K1.hb, ?_, ?_, K1.TR⟩, ?_, ?_, ?_, ?_⟩
    · generalize (((η1.set R (.lst ((bells.take j ++ [ring]).map .int))) ++ [O.lst (M2.map mnD)]).set T (.lst (tl.map msD ++ [msD (M2.drop tl.flatten.length)]))) = EX at *
      generalize lineD ts = LT at *
      exact (by (try simp only [DLS, Int.cast_ofNat_Int, Nat.reduceAdd, Nat.reduceLeDiff, Nat.reduceEqDiff, Nat.reduceSub, Nat.reduceMul, Nat.reduceBEq, Nat.reduceLT, Int.reduceAdd, Int.reduceSub, Int.reduceMul, Int.reduceNeg, Int.reduceLE, Int.reduceLT, Int.reduceEq, Int.reduceNe, Int.reduceToNat, reduceIte, szT, szlT, hl, d6, hsp, es]) <;> rfl)
    · rw [List.getElem?_set_self (by rw [List.length_append, List.length_set]; omega), List.map_append]; rfl
    · rw [List.getElem?_set_ne K1.TR, List.getElem?_append_left (by rw [List.length_set]; exact ltR), List.getElem?_set_self ltR, tk]
    · rw [List.flatten_append, List.flatten_singleton, hM2, hX, List.drop_left]
    · rw [List.length_append, hlen]; rfl
    · intro i o hi ho
      exact kp i o (by omega) (by omega) (keep i o hi ho)
    · rw [List.length_set, List.length_append, List.length_set]; omega
  obtain ⟨η', e, tl, _, _, _, keep, hle⟩ := this
  refine ⟨η', ?_, keep, hle⟩
  have lz : (ls.zip bells).length = ls.length := by rw [List.length_zip, lb, Nat.min_self]
  have hus := gdF_us (gs := gs) (rs := rs) (bells := bells) h5' ls.length (Nat.le_refl _)
  rw [List.take_length] at hus
  rw [e, lz, hus, List.map_map]
  rfl
theorem mul_zero {k : Nat} (h : k ≤ 1000) : mulLD (.lst [.int 0]) (.int (k : Nat)) = some (.lst ((List.replicate k (0 : Int)).map .int)) := by
  have er : (List.replicate k [D.int 0]).flatten = (List.replicate k (0 : Int)).map .int := by
    induction k with
    | zero => rfl
    | succ n ih => rw [List.replicate_succ, List.flatten_cons, List.replicate_succ, List.map_cons, ih (by omega)]; rfl
  have rb : repB 1 (k : Int) = true := rep_ok k (by omega)
  rw [← er, mulLD_l, List.length_singleton, if_pos rb, Int.toNat_natCast]
/-- what tell gives -/
inductive Bells (n : Nat) : List Int → D → Prop
  | l (bs) : Bells n bs (.lst (bs.map .int))
  | t (bs) : Bells n bs (.tup (bs.map .int))
  | z : Bells n (List.replicate n 0) .non
end
end DL
namespace Law
open PySem L2 DL
structure Tbs (base : Heap) (mg : Str → Option Value) (ca : Nat → Addr) (tb : Str → Addr) : Prop where
  u_law : LamX.TabB base mg (ca 0) (tb "law.<locals>.<lambda>")
def top (i : Nat) : Stmt := PySem.Challenge.pw_lastheard_k04_prices_and_words_for_sorts.main.body.getD i (.Pass ⟨0, 0, 0, 0⟩)
abbrev s_law_feed : Stmt := top 19
theorem sc_law_feed : FnScope ["_law_script", "_law_seed", "_law_cell"] ["_law_script"] (defScope s_law_feed) := ⟨rfl, rfl, rfl, by decide +kernel, rfl, by decide +kernel, by decide +kernel⟩
abbrev s_law_pick : Stmt := top 20
theorem sc_law_pick : FnScope ["_law_feed_here", "_law_many", "_law_cell", "_law_digit", "_law_root", "_law_big"] ["_law_feed_here", "_law_many"] (defScope s_law_pick) := ⟨rfl, rfl, rfl, by decide +kernel, rfl, by decide +kernel, by decide +kernel⟩
abbrev s_law_mixed : Stmt := top 24
theorem sc_law_mixed : FnScope ["_law_feed_here", "_law_some", "_law_found", "_law_one"] ["_law_feed_here", "_law_some"] (defScope s_law_mixed) := ⟨rfl, rfl, rfl, by decide +kernel, rfl, by decide +kernel, by decide +kernel⟩
abbrev s_law_of : Stmt := top 21
theorem sc_law_of : FnScope ["_law_feed_here", "_law_some"] ["_law_feed_here", "_law_some"] (defScope s_law_of) := ⟨rfl, rfl, rfl, by decide +kernel, rfl, by decide +kernel, by decide +kernel⟩
abbrev s_law_names : Stmt := top 25
theorem sc_law_names : FnScope ["_law_feed_here", "_law_many", "_law_letters", "_law_stem", "_law_spot", "_law_sign", "_law_k"] ["_law_feed_here", "_law_many"] (defScope s_law_names) := ⟨rfl, rfl, rfl, by decide +kernel, rfl, by decide +kernel, by decide +kernel⟩
abbrev s_law_book : Stmt := top 26
theorem sc_law_book : FnScope ["_law_feed_here", "_law_names_here", "_law_most", "_law_kinds", "_law_rows", "_law_name", "_law_stands_here", "_law_kind"] ["_law_feed_here", "_law_names_here", "_law_most"] (defScope s_law_book) := ⟨rfl, rfl, rfl, by decide +kernel, rfl, by decide +kernel, by decide +kernel⟩
abbrev s_is_name : Stmt := top 15
theorem sc_is_name : FnScope ["text", "sign"] ["text"] (defScope s_is_name) := ⟨rfl, rfl, rfl, by decide +kernel, rfl, by decide +kernel, by decide +kernel⟩
abbrev s_is_word_row : Stmt := top 16
theorem sc_is_word_row : FnScope ["row", "sort_names", "earlier", "name", "stands", "price", "sort"] ["row", "sort_names", "earlier"] (defScope s_is_word_row) := ⟨rfl, rfl, rfl, by decide +kernel, rfl, by decide +kernel, by decide +kernel⟩
abbrev s_Book___init__ : Stmt := inClass (top 17) 3
theorem sc_Book___init__ : FnScope ["self", "sorts", "words", "memory", "names", "at", "name", "price", "earlier", "row", "stands", "sort"] ["self", "sorts", "words", "memory"] (defScope s_Book___init__) := ⟨rfl, rfl, rfl, by decide +kernel, rfl, by decide +kernel, by decide +kernel⟩
abbrev s_law_made : Stmt := top 27
theorem sc_law_made : FnScope ["_law_b"] ["_law_b"] (defScope s_law_made) := ⟨rfl, rfl, rfl, by decide +kernel, rfl, by decide +kernel, by decide +kernel⟩
abbrev s_law_field : Stmt := top 22
theorem sc_law_field : FnScope ["_law_e"] ["_law_e"] (defScope s_law_field) := ⟨rfl, rfl, rfl, by decide +kernel, rfl, by decide +kernel, by decide +kernel⟩
abbrev s_law_why : Stmt := top 23
theorem sc_law_why : FnScope ["_law_deed", "_law_told", "_law_e"] ["_law_deed"] (defScope s_law_why) := ⟨rfl, rfl, rfl, by decide +kernel, rfl, by decide +kernel, by decide +kernel⟩
abbrev s_Book_name_price : Stmt := inClass (top 17) 10
theorem sc_Book_name_price : FnScope ["self", "sort", "name", "price"] ["self", "sort"] (defScope s_Book_name_price) := ⟨rfl, rfl, rfl, by decide +kernel, rfl, by decide +kernel, by decide +kernel⟩
abbrev s_Book_words_for : Stmt := inClass (top 17) 13
theorem sc_Book_words_for : FnScope ["self", "sort", "rows", "at", "name", "stands", "price"] ["self", "sort"] (defScope s_Book_words_for) := ⟨rfl, rfl, rfl, by decide +kernel, rfl, by decide +kernel, by decide +kernel⟩
abbrev s_law_price : Stmt := top 29
theorem sc_law_price : FnScope ["_law_b", "_law_item", "_law_name", "_law_price_here", "_law_stands_here"] ["_law_b", "_law_item"] (defScope s_law_price) := ⟨rfl, rfl, rfl, by decide +kernel, rfl, by decide +kernel, by decide +kernel⟩
abbrev s_Book_word_row : Stmt := inClass (top 17) 9
theorem sc_Book_word_row : FnScope ["self", "word", "row"] ["self", "word"] (defScope s_Book_word_row) := ⟨rfl, rfl, rfl, by decide +kernel, rfl, by decide +kernel, by decide +kernel⟩
abbrev s_Book_word_price : Stmt := inClass (top 17) 11
theorem sc_Book_word_price : FnScope ["self", "word"] ["self", "word"] (defScope s_Book_word_price) := ⟨rfl, rfl, rfl, by decide +kernel, rfl, by decide +kernel, by decide +kernel⟩
abbrev s_law_stands : Stmt := top 28
theorem sc_law_stands : FnScope ["_law_b", "_law_token", "_law_name", "_law_stands_here", "_law_price_here"] ["_law_b", "_law_token"] (defScope s_law_stands) := ⟨rfl, rfl, rfl, by decide +kernel, rfl, by decide +kernel, by decide +kernel⟩
abbrev s_Book_can_stand : Stmt := inClass (top 17) 12
theorem sc_Book_can_stand : FnScope ["self", "word", "sort", "stands"] ["self", "word", "sort"] (defScope s_Book_can_stand) := ⟨rfl, rfl, rfl, by decide +kernel, rfl, by decide +kernel, by decide +kernel⟩
abbrev s_law : Stmt := top 30
theorem sc_law : FnScope ["_law_script", "_law_feed_here", "_law_turn", "_law_labels", "_law_b", "_law_made_here", "_law_known", "_law_tokens", "_law_name", "_law_due", "_law_order", "_law_late", "_law_price_here", "_law_stands_here", "_law_k"] ["_law_script"] (defScope s_law) := ⟨rfl, rfl, rfl, by decide +kernel, rfl, by decide +kernel, by decide +kernel⟩
abbrev sx_WrongCount : Stmt := inClass (top 4) 0
abbrev sx_InvalidSort : Stmt := inClass (top 5) 0
abbrev sx_InvalidWord : Stmt := inClass (top 6) 0
abbrev sx_InvalidMemory : Stmt := inClass (top 7) 0
abbrev sx_UnknownSort : Stmt := inClass (top 8) 0
abbrev sx_UnknownWord : Stmt := inClass (top 9) 0
structure Txt (P : Program) (K : PySem.W.Frag) (mg : Str → Option Value) (a : Nat → Addr) (fd : Nat → FuncData) (cl : Nat → Addr) (ca : Nat → Addr) : Prop where
  f_TellError : mg "TellError" = some (.ref (cl 46))
  f_Missing : mg "Missing" = some (.ref (cl 47))
  f_NothingLeft : mg "NothingLeft" = some (.ref (cl 45))
  x_WrongCount : ExR P K mg (cl 20) "WrongCount" ["what"]
  x_InvalidSort : ExR P K mg (cl 21) "InvalidSort" ["at"]
  x_InvalidWord : ExR P K mg (cl 22) "InvalidWord" ["at"]
  x_InvalidMemory : ExR P K mg (cl 23) "InvalidMemory" ["given"]
  x_UnknownSort : ExR P K mg (cl 40) "UnknownSort" ["name"]
  x_UnknownWord : ExR P K mg (cl 41) "UnknownWord" ["name"]
  xg_InvalidMemory_code : XGet K (cl 23) "code"
  xg_InvalidMemory_given : XGet K (cl 23) "given"
  xg_InvalidSort_at : XGet K (cl 21) "at"
  xg_InvalidSort_code : XGet K (cl 21) "code"
  xg_InvalidWord_at : XGet K (cl 22) "at"
  xg_InvalidWord_code : XGet K (cl 22) "code"
  xg_UnknownSort_code : XGet K (cl 40) "code"
  xg_UnknownSort_name : XGet K (cl 40) "name"
  xg_UnknownWord_code : XGet K (cl 41) "code"
  xg_UnknownWord_name : XGet K (cl 41) "name"
  xg_WrongCount_code : XGet K (cl 20) "code"
  xg_WrongCount_what : XGet K (cl 20) "what"
  xm_WrongCount : PySem.W.exmAny K (.ref (cl 20)) [.ref (cl 46), .ref (cl 47), .ref (cl 45)] = some true
  xm_InvalidSort : PySem.W.exmAny K (.ref (cl 21)) [.ref (cl 46), .ref (cl 47), .ref (cl 45)] = some true
  xm_InvalidWord : PySem.W.exmAny K (.ref (cl 22)) [.ref (cl 46), .ref (cl 47), .ref (cl 45)] = some true
  xm_InvalidMemory : PySem.W.exmAny K (.ref (cl 23)) [.ref (cl 46), .ref (cl 47), .ref (cl 45)] = some true
  xm_UnknownSort : PySem.W.exmAny K (.ref (cl 40)) [.ref (cl 46), .ref (cl 47), .ref (cl 45)] = some true
  xm_UnknownWord : PySem.W.exmAny K (.ref (cl 41)) [.ref (cl 46), .ref (cl 47), .ref (cl 45)] = some true
  b_all : mg "all" = none
  b_dict : mg "dict" = none
  b_enumerate : mg "enumerate" = none
  b_int : mg "int" = none
  b_isinstance : mg "isinstance" = none
  b_len : mg "len" = none
  b_list : mg "list" = none
  b_range : mg "range" = none
  b_set : mg "set" = none
  b_sorted : mg "sorted" = none
  b_str : mg "str" = none
  b_tuple : mg "tuple" = none
  e_LETTERS : ∃ t : Tok, mg "LETTERS" = some (.str "abcdefghijklmnopqrstuvwxyz" t)
  e_MOST_SIGNS : ∃ t : Tok, mg "MOST_SIGNS" = some (.int 8 t)
  e_MOST_MEMORY : ∃ t : Tok, mg "MOST_MEMORY" = some (.int 4 t)
  g_Book : mg "Book" = some (.ref (cl 0))
  c_Book : Cls K (cl 0)
  M_Book : Mk K (cl 0) (a 8)
  r_Book : ClX.CRead K (cl 0) (.type "type")
  n_Book_own_memory : NoAttr K (cl 0) "own_memory"
  n_Book_sort_rows : NoAttr K (cl 0) "sort_rows"
  n_Book_word_rows : NoAttr K (cl 0) "word_rows"
  v_Book_MOST_PRICE : ∃ t : Tok, ClX.CVal K (cl 0) (.type "type") "MOST_PRICE" (.int 99) (.int 99 t)
  v_Book_MOST_SORTS : ∃ t : Tok, ClX.CVal K (cl 0) (.type "type") "MOST_SORTS" (.int 4) (.int 4 t)
  v_Book_MOST_WORDS : ∃ t : Tok, ClX.CVal K (cl 0) (.type "type") "MOST_WORDS" (.int 4) (.int 4 t)
  f_law_feed : mg "_law_feed" = some (.ref (a 0))
  F_law_feed : FunG K "_law_feed" "_law_feed" s_law_feed (a 0) (fd 0)
  B_law_feed : Binds K (fd 0) ["_law_script"] []
  f_law_pick : mg "_law_pick" = some (.ref (a 1))
  F_law_pick : FunG K "_law_pick" "_law_pick" s_law_pick (a 1) (fd 1)
  B_law_pick : Binds K (fd 1) ["_law_feed_here", "_law_many"] []
  f_law_mixed : mg "_law_mixed" = some (.ref (a 2))
  F_law_mixed : FunG K "_law_mixed" "_law_mixed" s_law_mixed (a 2) (fd 2)
  B_law_mixed : Binds K (fd 2) ["_law_feed_here", "_law_some"] []
  f_law_of : mg "_law_of" = some (.ref (a 3))
  F_law_of : FunG K "_law_of" "_law_of" s_law_of (a 3) (fd 3)
  B_law_of : Binds K (fd 3) ["_law_feed_here", "_law_some"] []
  f_law_names : mg "_law_names" = some (.ref (a 4))
  F_law_names : FunG K "_law_names" "_law_names" s_law_names (a 4) (fd 4)
  B_law_names : Binds K (fd 4) ["_law_feed_here", "_law_many"] []
  f_law_book : mg "_law_book" = some (.ref (a 5))
  F_law_book : FunG K "_law_book" "_law_book" s_law_book (a 5) (fd 5)
  B_law_book : Binds K (fd 5) ["_law_feed_here", "_law_names_here", "_law_most"] []
  f_is_name : mg "is_name" = some (.ref (a 6))
  F_is_name : FunG K "is_name" "is_name" s_is_name (a 6) (fd 6)
  B_is_name : Binds K (fd 6) ["text"] []
  f_is_word_row : mg "is_word_row" = some (.ref (a 7))
  F_is_word_row : FunG K "is_word_row" "is_word_row" s_is_word_row (a 7) (fd 7)
  B_is_word_row : Binds K (fd 7) ["row", "sort_names", "earlier"] []
  m_Book___init__ : Meth K (cl 0) "__init__" (a 8)
  F_Book___init__ : FunG K "__init__" "Book.__init__" s_Book___init__ (a 8) (fd 8)
  f_law_made : mg "_law_made" = some (.ref (a 9))
  F_law_made : FunG K "_law_made" "_law_made" s_law_made (a 9) (fd 9)
  B_law_made : Binds K (fd 9) ["_law_b"] []
  f_law_field : mg "_law_field" = some (.ref (a 10))
  F_law_field : FunG K "_law_field" "_law_field" s_law_field (a 10) (fd 10)
  B_law_field : Binds K (fd 10) ["_law_e"] []
  f_law_why : mg "_law_why" = some (.ref (a 11))
  F_law_why : FunG K "_law_why" "_law_why" s_law_why (a 11) (fd 11)
  B_law_why : Binds K (fd 11) ["_law_deed"] []
  m_Book_name_price : Meth K (cl 0) "name_price" (a 12)
  F_Book_name_price : FunG K "name_price" "Book.name_price" s_Book_name_price (a 12) (fd 12)
  B_Book_name_price : Binds K (fd 12) ["self", "sort"] []
  m_Book_words_for : Meth K (cl 0) "words_for" (a 13)
  F_Book_words_for : FunG K "words_for" "Book.words_for" s_Book_words_for (a 13) (fd 13)
  B_Book_words_for : Binds K (fd 13) ["self", "sort"] []
  f_law_price : mg "_law_price" = some (.ref (a 14))
  F_law_price : FunG K "_law_price" "_law_price" s_law_price (a 14) (fd 14)
  B_law_price : Binds K (fd 14) ["_law_b", "_law_item"] []
  m_Book_word_row : Meth K (cl 0) "word_row" (a 15)
  F_Book_word_row : FunG K "word_row" "Book.word_row" s_Book_word_row (a 15) (fd 15)
  B_Book_word_row : Binds K (fd 15) ["self", "word"] []
  m_Book_word_price : Meth K (cl 0) "word_price" (a 16)
  F_Book_word_price : FunG K "word_price" "Book.word_price" s_Book_word_price (a 16) (fd 16)
  B_Book_word_price : Binds K (fd 16) ["self", "word"] []
  f_law_stands : mg "_law_stands" = some (.ref (a 17))
  F_law_stands : FunG K "_law_stands" "_law_stands" s_law_stands (a 17) (fd 17)
  B_law_stands : Binds K (fd 17) ["_law_b", "_law_token"] []
  m_Book_can_stand : Meth K (cl 0) "can_stand" (a 18)
  F_Book_can_stand : FunG K "can_stand" "Book.can_stand" s_Book_can_stand (a 18) (fd 18)
  B_Book_can_stand : Binds K (fd 18) ["self", "word", "sort"] []
  f_law : mg "law" = some (.ref (a 19))
  F_law : FunL K "law" "law" s_law (a 19) (fd 19) (ca 0)
  B_law : Binds K (fd 19) ["_law_script"] []
  D_Book___init___3_memory : KDx K (fd 8) ["self", "sorts", "words", "memory"] 3 ["memory"] [0, 1, 2, 3] []
  D_Book_name_price_2 : KDx K (fd 12) ["self", "sort"] 2 [] [0, 1] []
  D_Book_word_row_2 : KDx K (fd 15) ["self", "word"] 2 [] [0, 1] []
  D_Book_words_for_2 : KDx K (fd 13) ["self", "sort"] 2 [] [0, 1] []
  D_Book_word_price_2 : KDx K (fd 16) ["self", "word"] 2 [] [0, 1] []
  D_Book_can_stand_1_sort_word : KDx K (fd 18) ["self", "word", "sort"] 1 ["sort", "word"] [0, 2, 1] []
theorem Txt.k_law_feed {P : Program} {K : PySem.W.Frag} {mg : Str → Option Value} {a ca : Nat → Addr} {fd : Nat → FuncData} {cl : Nat → Addr} (T : Txt P K mg a fd cl ca) : PySem.W.keepIn K (.ref (a 0)) = true := T.F_law_feed.kp
theorem Txt.k_law_pick {P : Program} {K : PySem.W.Frag} {mg : Str → Option Value} {a ca : Nat → Addr} {fd : Nat → FuncData} {cl : Nat → Addr} (T : Txt P K mg a fd cl ca) : PySem.W.keepIn K (.ref (a 1)) = true := T.F_law_pick.kp
theorem Txt.k_law_mixed {P : Program} {K : PySem.W.Frag} {mg : Str → Option Value} {a ca : Nat → Addr} {fd : Nat → FuncData} {cl : Nat → Addr} (T : Txt P K mg a fd cl ca) : PySem.W.keepIn K (.ref (a 2)) = true := T.F_law_mixed.kp
theorem Txt.k_law_of {P : Program} {K : PySem.W.Frag} {mg : Str → Option Value} {a ca : Nat → Addr} {fd : Nat → FuncData} {cl : Nat → Addr} (T : Txt P K mg a fd cl ca) : PySem.W.keepIn K (.ref (a 3)) = true := T.F_law_of.kp
theorem Txt.k_law_names {P : Program} {K : PySem.W.Frag} {mg : Str → Option Value} {a ca : Nat → Addr} {fd : Nat → FuncData} {cl : Nat → Addr} (T : Txt P K mg a fd cl ca) : PySem.W.keepIn K (.ref (a 4)) = true := T.F_law_names.kp
theorem Txt.k_law_book {P : Program} {K : PySem.W.Frag} {mg : Str → Option Value} {a ca : Nat → Addr} {fd : Nat → FuncData} {cl : Nat → Addr} (T : Txt P K mg a fd cl ca) : PySem.W.keepIn K (.ref (a 5)) = true := T.F_law_book.kp
theorem Txt.k_is_name {P : Program} {K : PySem.W.Frag} {mg : Str → Option Value} {a ca : Nat → Addr} {fd : Nat → FuncData} {cl : Nat → Addr} (T : Txt P K mg a fd cl ca) : PySem.W.keepIn K (.ref (a 6)) = true := T.F_is_name.kp
theorem Txt.k_is_word_row {P : Program} {K : PySem.W.Frag} {mg : Str → Option Value} {a ca : Nat → Addr} {fd : Nat → FuncData} {cl : Nat → Addr} (T : Txt P K mg a fd cl ca) : PySem.W.keepIn K (.ref (a 7)) = true := T.F_is_word_row.kp
theorem Txt.k_Book___init__ {P : Program} {K : PySem.W.Frag} {mg : Str → Option Value} {a ca : Nat → Addr} {fd : Nat → FuncData} {cl : Nat → Addr} (T : Txt P K mg a fd cl ca) : PySem.W.keepIn K (.ref (a 8)) = true := T.F_Book___init__.kp
theorem Txt.k_law_made {P : Program} {K : PySem.W.Frag} {mg : Str → Option Value} {a ca : Nat → Addr} {fd : Nat → FuncData} {cl : Nat → Addr} (T : Txt P K mg a fd cl ca) : PySem.W.keepIn K (.ref (a 9)) = true := T.F_law_made.kp
theorem Txt.k_law_field {P : Program} {K : PySem.W.Frag} {mg : Str → Option Value} {a ca : Nat → Addr} {fd : Nat → FuncData} {cl : Nat → Addr} (T : Txt P K mg a fd cl ca) : PySem.W.keepIn K (.ref (a 10)) = true := T.F_law_field.kp
theorem Txt.k_law_why {P : Program} {K : PySem.W.Frag} {mg : Str → Option Value} {a ca : Nat → Addr} {fd : Nat → FuncData} {cl : Nat → Addr} (T : Txt P K mg a fd cl ca) : PySem.W.keepIn K (.ref (a 11)) = true := T.F_law_why.kp
theorem Txt.k_Book_name_price {P : Program} {K : PySem.W.Frag} {mg : Str → Option Value} {a ca : Nat → Addr} {fd : Nat → FuncData} {cl : Nat → Addr} (T : Txt P K mg a fd cl ca) : PySem.W.keepIn K (.ref (a 12)) = true := T.F_Book_name_price.kp
theorem Txt.k_Book_words_for {P : Program} {K : PySem.W.Frag} {mg : Str → Option Value} {a ca : Nat → Addr} {fd : Nat → FuncData} {cl : Nat → Addr} (T : Txt P K mg a fd cl ca) : PySem.W.keepIn K (.ref (a 13)) = true := T.F_Book_words_for.kp
theorem Txt.k_law_price {P : Program} {K : PySem.W.Frag} {mg : Str → Option Value} {a ca : Nat → Addr} {fd : Nat → FuncData} {cl : Nat → Addr} (T : Txt P K mg a fd cl ca) : PySem.W.keepIn K (.ref (a 14)) = true := T.F_law_price.kp
theorem Txt.k_Book_word_row {P : Program} {K : PySem.W.Frag} {mg : Str → Option Value} {a ca : Nat → Addr} {fd : Nat → FuncData} {cl : Nat → Addr} (T : Txt P K mg a fd cl ca) : PySem.W.keepIn K (.ref (a 15)) = true := T.F_Book_word_row.kp
theorem Txt.k_Book_word_price {P : Program} {K : PySem.W.Frag} {mg : Str → Option Value} {a ca : Nat → Addr} {fd : Nat → FuncData} {cl : Nat → Addr} (T : Txt P K mg a fd cl ca) : PySem.W.keepIn K (.ref (a 16)) = true := T.F_Book_word_price.kp
theorem Txt.k_law_stands {P : Program} {K : PySem.W.Frag} {mg : Str → Option Value} {a ca : Nat → Addr} {fd : Nat → FuncData} {cl : Nat → Addr} (T : Txt P K mg a fd cl ca) : PySem.W.keepIn K (.ref (a 17)) = true := T.F_law_stands.kp
theorem Txt.k_Book_can_stand {P : Program} {K : PySem.W.Frag} {mg : Str → Option Value} {a ca : Nat → Addr} {fd : Nat → FuncData} {cl : Nat → Addr} (T : Txt P K mg a fd cl ca) : PySem.W.keepIn K (.ref (a 18)) = true := T.F_Book_can_stand.kp
theorem Txt.k_law {P : Program} {K : PySem.W.Frag} {mg : Str → Option Value} {a ca : Nat → Addr} {fd : Nat → FuncData} {cl : Nat → Addr} (T : Txt P K mg a fd cl ca) : PySem.W.keepIn K (.ref (a 19)) = true := T.F_law.kp
noncomputable def tk_LETTERS {P : Program} {K : PySem.W.Frag} {mg : Str → Option Value} {a ca : Nat → Addr} {fd : Nat → FuncData} {cl : Nat → Addr} (T : Txt P K mg a fd cl ca) : Tok := T.e_LETTERS.choose
theorem Txt.g_LETTERS {P : Program} {K : PySem.W.Frag} {mg : Str → Option Value} {a ca : Nat → Addr} {fd : Nat → FuncData} {cl : Nat → Addr} (T : Txt P K mg a fd cl ca) : mg "LETTERS" = some (.str "abcdefghijklmnopqrstuvwxyz" (tk_LETTERS T)) := T.e_LETTERS.choose_spec
noncomputable def tk_MOST_SIGNS {P : Program} {K : PySem.W.Frag} {mg : Str → Option Value} {a ca : Nat → Addr} {fd : Nat → FuncData} {cl : Nat → Addr} (T : Txt P K mg a fd cl ca) : Tok := T.e_MOST_SIGNS.choose
theorem Txt.g_MOST_SIGNS {P : Program} {K : PySem.W.Frag} {mg : Str → Option Value} {a ca : Nat → Addr} {fd : Nat → FuncData} {cl : Nat → Addr} (T : Txt P K mg a fd cl ca) : mg "MOST_SIGNS" = some (.int 8 (tk_MOST_SIGNS T)) := T.e_MOST_SIGNS.choose_spec
noncomputable def tk_MOST_MEMORY {P : Program} {K : PySem.W.Frag} {mg : Str → Option Value} {a ca : Nat → Addr} {fd : Nat → FuncData} {cl : Nat → Addr} (T : Txt P K mg a fd cl ca) : Tok := T.e_MOST_MEMORY.choose
theorem Txt.g_MOST_MEMORY {P : Program} {K : PySem.W.Frag} {mg : Str → Option Value} {a ca : Nat → Addr} {fd : Nat → FuncData} {cl : Nat → Addr} (T : Txt P K mg a fd cl ca) : mg "MOST_MEMORY" = some (.int 4 (tk_MOST_MEMORY T)) := T.e_MOST_MEMORY.choose_spec
section
variable {P : Program} {w : World} {K : PySem.W.Frag} {mg : Str → Option Value} {base : Heap} {cl : Nat → Addr} {tb : Str → Addr}
theorem ok_law_feed {a ca : Nat → Addr} {fd : Nat → FuncData} (T : Txt P K mg a fd cl ca) : FnOk P w K mg base CX0 1 (a 0) (fd 0) ["_law_script"] (spD ⟨K, cl, tb, none⟩ 1 m_law_feed) :=
  ok_defG (n := 3) (np := 1) (fb := b_law_feed) T.F_law_feed sc_law_feed rfl rfl rfl fun cdv A outer s H hr => (fss_cons (fs_set (ps_set (i := 1) sc_law_feed.nd rfl (by first | exact Or.inl rfl | exact Or.inr rfl) fe_int))
    (fss_cons (fs_for rfl PassesOwn.never rfl (fi_any rfl (fe_sl rfl (fe_b (fe_v 0)) fo_none (fo_some fe_int))) (fg_nm sc_law_feed.nd) (fss_one (fs_set (ps_set (i := 1) sc_law_feed.nd rfl (by first | exact Or.inl rfl | exact Or.inr rfl) (fe_op o_mod (fe_b (fe_callT1 c_int T.b_int (fa1 (fe_u (fe_op (o_add rfl) (fe_b (fe_op (o_add rfl) (fe_b (fe_op o_mul (fe_b (fe_v 1)) (fe_u fe_int))) (fe_u (fe_op o_mod (fe_b (fe_callT1 c_int T.b_int (fa1 (fe_u (fe_v 2))) (hv := bt_int))) (fe_u fe_int))))) (fe_u fe_int)))) (hv := bt_int))) (fe_u fe_int))))))
    (fss_one (fs_ret (fe_newO (fn_lst (fa_cons (fe_n (fn_list rfl T.b_list (fe_u (fe_sl rfl (fe_b (fe_v 0)) fo_none (fo_some fe_int))) (hv := bt_list))) (fa_cons fe_int (fa_cons fe_int (fa_cons (fe_v 1) (fa_cons fe_int fa_nil)))))))))))
theorem ok_law_pick {a ca : Nat → Addr} {fd : Nat → FuncData} (T : Txt P K mg a fd cl ca) : FnOk P w K mg base CX0 1 (a 1) (fd 1) ["_law_feed_here", "_law_many"] (spD ⟨K, cl, tb, none⟩ 2 m_law_pick) :=
  ok_defG (n := 6) (np := 2) (fb := b_law_pick) T.F_law_pick sc_law_pick rfl rfl rfl fun cdv A outer s H hr => (fss_cons (fs_if (ft_w (fw_and (ft_cmp o_lt (fe_b (fe_ixO rfl (fe_v 0) fe_int (fun _ _ => rfl))) (fe_u (fe_v 1)) (nomark _)) (fw_and1 (ft_cmp o_lt (fe_b (fe_ixO rfl (fe_v 0) fe_int (fun _ _ => rfl))) (fe_u (fe_call1 (c_len rfl) T.b_len (fa1 (fe_u (fe_ixO rfl (fe_v 0) fe_int (fun _ _ => rfl)))) (hv := bt_len))) (nomark _))))) (fss_cons (fs_set (ps_set (i := 2) sc_law_pick.nd rfl (by first | exact Or.inl rfl | exact Or.inr rfl) (fe_ix rfl (fe_b (fe_ixO rfl (fe_v 0) fe_int (fun _ _ => rfl))) (fe_u (fe_ixO rfl (fe_v 0) fe_int (fun _ _ => rfl))) (fun _ _ => rfl))))
    (fss_cons (fs_setO (ps_asg (fe_op (o_add rfl) (fe_b (fe_ixO rfl (fe_v 0) fe_int (fun _ _ => rfl))) (fe_u fe_int)) (pg_sub (fe_v 0) fe_int set_list)))
    (fss_cons (fs_setO (ps_asg (fe_op o_mod (fe_b (fe_callT1 c_int T.b_int (fa1 (fe_u (fe_op (o_add rfl) (fe_b (fe_op (o_add rfl) (fe_b (fe_op o_mul (fe_b (fe_ixO rfl (fe_v 0) fe_int (fun _ _ => rfl))) (fe_u fe_int))) (fe_u (fe_op o_mod (fe_b (fe_callT1 c_int T.b_int (fa1 (fe_u (fe_v 2))) (hv := bt_int))) (fe_u fe_int))))) (fe_u fe_int)))) (hv := bt_int))) (fe_u fe_int)) (pg_sub (fe_v 0) fe_int set_list)))
    (fss_one (fs_setO (ps_asg (fe_if (ft_cmp o_ge (fe_b (fe_v 2)) (fe_u (fe_op o_pow (fe_b fe_int) (fe_u fe_int))) (nomark _)) (fe_v 2) fe_int) (pg_sub (fe_v 0) fe_int set_list))))))) fss_nil)
    (fss_cons (fs_if (ft_cmp o_ge (fe_b (fe_ixO rfl (fe_v 0) fe_int (fun _ _ => rfl))) (fe_u (fe_v 1)) (nomark _)) (fss_cons (fs_set (ps_set (i := 3) sc_law_pick.nd rfl (by first | exact Or.inl rfl | exact Or.inr rfl) (fe_op o_mod (fe_b (fe_callT1 c_int T.b_int (fa1 (fe_u (fe_ixO rfl (fe_v 0) fe_int (fun _ _ => rfl)))) (hv := bt_int))) (fe_u (fe_v 1)))))
    (fss_cons (fs_setO (ps_asg (fe_op o_fdiv (fe_b (fe_ixO rfl (fe_v 0) fe_int (fun _ _ => rfl))) (fe_u (fe_v 1))) (pg_sub (fe_v 0) fe_int set_list)))
    (fss_one (fs_ret (fe_v 3))))) fss_nil)
    (fss_cons (fs_setO (ps_asg (fe_op (o_add rfl) (fe_b (fe_ixO rfl (fe_v 0) fe_int (fun _ _ => rfl))) (fe_u fe_int)) (pg_sub (fe_v 0) fe_int set_list)))
    (fss_cons (fs_set (ps_set (i := 4) sc_law_pick.nd rfl (by first | exact Or.inl rfl | exact Or.inr rfl) (fe_op o_mod (fe_b (fe_callT1 c_int T.b_int (fa1 (fe_u (fe_op (o_add rfl) (fe_b (fe_ixO rfl (fe_v 0) fe_int (fun _ _ => rfl))) (fe_u (fe_op o_mul (fe_b (fe_ixO rfl (fe_v 0) fe_int (fun _ _ => rfl))) (fe_u fe_int)))))) (hv := bt_int))) (fe_u fe_int))))
    (fss_cons (fs_set (ps_set (i := 5) sc_law_pick.nd rfl (by first | exact Or.inl rfl | exact Or.inr rfl) (fe_op o_mul (fe_b (fe_op o_mod (fe_b (fe_callT1 c_int T.b_int (fa1 (fe_u (fe_op o_mul (fe_b (fe_v 4)) (fe_u (fe_v 4))))) (hv := bt_int))) (fe_u fe_int))) (fe_u (fe_op (o_add rfl) (fe_b (fe_op o_mod (fe_b (fe_callT1 c_int T.b_int (fa1 (fe_u (fe_v 4))) (hv := bt_int))) (fe_u fe_int))) (fe_u fe_int))))))
    (fss_cons (fs_setO (ps_asg (fe_op o_mod (fe_b (fe_callT1 c_int T.b_int (fa1 (fe_u (fe_op (o_add rfl) (fe_b (fe_op (o_add rfl) (fe_b (fe_v 5)) (fe_u (fe_op o_mul (fe_b fe_int) (fe_u (fe_v 4)))))) (fe_u fe_int)))) (hv := bt_int))) (fe_u fe_int)) (pg_sub (fe_v 0) fe_int set_list)))
    (fss_one (fs_ret (fe_op o_mod (fe_b (fe_callT1 c_int T.b_int (fa1 (fe_u (fe_op (o_add rfl) (fe_b (fe_op o_fdiv (fe_b (fe_ixO rfl (fe_v 0) fe_int (fun _ _ => rfl))) (fe_u fe_int))) (fe_u (fe_op o_mul (fe_b (fe_op o_mod (fe_b (fe_callT1 c_int T.b_int (fa1 (fe_u (fe_ixO rfl (fe_v 0) fe_int (fun _ _ => rfl)))) (hv := bt_int))) (fe_u fe_int))) (fe_u fe_int)))))) (hv := bt_int))) (fe_u (fe_v 1)))))))))))
theorem ok_law_mixed {a ca : Nat → Addr} {fd : Nat → FuncData} (T : Txt P K mg a fd cl ca) : FnOk P w K mg base CX0 2 (a 2) (fd 2) ["_law_feed_here", "_law_some"] (spD ⟨K, cl, tb, none⟩ 2 m_law_mixed) :=
  ok_defG (n := 4) (np := 2) (fb := b_law_mixed) T.F_law_mixed sc_law_mixed rfl rfl rfl fun cdv A outer s H hr => (fss_cons (fs_own (ps_set (i := 2) sc_law_mixed.nd rfl (by first | exact Or.inl rfl | exact Or.inr rfl) (fn_lst fa_nil)))
    (fss_cons (fs_for rfl PassesOwn.never rfl (fi_any rfl (fe_v 1)) (fg_nm sc_law_mixed.nd) (fss_one (fs_mut 2 mu_ins (pe_bm PySem.F.plainAttrs_list PySem.F.slot_list_insert PySem.F.type_list_insert L2.mt_insert (pv 2) (fa_cons (fe_call (ok_law_pick T) (hr.mono (by decide)) T.f_law_pick T.k_law_pick T.B_law_pick (fa_cons (fe_v 0) (fa_cons (fe_op (o_add rfl) (fe_b (fe_call1 (c_len rfl) T.b_len (fa1 (fb_u (fb_v 2))) (hv := bt_len))) (fe_u fe_int)) fa_nil))) (fa_cons (fe_v 3) fa_nil))))))
    (fss_frz 2 (fss_one (fs_ret (fe_v 2))))))
theorem ok_law_of {a ca : Nat → Addr} {fd : Nat → FuncData} (T : Txt P K mg a fd cl ca) : FnOk P w K mg base CX0 2 (a 3) (fd 3) ["_law_feed_here", "_law_some"] (spD ⟨K, cl, tb, none⟩ 2 m_law_of) :=
  ok_defG (n := 2) (np := 2) (fb := b_law_of) T.F_law_of sc_law_of rfl rfl rfl fun cdv A outer s H hr => (fss_one (fs_ret (fe_ix rfl (fe_b (fe_v 1)) (fe_u (fe_call (ok_law_pick T) (hr.mono (by decide)) T.f_law_pick T.k_law_pick T.B_law_pick (fa_cons (fe_v 0) (fa_cons (fe_call1 (c_len rfl) T.b_len (fa1 (fe_u (fe_v 1))) (hv := bt_len)) fa_nil)))) (fun _ _ => rfl))))
theorem ok_law_names {a ca : Nat → Addr} {fd : Nat → FuncData} (T : Txt P K mg a fd cl ca) : FnOk P w K mg base CX0 3 (a 4) (fd 4) ["_law_feed_here", "_law_many"] (spD ⟨K, cl, tb, none⟩ 2 m_law_names) :=
  ok_defG (n := 7) (np := 2) (fb := b_law_names) T.F_law_names sc_law_names rfl rfl rfl fun cdv A outer s H hr => (fss_cons (fs_set (ps_set (i := 2) sc_law_names.nd rfl (by first | exact Or.inl rfl | exact Or.inr rfl) (fe_sl rfl (fe_b (fe_call (ok_law_mixed T) (hr.mono (by decide)) T.f_law_mixed T.k_law_mixed T.B_law_mixed (fa_cons (fe_v 0) (fa_cons (fe_n (fn_lc [("_law_sign", 5)] rfl rfl sc_law_names.nd (fi_any rfl (fe_str (x := "abcdefghijklmnopqrstuvwxyz"))) (blkOk_by (own := [("_law_sign", 5)]) (N := ["_law_feed_here", "_law_many", "_law_letters", "_law_stem", "_law_spot", "_law_sign", "_law_k"]) (sc := (defScope s_law_names)) (by decide +kernel)) (fun _ _ _ _ _ => (fg_nm sc_law_names.nd)) (fun _ _ _ _ _ => fts_nil) (fun _ _ _ _ _ => (fe_v 5)))) fa_nil)))) fo_none (fo_some (fe_v 1)))))
    (fss_cons (fs_set (ps_set (i := 3) sc_law_names.nd rfl (by first | exact Or.inl rfl | exact Or.inr rfl) (fe_join rfl (fe_str (x := "")) (fe_u (fe_n (fn_lc [("_law_k", 6)] rfl rfl sc_law_names.nd (fi_rng1 T.b_range (fe_call (ok_law_pick T) (hr.mono (by decide)) T.f_law_pick T.k_law_pick T.B_law_pick (fa_cons (fe_v 0) (fa_cons fe_int fa_nil)))) (blkOk_by (own := [("_law_k", 6)]) (N := ["_law_feed_here", "_law_many", "_law_letters", "_law_stem", "_law_spot", "_law_sign", "_law_k"]) (sc := (defScope s_law_names)) (by decide +kernel)) (fun _ _ _ _ _ => (fg_nm sc_law_names.nd)) (fun _ _ _ _ _ => fts_nil) (fun _ _ _ _ _ => (fe_call (ok_law_of T) (hr.mono (by decide)) T.f_law_of T.k_law_of T.B_law_of (fa_cons (fe_v 0) (fa_cons (fe_str (x := "abcdefghijklmnopqrstuvwxyz")) fa_nil))))))))))
    (fss_cons (fs_set (ps_set (i := 4) sc_law_names.nd rfl (by first | exact Or.inl rfl | exact Or.inr rfl) (fe_call (ok_law_pick T) (hr.mono (by decide)) T.f_law_pick T.k_law_pick T.B_law_pick (fa_cons (fe_v 0) (fa_cons (fe_op (o_add rfl) (fe_b (fe_call1 (c_len rfl) T.b_len (fa1 (fe_u (fe_v 3))) (hv := bt_len))) (fe_u fe_int)) fa_nil)))))
    (fss_one (fs_ret (fe_n (fn_lc [("_law_sign", 5)] rfl rfl sc_law_names.nd (fi_any rfl (fe_v 2)) (blkOk_by (own := [("_law_sign", 5)]) (N := ["_law_feed_here", "_law_many", "_law_letters", "_law_stem", "_law_spot", "_law_sign", "_law_k"]) (sc := (defScope s_law_names)) (by decide +kernel)) (fun _ _ _ _ _ => (fg_nm sc_law_names.nd)) (fun _ _ _ _ _ => fts_nil) (fun _ _ _ _ _ => (fe_op (o_add rfl) (fe_b (fe_op (o_add rfl) (fe_b (fe_sl rfl (fe_b (fe_v 3)) fo_none (fo_some (fe_v 4)))) (fe_u (fe_v 5)))) (fe_u (fe_sl rfl (fe_b (fe_v 3)) (fo_some (fe_v 4)) fo_none)))))))))))
theorem ok_law_book {a ca : Nat → Addr} {fd : Nat → FuncData} (T : Txt P K mg a fd cl ca) : FnOk P w K mg base CX0 3 (a 5) (fd 5) ["_law_feed_here", "_law_names_here", "_law_most"] (spD ⟨K, cl, tb, none⟩ 3 m_law_book) :=
  ok_defG (n := 8) (np := 3) (fb := b_law_book) T.F_law_book sc_law_book rfl rfl rfl fun cdv A outer s H hr => (fss_cons (fs_frz (ps_lcN (i := 3)  [("_law_name", 5)] rfl rfl sc_law_book.nd rfl rfl (sw_true rfl rfl rfl (by decide +kernel)) (fi_any rfl (fe_sl rfl (fe_b (fe_v 1)) fo_none (fo_some (fe_op (o_add rfl) (fe_b fe_int) (fe_u (fe_call (ok_law_pick T) (hr.mono (by decide)) T.f_law_pick T.k_law_pick T.B_law_pick (fa_cons (fe_v 0) (fa_cons fe_int fa_nil)))))))) (blkOk_by (own := [("_law_name", 5)]) (N := ["_law_feed_here", "_law_names_here", "_law_most", "_law_kinds", "_law_rows", "_law_name", "_law_stands_here", "_law_kind"]) (sc := (defScope s_law_book)) (by decide +kernel)) (fun _ _ _ _ _ => (fg_nm sc_law_book.nd)) (fun _ _ _ _ _ => fts_nil) (fun _ _ _ _ _ => (fe_tup (fa_cons (fe_v 5) (fa_cons (fe_call (ok_law_pick T) (hr.mono (by decide)) T.f_law_pick T.k_law_pick T.B_law_pick (fa_cons (fe_v 0) (fa_cons fe_int fa_nil))) fa_nil))))))
    (fss_cons (fs_own (ps_set (i := 4) sc_law_book.nd rfl (by first | exact Or.inl rfl | exact Or.inr rfl) (fn_lst fa_nil)))
    (fss_cons (fs_for rfl PassesOwn.never rfl (fi_any rfl (fe_sl rfl (fe_b (fe_v 1)) (fo_some fe_int) (fo_some (fe_op (o_add rfl) (fe_b fe_int) (fe_u (fe_call (ok_law_pick T) (hr.mono (by decide)) T.f_law_pick T.k_law_pick T.B_law_pick (fa_cons (fe_v 0) (fa_cons (fe_op (o_add rfl) (fe_b (fe_v 2)) (fe_u fe_int)) fa_nil)))))))) (fg_nm sc_law_book.nd) (fss_cons (fs_frz (ps_lcN (i := 6)  [("_law_kind", 7)] rfl rfl sc_law_book.nd rfl rfl (sw_true rfl rfl rfl (by decide +kernel)) (fi_any rfl (fe_v 3)) (blkOk_by (own := [("_law_kind", 7)]) (N := ["_law_feed_here", "_law_names_here", "_law_most", "_law_kinds", "_law_rows", "_law_name", "_law_stands_here", "_law_kind"]) (sc := (defScope s_law_book)) (by decide +kernel)) (fun _ _ _ _ _ => (fg_nm sc_law_book.nd)) (fun _ _ _ _ _ => (fts_one (ft_cmp (o_eq rfl hr.units) (fe_b (fe_call (ok_law_pick T) (hr.mono (by decide)) T.f_law_pick T.k_law_pick T.B_law_pick (fa_cons (fe_v 0) (fa_cons fe_int fa_nil)))) (fe_u fe_int) (nomark _)))) (fun _ _ _ _ _ => (fe_ix rfl (fe_b (fe_v 7)) (fe_u fe_int) (fun _ _ => rfl)))))
    (fss_cons (fs_set (ps_set (i := 6) sc_law_book.nd rfl (by first | exact Or.inl rfl | exact Or.inr rfl) (fe_if (ft_cmp (o_ne rfl hr.units) (fe_b (fe_v 6)) (fe_u (fe_n (fn_lst fa_nil))) (nomark _)) (fe_v 6) (fe_n (fn_lst (fa_cons (fe_ix rfl (fe_b (fe_call (ok_law_of T) (hr.mono (by decide)) T.f_law_of T.k_law_of T.B_law_of (fa_cons (fe_v 0) (fa_cons (fe_v 3) fa_nil)))) (fe_u fe_int) (fun _ _ => rfl)) fa_nil))))))
    (fss_one (fs_mut 4 mu_app (pe_bm PySem.F.plainAttrs_list PySem.F.slot_list_append PySem.F.type_list_append L2.mt_append (pv 4) (fa_cons (fe_tup (fa_cons (fe_v 5) (fa_cons (fe_callT1 (c_tup rfl) T.b_tuple (fa1 (fe_u (fe_v 6))) (hv := bt_tuple)) (fa_cons (fe_call (ok_law_of T) (hr.mono (by decide)) T.f_law_of T.k_law_of T.B_law_of (fa_cons (fe_v 0) (fa_cons (fe_n (fn_lst (fa_cons fe_int (fa_cons fe_int (fa_cons fe_int (fa_cons fe_int (fa_cons (fe_call (ok_law_pick T) (hr.mono (by decide)) T.f_law_pick T.k_law_pick T.B_law_pick (fa_cons (fe_v 0) (fa_cons fe_int fa_nil))) fa_nil))))))) fa_nil))) fa_nil)))) fa_nil)))))))
    (fss_frz 4 (fss_one (fs_ret (fe_tup (fa_cons (fe_v 3) (fa_cons (fe_v 4) (fa_cons (fe_call (ok_law_of T) (hr.mono (by decide)) T.f_law_of T.k_law_of T.B_law_of (fa_cons (fe_v 0) (fa_cons (fe_n (fn_lst (fa_cons fe_non (fa_cons fe_non (fa_cons fe_int (fa_cons fe_int (fa_cons fe_int (fa_cons fe_int fa_nil)))))))) fa_nil))) fa_nil))))))))))
theorem ok_is_name {a ca : Nat → Addr} {fd : Nat → FuncData} (T : Txt P K mg a fd cl ca) : FnOk P w K mg base CX0 1 (a 6) (fd 6) ["text"] (spD ⟨K, cl, tb, none⟩ 1 m_is_name) :=
  ok_defG (n := 2) (np := 1) (fb := b_is_name) T.F_is_name sc_is_name rfl rfl rfl fun cdv A outer s H hr => (fss_one (fs_ret (fe_and (fe_chain o_le o_le (fe_b fe_int) (fe_b (fe_call1 (c_len rfl) T.b_len (fa1 (fe_u (fe_v 0))) (hv := bt_len))) (fe_u (fe_gint T.g_MOST_SIGNS))) (fe_one (fe_call1 (c_all rfl rfl) T.b_all (fa1 (fe_u (fe_n (fn_lc [("sign", 1)] rfl rfl sc_is_name.nd (fi_any rfl (fe_v 0)) (blkOk_by (own := [("sign", 1)]) (N := ["text", "sign"]) (sc := (defScope s_is_name)) (by decide +kernel)) (fun _ _ _ _ _ => (fg_nm sc_is_name.nd)) (fun _ _ _ _ _ => fts_nil) (fun _ _ _ _ _ => (fe_cmp (o_in rfl hr.units) (fe_b (fe_v 1)) (fe_u (fe_gstr T.g_LETTERS)) (by rfl))))))) (hv := bt_all))))))
theorem ok_is_word_row {a ca : Nat → Addr} {fd : Nat → FuncData} (T : Txt P K mg a fd cl ca) : FnOk P w K mg base CX0 2 (a 7) (fd 7) ["row", "sort_names", "earlier"] (spD ⟨K, cl, tb, none⟩ 3 m_is_word_row) :=
  ok_defG (n := 7) (np := 3) (fb := b_is_word_row) T.F_is_word_row sc_is_word_row rfl rfl rfl fun cdv A outer s H hr => (fss_cons (fs_asg rfl (ps_asg (fe_v 0) (fg_tp rfl (fgs_cons (fg_nm sc_is_word_row.nd) (fgs_cons (fg_nm sc_is_word_row.nd) (fgs_cons (fg_nm sc_is_word_row.nd) fgs_nil))))))
    (fss_cons (fs_if (ft_w (fw_or (ft_not (ft_tru rfl (fe_u (fe_call (ok_is_name T) (hr.mono (by decide)) T.f_is_name T.k_is_name T.B_is_name (fa_cons (fe_v 3) fa_nil))))) (fw_or (ft_cmp (o_in rfl hr.units) (fe_b (fe_v 3)) (fu_dr (fe_v 2)) (by rfl)) (fw_or1 (ft_not (ft_chain o_le o_le (fe_b fe_int) (fe_b (fe_v 5)) (fe_u (fe_cval rfl T.g_Book T.r_Book (T.v_Book_MOST_PRICE.choose_spec))))))))) (fss_one (fs_ret fe_bl)) fss_nil)
    (fss_cons (fs_if (ft_w (fw_or (ft_cmp (o_eq rfl hr.units) (fe_b (fe_call1 (c_len rfl) T.b_len (fa1 (fe_u (fe_v 4))) (hv := bt_len))) (fe_u fe_int) (nomark _)) (fw_or1 (ft_not (ft_tru rfl (fe_u (fe_call1 (c_all rfl rfl) T.b_all (fa1 (fe_u (fe_n (fn_lc [("sort", 6)] rfl rfl sc_is_word_row.nd (fi_any rfl (fe_v 4)) (blkOk_by (own := [("sort", 6)]) (N := ["row", "sort_names", "earlier", "name", "stands", "price", "sort"]) (sc := (defScope s_is_word_row)) (by decide +kernel)) (fun _ _ _ _ _ => (fg_nm sc_is_word_row.nd)) (fun _ _ _ _ _ => fts_nil) (fun _ _ _ _ _ => (fe_cmp (o_in rfl hr.units) (fe_b (fe_v 6)) (fe_u (fe_v 1)) (by rfl))))))) (hv := bt_all)))))))) (fss_one (fs_ret fe_bl)) fss_nil)
    (fss_one (fs_ret (fe_cmp (o_eq rfl hr.units) (fe_b (fe_lenSet rfl rfl T.b_len T.b_set (fe_n (fn_list rfl T.b_list (fe_u (fe_v 4)) (hv := bt_list))))) (fe_u (fe_call1 (c_len rfl) T.b_len (fa1 (fe_u (fe_v 4))) (hv := bt_len))) (nomark _)))))))
theorem ok_Book___init__ {a ca : Nat → Addr} {fd : Nat → FuncData} (T : Txt P K mg a fd cl ca) : FnOk P w K mg base (L2.CX P w) 3 (a 8) (fd 8) ["self", "sorts", "words", "memory"] (spX ⟨K, cl, tb, none⟩ 4 m_Book___init__) :=
  ok_defX (n := 12) (np := 4) (fb := b_Book___init__) T.F_Book___init__ sc_Book___init__ rfl rfl rfl fun cdv A outer s H E hr tk => (fss_cons (fs_if (ft_not (ft_chain o_le o_le (fe_b fe_int) (fe_b (fe_call1 (c_len rfl) T.b_len (fa1 (fe_u (fe_v 1))) (hv := bt_len))) (fe_u (fe_cval rfl T.g_Book T.r_Book (T.v_Book_MOST_SORTS.choose_spec))))) (fss_one (fs_raise1 (c := 20) rfl tk T.x_WrongCount hr (fe_str (x := "sorts")))) fss_nil)
    (fss_cons (fs_own (ps_set (i := 4) sc_Book___init__.nd rfl (by first | exact Or.inl rfl | exact Or.inr rfl) (fn_lst fa_nil)))
    (fss_cons (fs_for rfl (passes_of rfl) rfl (fi_enum rfl T.b_enumerate (fe_v 1)) (fg_tp rfl (fgs_cons (fg_nm sc_Book___init__.nd) (fgs_cons (fg_tp rfl (fgs_cons (fg_nm sc_Book___init__.nd) (fgs_cons (fg_nm sc_Book___init__.nd) fgs_nil))) fgs_nil))) (fss_cons (fs_if (ft_w (fw_or (ft_not (ft_tru rfl (fe_u (fe_call (ok_is_name T) (hr.mono (by decide)) T.f_is_name T.k_is_name T.B_is_name (fa_cons (fe_v 6) fa_nil))))) (fw_or (ft_cmp (o_in rfl hr.units) (fe_b (fe_v 6)) (fb_u (fb_v 4)) (by rfl)) (fw_or1 (ft_not (ft_chain o_le o_le (fe_b fe_int) (fe_b (fe_v 7)) (fe_u (fe_cval rfl T.g_Book T.r_Book (T.v_Book_MOST_PRICE.choose_spec))))))))) (fss_one (fs_raise1 (c := 21) rfl tk T.x_InvalidSort hr (fe_v 5))) fss_nil)
    (fss_one (fs_mut 4 mu_app (pe_bm PySem.F.plainAttrs_list PySem.F.slot_list_append PySem.F.type_list_append L2.mt_append (pv 4) (fa_cons (fe_v 6) fa_nil))))))
    (fss_frz 4 (fss_cons (fs_if (ft_cmp o_gt (fe_b (fe_call1 (c_len rfl) T.b_len (fa1 (fe_u (fe_v 2))) (hv := bt_len))) (fe_u (fe_cval rfl T.g_Book T.r_Book (T.v_Book_MOST_WORDS.choose_spec))) (nomark _)) (fss_one (fs_raise1 (c := 20) rfl tk T.x_WrongCount hr (fe_str (x := "words")))) fss_nil)
    (fss_cons (fs_set (ps_set (i := 8) sc_Book___init__.nd rfl (by first | exact Or.inl rfl | exact Or.inr rfl) (fe_newO (fn_lst fa_nil))))
    (fss_cons (fs_for rfl (passes_of rfl) rfl (fi_enum rfl T.b_enumerate (fe_v 2)) (fg_tp rfl (fgs_cons (fg_nm sc_Book___init__.nd) (fgs_cons (fg_nm sc_Book___init__.nd) fgs_nil))) (fss_cons (fs_if (ft_not (ft_tru rfl (fe_u (fe_call (ok_is_word_row T) (hr.mono (by decide)) T.f_is_word_row T.k_is_word_row T.B_is_word_row (fa_cons (fe_v 9) (fa_cons (fe_v 4) (fa_cons (fe_v 8) fa_nil))))))) (fss_one (fs_raise1 (c := 22) rfl tk T.x_InvalidWord hr (fe_v 5))) fss_nil)
    (fss_one (fs_mutO mu_app (pe_bm PySem.F.plainAttrs_list PySem.F.slot_list_append PySem.F.type_list_append L2.mt_append (fe_v 8) (fa_cons (fe_ix rfl (fe_b (fe_v 9)) (fe_u fe_int) (fun _ _ => rfl)) fa_nil))))))
    (fss_cons (fs_if (ft_w (fw_and (ft_cmp o_notN (fe_b (fe_v 3)) (fe_u fe_non) (nomark _)) (fw_and1 (ft_not (ft_chain o_le o_le (fe_b fe_int) (fe_b (fe_v 3)) (fe_u (fe_gint T.g_MOST_MEMORY))))))) (fss_one (fs_raise1 (c := 23) rfl tk T.x_InvalidMemory hr (fe_v 3))) fss_nil)
    (fss_cons (fs_fldN (NS := []) (NS' := ["sort_rows"]) (ps_fld (fe_v 0) (fe_n (fn_lc [("name", 6), ("price", 7)] rfl rfl sc_Book___init__.nd (fi_any rfl (fe_v 1)) (blkOk_by (own := [("name", 6), ("price", 7)]) (N := ["self", "sorts", "words", "memory", "names", "at", "name", "price", "earlier", "row", "stands", "sort"]) (sc := (defScope s_Book___init__)) (by decide +kernel)) (fun _ _ _ _ _ => (fg_tp rfl (fgs_cons (fg_nm sc_Book___init__.nd) (fgs_cons (fg_nm sc_Book___init__.nd) fgs_nil)))) (fun _ _ _ _ _ => fts_nil) (fun _ _ _ _ _ => (fe_tup (fa_cons (fe_v 6) (fa_cons (fe_v 7) fa_nil)))))) rfl) T.c_Book T.n_Book_sort_rows (by decide +kernel) rfl (by decide))
    (fss_cons (fs_fldN (NS := ["sort_rows"]) (NS' := ["sort_rows", "word_rows"]) (ps_fld (fe_v 0) (fe_n (fn_lc [("name", 6), ("stands", 10), ("price", 7)] rfl rfl sc_Book___init__.nd (fi_any rfl (fe_v 2)) (blkOk_by (own := [("name", 6), ("stands", 10), ("price", 7)]) (N := ["self", "sorts", "words", "memory", "names", "at", "name", "price", "earlier", "row", "stands", "sort"]) (sc := (defScope s_Book___init__)) (by decide +kernel)) (fun _ _ _ _ _ => (fg_tp rfl (fgs_cons (fg_nm sc_Book___init__.nd) (fgs_cons (fg_nm sc_Book___init__.nd) (fgs_cons (fg_nm sc_Book___init__.nd) fgs_nil))))) (fun _ _ _ _ _ => fts_nil) (fun _ _ _ _ _ => (fe_tup (fa_cons (fe_v 6) (fa_cons (fe_callT1 (c_tup rfl) T.b_tuple (fa1 (fe_u (fe_n (fn_lc [("sort", 11)] rfl rfl sc_Book___init__.nd (fi_any rfl (fe_v 4)) (blkOk_by (by rfl)) (fun _ _ _ _ _ => (fg_nm sc_Book___init__.nd)) (fun _ _ _ _ _ => (fts_one (ft_cmp (o_in rfl hr.units) (fe_b (fe_v 11)) (fe_u (fe_v 10)) (by rfl)))) (fun _ _ _ _ _ => (fe_v 11)))))) (hv := bt_tuple)) (fa_cons (fe_v 7) fa_nil))))))) rfl) T.c_Book T.n_Book_word_rows (by decide +kernel) rfl (by decide))
    (fss_one (fs_fldN (NS := ["sort_rows", "word_rows"]) (NS' := ["sort_rows", "word_rows", "own_memory"]) (ps_fld (fe_v 0) (fe_v 3) rfl) T.c_Book T.n_Book_own_memory (by decide +kernel) rfl (by decide)))))))))))))
theorem ok_law_made {a ca : Nat → Addr} {fd : Nat → FuncData} (T : Txt P K mg a fd cl ca) : FnOk P w K mg base (L2.CX P w) 5 (a 9) (fd 9) ["_law_b"] (spX ⟨K, cl, tb, none⟩ 1 m_law_made) :=
  ok_defX (n := 1) (np := 1) (fb := b_law_made) T.F_law_made sc_law_made rfl rfl rfl fun cdv A outer s H E hr tk => (fss_one (fs_ret (fe_newX (np := 2) (nk := 1) rfl T.M_Book tk (ok_Book___init__ T) (hr.mono (by decide)) T.g_Book T.D_Book___init___3_memory rfl (fa_cons (fe_n (fn_list rfl T.b_list (fe_u (fe_ix rfl (fe_b (fe_v 0)) (fe_u fe_int) (fun _ _ => rfl))) (hv := bt_list))) (fa_cons (fe_n (fn_list rfl T.b_list (fe_u (fe_ix rfl (fe_b (fe_v 0)) (fe_u fe_int) (fun _ _ => rfl))) (hv := bt_list))) fa_nil)) (fk_cons (fe_ix rfl (fe_b (fe_v 0)) (fe_u fe_int) (fun _ _ => rfl)) fk_nil))))
def b_law_field : S := (sSeq (sIf (toB (fOp inD (fXf "code" [20, 21, 22, 23, 40, 41] (fV 0)) (fFrz (fLstN (fCons (fC (.str "WrongCount")) fNil))))) (sRet (fXf "what" [20] (fV 0))) SR.nx)
    (sSeq (sIf (toB (fOp inD (fXf "code" [20, 21, 22, 23, 40, 41] (fV 0)) (fFrz (fLstN (fCons (fC (.str "InvalidMemory")) (fCons (fC (.str "InvalidStart")) (fCons (fC (.str "InvalidCount")) (fCons (fC (.str "InvalidSight")) (fCons (fC (.str "UnknownPlace")) fNil))))))))) (sRet (fXf "given" [23] (fV 0))) SR.nx)
    (sSeq (sIf (toB (fOp inD (fXf "code" [20, 21, 22, 23, 40, 41] (fV 0)) (fFrz (fLstN (fCons (fC (.str "InvalidName")) (fCons (fC (.str "AlreadyIn")) (fCons (fC (.str "NotIn")) (fCons (fC (.str "UnknownSort")) (fCons (fC (.str "UnknownWord")) (fCons (fC (.str "UnknownPerson")) fNil)))))))))) (sRet (fXf "name" [40, 41] (fV 0))) SR.nx)
    (sSeq (sIf (toB (fOp inD (fXf "code" [20, 21, 22, 23, 40, 41] (fV 0)) (fFrz (fLstN (fCons (fC (.str "InvalidText")) (fCons (fC (.str "TooMany")) fNil)))))) (sRet (fIf (toB (fOp eqD (fXf "code" [20, 21, 22, 23, 40, 41] (fV 0)) (fC (.str "InvalidText")))) (fXf "line" [] (fV 0)) (fXf "most" [] (fV 0)))) SR.nx)
    (sSeq (sIf (toB (fOp inD (fXf "code" [20, 21, 22, 23, 40, 41] (fV 0)) (fFrz (fLstN (fCons (fC (.str "OtherBook")) (fCons (fC (.str "NothingLeft")) fNil)))))) (sRet (fC .non)) SR.nx)
    (sRet (fIf (toB (fOp eqD (fXf "code" [20, 21, 22, 23, 40, 41] (fV 0)) (fC (.str "UnknownState")))) (fXf "state" [] (fV 0)) (fXf "at" [21, 22] (fV 0)))))))))
def m_law_field : DF := runD 1 b_law_field
theorem okH_law_field {a ca : Nat → Addr} {fd : Nat → FuncData} (T : Txt P K mg a fd cl ca) : FnX P w K mg base ⟨K, cl, tb, none⟩ 1 (a 10) (fd 10) ["_law_e"] 1 m_law_field :=
  ok_hot (n := 1) (fb := b_law_field) T.F_law_field sc_law_field rfl rfl fun cdv A outer s H p hr xp => (fss_cons (fs_if (ft_cmp (o_in rfl hr.units) (fe_b (fe_xf (cs := [20, 21, 22, 23, 40, 41]) rfl xp (all_cons T.xg_WrongCount_code (all_cons T.xg_InvalidSort_code (all_cons T.xg_InvalidWord_code (all_cons T.xg_InvalidMemory_code (all_cons T.xg_UnknownSort_code (all_cons T.xg_UnknownWord_code all_nil)))))) (fe_v 0))) (fe_u (fe_n (fn_lst (fa_cons (fe_str (x := "WrongCount")) fa_nil)))) (by rfl)) (fss_one (fs_ret (fe_xf (cs := [20]) rfl xp (all_cons T.xg_WrongCount_what all_nil) (fe_v 0)))) fss_nil)
    (fss_cons (fs_if (ft_cmp (o_in rfl hr.units) (fe_b (fe_xf (cs := [20, 21, 22, 23, 40, 41]) rfl xp (all_cons T.xg_WrongCount_code (all_cons T.xg_InvalidSort_code (all_cons T.xg_InvalidWord_code (all_cons T.xg_InvalidMemory_code (all_cons T.xg_UnknownSort_code (all_cons T.xg_UnknownWord_code all_nil)))))) (fe_v 0))) (fe_u (fe_n (fn_lst (fa_cons (fe_str (x := "InvalidMemory")) (fa_cons (fe_str (x := "InvalidStart")) (fa_cons (fe_str (x := "InvalidCount")) (fa_cons (fe_str (x := "InvalidSight")) (fa_cons (fe_str (x := "UnknownPlace")) fa_nil)))))))) (by rfl)) (fss_one (fs_ret (fe_xf (cs := [23]) rfl xp (all_cons T.xg_InvalidMemory_given all_nil) (fe_v 0)))) fss_nil)
    (fss_cons (fs_if (ft_cmp (o_in rfl hr.units) (fe_b (fe_xf (cs := [20, 21, 22, 23, 40, 41]) rfl xp (all_cons T.xg_WrongCount_code (all_cons T.xg_InvalidSort_code (all_cons T.xg_InvalidWord_code (all_cons T.xg_InvalidMemory_code (all_cons T.xg_UnknownSort_code (all_cons T.xg_UnknownWord_code all_nil)))))) (fe_v 0))) (fe_u (fe_n (fn_lst (fa_cons (fe_str (x := "InvalidName")) (fa_cons (fe_str (x := "AlreadyIn")) (fa_cons (fe_str (x := "NotIn")) (fa_cons (fe_str (x := "UnknownSort")) (fa_cons (fe_str (x := "UnknownWord")) (fa_cons (fe_str (x := "UnknownPerson")) fa_nil))))))))) (by rfl)) (fss_one (fs_ret (fe_xf (cs := [40, 41]) rfl xp (all_cons T.xg_UnknownSort_name (all_cons T.xg_UnknownWord_name all_nil)) (fe_v 0)))) fss_nil)
    (fss_cons (fs_if (ft_cmp (o_in rfl hr.units) (fe_b (fe_xf (cs := [20, 21, 22, 23, 40, 41]) rfl xp (all_cons T.xg_WrongCount_code (all_cons T.xg_InvalidSort_code (all_cons T.xg_InvalidWord_code (all_cons T.xg_InvalidMemory_code (all_cons T.xg_UnknownSort_code (all_cons T.xg_UnknownWord_code all_nil)))))) (fe_v 0))) (fe_u (fe_n (fn_lst (fa_cons (fe_str (x := "InvalidText")) (fa_cons (fe_str (x := "TooMany")) fa_nil))))) (by rfl)) (fss_one (fs_ret (fe_if (ft_cmp (o_eq rfl hr.units) (fe_b (fe_xf (cs := [20, 21, 22, 23, 40, 41]) rfl xp (all_cons T.xg_WrongCount_code (all_cons T.xg_InvalidSort_code (all_cons T.xg_InvalidWord_code (all_cons T.xg_InvalidMemory_code (all_cons T.xg_UnknownSort_code (all_cons T.xg_UnknownWord_code all_nil)))))) (fe_v 0))) (fe_u (fe_str (x := "InvalidText"))) (nomark _)) (fe_xf (cs := []) rfl xp all_nil (fe_v 0)) (fe_xf (cs := []) rfl xp all_nil (fe_v 0))))) fss_nil)
    (fss_cons (fs_if (ft_cmp (o_in rfl hr.units) (fe_b (fe_xf (cs := [20, 21, 22, 23, 40, 41]) rfl xp (all_cons T.xg_WrongCount_code (all_cons T.xg_InvalidSort_code (all_cons T.xg_InvalidWord_code (all_cons T.xg_InvalidMemory_code (all_cons T.xg_UnknownSort_code (all_cons T.xg_UnknownWord_code all_nil)))))) (fe_v 0))) (fe_u (fe_n (fn_lst (fa_cons (fe_str (x := "OtherBook")) (fa_cons (fe_str (x := "NothingLeft")) fa_nil))))) (by rfl)) (fss_one (fs_ret fe_non)) fss_nil)
    (fss_one (fs_ret (fe_if (ft_cmp (o_eq rfl hr.units) (fe_b (fe_xf (cs := [20, 21, 22, 23, 40, 41]) rfl xp (all_cons T.xg_WrongCount_code (all_cons T.xg_InvalidSort_code (all_cons T.xg_InvalidWord_code (all_cons T.xg_InvalidMemory_code (all_cons T.xg_UnknownSort_code (all_cons T.xg_UnknownWord_code all_nil)))))) (fe_v 0))) (fe_u (fe_str (x := "UnknownState"))) (nomark _)) (fe_xf (cs := []) rfl xp all_nil (fe_v 0)) (fe_xf (cs := [21, 22]) rfl xp (all_cons T.xg_InvalidSort_at (all_cons T.xg_InvalidWord_at all_nil)) (fe_v 0))))))))))
theorem ok_Book_name_price {a ca : Nat → Addr} {fd : Nat → FuncData} (T : Txt P K mg a fd cl ca) : FnOk P w K mg base (L2.CX P w) 2 (a 12) (fd 12) ["self", "sort"] (spX ⟨K, cl, tb, none⟩ 2 m_Book_name_price) :=
  ok_defX (n := 4) (np := 2) (fb := b_Book_name_price) T.F_Book_name_price sc_Book_name_price rfl rfl rfl fun cdv A outer s H E hr tk => (fss_cons (fs_for rfl (passes_of rfl) rfl (fi_any rfl (fe_fld (NS := ["sort_rows", "word_rows", "own_memory"]) (i := 0) rfl (fe_v 0) T.c_Book T.n_Book_sort_rows (by decide +kernel))) (fg_tp rfl (fgs_cons (fg_nm sc_Book_name_price.nd) (fgs_cons (fg_nm sc_Book_name_price.nd) fgs_nil))) (fss_one (fs_if (ft_cmp (o_eq rfl hr.units) (fe_b (fe_v 2)) (fe_u (fe_v 1)) (nomark _)) (fss_one (fs_ret (fe_v 3))) fss_nil)))
    (fss_one (fs_raise1 (c := 40) rfl tk T.x_UnknownSort hr (fe_v 1))))
def b_Book_words_for : S := (sSeq (sDrop (fMethX 0 ["sort_rows", "word_rows", "own_memory"] 2 0 2 m_Book_name_price [0, 1] [] (fV 0) (fCons (fV 1) fNil) fNil))
    (sSeq (sFrz 2 (fLc [3, 4, 5, 6] (fiE (fFld 0 ["sort_rows", "word_rows", "own_memory"] 1 (fV 0))) (.tp [(.nm 3), (.tp [(.nm 4), (.nm 5), (.nm 6)])]) (toB (fOp inD (fV 1) (fV 5))) (fTup (fCons (fV 6) (fCons (fV 3) (fCons (fV 4) fNil))))))
    (sRet (fFrz (fLc [6, 3, 4] (fiA (fFrz (fSortD (fV 2)))) (.tp [(.nm 6), (.nm 3), (.nm 4)]) fYes (fV 4))))))
def m_Book_words_for : DF := runD 7 b_Book_words_for
theorem ok_Book_words_for {a ca : Nat → Addr} {fd : Nat → FuncData} (T : Txt P K mg a fd cl ca) : FnOk P w K mg base (L2.CX P w) 3 (a 13) (fd 13) ["self", "sort"] (spX ⟨K, cl, tb, none⟩ 2 m_Book_words_for) :=
  ok_defX (n := 7) (np := 2) (fb := b_Book_words_for) T.F_Book_words_for sc_Book_words_for rfl rfl rfl fun cdv A outer s H E hr tk => (fss_cons (fs_expr (fe_methNX (np := 2) (nk := 0) (NS := ["sort_rows", "word_rows", "own_memory"]) rfl tk (ok_Book_name_price T) (hr.mono (by decide)) T.c_Book T.m_Book_name_price T.D_Book_name_price_2 rfl (by decide +kernel) (fe_v 0) (fa_cons (fe_v 1) fa_nil) fk_nil))
    (fss_cons (fs_frz (ps_lcN (i := 2)  [("at", 3), ("name", 4), ("stands", 5), ("price", 6)] rfl rfl sc_Book_words_for.nd rfl rfl (sw_true rfl rfl rfl (by decide +kernel)) (fi_enum rfl T.b_enumerate (fe_fld (NS := ["sort_rows", "word_rows", "own_memory"]) (i := 1) rfl (fe_v 0) T.c_Book T.n_Book_word_rows (by decide +kernel))) (blkOk_by (own := [("at", 3), ("name", 4), ("stands", 5), ("price", 6)]) (N := ["self", "sort", "rows", "at", "name", "stands", "price"]) (sc := (defScope s_Book_words_for)) (by decide +kernel)) (fun _ _ _ _ _ => (fg_tp rfl (fgs_cons (fg_nm sc_Book_words_for.nd) (fgs_cons (fg_tp rfl (fgs_cons (fg_nm sc_Book_words_for.nd) (fgs_cons (fg_nm sc_Book_words_for.nd) (fgs_cons (fg_nm sc_Book_words_for.nd) fgs_nil)))) fgs_nil)))) (fun _ _ _ _ _ => (fts_one (ft_cmp (o_in rfl hr.units) (fe_b (fe_v 1)) (fe_u (fe_v 5)) (by rfl)))) (fun _ _ _ _ _ => (fe_tup (fa_cons (fe_v 6) (fa_cons (fe_v 3) (fa_cons (fe_v 4) fa_nil)))))))
    (fss_one (fs_ret (fe_n (fn_lc [("price", 6), ("at", 3), ("name", 4)] rfl rfl sc_Book_words_for.nd (fi_any rfl (fe_n (fn_sortD rfl hr.units T.b_sorted bt_sorted (fe_v 2)))) (blkOk_by (own := [("price", 6), ("at", 3), ("name", 4)]) (N := ["self", "sort", "rows", "at", "name", "stands", "price"]) (sc := (defScope s_Book_words_for)) (by decide +kernel)) (fun _ _ _ _ _ => (fg_tp rfl (fgs_cons (fg_nm sc_Book_words_for.nd) (fgs_cons (fg_nm sc_Book_words_for.nd) (fgs_cons (fg_nm sc_Book_words_for.nd) fgs_nil))))) (fun _ _ _ _ _ => fts_nil) (fun _ _ _ _ _ => (fe_v 4))))))))
def b_law_price : S := (sSeq (sIf (fTru (fCall1 (isD "str") (fV 1))) (sRet (fOp ixD (fFrz (fLc [2, 4, 3] (fiA (fOp ixD (fV 0) (fC (.int 1)))) (.tp [(.nm 2), (.nm 4), (.nm 3)]) (toB (fOp eqD (fV 2) (fV 1))) (fV 3))) (fC (.int 0)))) SR.nx)
    (sRet (fOp ixD (fFrz (fLc [2, 3] (fiA (fOp ixD (fV 0) (fC (.int 0)))) (.tp [(.nm 2), (.nm 3)]) (toB (fOp eqD (fV 2) (fOp ixD (fV 1) (fC (.int 0))))) (fV 3))) (fC (.int 0)))))
def m_law_price : DF := runD 5 b_law_price
theorem ok_law_price {a ca : Nat → Addr} {fd : Nat → FuncData} (T : Txt P K mg a fd cl ca) : FnOk P w K mg base CX0 1 (a 14) (fd 14) ["_law_b", "_law_item"] (spD ⟨K, cl, tb, none⟩ 2 m_law_price) :=
  ok_defG (n := 5) (np := 2) (fb := b_law_price) T.F_law_price sc_law_price rfl rfl rfl fun cdv A outer s H hr => (fss_cons (fs_if (ft_tru rfl (fe_u (fe_is rfl T.b_isinstance T.b_str (fe_v 1) (hvT := bt_str)))) (fss_one (fs_ret (fe_ix rfl (fe_b (fe_n (fn_lc [("_law_name", 2), ("_law_stands_here", 4), ("_law_price_here", 3)] rfl rfl sc_law_price.nd (fi_any rfl (fe_ix rfl (fe_b (fe_v 0)) (fe_u fe_int) (fun _ _ => rfl))) (blkOk_by (own := [("_law_name", 2), ("_law_stands_here", 4), ("_law_price_here", 3)]) (N := ["_law_b", "_law_item", "_law_name", "_law_price_here", "_law_stands_here"]) (sc := (defScope s_law_price)) (by decide +kernel)) (fun _ _ _ _ _ => (fg_tp rfl (fgs_cons (fg_nm sc_law_price.nd) (fgs_cons (fg_nm sc_law_price.nd) (fgs_cons (fg_nm sc_law_price.nd) fgs_nil))))) (fun _ _ _ _ _ => (fts_one (ft_cmp (o_eq rfl hr.units) (fe_b (fe_v 2)) (fe_u (fe_v 1)) (nomark _)))) (fun _ _ _ _ _ => (fe_v 3))))) (fe_u fe_int) (fun _ _ => rfl)))) fss_nil)
    (fss_one (fs_ret (fe_ix rfl (fe_b (fe_n (fn_lc [("_law_name", 2), ("_law_price_here", 3)] rfl rfl sc_law_price.nd (fi_any rfl (fe_ix rfl (fe_b (fe_v 0)) (fe_u fe_int) (fun _ _ => rfl))) (blkOk_by (own := [("_law_name", 2), ("_law_price_here", 3)]) (N := ["_law_b", "_law_item", "_law_name", "_law_price_here", "_law_stands_here"]) (sc := (defScope s_law_price)) (by decide +kernel)) (fun _ _ _ _ _ => (fg_tp rfl (fgs_cons (fg_nm sc_law_price.nd) (fgs_cons (fg_nm sc_law_price.nd) fgs_nil)))) (fun _ _ _ _ _ => (fts_one (ft_cmp (o_eq rfl hr.units) (fe_b (fe_v 2)) (fe_u (fe_ix rfl (fe_b (fe_v 1)) (fe_u fe_int) (fun _ _ => rfl))) (nomark _)))) (fun _ _ _ _ _ => (fe_v 3))))) (fe_u fe_int) (fun _ _ => rfl)))))
theorem ok_Book_word_row {a ca : Nat → Addr} {fd : Nat → FuncData} (T : Txt P K mg a fd cl ca) : FnOk P w K mg base (L2.CX P w) 2 (a 15) (fd 15) ["self", "word"] (spX ⟨K, cl, tb, none⟩ 2 m_Book_word_row) :=
  ok_defX (n := 3) (np := 2) (fb := b_Book_word_row) T.F_Book_word_row sc_Book_word_row rfl rfl rfl fun cdv A outer s H E hr tk => (fss_cons (fs_for rfl (passes_of rfl) rfl (fi_any rfl (fe_fld (NS := ["sort_rows", "word_rows", "own_memory"]) (i := 1) rfl (fe_v 0) T.c_Book T.n_Book_word_rows (by decide +kernel))) (fg_nm sc_Book_word_row.nd) (fss_one (fs_if (ft_cmp (o_eq rfl hr.units) (fe_b (fe_ix rfl (fe_b (fe_v 2)) (fe_u fe_int) (fun _ _ => rfl))) (fe_u (fe_v 1)) (nomark _)) (fss_one (fs_ret (fe_v 2))) fss_nil)))
    (fss_one (fs_raise1 (c := 41) rfl tk T.x_UnknownWord hr (fe_v 1))))
def b_Book_word_price : S := (sRet (fOp ixD (fMethX 0 ["sort_rows", "word_rows", "own_memory"] 2 0 2 m_Book_word_row [0, 1] [] (fV 0) (fCons (fV 1) fNil) fNil) (fC (.int 2))))
def m_Book_word_price : DF := runD 2 b_Book_word_price
theorem ok_Book_word_price {a ca : Nat → Addr} {fd : Nat → FuncData} (T : Txt P K mg a fd cl ca) : FnOk P w K mg base (L2.CX P w) 3 (a 16) (fd 16) ["self", "word"] (spX ⟨K, cl, tb, none⟩ 2 m_Book_word_price) :=
  ok_defX (n := 2) (np := 2) (fb := b_Book_word_price) T.F_Book_word_price sc_Book_word_price rfl rfl rfl fun cdv A outer s H E hr tk => (fss_one (fs_ret (fe_ix rfl (fe_b (fe_methNX (np := 2) (nk := 0) (NS := ["sort_rows", "word_rows", "own_memory"]) rfl tk (ok_Book_word_row T) (hr.mono (by decide)) T.c_Book T.m_Book_word_row T.D_Book_word_row_2 rfl (by decide +kernel) (fe_v 0) (fa_cons (fe_v 1) fa_nil) fk_nil)) (fe_u fe_int) (fun _ _ => rfl))))
theorem ok_law_stands {a ca : Nat → Addr} {fd : Nat → FuncData} (T : Txt P K mg a fd cl ca) : FnOk P w K mg base CX0 1 (a 17) (fd 17) ["_law_b", "_law_token"] (spD ⟨K, cl, tb, none⟩ 2 m_law_stands) :=
  ok_defG (n := 5) (np := 2) (fb := b_law_stands) T.F_law_stands sc_law_stands rfl rfl rfl fun cdv A outer s H hr => (fss_one (fs_ret (fe_ix rfl (fe_b (fe_n (fn_lc [("_law_name", 2), ("_law_stands_here", 3), ("_law_price_here", 4)] rfl rfl sc_law_stands.nd (fi_any rfl (fe_ix rfl (fe_b (fe_v 0)) (fe_u fe_int) (fun _ _ => rfl))) (blkOk_by (own := [("_law_name", 2), ("_law_stands_here", 3), ("_law_price_here", 4)]) (N := ["_law_b", "_law_token", "_law_name", "_law_stands_here", "_law_price_here"]) (sc := (defScope s_law_stands)) (by decide +kernel)) (fun _ _ _ _ _ => (fg_tp rfl (fgs_cons (fg_nm sc_law_stands.nd) (fgs_cons (fg_nm sc_law_stands.nd) (fgs_cons (fg_nm sc_law_stands.nd) fgs_nil))))) (fun _ _ _ _ _ => (fts_one (ft_cmp (o_eq rfl hr.units) (fe_b (fe_v 2)) (fe_u (fe_v 1)) (nomark _)))) (fun _ _ _ _ _ => (fe_v 3))))) (fe_u fe_int) (fun _ _ => rfl))))
theorem ok_Book_can_stand {a ca : Nat → Addr} {fd : Nat → FuncData} (T : Txt P K mg a fd cl ca) : FnOk P w K mg base (L2.CX P w) 3 (a 18) (fd 18) ["self", "word", "sort"] (spX ⟨K, cl, tb, none⟩ 3 m_Book_can_stand) :=
  ok_defX (n := 4) (np := 3) (fb := b_Book_can_stand) T.F_Book_can_stand sc_Book_can_stand rfl rfl rfl fun cdv A outer s H E hr tk => (fss_cons (fs_set (ps_set (i := 3) sc_Book_can_stand.nd rfl (by first | exact Or.inl rfl | exact Or.inr rfl) (fe_ix rfl (fe_b (fe_methNX (np := 2) (nk := 0) (NS := ["sort_rows", "word_rows", "own_memory"]) rfl tk (ok_Book_word_row T) (hr.mono (by decide)) T.c_Book T.m_Book_word_row T.D_Book_word_row_2 rfl (by decide +kernel) (fe_v 0) (fa_cons (fe_v 1) fa_nil) fk_nil)) (fe_u fe_int) (fun _ _ => rfl))))
    (fss_cons (fs_expr (fe_methNX (np := 2) (nk := 0) (NS := ["sort_rows", "word_rows", "own_memory"]) rfl tk (ok_Book_name_price T) (hr.mono (by decide)) T.c_Book T.m_Book_name_price T.D_Book_name_price_2 rfl (by decide +kernel) (fe_v 0) (fa_cons (fe_v 2) fa_nil) fk_nil))
    (fss_one (fs_ret (fe_cmp (o_in rfl hr.units) (fe_b (fe_v 2)) (fe_u (fe_v 3)) (by rfl))))))
def b_law : S := (sSeq (sSet 1 (fCall 1 m_law_feed (fCons (fV 0) fNil)))
    (sSeq (sFor (fiR1 (fC (.int 3))) (.nm 2) (sSeq (sSet 3 (fCall 2 m_law_names (fCons (fV 1) (fCons (fC (.int 10)) fNil))))
    (sSeq (sSet 4 (fCall 3 m_law_book (fCons (fV 1) (fCons (fV 3) (fCons (fC (.int 4)) fNil)))))
    (sSeq (sSet 5 (fCall 1 m_law_made (fCons (fV 4) fNil)))
    (sSeq (sFrz 6 (fLc [8, 12] (fiA (fOp ixD (fV 4) (fC (.int 0)))) (.tp [(.nm 8), (.nm 12)]) fYes (fV 8)))
    (sSeq (sFrz 7 (fLc [8, 13, 12] (fiA (fOp ixD (fV 4) (fC (.int 1)))) (.tp [(.nm 8), (.nm 13), (.nm 12)]) fYes (fV 8)))
    (sFor (fiA (fV 3)) (.nm 8) (sSeq (sSet 9 (fIf (toB (fOp inD (fV 8) (fV 6))) (fTup (fCons (fC (.str "")) (fCons (fDictIx (fOp ixD (fV 4) (fC (.int 0))) (fV 8)) fNil))) (fTup (fCons (fC (.str "UnknownSort")) (fCons (fV 8) fNil)))))
    (sSeq (sIf (toB (fOp neD (fWhy 0 "law.<locals>.<lambda>" [20, 21, 22, 23, 40, 41] m_law_field (fMethX 0 ["sort_rows", "word_rows", "own_memory"] 2 0 2 m_Book_name_price [0, 1] [] (fV 5) (fCons (fV 8) fNil) fNil)) (fV 9))) (sRet (fC (.bl false))) SR.nx)
    (sSeq (sSet 10 (fFrz (fSortD (fFrz (fLc [14] (fiR1 (fCall1 lenD (fOp ixD (fV 4) (fC (.int 1))))) (.nm 14) (toB (fOp inD (fV 8) (fOp ixD (fOp ixD (fOp ixD (fV 4) (fC (.int 1))) (fV 14)) (fC (.int 1))))) (fTup (fCons (fOp ixD (fOp ixD (fOp ixD (fV 4) (fC (.int 1))) (fV 14)) (fC (.int 2))) (fCons (fV 14) fNil))))))))
    (sSeq (sSet 9 (fIf (toB (fOp inD (fV 8) (fV 6))) (fTup (fCons (fC (.str "")) (fCons (fFrz (fLc [12, 14] (fiA (fV 10)) (.tp [(.nm 12), (.nm 14)]) fYes (fOp ixD (fOp ixD (fOp ixD (fV 4) (fC (.int 1))) (fV 14)) (fC (.int 0))))) fNil))) (fTup (fCons (fC (.str "UnknownSort")) (fCons (fV 8) fNil)))))
    (sSeq (sIf (toB (fOp neD (fWhy 0 "law.<locals>.<lambda>" [20, 21, 22, 23, 40, 41] m_law_field (fMethX 0 ["sort_rows", "word_rows", "own_memory"] 2 0 2 m_Book_words_for [0, 1] [] (fV 5) (fCons (fV 8) fNil) fNil)) (fV 9))) (sRet (fC (.bl false))) SR.nx)
    (sSeq (sSet 9 (fIf (toB (fOp inD (fV 8) (fV 7))) (fTup (fCons (fC (.str "")) (fCons (fCall 2 m_law_price (fCons (fV 4) (fCons (fV 8) fNil))) fNil))) (fTup (fCons (fC (.str "UnknownWord")) (fCons (fV 8) fNil)))))
    (sSeq (sIf (toB (fOp neD (fWhy 0 "law.<locals>.<lambda>" [20, 21, 22, 23, 40, 41] m_law_field (fMethX 0 ["sort_rows", "word_rows", "own_memory"] 2 0 2 m_Book_word_price [0, 1] [] (fV 5) (fCons (fV 8) fNil) fNil)) (fV 9))) (sRet (fC (.bl false))) SR.nx)
    (sSeq (sSet 11 (fCall 2 m_law_of (fCons (fV 1) (fCons (fOp addD (fV 3) (fV 6)) fNil))))
    (sSeq (sSet 9 (fIf (toB (fOp notInD (fV 8) (fV 7))) (fTup (fCons (fC (.str "UnknownWord")) (fCons (fV 8) fNil))) (fTup (fCons (fC (.str "UnknownSort")) (fCons (fV 11) fNil)))))
    (sSeq (sSet 9 (fIf (fAndB (toB (fOp inD (fV 8) (fV 7))) (toB (fOp inD (fV 11) (fV 6)))) (fTup (fCons (fC (.str "")) (fCons (fOp inD (fV 11) (fCall 2 m_law_stands (fCons (fV 4) (fCons (fV 8) fNil)))) fNil))) (fV 9)))
    (sIf (toB (fOp neD (fWhy 0 "law.<locals>.<lambda>" [20, 21, 22, 23, 40, 41] m_law_field (fMethX 0 ["sort_rows", "word_rows", "own_memory"] 1 2 3 m_Book_can_stand [0, 2, 1] [] (fV 5) fNil (fCons (fV 11) (fCons (fV 8) fNil)))) (fV 9))) (sRet (fC (.bl false))) SR.nx))))))))))))))))))
    (sRet (fC (.bl true)))))
def m_law : DF := runD 15 b_law
theorem ok_law {a ca : Nat → Addr} {fd : Nat → FuncData} (T : Txt P K mg a fd cl ca) (U : Tbs base mg ca tb) : FnOk P w K mg base CX0 6 (a 19) (fd 19) ["_law_script"] (spD ⟨K, cl, tb, none⟩ 1 m_law) :=
  ok_defGL (n := 15) (np := 1) (fb := b_law) T.F_law sc_law rfl rfl rfl fun A outer s H hr => (fss_cons (fs_set (ps_set (i := 1) sc_law.nd rfl (by first | exact Or.inl rfl | exact Or.inr rfl) (fe_call (ok_law_feed T) (hr.mono (by decide)) T.f_law_feed T.k_law_feed T.B_law_feed (fa_cons (fe_v 0) fa_nil))))
    (fss_cons (fs_for rfl PassesOwn.never rfl (fi_rng1 T.b_range fe_int) (fg_nm sc_law.nd) (fss_cons (fs_set (ps_set (i := 3) sc_law.nd rfl (by first | exact Or.inl rfl | exact Or.inr rfl) (fe_call (ok_law_names T) (hr.mono (by decide)) T.f_law_names T.k_law_names T.B_law_names (fa_cons (fe_v 1) (fa_cons fe_int fa_nil)))))
    (fss_cons (fs_set (ps_set (i := 4) sc_law.nd rfl (by first | exact Or.inl rfl | exact Or.inr rfl) (fe_call (ok_law_book T) (hr.mono (by decide)) T.f_law_book T.k_law_book T.B_law_book (fa_cons (fe_v 1) (fa_cons (fe_v 3) (fa_cons fe_int fa_nil))))))
    (fss_cons (fs_set (ps_set (i := 5) sc_law.nd rfl (by first | exact Or.inl rfl | exact Or.inr rfl) (fe_call (ok_calm (ok_law_made T)) (hr.mono (by decide)) T.f_law_made T.k_law_made T.B_law_made (fa_cons (fe_v 4) fa_nil))))
    (fss_cons (fs_frz (ps_lcN (i := 6)  [("_law_name", 8), ("_law_price_here", 12)] rfl rfl sc_law.nd rfl rfl (sw_true rfl rfl rfl (by decide +kernel)) (fi_any rfl (fe_ix rfl (fe_b (fe_v 4)) (fe_u fe_int) (fun _ _ => rfl))) (blkOk_by (own := [("_law_name", 8), ("_law_price_here", 12)]) (N := ["_law_script", "_law_feed_here", "_law_turn", "_law_labels", "_law_b", "_law_made_here", "_law_known", "_law_tokens", "_law_name", "_law_due", "_law_order", "_law_late", "_law_price_here", "_law_stands_here", "_law_k"]) (sc := (defScope s_law)) (by decide +kernel)) (fun _ _ _ _ _ => (fg_tp rfl (fgs_cons (fg_nm sc_law.nd) (fgs_cons (fg_nm sc_law.nd) fgs_nil)))) (fun _ _ _ _ _ => fts_nil) (fun _ _ _ _ _ => (fe_v 8))))
    (fss_cons (fs_frz (ps_lcN (i := 7)  [("_law_name", 8), ("_law_stands_here", 13), ("_law_price_here", 12)] rfl rfl sc_law.nd rfl rfl (sw_true rfl rfl rfl (by decide +kernel)) (fi_any rfl (fe_ix rfl (fe_b (fe_v 4)) (fe_u fe_int) (fun _ _ => rfl))) (blkOk_by (own := [("_law_name", 8), ("_law_stands_here", 13), ("_law_price_here", 12)]) (N := ["_law_script", "_law_feed_here", "_law_turn", "_law_labels", "_law_b", "_law_made_here", "_law_known", "_law_tokens", "_law_name", "_law_due", "_law_order", "_law_late", "_law_price_here", "_law_stands_here", "_law_k"]) (sc := (defScope s_law)) (by decide +kernel)) (fun _ _ _ _ _ => (fg_tp rfl (fgs_cons (fg_nm sc_law.nd) (fgs_cons (fg_nm sc_law.nd) (fgs_cons (fg_nm sc_law.nd) fgs_nil))))) (fun _ _ _ _ _ => fts_nil) (fun _ _ _ _ _ => (fe_v 8))))
    (fss_one (fs_for rfl PassesOwn.never rfl (fi_any rfl (fe_v 3)) (fg_nm sc_law.nd) (fss_cons (fs_set (ps_set (i := 9) sc_law.nd rfl (by first | exact Or.inl rfl | exact Or.inr rfl) (fe_if (ft_cmp (o_in rfl hr.units) (fe_b (fe_v 8)) (fe_u (fe_v 6)) (by rfl)) (fe_tup (fa_cons (fe_str (x := "")) (fa_cons (fe_dictIx rfl rfl hr.units T.b_dict (fe_ix rfl (fe_b (fe_v 4)) (fe_u fe_int) (fun _ _ => rfl)) (fe_v 8)) fa_nil))) (fe_tup (fa_cons (fe_str (x := "UnknownSort")) (fa_cons (fe_v 8) fa_nil))))))
    (fss_cons (fs_if (ft_cmp (o_ne rfl hr.units) (fe_b (fe_why (i := 0) (k := 2) (q := "law.<locals>.<lambda>") (cs := [20, 21, 22, 23, 40, 41]) rfl T.F_law_why sc_law_why T.f_law_why T.B_law_why (fun cdv => why_gives rfl (okH_law_field T) T.f_law_field T.k_law_field T.B_law_field (hr.mono (by decide)) (all_cons T.xg_WrongCount_code (all_cons T.xg_InvalidSort_code (all_cons T.xg_InvalidWord_code (all_cons T.xg_InvalidMemory_code (all_cons T.xg_UnknownSort_code (all_cons T.xg_UnknownWord_code all_nil)))))) rfl rfl rfl rfl rfl rfl rfl rfl T.f_TellError T.f_Missing T.f_NothingLeft) (.inl rfl) (all_cons T.xm_WrongCount (all_cons T.xm_InvalidSort (all_cons T.xm_InvalidWord (all_cons T.xm_InvalidMemory (all_cons T.xm_UnknownSort (all_cons T.xm_UnknownWord all_nil)))))) U.u_law rfl rfl (hr.mono (by decide)) (LamX.lamS_by (sc := defScope s_law) (by decide +kernel)) rfl (fun _ _ _ _ _ => rfl) (fun A outer s H E f c hr2 => (fe_methNX (np := 2) (nk := 0) (NS := ["sort_rows", "word_rows", "own_memory"]) rfl (takes_of rfl rfl rfl rfl) (ok_Book_name_price T) (hr2.mono (by decide)) T.c_Book T.m_Book_name_price T.D_Book_name_price_2 rfl (by decide +kernel) (fe_v 5) (fa_cons (fe_v 8) fa_nil) fk_nil)))) (fe_u (fe_v 9)) (nomark _)) (fss_one (fs_ret fe_bl)) fss_nil)
    (fss_cons (fs_set (ps_set (i := 10) sc_law.nd rfl (by first | exact Or.inl rfl | exact Or.inr rfl) (fe_n (fn_sortD rfl hr.units T.b_sorted bt_sorted (fe_n (fn_lc [("_law_k", 14)] rfl rfl sc_law.nd (fi_rng1 T.b_range (fe_call1 (c_len rfl) T.b_len (fa1 (fe_u (fe_ix rfl (fe_b (fe_v 4)) (fe_u fe_int) (fun _ _ => rfl)))) (hv := bt_len))) (blkOk_by (own := [("_law_k", 14)]) (N := ["_law_script", "_law_feed_here", "_law_turn", "_law_labels", "_law_b", "_law_made_here", "_law_known", "_law_tokens", "_law_name", "_law_due", "_law_order", "_law_late", "_law_price_here", "_law_stands_here", "_law_k"]) (sc := (defScope s_law)) (by decide +kernel)) (fun _ _ _ _ _ => (fg_nm sc_law.nd)) (fun _ _ _ _ _ => (fts_one (ft_cmp (o_in rfl hr.units) (fe_b (fe_v 8)) (fe_u (fe_ix rfl (fe_b (fe_ix rfl (fe_b (fe_ix rfl (fe_b (fe_v 4)) (fe_u fe_int) (fun _ _ => rfl))) (fe_u (fe_v 14)) (fun _ _ => rfl))) (fe_u fe_int) (fun _ _ => rfl))) (by rfl)))) (fun _ _ _ _ _ => (fe_tup (fa_cons (fe_ix rfl (fe_b (fe_ix rfl (fe_b (fe_ix rfl (fe_b (fe_v 4)) (fe_u fe_int) (fun _ _ => rfl))) (fe_u (fe_v 14)) (fun _ _ => rfl))) (fe_u fe_int) (fun _ _ => rfl)) (fa_cons (fe_v 14) fa_nil))))))))))
    (fss_cons (fs_set (ps_set (i := 9) sc_law.nd rfl (by first | exact Or.inl rfl | exact Or.inr rfl) (fe_if (ft_cmp (o_in rfl hr.units) (fe_b (fe_v 8)) (fe_u (fe_v 6)) (by rfl)) (fe_tup (fa_cons (fe_str (x := "")) (fa_cons (fe_n (fn_lc [("_law_price_here", 12), ("_law_k", 14)] rfl rfl sc_law.nd (fi_any rfl (fe_v 10)) (blkOk_by (own := [("_law_price_here", 12), ("_law_k", 14)]) (N := ["_law_script", "_law_feed_here", "_law_turn", "_law_labels", "_law_b", "_law_made_here", "_law_known", "_law_tokens", "_law_name", "_law_due", "_law_order", "_law_late", "_law_price_here", "_law_stands_here", "_law_k"]) (sc := (defScope s_law)) (by decide +kernel)) (fun _ _ _ _ _ => (fg_tp rfl (fgs_cons (fg_nm sc_law.nd) (fgs_cons (fg_nm sc_law.nd) fgs_nil)))) (fun _ _ _ _ _ => fts_nil) (fun _ _ _ _ _ => (fe_ix rfl (fe_b (fe_ix rfl (fe_b (fe_ix rfl (fe_b (fe_v 4)) (fe_u fe_int) (fun _ _ => rfl))) (fe_u (fe_v 14)) (fun _ _ => rfl))) (fe_u fe_int) (fun _ _ => rfl))))) fa_nil))) (fe_tup (fa_cons (fe_str (x := "UnknownSort")) (fa_cons (fe_v 8) fa_nil))))))
    (fss_cons (fs_if (ft_cmp (o_ne rfl hr.units) (fe_b (fe_why (i := 0) (k := 3) (q := "law.<locals>.<lambda>") (cs := [20, 21, 22, 23, 40, 41]) rfl T.F_law_why sc_law_why T.f_law_why T.B_law_why (fun cdv => why_gives rfl (okH_law_field T) T.f_law_field T.k_law_field T.B_law_field (hr.mono (by decide)) (all_cons T.xg_WrongCount_code (all_cons T.xg_InvalidSort_code (all_cons T.xg_InvalidWord_code (all_cons T.xg_InvalidMemory_code (all_cons T.xg_UnknownSort_code (all_cons T.xg_UnknownWord_code all_nil)))))) rfl rfl rfl rfl rfl rfl rfl rfl T.f_TellError T.f_Missing T.f_NothingLeft) (.inl rfl) (all_cons T.xm_WrongCount (all_cons T.xm_InvalidSort (all_cons T.xm_InvalidWord (all_cons T.xm_InvalidMemory (all_cons T.xm_UnknownSort (all_cons T.xm_UnknownWord all_nil)))))) U.u_law rfl rfl (hr.mono (by decide)) (LamX.lamS_by (sc := defScope s_law) (by decide +kernel)) rfl (fun _ _ _ _ _ => rfl) (fun A outer s H E f c hr2 => (fe_methNX (np := 2) (nk := 0) (NS := ["sort_rows", "word_rows", "own_memory"]) rfl (takes_of rfl rfl rfl rfl) (ok_Book_words_for T) (hr2.mono (by decide)) T.c_Book T.m_Book_words_for T.D_Book_words_for_2 rfl (by decide +kernel) (fe_v 5) (fa_cons (fe_v 8) fa_nil) fk_nil)))) (fe_u (fe_v 9)) (nomark _)) (fss_one (fs_ret fe_bl)) fss_nil)
    (fss_cons (fs_set (ps_set (i := 9) sc_law.nd rfl (by first | exact Or.inl rfl | exact Or.inr rfl) (fe_if (ft_cmp (o_in rfl hr.units) (fe_b (fe_v 8)) (fe_u (fe_v 7)) (by rfl)) (fe_tup (fa_cons (fe_str (x := "")) (fa_cons (fe_call (ok_law_price T) (hr.mono (by decide)) T.f_law_price T.k_law_price T.B_law_price (fa_cons (fe_v 4) (fa_cons (fe_v 8) fa_nil))) fa_nil))) (fe_tup (fa_cons (fe_str (x := "UnknownWord")) (fa_cons (fe_v 8) fa_nil))))))
    (fss_cons (fs_if (ft_cmp (o_ne rfl hr.units) (fe_b (fe_why (i := 0) (k := 3) (q := "law.<locals>.<lambda>") (cs := [20, 21, 22, 23, 40, 41]) rfl T.F_law_why sc_law_why T.f_law_why T.B_law_why (fun cdv => why_gives rfl (okH_law_field T) T.f_law_field T.k_law_field T.B_law_field (hr.mono (by decide)) (all_cons T.xg_WrongCount_code (all_cons T.xg_InvalidSort_code (all_cons T.xg_InvalidWord_code (all_cons T.xg_InvalidMemory_code (all_cons T.xg_UnknownSort_code (all_cons T.xg_UnknownWord_code all_nil)))))) rfl rfl rfl rfl rfl rfl rfl rfl T.f_TellError T.f_Missing T.f_NothingLeft) (.inl rfl) (all_cons T.xm_WrongCount (all_cons T.xm_InvalidSort (all_cons T.xm_InvalidWord (all_cons T.xm_InvalidMemory (all_cons T.xm_UnknownSort (all_cons T.xm_UnknownWord all_nil)))))) U.u_law rfl rfl (hr.mono (by decide)) (LamX.lamS_by (sc := defScope s_law) (by decide +kernel)) rfl (fun _ _ _ _ _ => rfl) (fun A outer s H E f c hr2 => (fe_methNX (np := 2) (nk := 0) (NS := ["sort_rows", "word_rows", "own_memory"]) rfl (takes_of rfl rfl rfl rfl) (ok_Book_word_price T) (hr2.mono (by decide)) T.c_Book T.m_Book_word_price T.D_Book_word_price_2 rfl (by decide +kernel) (fe_v 5) (fa_cons (fe_v 8) fa_nil) fk_nil)))) (fe_u (fe_v 9)) (nomark _)) (fss_one (fs_ret fe_bl)) fss_nil)
    (fss_cons (fs_set (ps_set (i := 11) sc_law.nd rfl (by first | exact Or.inl rfl | exact Or.inr rfl) (fe_call (ok_law_of T) (hr.mono (by decide)) T.f_law_of T.k_law_of T.B_law_of (fa_cons (fe_v 1) (fa_cons (fe_op (o_add rfl) (fe_b (fe_v 3)) (fe_u (fe_v 6))) fa_nil)))))
    (fss_cons (fs_set (ps_set (i := 9) sc_law.nd rfl (by first | exact Or.inl rfl | exact Or.inr rfl) (fe_if (ft_cmp (o_notIn rfl hr.units) (fe_b (fe_v 8)) (fe_u (fe_v 7)) (by rfl)) (fe_tup (fa_cons (fe_str (x := "UnknownWord")) (fa_cons (fe_v 8) fa_nil))) (fe_tup (fa_cons (fe_str (x := "UnknownSort")) (fa_cons (fe_v 11) fa_nil))))))
    (fss_cons (fs_set (ps_set (i := 9) sc_law.nd rfl (by first | exact Or.inl rfl | exact Or.inr rfl) (fe_if (ft_w (fw_and (ft_cmp (o_in rfl hr.units) (fe_b (fe_v 8)) (fe_u (fe_v 7)) (by rfl)) (fw_and1 (ft_cmp (o_in rfl hr.units) (fe_b (fe_v 11)) (fe_u (fe_v 6)) (by rfl))))) (fe_tup (fa_cons (fe_str (x := "")) (fa_cons (fe_cmp (o_in rfl hr.units) (fe_b (fe_v 11)) (fe_u (fe_call (ok_law_stands T) (hr.mono (by decide)) T.f_law_stands T.k_law_stands T.B_law_stands (fa_cons (fe_v 4) (fa_cons (fe_v 8) fa_nil)))) (by rfl)) fa_nil))) (fe_v 9))))
    (fss_one (fs_if (ft_cmp (o_ne rfl hr.units) (fe_b (fe_why (i := 0) (k := 3) (q := "law.<locals>.<lambda>") (cs := [20, 21, 22, 23, 40, 41]) rfl T.F_law_why sc_law_why T.f_law_why T.B_law_why (fun cdv => why_gives rfl (okH_law_field T) T.f_law_field T.k_law_field T.B_law_field (hr.mono (by decide)) (all_cons T.xg_WrongCount_code (all_cons T.xg_InvalidSort_code (all_cons T.xg_InvalidWord_code (all_cons T.xg_InvalidMemory_code (all_cons T.xg_UnknownSort_code (all_cons T.xg_UnknownWord_code all_nil)))))) rfl rfl rfl rfl rfl rfl rfl rfl T.f_TellError T.f_Missing T.f_NothingLeft) (.inl rfl) (all_cons T.xm_WrongCount (all_cons T.xm_InvalidSort (all_cons T.xm_InvalidWord (all_cons T.xm_InvalidMemory (all_cons T.xm_UnknownSort (all_cons T.xm_UnknownWord all_nil)))))) U.u_law rfl rfl (hr.mono (by decide)) (LamX.lamS_by (sc := defScope s_law) (by decide +kernel)) rfl (fun _ _ _ _ _ => rfl) (fun A outer s H E f c hr2 => (fe_methN0X (np := 1) (nk := 2) (NS := ["sort_rows", "word_rows", "own_memory"]) rfl (takes_of rfl rfl rfl rfl) (ok_Book_can_stand T) (hr2.mono (by decide)) T.c_Book T.m_Book_can_stand T.D_Book_can_stand_1_sort_word rfl (by decide +kernel) (fe_v 5) (fk_cons (fe_v 11) (fk_cons (fe_v 8) fk_nil)))))) (fe_u (fe_v 9)) (nomark _)) (fss_one (fs_ret fe_bl)) fss_nil))))))))))))))))))))
    (fss_one (fs_ret fe_bl))))
end
theorem bx_WrongCount {cc cda : Addr} (kV doc pm : Value) (an : Option Addr) (ct u w : Value) : bindArgs (PySem.W.ksFn "__init__" "WrongCount.__init__" (defArgs sx_WrongCount) (defBody sx_WrongCount) (defScope sx_WrongCount) .none kV doc pm an (.ref cda) ct cc) ⟨[u, w], []⟩ = pure [(("self" : Str), u), (("what" : Str), w)] := rfl

theorem bx_InvalidSort {cc cda : Addr} (kV doc pm : Value) (an : Option Addr) (ct u w : Value) : bindArgs (PySem.W.ksFn "__init__" "InvalidSort.__init__" (defArgs sx_InvalidSort) (defBody sx_InvalidSort) (defScope sx_InvalidSort) .none kV doc pm an (.ref cda) ct cc) ⟨[u, w], []⟩ = pure [(("self" : Str), u), (("at" : Str), w)] := rfl

theorem bx_InvalidWord {cc cda : Addr} (kV doc pm : Value) (an : Option Addr) (ct u w : Value) : bindArgs (PySem.W.ksFn "__init__" "InvalidWord.__init__" (defArgs sx_InvalidWord) (defBody sx_InvalidWord) (defScope sx_InvalidWord) .none kV doc pm an (.ref cda) ct cc) ⟨[u, w], []⟩ = pure [(("self" : Str), u), (("at" : Str), w)] := rfl

theorem bx_InvalidMemory {cc cda : Addr} (kV doc pm : Value) (an : Option Addr) (ct u w : Value) : bindArgs (PySem.W.ksFn "__init__" "InvalidMemory.__init__" (defArgs sx_InvalidMemory) (defBody sx_InvalidMemory) (defScope sx_InvalidMemory) .none kV doc pm an (.ref cda) ct cc) ⟨[u, w], []⟩ = pure [(("self" : Str), u), (("given" : Str), w)] := rfl

theorem bx_UnknownSort {cc cda : Addr} (kV doc pm : Value) (an : Option Addr) (ct u w : Value) : bindArgs (PySem.W.ksFn "__init__" "UnknownSort.__init__" (defArgs sx_UnknownSort) (defBody sx_UnknownSort) (defScope sx_UnknownSort) .none kV doc pm an (.ref cda) ct cc) ⟨[u, w], []⟩ = pure [(("self" : Str), u), (("name" : Str), w)] := rfl

theorem bx_UnknownWord {cc cda : Addr} (kV doc pm : Value) (an : Option Addr) (ct u w : Value) : bindArgs (PySem.W.ksFn "__init__" "UnknownWord.__init__" (defArgs sx_UnknownWord) (defBody sx_UnknownWord) (defScope sx_UnknownWord) .none kV doc pm an (.ref cda) ct cc) ⟨[u, w], []⟩ = pure [(("self" : Str), u), (("name" : Str), w)] := rfl

theorem bd_law_feed {K : PySem.W.Frag} {kV dc pm cd ct : Value} {an : Option Addr} : Binds K (PySem.W.fnOf "_law_feed" "_law_feed" (defArgs s_law_feed) (defBody s_law_feed) (defScope s_law_feed) .none kV dc pm an cd ct) ["_law_script"] [] := .all fun us hl => match us, hl with | [_], _ => rfl
theorem bd_law_pick {K : PySem.W.Frag} {kV dc pm cd ct : Value} {an : Option Addr} : Binds K (PySem.W.fnOf "_law_pick" "_law_pick" (defArgs s_law_pick) (defBody s_law_pick) (defScope s_law_pick) .none kV dc pm an cd ct) ["_law_feed_here", "_law_many"] [] := .all fun us hl => match us, hl with | [_, _], _ => rfl
theorem bd_law_mixed {K : PySem.W.Frag} {kV dc pm cd ct : Value} {an : Option Addr} : Binds K (PySem.W.fnOf "_law_mixed" "_law_mixed" (defArgs s_law_mixed) (defBody s_law_mixed) (defScope s_law_mixed) .none kV dc pm an cd ct) ["_law_feed_here", "_law_some"] [] := .all fun us hl => match us, hl with | [_, _], _ => rfl
theorem bd_law_of {K : PySem.W.Frag} {kV dc pm cd ct : Value} {an : Option Addr} : Binds K (PySem.W.fnOf "_law_of" "_law_of" (defArgs s_law_of) (defBody s_law_of) (defScope s_law_of) .none kV dc pm an cd ct) ["_law_feed_here", "_law_some"] [] := .all fun us hl => match us, hl with | [_, _], _ => rfl
theorem bd_law_names {K : PySem.W.Frag} {kV dc pm cd ct : Value} {an : Option Addr} : Binds K (PySem.W.fnOf "_law_names" "_law_names" (defArgs s_law_names) (defBody s_law_names) (defScope s_law_names) .none kV dc pm an cd ct) ["_law_feed_here", "_law_many"] [] := .all fun us hl => match us, hl with | [_, _], _ => rfl
theorem bd_law_book {K : PySem.W.Frag} {kV dc pm cd ct : Value} {an : Option Addr} : Binds K (PySem.W.fnOf "_law_book" "_law_book" (defArgs s_law_book) (defBody s_law_book) (defScope s_law_book) .none kV dc pm an cd ct) ["_law_feed_here", "_law_names_here", "_law_most"] [] := .all fun us hl => match us, hl with | [_, _, _], _ => rfl
theorem bd_is_name {K : PySem.W.Frag} {kV dc pm cd ct : Value} {an : Option Addr} : Binds K (PySem.W.fnOf "is_name" "is_name" (defArgs s_is_name) (defBody s_is_name) (defScope s_is_name) .none kV dc pm an cd ct) ["text"] [] := .all fun us hl => match us, hl with | [_], _ => rfl
theorem bd_is_word_row {K : PySem.W.Frag} {kV dc pm cd ct : Value} {an : Option Addr} : Binds K (PySem.W.fnOf "is_word_row" "is_word_row" (defArgs s_is_word_row) (defBody s_is_word_row) (defScope s_is_word_row) .none kV dc pm an cd ct) ["row", "sort_names", "earlier"] [] := .all fun us hl => match us, hl with | [_, _, _], _ => rfl
theorem bd_law_made {K : PySem.W.Frag} {kV dc pm cd ct : Value} {an : Option Addr} : Binds K (PySem.W.fnOf "_law_made" "_law_made" (defArgs s_law_made) (defBody s_law_made) (defScope s_law_made) .none kV dc pm an cd ct) ["_law_b"] [] := .all fun us hl => match us, hl with | [_], _ => rfl
theorem bd_law_field {K : PySem.W.Frag} {kV dc pm cd ct : Value} {an : Option Addr} : Binds K (PySem.W.fnOf "_law_field" "_law_field" (defArgs s_law_field) (defBody s_law_field) (defScope s_law_field) .none kV dc pm an cd ct) ["_law_e"] [] := .all fun us hl => match us, hl with | [_], _ => rfl
theorem bd_law_why {K : PySem.W.Frag} {kV dc pm cd ct : Value} {an : Option Addr} : Binds K (PySem.W.fnOf "_law_why" "_law_why" (defArgs s_law_why) (defBody s_law_why) (defScope s_law_why) .none kV dc pm an cd ct) ["_law_deed"] [] := .all fun us hl => match us, hl with | [_], _ => rfl
theorem bd_Book_name_price {K : PySem.W.Frag} {kV dc pm cd ct : Value} {an : Option Addr} : Binds K (PySem.W.fnOf "name_price" "Book.name_price" (defArgs s_Book_name_price) (defBody s_Book_name_price) (defScope s_Book_name_price) .none kV dc pm an cd ct) ["self", "sort"] [] := .all fun us hl => match us, hl with | [_, _], _ => rfl
theorem bd_Book_words_for {K : PySem.W.Frag} {kV dc pm cd ct : Value} {an : Option Addr} : Binds K (PySem.W.fnOf "words_for" "Book.words_for" (defArgs s_Book_words_for) (defBody s_Book_words_for) (defScope s_Book_words_for) .none kV dc pm an cd ct) ["self", "sort"] [] := .all fun us hl => match us, hl with | [_, _], _ => rfl
theorem bd_law_price {K : PySem.W.Frag} {kV dc pm cd ct : Value} {an : Option Addr} : Binds K (PySem.W.fnOf "_law_price" "_law_price" (defArgs s_law_price) (defBody s_law_price) (defScope s_law_price) .none kV dc pm an cd ct) ["_law_b", "_law_item"] [] := .all fun us hl => match us, hl with | [_, _], _ => rfl
theorem bd_Book_word_row {K : PySem.W.Frag} {kV dc pm cd ct : Value} {an : Option Addr} : Binds K (PySem.W.fnOf "word_row" "Book.word_row" (defArgs s_Book_word_row) (defBody s_Book_word_row) (defScope s_Book_word_row) .none kV dc pm an cd ct) ["self", "word"] [] := .all fun us hl => match us, hl with | [_, _], _ => rfl
theorem bd_Book_word_price {K : PySem.W.Frag} {kV dc pm cd ct : Value} {an : Option Addr} : Binds K (PySem.W.fnOf "word_price" "Book.word_price" (defArgs s_Book_word_price) (defBody s_Book_word_price) (defScope s_Book_word_price) .none kV dc pm an cd ct) ["self", "word"] [] := .all fun us hl => match us, hl with | [_, _], _ => rfl
theorem bd_law_stands {K : PySem.W.Frag} {kV dc pm cd ct : Value} {an : Option Addr} : Binds K (PySem.W.fnOf "_law_stands" "_law_stands" (defArgs s_law_stands) (defBody s_law_stands) (defScope s_law_stands) .none kV dc pm an cd ct) ["_law_b", "_law_token"] [] := .all fun us hl => match us, hl with | [_, _], _ => rfl
theorem bd_Book_can_stand {K : PySem.W.Frag} {kV dc pm cd ct : Value} {an : Option Addr} : Binds K (PySem.W.fnOf "can_stand" "Book.can_stand" (defArgs s_Book_can_stand) (defBody s_Book_can_stand) (defScope s_Book_can_stand) .none kV dc pm an cd ct) ["self", "word", "sort"] [] := .all fun us hl => match us, hl with | [_, _, _], _ => rfl
theorem bd_law {K : PySem.W.Frag} {kV dc pm cd ct : Value} {an : Option Addr} : Binds K (PySem.W.fnOf "law" "law" (defArgs s_law) (defBody s_law) (defScope s_law) .none kV dc pm an cd ct) ["_law_script"] [] := .all fun us hl => match us, hl with | [_], _ => rfl
theorem kd_Book___init___3_memory {K : PySem.W.Frag} {kV dc pm cd ct : Value} {an : Option Addr} {T : Addr} {o : Obj} {v0 : Value} {m : Nat} (lT : K.lookup T = some o) (oT : o.data = .seq #[v0] m) : KDx K (PySem.W.fnOf "__init__" "Book.__init__" (defArgs s_Book___init__) (defBody s_Book___init__) (defScope s_Book___init__) (.ref T) kV dc pm an cd ct) ["self", "sorts", "words", "memory"] 3 ["memory"] [0, 1, 2, 3] [] := kd_all lT oT (fun us ws h1 h2 => match us, ws, h1, h2 with | [_, _, _], [_], _, _ => ⟨_, rfl, rfl⟩)
theorem kd_Book_name_price_2 {K : PySem.W.Frag} {kV dc pm cd ct : Value} {an : Option Addr} : KDx K (PySem.W.fnOf "name_price" "Book.name_price" (defArgs s_Book_name_price) (defBody s_Book_name_price) (defScope s_Book_name_price) .none kV dc pm an cd ct) ["self", "sort"] 2 [] [0, 1] [] := KB.kd ⟨fun s us ws _ h1 h2 => match us, ws, h1, h2 with | [_, _], [], _, _ => .of_eq rfl⟩
theorem kd_Book_word_row_2 {K : PySem.W.Frag} {kV dc pm cd ct : Value} {an : Option Addr} : KDx K (PySem.W.fnOf "word_row" "Book.word_row" (defArgs s_Book_word_row) (defBody s_Book_word_row) (defScope s_Book_word_row) .none kV dc pm an cd ct) ["self", "word"] 2 [] [0, 1] [] := KB.kd ⟨fun s us ws _ h1 h2 => match us, ws, h1, h2 with | [_, _], [], _, _ => .of_eq rfl⟩
theorem kd_Book_words_for_2 {K : PySem.W.Frag} {kV dc pm cd ct : Value} {an : Option Addr} : KDx K (PySem.W.fnOf "words_for" "Book.words_for" (defArgs s_Book_words_for) (defBody s_Book_words_for) (defScope s_Book_words_for) .none kV dc pm an cd ct) ["self", "sort"] 2 [] [0, 1] [] := KB.kd ⟨fun s us ws _ h1 h2 => match us, ws, h1, h2 with | [_, _], [], _, _ => .of_eq rfl⟩
theorem kd_Book_word_price_2 {K : PySem.W.Frag} {kV dc pm cd ct : Value} {an : Option Addr} : KDx K (PySem.W.fnOf "word_price" "Book.word_price" (defArgs s_Book_word_price) (defBody s_Book_word_price) (defScope s_Book_word_price) .none kV dc pm an cd ct) ["self", "word"] 2 [] [0, 1] [] := KB.kd ⟨fun s us ws _ h1 h2 => match us, ws, h1, h2 with | [_, _], [], _, _ => .of_eq rfl⟩
theorem kd_Book_can_stand_1_sort_word {K : PySem.W.Frag} {kV dc pm cd ct : Value} {an : Option Addr} : KDx K (PySem.W.fnOf "can_stand" "Book.can_stand" (defArgs s_Book_can_stand) (defBody s_Book_can_stand) (defScope s_Book_can_stand) .none kV dc pm an cd ct) ["self", "word", "sort"] 1 ["sort", "word"] [0, 2, 1] [] := KB.kd ⟨fun s us ws _ h1 h2 => match us, ws, h1, h2 with | [_], [_, _], _, _ => .of_eq rfl⟩
set_option maxHeartbeats 0 in
theorem all_mk {l : PySem.W.OpenLaw} {w : World} {K : PySem.W.Frag} {h : Heap} {mg : Str → Option Value} {fa f0 f1 f2 f3 f4 f5 f6 f7 f8 f9 f10 f11 f12 f13 f14 f15 f16 f17 f18 f19 c0 c20 c21 c22 c23 c40 c41 c45 c46 c47 k19_ P19_ T8 xf20 xcd20 xcc20 xf21 xcd21 xcc21 xf22 xcd22 xcc22 xf23 xcd23 xcc23 xf40 xcd40 xcc40 xf41 xcd41 xcc41 : Addr} {od0 an0 od1 an1 od2 an2 od3 an3 od4 an4 od5 an5 od6 an6 od7 an7 od8 an8 od9 an9 od10 an10 od11 an11 od12 an12 od13 an13 od14 an14 od15 an15 od16 an16 od17 an17 od18 an18 od19 an19 td8 xod20 xan20 xld20 xqb20 xod21 xan21 xld21 xqb21 xod22 xan22 xld22 xqb22 xod23 xan23 xld23 xqb23 xod40 xan40 xld40 xqb40 xod41 xan41 xld41 xqb41 lqb19 : Option Addr} {sl0 sl1 sl2 sl3 sl4 sl5 sl6 sl7 sl8 sl9 sl10 sl11 sl12 sl13 sl14 sl15 sl16 sl17 sl18 sl19 ts8 xsl20 xls20 xqd20 xsl21 xls21 xqd21 xsl22 xls22 xqd22 xsl23 xls23 xqd23 xsl40 xls40 xqd40 xsl41 xls41 xqd41 lqd19 : Array (Option Value)} {oc0 kV0 dc0 pm0 cd0 ct0 oc1 kV1 dc1 pm1 cd1 ct1 oc2 kV2 dc2 pm2 cd2 ct2 oc3 kV3 dc3 pm3 cd3 ct3 oc4 kV4 dc4 pm4 cd4 ct4 oc5 kV5 dc5 pm5 cd5 ct5 oc6 kV6 dc6 pm6 cd6 ct6 oc7 kV7 dc7 pm7 cd7 ct7 oc8 kV8 dc8 pm8 cd8 ct8 oc9 kV9 dc9 pm9 cd9 ct9 oc10 kV10 dc10 pm10 cd10 ct10 oc11 kV11 dc11 pm11 cd11 ct11 oc12 kV12 dc12 pm12 cd12 ct12 oc13 kV13 dc13 pm13 cd13 ct13 oc14 kV14 dc14 pm14 cd14 ct14 oc15 kV15 dc15 pm15 cd15 ct15 oc16 kV16 dc16 pm16 cd16 ct16 oc17 kV17 dc17 pm17 cd17 ct17 oc18 kV18 dc18 pm18 cd18 ct18 oc19 kV19 dc19 pm19 ct19 to8 tv8_0 xoc20 xkV20 xdc20 xpm20 xct20 xcl20 xqa20 xoc21 xkV21 xdc21 xpm21 xct21 xcl21 xqa21 xoc22 xkV22 xdc22 xpm22 xct22 xcl22 xqa22 xoc23 xkV23 xdc23 xpm23 xct23 xcl23 xqa23 xoc40 xkV40 xdc40 xpm40 xct40 xcl40 xqa40 xoc41 xkV41 xdc41 xpm41 xct41 xcl41 xqa41 lqa19 : Value} {tn8 : Nat} {xqc20 : Array Value} {xqe20 : Str} {xqc21 : Array Value} {xqe21 : Str} {xqc22 : Array Value} {xqe22 : Str} {xqc23 : Array Value} {xqe23 : Str} {xqc40 : Array Value} {xqe40 : Str} {xqc41 : Array Value} {xqe41 : Str} {lqc19 : Array Value} {t_LETTERS t_MOST_SIGNS t_MOST_MEMORY t_Book_MOST_PRICE t_Book_MOST_SORTS t_Book_MOST_WORDS xqf20 xqf21 xqf22 xqf23 xqf40 xqf41 : Tok} {q : Program} {loose : List Str} {mean : ExcName → Option Value} {mb : Str → Option Value} (X : K.In h) (GT : PyProof.Rows.Top q (PySem.W.looseW q loose) mean mg mb h) (hfa : mg "law" = some (.ref fa)) (true_ : ∀ ns : List Int, ns.length ≤ 63 → ∃ η, m_law [.lst (ns.map .int)] [.tbl "law.<locals>.<lambda>"] = .ok (.bl true) η)
    (C0 : PySem.W.nsIn K mainGlobals "Book" = some (some (.ref c0)))
    (a0 : PySem.W.nsIn K mainGlobals "_law_feed" = some (some (.ref f0)))
    (l0 : K.lookup f0 = some ⟨oc0, od0, .func (PySem.W.fnOf "_law_feed" "_law_feed" (defArgs s_law_feed) (defBody s_law_feed) (defScope s_law_feed) .none kV0 dc0 pm0 an0 cd0 ct0), sl0⟩)
    (c0_ : PySem.W.codeIn K cd0 "_law_feed" = true)
    (k0 : PySem.W.keepIn K (.ref f0) = true)
    (a1 : PySem.W.nsIn K mainGlobals "_law_pick" = some (some (.ref f1)))
    (l1 : K.lookup f1 = some ⟨oc1, od1, .func (PySem.W.fnOf "_law_pick" "_law_pick" (defArgs s_law_pick) (defBody s_law_pick) (defScope s_law_pick) .none kV1 dc1 pm1 an1 cd1 ct1), sl1⟩)
    (c1_ : PySem.W.codeIn K cd1 "_law_pick" = true)
    (k1 : PySem.W.keepIn K (.ref f1) = true)
    (a2 : PySem.W.nsIn K mainGlobals "_law_mixed" = some (some (.ref f2)))
    (l2 : K.lookup f2 = some ⟨oc2, od2, .func (PySem.W.fnOf "_law_mixed" "_law_mixed" (defArgs s_law_mixed) (defBody s_law_mixed) (defScope s_law_mixed) .none kV2 dc2 pm2 an2 cd2 ct2), sl2⟩)
    (c2_ : PySem.W.codeIn K cd2 "_law_mixed" = true)
    (k2 : PySem.W.keepIn K (.ref f2) = true)
    (a3 : PySem.W.nsIn K mainGlobals "_law_of" = some (some (.ref f3)))
    (l3 : K.lookup f3 = some ⟨oc3, od3, .func (PySem.W.fnOf "_law_of" "_law_of" (defArgs s_law_of) (defBody s_law_of) (defScope s_law_of) .none kV3 dc3 pm3 an3 cd3 ct3), sl3⟩)
    (c3_ : PySem.W.codeIn K cd3 "_law_of" = true)
    (k3 : PySem.W.keepIn K (.ref f3) = true)
    (a4 : PySem.W.nsIn K mainGlobals "_law_names" = some (some (.ref f4)))
    (l4 : K.lookup f4 = some ⟨oc4, od4, .func (PySem.W.fnOf "_law_names" "_law_names" (defArgs s_law_names) (defBody s_law_names) (defScope s_law_names) .none kV4 dc4 pm4 an4 cd4 ct4), sl4⟩)
    (c4_ : PySem.W.codeIn K cd4 "_law_names" = true)
    (k4 : PySem.W.keepIn K (.ref f4) = true)
    (a5 : PySem.W.nsIn K mainGlobals "_law_book" = some (some (.ref f5)))
    (l5 : K.lookup f5 = some ⟨oc5, od5, .func (PySem.W.fnOf "_law_book" "_law_book" (defArgs s_law_book) (defBody s_law_book) (defScope s_law_book) .none kV5 dc5 pm5 an5 cd5 ct5), sl5⟩)
    (c5_ : PySem.W.codeIn K cd5 "_law_book" = true)
    (k5 : PySem.W.keepIn K (.ref f5) = true)
    (a6 : PySem.W.nsIn K mainGlobals "is_name" = some (some (.ref f6)))
    (l6 : K.lookup f6 = some ⟨oc6, od6, .func (PySem.W.fnOf "is_name" "is_name" (defArgs s_is_name) (defBody s_is_name) (defScope s_is_name) .none kV6 dc6 pm6 an6 cd6 ct6), sl6⟩)
    (c6_ : PySem.W.codeIn K cd6 "is_name" = true)
    (k6 : PySem.W.keepIn K (.ref f6) = true)
    (a7 : PySem.W.nsIn K mainGlobals "is_word_row" = some (some (.ref f7)))
    (l7 : K.lookup f7 = some ⟨oc7, od7, .func (PySem.W.fnOf "is_word_row" "is_word_row" (defArgs s_is_word_row) (defBody s_is_word_row) (defScope s_is_word_row) .none kV7 dc7 pm7 an7 cd7 ct7), sl7⟩)
    (c7_ : PySem.W.codeIn K cd7 "is_word_row" = true)
    (k7 : PySem.W.keepIn K (.ref f7) = true)
    (a8 : PySem.W.findIn K (.ref c0) "__init__" = some (some (.ref f8)))
    (i8 : PySem.W.isFn K (.ref f8) = true)
    (l8 : K.lookup f8 = some ⟨oc8, od8, .func (PySem.W.fnOf "__init__" "Book.__init__" (defArgs s_Book___init__) (defBody s_Book___init__) (defScope s_Book___init__) (.ref T8) kV8 dc8 pm8 an8 cd8 ct8), sl8⟩)
    (c8_ : PySem.W.codeIn K cd8 "Book.__init__" = true)
    (k8 : PySem.W.keepIn K (.ref f8) = true)
    (T8_ : K.lookup T8 = some ⟨to8, td8, .seq #[tv8_0] tn8, ts8⟩)
    (a9 : PySem.W.nsIn K mainGlobals "_law_made" = some (some (.ref f9)))
    (l9 : K.lookup f9 = some ⟨oc9, od9, .func (PySem.W.fnOf "_law_made" "_law_made" (defArgs s_law_made) (defBody s_law_made) (defScope s_law_made) .none kV9 dc9 pm9 an9 cd9 ct9), sl9⟩)
    (c9_ : PySem.W.codeIn K cd9 "_law_made" = true)
    (k9 : PySem.W.keepIn K (.ref f9) = true)
    (a10 : PySem.W.nsIn K mainGlobals "_law_field" = some (some (.ref f10)))
    (l10 : K.lookup f10 = some ⟨oc10, od10, .func (PySem.W.fnOf "_law_field" "_law_field" (defArgs s_law_field) (defBody s_law_field) (defScope s_law_field) .none kV10 dc10 pm10 an10 cd10 ct10), sl10⟩)
    (c10_ : PySem.W.codeIn K cd10 "_law_field" = true)
    (k10 : PySem.W.keepIn K (.ref f10) = true)
    (a11 : PySem.W.nsIn K mainGlobals "_law_why" = some (some (.ref f11)))
    (l11 : K.lookup f11 = some ⟨oc11, od11, .func (PySem.W.fnOf "_law_why" "_law_why" (defArgs s_law_why) (defBody s_law_why) (defScope s_law_why) .none kV11 dc11 pm11 an11 cd11 ct11), sl11⟩)
    (c11_ : PySem.W.codeIn K cd11 "_law_why" = true)
    (k11 : PySem.W.keepIn K (.ref f11) = true)
    (a12 : PySem.W.findIn K (.ref c0) "name_price" = some (some (.ref f12)))
    (i12 : PySem.W.isFn K (.ref f12) = true)
    (l12 : K.lookup f12 = some ⟨oc12, od12, .func (PySem.W.fnOf "name_price" "Book.name_price" (defArgs s_Book_name_price) (defBody s_Book_name_price) (defScope s_Book_name_price) .none kV12 dc12 pm12 an12 cd12 ct12), sl12⟩)
    (c12_ : PySem.W.codeIn K cd12 "Book.name_price" = true)
    (k12 : PySem.W.keepIn K (.ref f12) = true)
    (a13 : PySem.W.findIn K (.ref c0) "words_for" = some (some (.ref f13)))
    (i13 : PySem.W.isFn K (.ref f13) = true)
    (l13 : K.lookup f13 = some ⟨oc13, od13, .func (PySem.W.fnOf "words_for" "Book.words_for" (defArgs s_Book_words_for) (defBody s_Book_words_for) (defScope s_Book_words_for) .none kV13 dc13 pm13 an13 cd13 ct13), sl13⟩)
    (c13_ : PySem.W.codeIn K cd13 "Book.words_for" = true)
    (k13 : PySem.W.keepIn K (.ref f13) = true)
    (a14 : PySem.W.nsIn K mainGlobals "_law_price" = some (some (.ref f14)))
    (l14 : K.lookup f14 = some ⟨oc14, od14, .func (PySem.W.fnOf "_law_price" "_law_price" (defArgs s_law_price) (defBody s_law_price) (defScope s_law_price) .none kV14 dc14 pm14 an14 cd14 ct14), sl14⟩)
    (c14_ : PySem.W.codeIn K cd14 "_law_price" = true)
    (k14 : PySem.W.keepIn K (.ref f14) = true)
    (a15 : PySem.W.findIn K (.ref c0) "word_row" = some (some (.ref f15)))
    (i15 : PySem.W.isFn K (.ref f15) = true)
    (l15 : K.lookup f15 = some ⟨oc15, od15, .func (PySem.W.fnOf "word_row" "Book.word_row" (defArgs s_Book_word_row) (defBody s_Book_word_row) (defScope s_Book_word_row) .none kV15 dc15 pm15 an15 cd15 ct15), sl15⟩)
    (c15_ : PySem.W.codeIn K cd15 "Book.word_row" = true)
    (k15 : PySem.W.keepIn K (.ref f15) = true)
    (a16 : PySem.W.findIn K (.ref c0) "word_price" = some (some (.ref f16)))
    (i16 : PySem.W.isFn K (.ref f16) = true)
    (l16 : K.lookup f16 = some ⟨oc16, od16, .func (PySem.W.fnOf "word_price" "Book.word_price" (defArgs s_Book_word_price) (defBody s_Book_word_price) (defScope s_Book_word_price) .none kV16 dc16 pm16 an16 cd16 ct16), sl16⟩)
    (c16_ : PySem.W.codeIn K cd16 "Book.word_price" = true)
    (k16 : PySem.W.keepIn K (.ref f16) = true)
    (a17 : PySem.W.nsIn K mainGlobals "_law_stands" = some (some (.ref f17)))
    (l17 : K.lookup f17 = some ⟨oc17, od17, .func (PySem.W.fnOf "_law_stands" "_law_stands" (defArgs s_law_stands) (defBody s_law_stands) (defScope s_law_stands) .none kV17 dc17 pm17 an17 cd17 ct17), sl17⟩)
    (c17_ : PySem.W.codeIn K cd17 "_law_stands" = true)
    (k17 : PySem.W.keepIn K (.ref f17) = true)
    (a18 : PySem.W.findIn K (.ref c0) "can_stand" = some (some (.ref f18)))
    (i18 : PySem.W.isFn K (.ref f18) = true)
    (l18 : K.lookup f18 = some ⟨oc18, od18, .func (PySem.W.fnOf "can_stand" "Book.can_stand" (defArgs s_Book_can_stand) (defBody s_Book_can_stand) (defScope s_Book_can_stand) .none kV18 dc18 pm18 an18 cd18 ct18), sl18⟩)
    (c18_ : PySem.W.codeIn K cd18 "Book.can_stand" = true)
    (k18 : PySem.W.keepIn K (.ref f18) = true)
    (a19 : PySem.W.nsIn K mainGlobals "law" = some (some (.ref f19)))
    (l19 : K.lookup f19 = some ⟨oc19, od19, .func (PySem.W.fnOf "law" "law" (defArgs s_law) (defBody s_law) (defScope s_law) .none kV19 dc19 pm19 an19 (.ref k19_) ct19), sl19⟩)
    (c19_ : PySem.W.codeIn K (.ref k19_) "law" = true)
    (k19 : PySem.W.keepIn K (.ref f19) = true)
    (pg0 : PySem.W.plainGet K c0 Str.empty = true)
    (hd0 : PySem.W.hasDictIn K c0 = true)
    (po0 : PySem.W.plainOver K c0 = true)
    (sa0 : PySem.W.findIn K (.ref c0) "__setattr__" = some (some (.builtin "object.__setattr__")))
    (mk0 : PySem.W.makesIn K c0 = true)
    (kc0 : PySem.W.keepIn K (.ref c0) = true)
    (rd0 : PySem.W.readsIn K c0 (.type "type") = true)
    (ga0 : PySem.W.specialIn K (.ref c0) "__getattribute__" = some (some (.builtin "type.__getattribute__")))
    (n0_own_memory : PySem.W.findIn K (.ref c0) "own_memory" = some none)
    (n0_sort_rows : PySem.W.findIn K (.ref c0) "sort_rows" = some none)
    (n0_word_rows : PySem.W.findIn K (.ref c0) "word_rows" = some none)
    (v0_MOST_PRICE : PySem.W.findCls K (.ref c0) (.type "type") "MOST_PRICE" = some (.val (.int 99 t_Book_MOST_PRICE)))
    (v0_MOST_SORTS : PySem.W.findCls K (.ref c0) (.type "type") "MOST_SORTS" = some (.val (.int 4 t_Book_MOST_SORTS)))
    (v0_MOST_WORDS : PySem.W.findCls K (.ref c0) (.type "type") "MOST_WORDS" = some (.val (.int 4 t_Book_MOST_WORDS)))
    (z_all : PySem.W.nsIn K mainGlobals "all" = some none)
    (z_dict : PySem.W.nsIn K mainGlobals "dict" = some none)
    (z_enumerate : PySem.W.nsIn K mainGlobals "enumerate" = some none)
    (z_int : PySem.W.nsIn K mainGlobals "int" = some none)
    (z_isinstance : PySem.W.nsIn K mainGlobals "isinstance" = some none)
    (z_len : PySem.W.nsIn K mainGlobals "len" = some none)
    (z_list : PySem.W.nsIn K mainGlobals "list" = some none)
    (z_range : PySem.W.nsIn K mainGlobals "range" = some none)
    (z_set : PySem.W.nsIn K mainGlobals "set" = some none)
    (z_sorted : PySem.W.nsIn K mainGlobals "sorted" = some none)
    (z_str : PySem.W.nsIn K mainGlobals "str" = some none)
    (z_tuple : PySem.W.nsIn K mainGlobals "tuple" = some none)
    (e_LETTERS : PySem.W.nsIn K mainGlobals "LETTERS" = some (some (.str "abcdefghijklmnopqrstuvwxyz" t_LETTERS)))
    (e_MOST_SIGNS : PySem.W.nsIn K mainGlobals "MOST_SIGNS" = some (some (.int 8 t_MOST_SIGNS)))
    (e_MOST_MEMORY : PySem.W.nsIn K mainGlobals "MOST_MEMORY" = some (some (.int 4 t_MOST_MEMORY)))
    (C46 : PySem.W.nsIn K mainGlobals "TellError" = some (some (.ref c46)))
    (C47 : PySem.W.nsIn K mainGlobals "Missing" = some (some (.ref c47)))
    (C20 : PySem.W.nsIn K mainGlobals "WrongCount" = some (some (.ref c20)))
    (C21 : PySem.W.nsIn K mainGlobals "InvalidSort" = some (some (.ref c21)))
    (C22 : PySem.W.nsIn K mainGlobals "InvalidWord" = some (some (.ref c22)))
    (C23 : PySem.W.nsIn K mainGlobals "InvalidMemory" = some (some (.ref c23)))
    (C40 : PySem.W.nsIn K mainGlobals "UnknownSort" = some (some (.ref c40)))
    (C41 : PySem.W.nsIn K mainGlobals "UnknownWord" = some (some (.ref c41)))
    (C45 : PySem.W.nsIn K mainGlobals "NothingLeft" = some (some (.ref c45)))
    (xany : PySem.W.nsIn K cStatics "thirdparty.any" = some none)
    (xsup : PySem.W.nsIn K mainGlobals "super" = some none)
    (xtop : (l.prog.main.scope.names.lookup ("super" : Str)).isSome = false)
    (xa20 : PySem.W.findIn K (.ref c20) "__init__" = some (some (.ref xf20)))
    (xl20 : K.lookup xf20 = some ⟨xoc20, xod20, .func (PySem.W.ksFn "__init__" "WrongCount.__init__" (defArgs sx_WrongCount) (defBody sx_WrongCount) (defScope sx_WrongCount) .none xkV20 xdc20 xpm20 xan20 (.ref xcd20) xct20 xcc20), xsl20⟩)
    (xb20 : PySem.W.excInitIn K c20 [.type "ValueError", .type "Exception", .type "BaseException", .type "object"] "ValueError.__new__" = true)
    (xc20 : PySem.W.excOver K c20 [.type "ValueError", .type "Exception", .type "BaseException", .type "object"] = true)
    (xd20 : PySem.W.isFn K (.ref xf20) = true)
    (xe20 : PySem.W.ks_superIn K c20 c20 "__init__" = some (some (.builtin "ValueError.__init__")))
    (xg20 : PySem.W.subIn K (.ref c20) (.type "ValueError") = some true)
    (xh20 : PySem.W.mroIn K c20 (.ref c20) = some true)
    (xi20 : K.lookup xcc20 = some ⟨xcl20, xld20, .cell (some (.ref c20)), xls20⟩)
    (xj20 : PySem.W.findIn K (.ref c20) "__setattr__" = some (some (.builtin "object.__setattr__")))
    (xk20 : PySem.W.hasDictIn K c20 = true)
    (xm20 : PySem.W.keepIn K (.ref c20) = true)
    (xn20 : PySem.W.subIn K (.ref c20) (.type "BaseException") = some true)
    (xo20 : PySem.W.typeIn K (.ref c20) = some (.type "type"))
    (xp20 : PySem.W.codeIn K (.ref xcd20) "WrongCount.__init__" = true)
    (xq20 : K.lookup xcd20 = some ⟨xqa20, xqb20, .fields xqc20, xqd20⟩)
    (xr20 : xqc20[2]? = some (.str xqe20 xqf20))
    (xs20 : ((l.prog.main.file : Str) == xqe20) = true)
    (xt20_what : PySem.W.takerIn K c20 "what" = some none)
    (xt20_code : PySem.W.takerIn K c20 "code" = some none)
    (xa21 : PySem.W.findIn K (.ref c21) "__init__" = some (some (.ref xf21)))
    (xl21 : K.lookup xf21 = some ⟨xoc21, xod21, .func (PySem.W.ksFn "__init__" "InvalidSort.__init__" (defArgs sx_InvalidSort) (defBody sx_InvalidSort) (defScope sx_InvalidSort) .none xkV21 xdc21 xpm21 xan21 (.ref xcd21) xct21 xcc21), xsl21⟩)
    (xb21 : PySem.W.excInitIn K c21 [.type "ValueError", .type "Exception", .type "BaseException", .type "object"] "ValueError.__new__" = true)
    (xc21 : PySem.W.excOver K c21 [.type "ValueError", .type "Exception", .type "BaseException", .type "object"] = true)
    (xd21 : PySem.W.isFn K (.ref xf21) = true)
    (xe21 : PySem.W.ks_superIn K c21 c21 "__init__" = some (some (.builtin "ValueError.__init__")))
    (xg21 : PySem.W.subIn K (.ref c21) (.type "ValueError") = some true)
    (xh21 : PySem.W.mroIn K c21 (.ref c21) = some true)
    (xi21 : K.lookup xcc21 = some ⟨xcl21, xld21, .cell (some (.ref c21)), xls21⟩)
    (xj21 : PySem.W.findIn K (.ref c21) "__setattr__" = some (some (.builtin "object.__setattr__")))
    (xk21 : PySem.W.hasDictIn K c21 = true)
    (xm21 : PySem.W.keepIn K (.ref c21) = true)
    (xn21 : PySem.W.subIn K (.ref c21) (.type "BaseException") = some true)
    (xo21 : PySem.W.typeIn K (.ref c21) = some (.type "type"))
    (xp21 : PySem.W.codeIn K (.ref xcd21) "InvalidSort.__init__" = true)
    (xq21 : K.lookup xcd21 = some ⟨xqa21, xqb21, .fields xqc21, xqd21⟩)
    (xr21 : xqc21[2]? = some (.str xqe21 xqf21))
    (xs21 : ((l.prog.main.file : Str) == xqe21) = true)
    (xt21_at : PySem.W.takerIn K c21 "at" = some none)
    (xt21_code : PySem.W.takerIn K c21 "code" = some none)
    (xa22 : PySem.W.findIn K (.ref c22) "__init__" = some (some (.ref xf22)))
    (xl22 : K.lookup xf22 = some ⟨xoc22, xod22, .func (PySem.W.ksFn "__init__" "InvalidWord.__init__" (defArgs sx_InvalidWord) (defBody sx_InvalidWord) (defScope sx_InvalidWord) .none xkV22 xdc22 xpm22 xan22 (.ref xcd22) xct22 xcc22), xsl22⟩)
    (xb22 : PySem.W.excInitIn K c22 [.type "ValueError", .type "Exception", .type "BaseException", .type "object"] "ValueError.__new__" = true)
    (xc22 : PySem.W.excOver K c22 [.type "ValueError", .type "Exception", .type "BaseException", .type "object"] = true)
    (xd22 : PySem.W.isFn K (.ref xf22) = true)
    (xe22 : PySem.W.ks_superIn K c22 c22 "__init__" = some (some (.builtin "ValueError.__init__")))
    (xg22 : PySem.W.subIn K (.ref c22) (.type "ValueError") = some true)
    (xh22 : PySem.W.mroIn K c22 (.ref c22) = some true)
    (xi22 : K.lookup xcc22 = some ⟨xcl22, xld22, .cell (some (.ref c22)), xls22⟩)
    (xj22 : PySem.W.findIn K (.ref c22) "__setattr__" = some (some (.builtin "object.__setattr__")))
    (xk22 : PySem.W.hasDictIn K c22 = true)
    (xm22 : PySem.W.keepIn K (.ref c22) = true)
    (xn22 : PySem.W.subIn K (.ref c22) (.type "BaseException") = some true)
    (xo22 : PySem.W.typeIn K (.ref c22) = some (.type "type"))
    (xp22 : PySem.W.codeIn K (.ref xcd22) "InvalidWord.__init__" = true)
    (xq22 : K.lookup xcd22 = some ⟨xqa22, xqb22, .fields xqc22, xqd22⟩)
    (xr22 : xqc22[2]? = some (.str xqe22 xqf22))
    (xs22 : ((l.prog.main.file : Str) == xqe22) = true)
    (xt22_at : PySem.W.takerIn K c22 "at" = some none)
    (xt22_code : PySem.W.takerIn K c22 "code" = some none)
    (xa23 : PySem.W.findIn K (.ref c23) "__init__" = some (some (.ref xf23)))
    (xl23 : K.lookup xf23 = some ⟨xoc23, xod23, .func (PySem.W.ksFn "__init__" "InvalidMemory.__init__" (defArgs sx_InvalidMemory) (defBody sx_InvalidMemory) (defScope sx_InvalidMemory) .none xkV23 xdc23 xpm23 xan23 (.ref xcd23) xct23 xcc23), xsl23⟩)
    (xb23 : PySem.W.excInitIn K c23 [.type "ValueError", .type "Exception", .type "BaseException", .type "object"] "ValueError.__new__" = true)
    (xc23 : PySem.W.excOver K c23 [.type "ValueError", .type "Exception", .type "BaseException", .type "object"] = true)
    (xd23 : PySem.W.isFn K (.ref xf23) = true)
    (xe23 : PySem.W.ks_superIn K c23 c23 "__init__" = some (some (.builtin "ValueError.__init__")))
    (xg23 : PySem.W.subIn K (.ref c23) (.type "ValueError") = some true)
    (xh23 : PySem.W.mroIn K c23 (.ref c23) = some true)
    (xi23 : K.lookup xcc23 = some ⟨xcl23, xld23, .cell (some (.ref c23)), xls23⟩)
    (xj23 : PySem.W.findIn K (.ref c23) "__setattr__" = some (some (.builtin "object.__setattr__")))
    (xk23 : PySem.W.hasDictIn K c23 = true)
    (xm23 : PySem.W.keepIn K (.ref c23) = true)
    (xn23 : PySem.W.subIn K (.ref c23) (.type "BaseException") = some true)
    (xo23 : PySem.W.typeIn K (.ref c23) = some (.type "type"))
    (xp23 : PySem.W.codeIn K (.ref xcd23) "InvalidMemory.__init__" = true)
    (xq23 : K.lookup xcd23 = some ⟨xqa23, xqb23, .fields xqc23, xqd23⟩)
    (xr23 : xqc23[2]? = some (.str xqe23 xqf23))
    (xs23 : ((l.prog.main.file : Str) == xqe23) = true)
    (xt23_given : PySem.W.takerIn K c23 "given" = some none)
    (xt23_code : PySem.W.takerIn K c23 "code" = some none)
    (xa40 : PySem.W.findIn K (.ref c40) "__init__" = some (some (.ref xf40)))
    (xl40 : K.lookup xf40 = some ⟨xoc40, xod40, .func (PySem.W.ksFn "__init__" "UnknownSort.__init__" (defArgs sx_UnknownSort) (defBody sx_UnknownSort) (defScope sx_UnknownSort) .none xkV40 xdc40 xpm40 xan40 (.ref xcd40) xct40 xcc40), xsl40⟩)
    (xb40 : PySem.W.excInitIn K c40 [.type "LookupError", .type "Exception", .type "BaseException", .type "object"] "LookupError.__new__" = true)
    (xc40 : PySem.W.excOver K c40 [.type "LookupError", .type "Exception", .type "BaseException", .type "object"] = true)
    (xd40 : PySem.W.isFn K (.ref xf40) = true)
    (xe40 : PySem.W.ks_superIn K c40 c40 "__init__" = some (some (.builtin "LookupError.__init__")))
    (xg40 : PySem.W.subIn K (.ref c40) (.type "LookupError") = some true)
    (xh40 : PySem.W.mroIn K c40 (.ref c40) = some true)
    (xi40 : K.lookup xcc40 = some ⟨xcl40, xld40, .cell (some (.ref c40)), xls40⟩)
    (xj40 : PySem.W.findIn K (.ref c40) "__setattr__" = some (some (.builtin "object.__setattr__")))
    (xk40 : PySem.W.hasDictIn K c40 = true)
    (xm40 : PySem.W.keepIn K (.ref c40) = true)
    (xn40 : PySem.W.subIn K (.ref c40) (.type "BaseException") = some true)
    (xo40 : PySem.W.typeIn K (.ref c40) = some (.type "type"))
    (xp40 : PySem.W.codeIn K (.ref xcd40) "UnknownSort.__init__" = true)
    (xq40 : K.lookup xcd40 = some ⟨xqa40, xqb40, .fields xqc40, xqd40⟩)
    (xr40 : xqc40[2]? = some (.str xqe40 xqf40))
    (xs40 : ((l.prog.main.file : Str) == xqe40) = true)
    (xt40_name : PySem.W.takerIn K c40 "name" = some none)
    (xt40_code : PySem.W.takerIn K c40 "code" = some none)
    (xa41 : PySem.W.findIn K (.ref c41) "__init__" = some (some (.ref xf41)))
    (xl41 : K.lookup xf41 = some ⟨xoc41, xod41, .func (PySem.W.ksFn "__init__" "UnknownWord.__init__" (defArgs sx_UnknownWord) (defBody sx_UnknownWord) (defScope sx_UnknownWord) .none xkV41 xdc41 xpm41 xan41 (.ref xcd41) xct41 xcc41), xsl41⟩)
    (xb41 : PySem.W.excInitIn K c41 [.type "LookupError", .type "Exception", .type "BaseException", .type "object"] "LookupError.__new__" = true)
    (xc41 : PySem.W.excOver K c41 [.type "LookupError", .type "Exception", .type "BaseException", .type "object"] = true)
    (xd41 : PySem.W.isFn K (.ref xf41) = true)
    (xe41 : PySem.W.ks_superIn K c41 c41 "__init__" = some (some (.builtin "LookupError.__init__")))
    (xg41 : PySem.W.subIn K (.ref c41) (.type "LookupError") = some true)
    (xh41 : PySem.W.mroIn K c41 (.ref c41) = some true)
    (xi41 : K.lookup xcc41 = some ⟨xcl41, xld41, .cell (some (.ref c41)), xls41⟩)
    (xj41 : PySem.W.findIn K (.ref c41) "__setattr__" = some (some (.builtin "object.__setattr__")))
    (xk41 : PySem.W.hasDictIn K c41 = true)
    (xm41 : PySem.W.keepIn K (.ref c41) = true)
    (xn41 : PySem.W.subIn K (.ref c41) (.type "BaseException") = some true)
    (xo41 : PySem.W.typeIn K (.ref c41) = some (.type "type"))
    (xp41 : PySem.W.codeIn K (.ref xcd41) "UnknownWord.__init__" = true)
    (xq41 : K.lookup xcd41 = some ⟨xqa41, xqb41, .fields xqc41, xqd41⟩)
    (xr41 : xqc41[2]? = some (.str xqe41 xqf41))
    (xs41 : ((l.prog.main.file : Str) == xqe41) = true)
    (xt41_name : PySem.W.takerIn K c41 "name" = some none)
    (xt41_code : PySem.W.takerIn K c41 "code" = some none)
    (xu23_code : PySem.W.findIn K (.ref c23) "code" = some none)
    (xu23_given : PySem.W.findIn K (.ref c23) "given" = some none)
    (xu21_at : PySem.W.findIn K (.ref c21) "at" = some none)
    (xu21_code : PySem.W.findIn K (.ref c21) "code" = some none)
    (xu22_at : PySem.W.findIn K (.ref c22) "at" = some none)
    (xu22_code : PySem.W.findIn K (.ref c22) "code" = some none)
    (xu40_code : PySem.W.findIn K (.ref c40) "code" = some none)
    (xu40_name : PySem.W.findIn K (.ref c40) "name" = some none)
    (xu41_code : PySem.W.findIn K (.ref c41) "code" = some none)
    (xu41_name : PySem.W.findIn K (.ref c41) "name" = some none)
    (xu20_code : PySem.W.findIn K (.ref c20) "code" = some none)
    (xu20_what : PySem.W.findIn K (.ref c20) "what" = some none)
    (xv23 : PySem.W.findIn K (.ref c23) "__getattribute__" = some (some (.builtin "BaseException.__getattribute__")))
    (xw23 : PySem.W.findIn K (.ref c23) "__getattr__" = some none)
    (xv21 : PySem.W.findIn K (.ref c21) "__getattribute__" = some (some (.builtin "BaseException.__getattribute__")))
    (xw21 : PySem.W.findIn K (.ref c21) "__getattr__" = some none)
    (xv22 : PySem.W.findIn K (.ref c22) "__getattribute__" = some (some (.builtin "BaseException.__getattribute__")))
    (xw22 : PySem.W.findIn K (.ref c22) "__getattr__" = some none)
    (xv40 : PySem.W.findIn K (.ref c40) "__getattribute__" = some (some (.builtin "BaseException.__getattribute__")))
    (xw40 : PySem.W.findIn K (.ref c40) "__getattr__" = some none)
    (xv41 : PySem.W.findIn K (.ref c41) "__getattribute__" = some (some (.builtin "BaseException.__getattribute__")))
    (xw41 : PySem.W.findIn K (.ref c41) "__getattr__" = some none)
    (xv20 : PySem.W.findIn K (.ref c20) "__getattribute__" = some (some (.builtin "BaseException.__getattribute__")))
    (xw20 : PySem.W.findIn K (.ref c20) "__getattr__" = some none)
    (xx20_TellError : PySem.W.exmOne K (.ref c20) (.ref c46) = some true)
    (xx20_Missing : PySem.W.exmOne K (.ref c20) (.ref c47) = some false)
    (xx20_NothingLeft : PySem.W.exmOne K (.ref c20) (.ref c45) = some false)
    (xx21_TellError : PySem.W.exmOne K (.ref c21) (.ref c46) = some true)
    (xx21_Missing : PySem.W.exmOne K (.ref c21) (.ref c47) = some false)
    (xx21_NothingLeft : PySem.W.exmOne K (.ref c21) (.ref c45) = some false)
    (xx22_TellError : PySem.W.exmOne K (.ref c22) (.ref c46) = some true)
    (xx22_Missing : PySem.W.exmOne K (.ref c22) (.ref c47) = some false)
    (xx22_NothingLeft : PySem.W.exmOne K (.ref c22) (.ref c45) = some false)
    (xx23_TellError : PySem.W.exmOne K (.ref c23) (.ref c46) = some true)
    (xx23_Missing : PySem.W.exmOne K (.ref c23) (.ref c47) = some false)
    (xx23_NothingLeft : PySem.W.exmOne K (.ref c23) (.ref c45) = some false)
    (xx40_TellError : PySem.W.exmOne K (.ref c40) (.ref c46) = some false)
    (xx40_Missing : PySem.W.exmOne K (.ref c40) (.ref c47) = some true)
    (xx40_NothingLeft : PySem.W.exmOne K (.ref c40) (.ref c45) = some false)
    (xx41_TellError : PySem.W.exmOne K (.ref c41) (.ref c46) = some false)
    (xx41_Missing : PySem.W.exmOne K (.ref c41) (.ref c47) = some true)
    (xx41_NothingLeft : PySem.W.exmOne K (.ref c41) (.ref c45) = some false)
    (lq19 : K.lookup k19_ = some ⟨lqa19, lqb19, .fields lqc19, lqd19⟩)
    (lv19 : lqc19[11]? = some (.ref P19_))
    (lr19 : ((PyProof.Rows.recsOf q).find? fun e => e.name == ("law" : Str)).isSome = true)
    (ln19 : K.lookup P19_ = none) :
    LamX.LawAtS l w K CX0 6 63 "_law_script" mg fa h := by
  have G := GT.g
  have e := hfa.symm.trans (PySem.W.mg_of X G a19)
  obtain rfl : f19 = fa := by cases e; rfl
  let A : Nat → Addr := fun i => [f0, f1, f2, f3, f4, f5, f6, f7, f8, f9, f10, f11, f12, f13, f14, f15, f16, f17, f18, f19].getD i 0
  let FD : Nat → FuncData := fun i => [PySem.W.fnOf "_law_feed" "_law_feed" (defArgs s_law_feed) (defBody s_law_feed) (defScope s_law_feed) .none kV0 dc0 pm0 an0 cd0 ct0, PySem.W.fnOf "_law_pick" "_law_pick" (defArgs s_law_pick) (defBody s_law_pick) (defScope s_law_pick) .none kV1 dc1 pm1 an1 cd1 ct1, PySem.W.fnOf "_law_mixed" "_law_mixed" (defArgs s_law_mixed) (defBody s_law_mixed) (defScope s_law_mixed) .none kV2 dc2 pm2 an2 cd2 ct2, PySem.W.fnOf "_law_of" "_law_of" (defArgs s_law_of) (defBody s_law_of) (defScope s_law_of) .none kV3 dc3 pm3 an3 cd3 ct3, PySem.W.fnOf "_law_names" "_law_names" (defArgs s_law_names) (defBody s_law_names) (defScope s_law_names) .none kV4 dc4 pm4 an4 cd4 ct4, PySem.W.fnOf "_law_book" "_law_book" (defArgs s_law_book) (defBody s_law_book) (defScope s_law_book) .none kV5 dc5 pm5 an5 cd5 ct5, PySem.W.fnOf "is_name" "is_name" (defArgs s_is_name) (defBody s_is_name) (defScope s_is_name) .none kV6 dc6 pm6 an6 cd6 ct6, PySem.W.fnOf "is_word_row" "is_word_row" (defArgs s_is_word_row) (defBody s_is_word_row) (defScope s_is_word_row) .none kV7 dc7 pm7 an7 cd7 ct7, PySem.W.fnOf "__init__" "Book.__init__" (defArgs s_Book___init__) (defBody s_Book___init__) (defScope s_Book___init__) (.ref T8) kV8 dc8 pm8 an8 cd8 ct8, PySem.W.fnOf "_law_made" "_law_made" (defArgs s_law_made) (defBody s_law_made) (defScope s_law_made) .none kV9 dc9 pm9 an9 cd9 ct9, PySem.W.fnOf "_law_field" "_law_field" (defArgs s_law_field) (defBody s_law_field) (defScope s_law_field) .none kV10 dc10 pm10 an10 cd10 ct10, PySem.W.fnOf "_law_why" "_law_why" (defArgs s_law_why) (defBody s_law_why) (defScope s_law_why) .none kV11 dc11 pm11 an11 cd11 ct11, PySem.W.fnOf "name_price" "Book.name_price" (defArgs s_Book_name_price) (defBody s_Book_name_price) (defScope s_Book_name_price) .none kV12 dc12 pm12 an12 cd12 ct12, PySem.W.fnOf "words_for" "Book.words_for" (defArgs s_Book_words_for) (defBody s_Book_words_for) (defScope s_Book_words_for) .none kV13 dc13 pm13 an13 cd13 ct13, PySem.W.fnOf "_law_price" "_law_price" (defArgs s_law_price) (defBody s_law_price) (defScope s_law_price) .none kV14 dc14 pm14 an14 cd14 ct14, PySem.W.fnOf "word_row" "Book.word_row" (defArgs s_Book_word_row) (defBody s_Book_word_row) (defScope s_Book_word_row) .none kV15 dc15 pm15 an15 cd15 ct15, PySem.W.fnOf "word_price" "Book.word_price" (defArgs s_Book_word_price) (defBody s_Book_word_price) (defScope s_Book_word_price) .none kV16 dc16 pm16 an16 cd16 ct16, PySem.W.fnOf "_law_stands" "_law_stands" (defArgs s_law_stands) (defBody s_law_stands) (defScope s_law_stands) .none kV17 dc17 pm17 an17 cd17 ct17, PySem.W.fnOf "can_stand" "Book.can_stand" (defArgs s_Book_can_stand) (defBody s_Book_can_stand) (defScope s_Book_can_stand) .none kV18 dc18 pm18 an18 cd18 ct18, PySem.W.fnOf "law" "law" (defArgs s_law) (defBody s_law) (defScope s_law) .none kV19 dc19 pm19 an19 (.ref k19_) ct19].getD i (PySem.W.fnOf "law" "law" (defArgs s_law) (defBody s_law) (defScope s_law) .none kV19 dc19 pm19 an19 (.ref k19_) ct19)
  let CL : Nat → Addr := fun i => [c0, 0, 0, 0, 0, 0, 0, 0, 0, 0, 0, 0, 0, 0, 0, 0, 0, 0, 0, 0, c20, c21, c22, c23, 0, 0, 0, 0, 0, 0, 0, 0, 0, 0, 0, 0, 0, 0, 0, 0, c40, c41, 0, 0, 0, c45, c46, c47].getD i 0
  let CA : Nat → Addr := fun i => [k19_, 0].getD i 0
  have T : Txt l.prog K mg A FD CL CA := ⟨PySem.W.mg_of X G C46,
    PySem.W.mg_of X G C47,
    PySem.W.mg_of X G C45,
    (exR1 DX.exB_Value ⟨xb20, xc20, xa20, xd20, xe20, xg20, xh20, xany, xsup, ⟨_, _, _, xi20⟩, xj20, xk20, xm20, xn20, xo20⟩ (PySem.W.mg_of X G C20) (PySem.W.mg_none_of X G xsup) ⟨⟨_, _, _, _, _, _, _, _, xl20⟩, xp20, ⟨_, _, _, _, _, _, xq20, xr20, xs20⟩, xtop⟩ (st := sx_WrongCount) ⟨rfl, rfl, rfl, by decide +kernel, by decide +kernel, rfl, rfl⟩ rfl rfl rfl (fun L => ⟨_, rfl⟩) xt20_what xt20_code bx_WrongCount),
    (exR1 DX.exB_Value ⟨xb21, xc21, xa21, xd21, xe21, xg21, xh21, xany, xsup, ⟨_, _, _, xi21⟩, xj21, xk21, xm21, xn21, xo21⟩ (PySem.W.mg_of X G C21) (PySem.W.mg_none_of X G xsup) ⟨⟨_, _, _, _, _, _, _, _, xl21⟩, xp21, ⟨_, _, _, _, _, _, xq21, xr21, xs21⟩, xtop⟩ (st := sx_InvalidSort) ⟨rfl, rfl, rfl, by decide +kernel, by decide +kernel, rfl, rfl⟩ rfl rfl rfl (fun L => ⟨_, rfl⟩) xt21_at xt21_code bx_InvalidSort),
    (exR1 DX.exB_Value ⟨xb22, xc22, xa22, xd22, xe22, xg22, xh22, xany, xsup, ⟨_, _, _, xi22⟩, xj22, xk22, xm22, xn22, xo22⟩ (PySem.W.mg_of X G C22) (PySem.W.mg_none_of X G xsup) ⟨⟨_, _, _, _, _, _, _, _, xl22⟩, xp22, ⟨_, _, _, _, _, _, xq22, xr22, xs22⟩, xtop⟩ (st := sx_InvalidWord) ⟨rfl, rfl, rfl, by decide +kernel, by decide +kernel, rfl, rfl⟩ rfl rfl rfl (fun L => ⟨_, rfl⟩) xt22_at xt22_code bx_InvalidWord),
    (exR1 DX.exB_Value ⟨xb23, xc23, xa23, xd23, xe23, xg23, xh23, xany, xsup, ⟨_, _, _, xi23⟩, xj23, xk23, xm23, xn23, xo23⟩ (PySem.W.mg_of X G C23) (PySem.W.mg_none_of X G xsup) ⟨⟨_, _, _, _, _, _, _, _, xl23⟩, xp23, ⟨_, _, _, _, _, _, xq23, xr23, xs23⟩, xtop⟩ (st := sx_InvalidMemory) ⟨rfl, rfl, rfl, by decide +kernel, by decide +kernel, rfl, rfl⟩ rfl rfl rfl (fun L => ⟨_, rfl⟩) xt23_given xt23_code bx_InvalidMemory),
    (exR1 DX.exB_Lookup ⟨xb40, xc40, xa40, xd40, xe40, xg40, xh40, xany, xsup, ⟨_, _, _, xi40⟩, xj40, xk40, xm40, xn40, xo40⟩ (PySem.W.mg_of X G C40) (PySem.W.mg_none_of X G xsup) ⟨⟨_, _, _, _, _, _, _, _, xl40⟩, xp40, ⟨_, _, _, _, _, _, xq40, xr40, xs40⟩, xtop⟩ (st := sx_UnknownSort) ⟨rfl, rfl, rfl, by decide +kernel, by decide +kernel, rfl, rfl⟩ rfl rfl rfl (fun L => ⟨_, rfl⟩) xt40_name xt40_code bx_UnknownSort),
    (exR1 DX.exB_Lookup ⟨xb41, xc41, xa41, xd41, xe41, xg41, xh41, xany, xsup, ⟨_, _, _, xi41⟩, xj41, xk41, xm41, xn41, xo41⟩ (PySem.W.mg_of X G C41) (PySem.W.mg_none_of X G xsup) ⟨⟨_, _, _, _, _, _, _, _, xl41⟩, xp41, ⟨_, _, _, _, _, _, xq41, xr41, xs41⟩, xtop⟩ (st := sx_UnknownWord) ⟨rfl, rfl, rfl, by decide +kernel, by decide +kernel, rfl, rfl⟩ rfl rfl rfl (fun L => ⟨_, rfl⟩) xt41_name xt41_code bx_UnknownWord),
    ⟨xv23, xw23, xn23, xk23, xu23_code⟩,
    ⟨xv23, xw23, xn23, xk23, xu23_given⟩,
    ⟨xv21, xw21, xn21, xk21, xu21_at⟩,
    ⟨xv21, xw21, xn21, xk21, xu21_code⟩,
    ⟨xv22, xw22, xn22, xk22, xu22_at⟩,
    ⟨xv22, xw22, xn22, xk22, xu22_code⟩,
    ⟨xv40, xw40, xn40, xk40, xu40_code⟩,
    ⟨xv40, xw40, xn40, xk40, xu40_name⟩,
    ⟨xv41, xw41, xn41, xk41, xu41_code⟩,
    ⟨xv41, xw41, xn41, xk41, xu41_name⟩,
    ⟨xv20, xw20, xn20, xk20, xu20_code⟩,
    ⟨xv20, xw20, xn20, xk20, xu20_what⟩,
    (exm3 xx20_TellError xx20_Missing xx20_NothingLeft rfl),
    (exm3 xx21_TellError xx21_Missing xx21_NothingLeft rfl),
    (exm3 xx22_TellError xx22_Missing xx22_NothingLeft rfl),
    (exm3 xx23_TellError xx23_Missing xx23_NothingLeft rfl),
    (exm3 xx40_TellError xx40_Missing xx40_NothingLeft rfl),
    (exm3 xx41_TellError xx41_Missing xx41_NothingLeft rfl),
    PySem.W.mg_none_of X G z_all,
    PySem.W.mg_none_of X G z_dict,
    PySem.W.mg_none_of X G z_enumerate,
    PySem.W.mg_none_of X G z_int,
    PySem.W.mg_none_of X G z_isinstance,
    PySem.W.mg_none_of X G z_len,
    PySem.W.mg_none_of X G z_list,
    PySem.W.mg_none_of X G z_range,
    PySem.W.mg_none_of X G z_set,
    PySem.W.mg_none_of X G z_sorted,
    PySem.W.mg_none_of X G z_str,
    PySem.W.mg_none_of X G z_tuple,
    ⟨_, PySem.W.mg_of X G e_LETTERS⟩,
    ⟨_, PySem.W.mg_of X G e_MOST_SIGNS⟩,
    ⟨_, PySem.W.mg_of X G e_MOST_MEMORY⟩,
    PySem.W.mg_of X G C0,
    ⟨pg0, hd0, po0, sa0⟩,
    ⟨mk0, a8, i8, kc0⟩,
    ⟨rd0, ga0⟩,
    n0_own_memory,
    n0_sort_rows,
    n0_word_rows,
    ⟨_, v0_MOST_PRICE, ⟨_, rfl⟩⟩,
    ⟨_, v0_MOST_SORTS, ⟨_, rfl⟩⟩,
    ⟨_, v0_MOST_WORDS, ⟨_, rfl⟩⟩,
    PySem.W.mg_of X G a0,
    FunG.mk' (st := s_law_feed) l0 c0_ k0,
    bd_law_feed,
    PySem.W.mg_of X G a1,
    FunG.mk' (st := s_law_pick) l1 c1_ k1,
    bd_law_pick,
    PySem.W.mg_of X G a2,
    FunG.mk' (st := s_law_mixed) l2 c2_ k2,
    bd_law_mixed,
    PySem.W.mg_of X G a3,
    FunG.mk' (st := s_law_of) l3 c3_ k3,
    bd_law_of,
    PySem.W.mg_of X G a4,
    FunG.mk' (st := s_law_names) l4 c4_ k4,
    bd_law_names,
    PySem.W.mg_of X G a5,
    FunG.mk' (st := s_law_book) l5 c5_ k5,
    bd_law_book,
    PySem.W.mg_of X G a6,
    FunG.mk' (st := s_is_name) l6 c6_ k6,
    bd_is_name,
    PySem.W.mg_of X G a7,
    FunG.mk' (st := s_is_word_row) l7 c7_ k7,
    bd_is_word_row,
    ⟨a8, i8, k8⟩,
    FunG.mk' (st := s_Book___init__) l8 c8_ k8,
    PySem.W.mg_of X G a9,
    FunG.mk' (st := s_law_made) l9 c9_ k9,
    bd_law_made,
    PySem.W.mg_of X G a10,
    FunG.mk' (st := s_law_field) l10 c10_ k10,
    bd_law_field,
    PySem.W.mg_of X G a11,
    FunG.mk' (st := s_law_why) l11 c11_ k11,
    bd_law_why,
    ⟨a12, i12, k12⟩,
    FunG.mk' (st := s_Book_name_price) l12 c12_ k12,
    bd_Book_name_price,
    ⟨a13, i13, k13⟩,
    FunG.mk' (st := s_Book_words_for) l13 c13_ k13,
    bd_Book_words_for,
    PySem.W.mg_of X G a14,
    FunG.mk' (st := s_law_price) l14 c14_ k14,
    bd_law_price,
    ⟨a15, i15, k15⟩,
    FunG.mk' (st := s_Book_word_row) l15 c15_ k15,
    bd_Book_word_row,
    ⟨a16, i16, k16⟩,
    FunG.mk' (st := s_Book_word_price) l16 c16_ k16,
    bd_Book_word_price,
    PySem.W.mg_of X G a17,
    FunG.mk' (st := s_law_stands) l17 c17_ k17,
    bd_law_stands,
    ⟨a18, i18, k18⟩,
    FunG.mk' (st := s_Book_can_stand) l18 c18_ k18,
    bd_Book_can_stand,
    PySem.W.mg_of X G a19,
    FunL.mk' (st := s_law) l19 c19_ k19,
    bd_law,
    (kd_Book___init___3_memory T8_ rfl),
    kd_Book_name_price_2,
    kd_Book_word_row_2,
    kd_Book_words_for_2,
    kd_Book_word_price_2,
    kd_Book_can_stand_1_sort_word⟩
  let TB : Str → Addr := fun s => if s = ("law.<locals>.<lambda>" : Str) then P19_ else 0
  have tbe19 : TB "law.<locals>.<lambda>" = P19_ := if_pos rfl
  obtain ⟨dr19, hdr19⟩ := Option.isSome_iff_exists.mp lr19
  have tf19 := PySem.W.tab_of GT X hdr19 (tabIn_of a19 l19 rfl lq19 lv19)
  exact ⟨FD 19, [(k19_, P19_)], spT K TB m_law, (fun p hp => by
    simp only [List.mem_cons, List.not_mem_nil, or_false] at hp
    rcases hp with rfl
    · exact tf19.2), (fun p hp => by
    simp only [List.mem_cons, List.not_mem_nil, or_false] at hp
    rcases hp with rfl
    · exact ln19), (fun p hp => by
    simp only [List.mem_cons, List.not_mem_nil, or_false] at hp
    rcases hp with rfl
    · exact tf19.1), fun s v => .of_eq rfl, fun H a ns hl _ hT hS cl => law_spT (qs := ["law.<locals>.<lambda>"]) true_ hl (by simp) (fun z hz => by
    simp only [List.mem_cons, List.not_mem_nil, or_false] at hz
    rcases hz with rfl
    · rw [tbe19]; exact hT (k19_, P19_) (by simp)) hS, fun base _ _ hU => (ok_law T ⟨by rw [tbe19]; exact hU (k19_, P19_) (by simp)⟩).imp fun vs H Q E z => z CL⟩
theorem walk {l : PySem.W.OpenLaw} {q : Program} {loose : List Str} {XP : (Str → Option Value) → Heap → Prop} {YP : World → Heap → Prop} {d : DefRec} {K : Params → PySem.W.Frag} (hn : l.most = some 63) (hdf : d.params.defaults = [])
    (hY : ∀ (w : World) (h : Heap), YP w h → (K w.params).In h)
    (F : ∀ (w : World) (mg mb : Str → Option Value) (mean : ExcName → Option Value) (fa : Addr) (h : Heap), (K w.params).In h → PyProof.Rows.Top q (PySem.W.looseW q loose) mean mg mb h → mg d.name = some (.ref fa) → LamX.LawAtS l w (K w.params) CX0 6 63 "_law_script" mg fa h) :
    PySem.W.WalkO q loose XP YP l.row.toRowW d [] (fun f vs => PySem.call f vs) :=
  walk_T (n := 63) (k := 6) (x := "_law_script") (CX := fun _ => CX0) hn (by decide) hdf ⟨rfl, by decide, by decide⟩ hY F fun _ _ _ _ _ z => z
end Law
namespace Law
open PySem L2 DL PL PySem.W
abbrev W1 : S := (sDrop (fMethX 0 ["sort_rows", "word_rows", "own_memory"] 2 0 2 m_Book_name_price [0, 1] [] (fV 0) (fCons (fV 1) fNil) fNil))
abbrev W2 : S := (sFrz 2 (fLc [3, 4, 5, 6] (fiE (fFld 0 ["sort_rows", "word_rows", "own_memory"] 1 (fV 0))) (.tp [(.nm 3), (.tp [(.nm 4), (.nm 5), (.nm 6)])]) (toB (fOp inD (fV 1) (fV 5))) (fTup (fCons (fV 6) (fCons (fV 3) (fCons (fV 4) fNil))))))
abbrev W3 : S := (sRet (fFrz (fLc [6, 3, 4] (fiA (fFrz (fSortD (fV 2)))) (.tp [(.nm 6), (.nm 3), (.nm 4)]) fYes (fV 4))))
abbrev W : S := (sSeq W1 (sSeq W2 W3))
theorem W_eq : b_Book_words_for = W := rfl
/-! ### prices and orders, in plain words -/
def XS (z : Str) (rs : List Row) : List (Row × Nat) := rs.zipIdx.filter fun x => decide (z ∈ x.1.st)
def leP (a b : Row × Nat) : Bool := decide (a.1.p < b.1.p ∨ (a.1.p = b.1.p ∧ (a.2 : Int) ≤ (b.2 : Int)))
def orderR (z : Str) (rs : List Row) : List (Row × Nat) := (XS z rs).mergeSort leP
def t2 (x : Row × Nat) : D := .tup [.int x.1.p, .int (x.2 : Nat)]
def t3 (x : Row × Nat) : D := .tup [.int x.1.p, .int (x.2 : Nat), .str x.1.n]
theorem xs_at {z : Str} {rs : List Row} {x : Row × Nat} (h : x ∈ XS z rs) : rs[x.2]? = some x.1 := by
  have := (List.mem_filter.mp h).1
  exact List.mem_zipIdx_iff_getElem?.mp this
theorem order_at {z : Str} {rs : List Row} {x : Row × Nat} (h : x ∈ orderR z rs) : rs[x.2]? = some x.1 := xs_at (List.mem_mergeSort.mp h)
theorem xs_len {z : Str} {rs : List Row} : (XS z rs).length ≤ rs.length := by
  have := List.length_filter_le (fun x : Row × Nat => decide (z ∈ x.1.st)) rs.zipIdx
  rwa [List.length_zipIdx] at this
theorem lt3 (p q : Int) (i j : Nat) (m n : Str) (h : i = j → m = n) : dataLt (.tuple [.int p, .int (i : Nat), .str m]) (.tuple [.int q, .int (j : Nat), .str n]) = decide (p < q ∨ (p = q ∧ (i : Int) < (j : Int))) := by
  rw [dataLt_tuple, dataLt_cons (by simp [alike]), dataLt_cons (by simp [alike]), dataLt_cons (by simp [alike])]
  have e : PyProof.Rows.lexLt PyProof.Rows.itemOrd (keyToksAll []) (keyToksAll []) = false := PyProof.Rows.lex_irrefl _
  rw [e, dataLt_int, dataLt_int]
  simp only [PyData.eqv, beq_iff_eq]
  by_cases h1 : p = q
  · by_cases h2 : i = j
    · have h3 := h h2
      simp [h1, h2, h3]
    · have h4 : ¬ ((i : Int) = (j : Int)) := by omega
      simp [h1, h2, h4]
  · simp [h1]
theorem sort3 {z : Str} {rs : List Row} : sortD ((XS z rs).map t3) = (orderR z rs).map t3 := by
  unfold sortD orderR
  refine (sort_maps t3 fun a ha b hb => ?_).symm
  have h : b.2 = a.2 → b.1.n = a.1.n := fun e => by
    have x1 := xs_at ha
    have x2 := xs_at hb
    rw [e, x1] at x2
    rw [Option.some.inj x2]
  show leP a b = (!dataLt (toPy (t3 b)) (toPy (t3 a)))
  have e1 : ∀ x : Row × Nat, toPy (t3 x) = .tuple [.int x.1.p, .int (x.2 : Nat), .str x.1.n] := fun x => by simp [t3, toPy, toPys]
  rw [e1, e1, lt3 _ _ _ _ _ _ h]
  unfold leP
  by_cases c : b.1.p < a.1.p ∨ (b.1.p = a.1.p ∧ (b.2 : Int) < (a.2 : Int))
  · have c' : ¬ (a.1.p < b.1.p ∨ (a.1.p = b.1.p ∧ (a.2 : Int) ≤ (b.2 : Int))) := by omega
    rw [decide_eq_true c, decide_eq_false c']; rfl
  · have c' : a.1.p < b.1.p ∨ (a.1.p = b.1.p ∧ (a.2 : Int) ≤ (b.2 : Int)) := by omega
    rw [decide_eq_false c, decide_eq_true c']; rfl
theorem sort2 {z : Str} {rs : List Row} : sortD ((XS z rs).map t2) = (orderR z rs).map t2 := by
  unfold sortD orderR
  refine (sort_maps t2 fun a ha b hb => ?_).symm
  show leP a b = (!dataLt (toPy (t2 b)) (toPy (t2 a)))
  have e1 : ∀ x : Row × Nat, toPy (t2 x) = .tuple [.int x.1.p, .int (x.2 : Nat)] := fun x => by simp [t2, toPy, toPys]
  rw [e1, e1, dataLt_ii]
  unfold leP
  by_cases c : b.1.p < a.1.p ∨ (b.1.p = a.1.p ∧ ((b.2 : Nat) : Int) < ((a.2 : Nat) : Int))
  · have c' : ¬ (a.1.p < b.1.p ∨ (a.1.p = b.1.p ∧ (a.2 : Int) ≤ (b.2 : Int))) := by omega
    rw [decide_eq_true c, decide_eq_false c']; rfl
  · have c' : a.1.p < b.1.p ∨ (a.1.p = b.1.p ∧ (a.2 : Int) ≤ (b.2 : Int)) := by omega
    rw [decide_eq_false c, decide_eq_true c']; rfl
theorem able {f : Row × Nat → D} (ha : ∀ x y, alike (toPy (f x)) (toPy (f y)) = true) (hh : ∀ x, hdB (f x) = true) {l : List (Row × Nat)} : sortableB (l.map f) = true := by
  unfold sortableB
  rw [Bool.and_eq_true, Bool.or_eq_true]
  refine ⟨List.all_eq_true.mpr fun d hd => List.all_eq_true.mpr fun e he => ?_, .inl (List.all_eq_true.mpr fun d hd => ?_)⟩
  · obtain ⟨x, _, rfl⟩ := List.mem_map.mp hd
    obtain ⟨y, _, rfl⟩ := List.mem_map.mp he
    exact ha x y
  · obtain ⟨x, _, rfl⟩ := List.mem_map.mp hd
    exact hh x
theorem able3 {l : List (Row × Nat)} : sortableB (l.map t3) = true := able (fun x y => by simp [t3, toPy, toPys, alike, alikeAll]) fun x => rfl
theorem able2 {l : List (Row × Nat)} : sortableB (l.map t2) = true := able (fun x y => by simp [t2, toPy, toPys, alike, alikeAll]) fun x => rfl
theorem pure3 {l : List (Row × Nat)} : pureDs 20 (l.map t3) = true := pureDs_map fun x _ => rfl
theorem pure2 {l : List (Row × Nat)} : pureDs 20 (l.map t2) = true := pureDs_map fun x _ => rfl
section
variable {δ : En} {η η1 : List O} {b : Nat} {ks : List (Str × Int)} {rs : List Row} {m : D}
theorem sortF_of {fa : F D} {l : List D} (h : fa δ η = .ok (.lst l) η1) (h1 : pureDs 20 l = true) (h2 : sortableB l = true) (h3 : l.length ≤ 1000) : fSortD fa δ η = .ok (sortD l) η1 := by
  rw [fSortD_a, h, bind_ok]
  exact if_pos ⟨h1, h2, h3⟩
/-! ### name_price -/
theorem price_find {z : Str} {k : Str × Int} (hb : η[b]? = some (bkO ks rs m)) (hf : ks.find? (fun k => decide (k.1 = z)) = some k) : m_Book_name_price [.obj b, .str z] η = .ok (.int k.2) η := by
  have hb' : η[b]? = some (.ins 0 NSB [.lst (ks.map kd2), .lst (rs.map Row.d), m]) := hb
  have hl : ∀ (ks : List (Str × Int)) (y2 y3 : Option L), ks.find? (fun k => decide (k.1 = z)) = some k → loopF (.tp [.nm 2, .nm 3]) (sIf (toB (fOp eqD (fV 2) (fV 1))) (sRet (fV 3)) SR.nx) (ks.map kd2) [vl (.obj b), vl (.str z), y2, y3] η = .rt (.int k.2) η := fun ks => by
    induction ks with
    | nil => intro y2 y3 h; cases h
    | cons q ks ih =>
      intro y2 y3 h
      rw [List.map_cons, loopF]
      simp only [kd2, asg_tp, asgs_cons, asgs_nil, asg_nm, Option.bind_some, List.set_cons_succ, List.set_cons_zero]
      by_cases e : q.1 = z
      · rw [List.find?_cons_of_pos (by simpa using e)] at h
        cases h
        simp [e]
        rfl
      · rw [List.find?_cons_of_neg (by simpa using e)] at h
        simp [e]
        exact ih _ _ h
  refine run_rt2 (δ := [vl (.obj b), vl (.str z), none, none]) rfl ?_
  unfold b_Book_name_price
  have el := hl ks none none hf
  have fa : (fiA (fFld 0 ["sort_rows", "word_rows", "own_memory"] 0 (fV 0))) [vl (.obj b), vl (.str z), none, none] η = .ok (ks.map kd2) η := fiA_of (d := .lst (ks.map kd2)) (η1 := η) (by
    generalize ks.map kd2 = KK at *
    generalize rs.map Row.d = RR at *
    exact (by (try simp only [DLS, Int.cast_ofNat_Int, Nat.reduceAdd, Nat.reduceLeDiff, Nat.reduceEqDiff, Nat.reduceSub, Nat.reduceMul, Nat.reduceBEq, Nat.reduceLT, Int.reduceAdd, Int.reduceSub, Int.reduceMul, Int.reduceNeg, Int.reduceLE, Int.reduceLT, Int.reduceEq, Int.reduceNe, Int.reduceToNat, reduceIte, szT, szlT, hb']) <;> rfl)) rfl
  rw [sSeq_a, sFor_a, fa, toS_ok, el]
  rfl
theorem price_none {z : Str} (hb : η[b]? = some (bkO ks rs m)) (hf : z ∉ ks.map (·.1)) : m_Book_name_price [.obj b, .str z] η = .exc 40 ["name", "code"] [.str z, .str "UnknownSort"] η := by
  have hb' : η[b]? = some (.ins 0 NSB [.lst (ks.map kd2), .lst (rs.map Row.d), m]) := hb
  have hl : ∀ (ks : List (Str × Int)) (y2 y3 : Option L), z ∉ ks.map (·.1) → ∃ z2 z3, loopF (.tp [.nm 2, .nm 3]) (sIf (toB (fOp eqD (fV 2) (fV 1))) (sRet (fV 3)) SR.nx) (ks.map kd2) [vl (.obj b), vl (.str z), y2, y3] η = .nx [vl (.obj b), vl (.str z), z2, z3] η := fun ks => by
    induction ks with
    | nil => intro y2 y3 h; exact ⟨y2, y3, rfl⟩
    | cons q ks ih =>
      intro y2 y3 h
      rw [List.map_cons, List.mem_cons, not_or] at h
      have e : ¬ q.1 = z := fun e => h.1 e.symm
      obtain ⟨z2, z3, e'⟩ := ih (vl (.str q.1)) (vl (.int q.2)) h.2
      refine ⟨z2, z3, ?_⟩
      rw [List.map_cons, loopF]
      simp only [kd2, asg_tp, asgs_cons, asgs_nil, asg_nm, Option.bind_some, List.set_cons_succ, List.set_cons_zero]
      simp [e]
      exact e'
  obtain ⟨z2, z3, el⟩ := hl ks none none hf
  refine run_ex2 (δ := [vl (.obj b), vl (.str z), none, none]) rfl (δ' := [vl (.obj b), vl (.str z), z2, z3]) ?_
  unfold b_Book_name_price
  have fa : (fiA (fFld 0 ["sort_rows", "word_rows", "own_memory"] 0 (fV 0))) [vl (.obj b), vl (.str z), none, none] η = .ok (ks.map kd2) η := fiA_of (d := .lst (ks.map kd2)) (η1 := η) (by
    generalize ks.map kd2 = KK at *
    generalize rs.map Row.d = RR at *
    exact (by (try simp only [DLS, Int.cast_ofNat_Int, Nat.reduceAdd, Nat.reduceLeDiff, Nat.reduceEqDiff, Nat.reduceSub, Nat.reduceMul, Nat.reduceBEq, Nat.reduceLT, Int.reduceAdd, Int.reduceSub, Int.reduceMul, Int.reduceNeg, Int.reduceLE, Int.reduceLT, Int.reduceEq, Int.reduceNe, Int.reduceToNat, reduceIte, szT, szlT, hb']) <;> rfl)) rfl
  refine sq (δ1 := [vl (.obj b), vl (.str z), z2, z3]) (η1 := η) (by rw [sFor_a, fa, toS_ok, el]) ?_
  exact (by (try simp only [DLS, Int.cast_ofNat_Int, Nat.reduceAdd, Nat.reduceLeDiff, Nat.reduceEqDiff, Nat.reduceSub, Nat.reduceMul, Nat.reduceBEq, Nat.reduceLT, Int.reduceAdd, Int.reduceSub, Int.reduceMul, Int.reduceNeg, Int.reduceLE, Int.reduceLT, Int.reduceEq, Int.reduceNe, Int.reduceToNat, reduceIte, szT, szlT]) <;> rfl)
/-! ### word_price, can_stand -/
theorem word_price_ok {z : Str} {r : Row} (hb : η[b]? = some (bkO ks rs m)) (hf : rs.find? (fun r => decide (r.n = z)) = some r) : m_Book_word_price [.obj b, .str z] η = .ok (.int r.p) η := by
  have ew := word_row_find (l0 := .lst (ks.map kd2)) (m := m) hb hf
  have i2 : ixD r.d (.int 2) = some (.int r.p) := rfl
  generalize r.d = RD at *
  refine run_rt2 (δ := [vl (.obj b), vl (.str z)]) rfl ?_
  unfold b_Book_word_price
  have hb' : η[b]? = some (.ins 0 NSB [.lst (ks.map kd2), .lst (rs.map Row.d), m]) := hb
  generalize ks.map kd2 = KK at *
  generalize rs.map Row.d = RR at *
  exact ret_of (by (try simp only [DLS, Int.cast_ofNat_Int, Nat.reduceAdd, Nat.reduceLeDiff, Nat.reduceEqDiff, Nat.reduceSub, Nat.reduceMul, Nat.reduceBEq, Nat.reduceLT, Int.reduceAdd, Int.reduceSub, Int.reduceMul, Int.reduceNeg, Int.reduceLE, Int.reduceLT, Int.reduceEq, Int.reduceNe, Int.reduceToNat, reduceIte, szT, szlT, hb', ew, i2]) <;> rfl)
theorem word_price_no {z : Str} (hb : η[b]? = some (bkO ks rs m)) (hf : z ∉ rs.map (·.n)) : m_Book_word_price [.obj b, .str z] η = .exc 41 ["name", "code"] [.str z, .str "UnknownWord"] η := by
  have ew := word_row_none (l0 := .lst (ks.map kd2)) (m := m) hb hf
  refine run_ex2 (δ := [vl (.obj b), vl (.str z)]) rfl (δ' := [vl (.obj b), vl (.str z)]) ?_
  unfold b_Book_word_price
  have hb' : η[b]? = some (.ins 0 NSB [.lst (ks.map kd2), .lst (rs.map Row.d), m]) := hb
  generalize ks.map kd2 = KK at *
  generalize rs.map Row.d = RR at *
  exact (by (try simp only [DLS, Int.cast_ofNat_Int, Nat.reduceAdd, Nat.reduceLeDiff, Nat.reduceEqDiff, Nat.reduceSub, Nat.reduceMul, Nat.reduceBEq, Nat.reduceLT, Int.reduceAdd, Int.reduceSub, Int.reduceMul, Int.reduceNeg, Int.reduceLE, Int.reduceLT, Int.reduceEq, Int.reduceNe, Int.reduceToNat, reduceIte, szT, szlT, hb', ew]) <;> rfl)
theorem stand_noword {w s : Str} (hb : η[b]? = some (bkO ks rs m)) (hf : w ∉ rs.map (·.n)) : m_Book_can_stand [.obj b, .str w, .str s] η = .exc 41 ["name", "code"] [.str w, .str "UnknownWord"] η := by
  have ew := word_row_none (l0 := .lst (ks.map kd2)) (m := m) hb hf
  refine run_ex2 (δ := [vl (.obj b), vl (.str w), vl (.str s), none]) rfl (δ' := [vl (.obj b), vl (.str w), vl (.str s), none]) ?_
  rw [PCS_eq]
  have hb' : η[b]? = some (.ins 0 NSB [.lst (ks.map kd2), .lst (rs.map Row.d), m]) := hb
  generalize ks.map kd2 = KK at *
  generalize rs.map Row.d = RR at *
  exact sqx (by (try simp only [DLS, Int.cast_ofNat_Int, Nat.reduceAdd, Nat.reduceLeDiff, Nat.reduceEqDiff, Nat.reduceSub, Nat.reduceMul, Nat.reduceBEq, Nat.reduceLT, Int.reduceAdd, Int.reduceSub, Int.reduceMul, Int.reduceNeg, Int.reduceLE, Int.reduceLT, Int.reduceEq, Int.reduceNe, Int.reduceToNat, reduceIte, szT, szlT, hb', ew]) <;> rfl)
theorem stand_nosort {w s : Str} {row : Row} (hb : η[b]? = some (bkO ks rs m)) (hf : rs.find? (fun q => decide (q.n = w)) = some row) (h : s ∉ ks.map (·.1)) : m_Book_can_stand [.obj b, .str w, .str s] η = .exc 40 ["name", "code"] [.str s, .str "UnknownSort"] η := by
  have ep := price_none (rs := rs) (m := m) hb h
  have ew := word_row_find (l0 := .lst (ks.map kd2)) (m := m) hb hf
  have i1 : ixD row.d (.int 1) = some (.tup (row.st.map .str)) := rfl
  have hb' : η[b]? = some (.ins 0 NSB [.lst (ks.map kd2), .lst (rs.map Row.d), m]) := hb
  refine run_ex2 (δ := [vl (.obj b), vl (.str w), vl (.str s), none]) rfl (δ' := [vl (.obj b), vl (.str w), vl (.str s), vl (.tup (row.st.map .str))]) ?_
  rw [PCS_eq]
  generalize row.st.map D.str = SD at *
  generalize ks.map kd2 = KK at *
  generalize rs.map Row.d = RR at *
  generalize row.d = RD at *
  exact sq (δ1 := [vl (.obj b), vl (.str w), vl (.str s), vl (.tup SD)]) (η1 := η) (set_of (by (try simp only [DLS, Int.cast_ofNat_Int, Nat.reduceAdd, Nat.reduceLeDiff, Nat.reduceEqDiff, Nat.reduceSub, Nat.reduceMul, Nat.reduceBEq, Nat.reduceLT, Int.reduceAdd, Int.reduceSub, Int.reduceMul, Int.reduceNeg, Int.reduceLE, Int.reduceLT, Int.reduceEq, Int.reduceNe, Int.reduceToNat, reduceIte, szT, szlT, hb', ew, i1]) <;> rfl)) (sqx (by (try simp only [DLS, Int.cast_ofNat_Int, Nat.reduceAdd, Nat.reduceLeDiff, Nat.reduceEqDiff, Nat.reduceSub, Nat.reduceMul, Nat.reduceBEq, Nat.reduceLT, Int.reduceAdd, Int.reduceSub, Int.reduceMul, Int.reduceNeg, Int.reduceLE, Int.reduceLT, Int.reduceEq, Int.reduceNe, Int.reduceToNat, reduceIte, szT, szlT, hb', ep]) <;> rfl))
/-! ### words_for -/
theorem words_for_ok {z : Str} (hb : η[b]? = some (bkO ks rs m)) (hR : rs.length ≤ 4) (hk : z ∈ ks.map (·.1)) : m_Book_words_for [.obj b, .str z] η = .ok (.lst (((orderR z rs).map fun x => x.1.n).map .str)) η := by
  have hb' : η[b]? = some (.ins 0 NSB [.lst (ks.map kd2), .lst (rs.map Row.d), m]) := hb
  obtain ⟨p, ep⟩ := price_ok hb hk
  have ee : enumD (rs.map Row.d) = rs.zipIdx.map fun x => D.tup [.int (x.2 : Nat), x.1.d] := by
    unfold enumD
    rw [List.zipIdx_map, List.map_map]
    rfl
  have lx := xs_len (z := z) (rs := rs)
  refine run_rt2 (δ := [vl (.obj b), vl (.str z), none, none, none, none, none]) rfl ?_
  rw [W_eq]
  have e1 : W1 [vl (.obj b), vl (.str z), none, none, none, none, none] η = .nx [vl (.obj b), vl (.str z), none, none, none, none, none] η := by
    generalize ks.map kd2 = KK at *
    generalize rs.map Row.d = RR at *
    exact (by (try simp only [DLS, Int.cast_ofNat_Int, Nat.reduceAdd, Nat.reduceLeDiff, Nat.reduceEqDiff, Nat.reduceSub, Nat.reduceMul, Nat.reduceBEq, Nat.reduceLT, Int.reduceAdd, Int.reduceSub, Int.reduceMul, Int.reduceNeg, Int.reduceLE, Int.reduceLT, Int.reduceEq, Int.reduceNe, Int.reduceToNat, reduceIte, szT, szlT, hb', ep]) <;> rfl)
  have e2 : W2 [vl (.obj b), vl (.str z), none, none, none, none, none] η = .nx [vl (.obj b), vl (.str z), vl (.lst ((XS z rs).map t3)), none, none, none, none] η := by
    have fe : (fiE (fFld 0 ["sort_rows", "word_rows", "own_memory"] 1 (fV 0))) [vl (.obj b), vl (.str z), none, none, none, none, none] η = .ok (rs.zipIdx.map fun x => D.tup [.int (x.2 : Nat), x.1.d]) η := by
      rw [← ee]
      refine fiE_of (d := .lst (rs.map Row.d)) ?_ rfl
      generalize ks.map kd2 = KK at *
      generalize rs.map Row.d = RR at *
      exact (by (try simp only [DLS, Int.cast_ofNat_Int, Nat.reduceAdd, Nat.reduceLeDiff, Nat.reduceEqDiff, Nat.reduceSub, Nat.reduceMul, Nat.reduceBEq, Nat.reduceLT, Int.reduceAdd, Int.reduceSub, Int.reduceMul, Int.reduceNeg, Int.reduceLE, Int.reduceLT, Int.reduceEq, Int.reduceNe, Int.reduceToNat, reduceIte, szT, szlT, hb']) <;> rfl)
    have ec : compF (.tp [(.nm 3), (.tp [(.nm 4), (.nm 5), (.nm 6)])]) (toB (fOp inD (fV 1) (fV 5))) (fTup (fCons (fV 6) (fCons (fV 3) (fCons (fV 4) fNil)))) (wipeD [vl (.obj b), vl (.str z), none, none, none, none, none] [3, 4, 5, 6]) (rs.zipIdx.map fun x => D.tup [.int (x.2 : Nat), x.1.d]) η = .ok ((XS z rs).map t3) η := by
      have := comp_enc (t := .tp [(.nm 3), (.tp [(.nm 4), (.nm 5), (.nm 6)])]) (ft := toB (fOp inD (fV 1) (fV 5))) (fe := fTup (fCons (fV 6) (fCons (fV 3) (fCons (fV 4) fNil)))) (δw := wipeD [vl (.obj b), vl (.str z), none, none, none, none, none] [3, 4, 5, 6]) (η := η) (fun x : Row × Nat => D.tup [.int (x.2 : Nat), x.1.d]) (fun x => decide (z ∈ x.1.st)) (fun x => x) t3 (xs := rs.zipIdx) fun x hx => by
        refine ⟨[vl (.obj b), vl (.str z), none, vl (.int (x.2 : Nat)), vl (.str x.1.n), vl (.tup (x.1.st.map .str)), vl (.int x.1.p)], rfl, ?_, fun _ => rfl⟩
        have ei : inD (.str z) (.tup (x.1.st.map .str)) = some (.bl (decide (z ∈ x.1.st))) := inD_ts
        generalize x.1.st.map D.str = SD at *
        exact (by (try simp only [DLS, Int.cast_ofNat_Int, Nat.reduceAdd, Nat.reduceLeDiff, Nat.reduceEqDiff, Nat.reduceSub, Nat.reduceMul, Nat.reduceBEq, Nat.reduceLT, Int.reduceAdd, Int.reduceSub, Int.reduceMul, Int.reduceNeg, Int.reduceLE, Int.reduceLT, Int.reduceEq, Int.reduceNe, Int.reduceToNat, reduceIte, szT, szlT, ei]) <;> rfl)
      rw [this, List.map_id']
      rfl
    show sFrz 2 _ _ _ = _
    rw [sFrz_a, lc_of' fe ec]
    rfl
  refine sq e1 (sq e2 (ret_of (frzE_of ?_)))
  have es : (fiA (fFrz (fSortD (fV 2)))) [vl (.obj b), vl (.str z), vl (.lst ((XS z rs).map t3)), none, none, none, none] η = .ok ((orderR z rs).map t3) η := by
    refine fiA_of (d := .lst ((orderR z rs).map t3)) (frzE_of ?_) rfl
    rw [← sort3]
    exact sortF_of (η1 := η) (by (try simp only [DLS, Int.cast_ofNat_Int, Nat.reduceAdd, Nat.reduceLeDiff, Nat.reduceEqDiff, Nat.reduceSub, Nat.reduceMul, Nat.reduceBEq, Nat.reduceLT, Int.reduceAdd, Int.reduceSub, Int.reduceMul, Int.reduceNeg, Int.reduceLE, Int.reduceLT, Int.reduceEq, Int.reduceNe, Int.reduceToNat, reduceIte, szT, szlT]) <;> rfl) pure3 able3 (by rw [List.length_map]; omega)
  have ec := comp_enc (t := .tp [(.nm 6), (.nm 3), (.nm 4)]) (ft := fYes) (fe := fV 4) (δw := wipeD [vl (.obj b), vl (.str z), vl (.lst ((XS z rs).map t3)), none, none, none, none] [6, 3, 4]) (η := η) t3 (fun _ => true) (fun x => x.1.n) D.str (xs := orderR z rs) fun x hx => ⟨_, rfl, rfl, fun _ => rfl⟩
  rw [List.filter_eq_self.mpr fun _ _ => rfl] at ec
  exact lc_of' es ec
theorem words_for_no {z : Str} (hb : η[b]? = some (bkO ks rs m)) (hf : z ∉ ks.map (·.1)) : m_Book_words_for [.obj b, .str z] η = .exc 40 ["name", "code"] [.str z, .str "UnknownSort"] η := by
  have ep := price_none (rs := rs) (m := m) hb hf
  have hb' : η[b]? = some (.ins 0 NSB [.lst (ks.map kd2), .lst (rs.map Row.d), m]) := hb
  refine run_ex2 (δ := [vl (.obj b), vl (.str z), none, none, none, none, none]) rfl (δ' := [vl (.obj b), vl (.str z), none, none, none, none, none]) ?_
  rw [W_eq]
  generalize ks.map kd2 = KK at *
  generalize rs.map Row.d = RR at *
  exact sqx (by (try simp only [DLS, Int.cast_ofNat_Int, Nat.reduceAdd, Nat.reduceLeDiff, Nat.reduceEqDiff, Nat.reduceSub, Nat.reduceMul, Nat.reduceBEq, Nat.reduceLT, Int.reduceAdd, Int.reduceSub, Int.reduceMul, Int.reduceNeg, Int.reduceLE, Int.reduceLT, Int.reduceEq, Int.reduceNe, Int.reduceToNat, reduceIte, szT, szlT, hb', ep]) <;> rfl)
/-! ### the law's own prices and stands -/
theorem kind_find {z : Str} (h : z ∈ ks.map (·.1)) : ∃ k, ks.find? (fun k => decide (k.1 = z)) = some k := by
  cases e : ks.find? (fun k => decide (k.1 = z)) with
  | some k => exact ⟨k, rfl⟩
  | none =>
    obtain ⟨k, hk, rfl⟩ := List.mem_map.mp h
    have := List.find?_eq_none.mp e k hk
    simp at this
theorem prs_ks : ∀ ks : List (Str × Int), prsD (ks.map kd2) = some (ks.map fun k => (k.1, D.int k.2))
  | [] => rfl
  | k :: ks => by
    rw [List.map_cons]
    show (prsD (ks.map kd2)).map _ = _
    rw [prs_ks ks]
    rfl
theorem dict_ks {fa fi : F D} {z : Str} {k : Str × Int} (nd : (ks.map (·.1)).Nodup) (ha : fa δ η = .ok (.lst (ks.map kd2)) η) (hi : fi δ η = .ok (.str z) η) (hf : ks.find? (fun k => decide (k.1 = z)) = some k) : fDictIx fa fi δ η = .ok (.int k.2) η := by
  rw [fDictIx_a, ha, bind_ok]
  dsimp only
  rw [prs_ks]
  dsimp only
  rw [if_pos (by rw [List.map_map]; exact nd), hi, bind_ok]
  dsimp only
  rw [List.find?_map, show ((fun p : Str × D => decide (p.1 = z)) ∘ fun k : Str × Int => (k.1, D.int k.2)) = fun k => decide (k.1 = z) from rfl, hf]
  rfl
theorem first_at {z : Str} {r : Row} (hf : rs.find? (fun r => decide (r.n = z)) = some r) : (rs.filter fun r => decide (r.n = z))[0]? = some r := by
  rw [← List.head?_eq_getElem?, List.head?_filter]
  exact hf
theorem law_price_ok {z : Str} {r : Row} (hf : rs.find? (fun r => decide (r.n = z)) = some r) : m_law_price [bkT ks rs m, .str z] η = .ok (.int r.p) η := by
  refine run_rt2 (δ := [vl (bkT ks rs m), vl (.str z), none, none, none]) rfl ?_
  unfold b_law_price
  have ec : compF (.tp [(.nm 2), (.nm 4), (.nm 3)]) (toB (fOp eqD (fV 2) (fV 1))) (fV 3) (wipeD [vl (bkT ks rs m), vl (.str z), none, none, none] [2, 4, 3]) (rs.map Row.d) η = .ok (((rs.filter fun r => decide (r.n = z)).map (·.p)).map .int) η := by
    exact comp_enc (t := .tp [(.nm 2), (.nm 4), (.nm 3)]) (ft := toB (fOp eqD (fV 2) (fV 1))) (fe := fV 3) (δw := wipeD [vl (bkT ks rs m), vl (.str z), none, none, none] [2, 4, 3]) (η := η) Row.d (fun r => decide (r.n = z)) (·.p) D.int (xs := rs) fun x hx => ⟨[vl (bkT ks rs m), vl (.str z), vl (.str x.n), vl (.int x.p), vl (.tup (x.st.map .str))], rfl, by
      have e := str_eq (a := x.n) (c := z)
      generalize x.st.map D.str = SD at *
      exact (by (try simp only [DLS, Int.cast_ofNat_Int, Nat.reduceAdd, Nat.reduceLeDiff, Nat.reduceEqDiff, Nat.reduceSub, Nat.reduceMul, Nat.reduceBEq, Nat.reduceLT, Int.reduceAdd, Int.reduceSub, Int.reduceMul, Int.reduceNeg, Int.reduceLE, Int.reduceLT, Int.reduceEq, Int.reduceNe, Int.reduceToNat, reduceIte, szT, szlT, e]) <;> rfl), fun _ => rfl⟩
  have ea : ixD (.lst (((rs.filter fun r => decide (r.n = z)).map (·.p)).map .int)) (.int 0) = some (.int r.p) := at_map (k := 0) (by rw [List.getElem?_map, first_at hf]; rfl)
  have ec' := frzE_of (lc_of' (vs := [2, 4, 3]) (fiA_of (fa := fOp ixD (fV 0) (fC (.int 1))) (d := .lst (rs.map Row.d)) (η := η) (η1 := η) (δ := [vl (bkT ks rs m), vl (.str z), none, none, none]) (by (try simp only [DLS, Int.cast_ofNat_Int, Nat.reduceAdd, Nat.reduceLeDiff, Nat.reduceEqDiff, Nat.reduceSub, Nat.reduceMul, Nat.reduceBEq, Nat.reduceLT, Int.reduceAdd, Int.reduceSub, Int.reduceMul, Int.reduceNeg, Int.reduceLE, Int.reduceLT, Int.reduceEq, Int.reduceNe, Int.reduceToNat, reduceIte, szT, szlT, bk1]) <;> rfl) rfl) ec)
  refine sqr (if_t (η1 := η) (by (try simp only [DLS, Int.cast_ofNat_Int, Nat.reduceAdd, Nat.reduceLeDiff, Nat.reduceEqDiff, Nat.reduceSub, Nat.reduceMul, Nat.reduceBEq, Nat.reduceLT, Int.reduceAdd, Int.reduceSub, Int.reduceMul, Int.reduceNeg, Int.reduceLE, Int.reduceLT, Int.reduceEq, Int.reduceNe, Int.reduceToNat, reduceIte, szT, szlT, is_str_s]) <;> rfl) (ret_of ?_))
  rw [fOp_a, ec', bind_ok]
  simp only [DLS, Int.cast_ofNat_Int, Nat.reduceAdd, Nat.reduceLeDiff, Nat.reduceEqDiff, Nat.reduceSub, Nat.reduceMul, Nat.reduceBEq, Nat.reduceLT, Int.reduceAdd, Int.reduceSub, Int.reduceMul, Int.reduceNeg, Int.reduceLE, Int.reduceLT, Int.reduceEq, Int.reduceNe, Int.reduceToNat, reduceIte, szT, szlT, ea]
theorem law_stands_ok {z : Str} {r : Row} (hf : rs.find? (fun r => decide (r.n = z)) = some r) : m_law_stands [bkT ks rs m, .str z] η = .ok (.tup (r.st.map .str)) η := by
  refine run_rt2 (δ := [vl (bkT ks rs m), vl (.str z), none, none, none]) rfl ?_
  unfold b_law_stands
  have ec : compF (.tp [(.nm 2), (.nm 3), (.nm 4)]) (toB (fOp eqD (fV 2) (fV 1))) (fV 3) (wipeD [vl (bkT ks rs m), vl (.str z), none, none, none] [2, 3, 4]) (rs.map Row.d) η = .ok (((rs.filter fun r => decide (r.n = z)).map fun r => D.tup (r.st.map .str)).map fun d => d) η := by
    exact comp_enc (t := .tp [(.nm 2), (.nm 3), (.nm 4)]) (ft := toB (fOp eqD (fV 2) (fV 1))) (fe := fV 3) (δw := wipeD [vl (bkT ks rs m), vl (.str z), none, none, none] [2, 3, 4]) (η := η) Row.d (fun r => decide (r.n = z)) (fun r => D.tup (r.st.map .str)) (fun d => d) (xs := rs) fun x hx => ⟨[vl (bkT ks rs m), vl (.str z), vl (.str x.n), vl (.tup (x.st.map .str)), vl (.int x.p)], rfl, by
      have e := str_eq (a := x.n) (c := z)
      generalize x.st.map D.str = SD at *
      exact (by (try simp only [DLS, Int.cast_ofNat_Int, Nat.reduceAdd, Nat.reduceLeDiff, Nat.reduceEqDiff, Nat.reduceSub, Nat.reduceMul, Nat.reduceBEq, Nat.reduceLT, Int.reduceAdd, Int.reduceSub, Int.reduceMul, Int.reduceNeg, Int.reduceLE, Int.reduceLT, Int.reduceEq, Int.reduceNe, Int.reduceToNat, reduceIte, szT, szlT, e]) <;> rfl), fun _ => rfl⟩
  have ea : ixD (.lst (((rs.filter fun r => decide (r.n = z)).map fun r => D.tup (r.st.map .str)).map fun d => d)) (.int 0) = some (.tup (r.st.map .str)) := at_map (k := 0) (by rw [List.getElem?_map, first_at hf]; rfl)
  have ec' := frzE_of (lc_of' (vs := [2, 3, 4]) (fiA_of (fa := fOp ixD (fV 0) (fC (.int 1))) (d := .lst (rs.map Row.d)) (η := η) (η1 := η) (δ := [vl (bkT ks rs m), vl (.str z), none, none, none]) (by (try simp only [DLS, Int.cast_ofNat_Int, Nat.reduceAdd, Nat.reduceLeDiff, Nat.reduceEqDiff, Nat.reduceSub, Nat.reduceMul, Nat.reduceBEq, Nat.reduceLT, Int.reduceAdd, Int.reduceSub, Int.reduceMul, Int.reduceNeg, Int.reduceLE, Int.reduceLT, Int.reduceEq, Int.reduceNe, Int.reduceToNat, reduceIte, szT, szlT, bk1]) <;> rfl) rfl) ec)
  refine ret_of ?_
  rw [fOp_a, ec', bind_ok]
  simp only [DLS, Int.cast_ofNat_Int, Nat.reduceAdd, Nat.reduceLeDiff, Nat.reduceEqDiff, Nat.reduceSub, Nat.reduceMul, Nat.reduceBEq, Nat.reduceLT, Int.reduceAdd, Int.reduceSub, Int.reduceMul, Int.reduceNeg, Int.reduceLE, Int.reduceLT, Int.reduceEq, Int.reduceNe, Int.reduceToNat, reduceIte, szT, szlT, ea]
end
abbrev L1 : S := (sSet 1 (fCall 1 m_law_feed (fCons (fV 0) fNil)))
abbrev L2b1 : S := (sSet 3 (fCall 2 m_law_names (fCons (fV 1) (fCons (fC (.int 10)) fNil))))
abbrev L2b2 : S := (sSet 4 (fCall 3 m_law_book (fCons (fV 1) (fCons (fV 3) (fCons (fC (.int 4)) fNil)))))
abbrev L2b3 : S := (sSet 5 (fCall 1 m_law_made (fCons (fV 4) fNil)))
abbrev L2b4 : S := (sFrz 6 (fLc [8, 12] (fiA (fOp ixD (fV 4) (fC (.int 0)))) (.tp [(.nm 8), (.nm 12)]) fYes (fV 8)))
abbrev L2b5 : S := (sFrz 7 (fLc [8, 13, 12] (fiA (fOp ixD (fV 4) (fC (.int 1)))) (.tp [(.nm 8), (.nm 13), (.nm 12)]) fYes (fV 8)))
abbrev L2b6b1 : S := (sSet 9 (fIf (toB (fOp inD (fV 8) (fV 6))) (fTup (fCons (fC (.str "")) (fCons (fDictIx (fOp ixD (fV 4) (fC (.int 0))) (fV 8)) fNil))) (fTup (fCons (fC (.str "UnknownSort")) (fCons (fV 8) fNil)))))
abbrev L2b6b2t1 : S := (sRet (fC (.bl false)))
abbrev L2b6b2t : S := L2b6b2t1
abbrev L2b6b2 : S := (sIf (toB (fOp neD (fWhy 0 "law.<locals>.<lambda>" [20, 21, 22, 23, 40, 41] m_law_field (fMethX 0 ["sort_rows", "word_rows", "own_memory"] 2 0 2 m_Book_name_price [0, 1] [] (fV 5) (fCons (fV 8) fNil) fNil)) (fV 9))) L2b6b2t SR.nx)
abbrev L2b6b3 : S := (sSet 10 (fFrz (fSortD (fFrz (fLc [14] (fiR1 (fCall1 lenD (fOp ixD (fV 4) (fC (.int 1))))) (.nm 14) (toB (fOp inD (fV 8) (fOp ixD (fOp ixD (fOp ixD (fV 4) (fC (.int 1))) (fV 14)) (fC (.int 1))))) (fTup (fCons (fOp ixD (fOp ixD (fOp ixD (fV 4) (fC (.int 1))) (fV 14)) (fC (.int 2))) (fCons (fV 14) fNil))))))))
abbrev L2b6b4 : S := (sSet 9 (fIf (toB (fOp inD (fV 8) (fV 6))) (fTup (fCons (fC (.str "")) (fCons (fFrz (fLc [12, 14] (fiA (fV 10)) (.tp [(.nm 12), (.nm 14)]) fYes (fOp ixD (fOp ixD (fOp ixD (fV 4) (fC (.int 1))) (fV 14)) (fC (.int 0))))) fNil))) (fTup (fCons (fC (.str "UnknownSort")) (fCons (fV 8) fNil)))))
abbrev L2b6b5t1 : S := (sRet (fC (.bl false)))
abbrev L2b6b5t : S := L2b6b5t1
abbrev L2b6b5 : S := (sIf (toB (fOp neD (fWhy 0 "law.<locals>.<lambda>" [20, 21, 22, 23, 40, 41] m_law_field (fMethX 0 ["sort_rows", "word_rows", "own_memory"] 2 0 2 m_Book_words_for [0, 1] [] (fV 5) (fCons (fV 8) fNil) fNil)) (fV 9))) L2b6b5t SR.nx)
abbrev L2b6b6 : S := (sSet 9 (fIf (toB (fOp inD (fV 8) (fV 7))) (fTup (fCons (fC (.str "")) (fCons (fCall 2 m_law_price (fCons (fV 4) (fCons (fV 8) fNil))) fNil))) (fTup (fCons (fC (.str "UnknownWord")) (fCons (fV 8) fNil)))))
abbrev L2b6b7t1 : S := (sRet (fC (.bl false)))
abbrev L2b6b7t : S := L2b6b7t1
abbrev L2b6b7 : S := (sIf (toB (fOp neD (fWhy 0 "law.<locals>.<lambda>" [20, 21, 22, 23, 40, 41] m_law_field (fMethX 0 ["sort_rows", "word_rows", "own_memory"] 2 0 2 m_Book_word_price [0, 1] [] (fV 5) (fCons (fV 8) fNil) fNil)) (fV 9))) L2b6b7t SR.nx)
abbrev L2b6b8 : S := (sSet 11 (fCall 2 m_law_of (fCons (fV 1) (fCons (fOp addD (fV 3) (fV 6)) fNil))))
abbrev L2b6b9 : S := (sSet 9 (fIf (toB (fOp notInD (fV 8) (fV 7))) (fTup (fCons (fC (.str "UnknownWord")) (fCons (fV 8) fNil))) (fTup (fCons (fC (.str "UnknownSort")) (fCons (fV 11) fNil)))))
abbrev L2b6b10 : S := (sSet 9 (fIf (fAndB (toB (fOp inD (fV 8) (fV 7))) (toB (fOp inD (fV 11) (fV 6)))) (fTup (fCons (fC (.str "")) (fCons (fOp inD (fV 11) (fCall 2 m_law_stands (fCons (fV 4) (fCons (fV 8) fNil)))) fNil))) (fV 9)))
abbrev L2b6b11t1 : S := (sRet (fC (.bl false)))
abbrev L2b6b11t : S := L2b6b11t1
abbrev L2b6b11 : S := (sIf (toB (fOp neD (fWhy 0 "law.<locals>.<lambda>" [20, 21, 22, 23, 40, 41] m_law_field (fMethX 0 ["sort_rows", "word_rows", "own_memory"] 1 2 3 m_Book_can_stand [0, 2, 1] [] (fV 5) fNil (fCons (fV 11) (fCons (fV 8) fNil)))) (fV 9))) L2b6b11t SR.nx)
abbrev L2b6b : S := (sSeq L2b6b1 (sSeq L2b6b2 (sSeq L2b6b3 (sSeq L2b6b4 (sSeq L2b6b5 (sSeq L2b6b6 (sSeq L2b6b7 (sSeq L2b6b8 (sSeq L2b6b9 (sSeq L2b6b10 L2b6b11))))))))))
abbrev L2b6 : S := (sFor (fiA (fV 3)) (.nm 8) L2b6b)
abbrev L2b : S := (sSeq L2b1 (sSeq L2b2 (sSeq L2b3 (sSeq L2b4 (sSeq L2b5 L2b6)))))
abbrev L2 : S := (sFor (fiR1 (fC (.int 3))) (.nm 2) L2b)
abbrev L3 : S := (sRet (fC (.bl true)))
abbrev L : S := (sSeq L1 (sSeq L2 L3))
theorem L_eq : b_law = L := rfl
abbrev CS : List Nat := [20, 21, 22, 23, 40, 41]
abbrev TQ : O := .tbl "law.<locals>.<lambda>"
section
variable {δ : En} {η η1 : List O} {b : Nat} {ks : List (Str × Int)} {rs : List Row} {m : D} {ls : List Str} {z : Str}
theorem isT (h : η[0]? = some TQ) : isTbl η 0 "law.<locals>.<lambda>" = true := by unfold isTbl; rw [h]; exact decide_eq_true rfl
theorem why_w {z : Str} : whyM CS m_law_field (.exc 41 ["name", "code"] [.str z, .str "UnknownWord"] η) = .ok (.tup [.str "UnknownWord", .str z]) η := by with_unfolding_all rfl
theorem why_s {z : Str} : whyM CS m_law_field (.exc 40 ["name", "code"] [.str z, .str "UnknownSort"] η) = .ok (.tup [.str "UnknownSort", .str z]) η := by with_unfolding_all rfl
theorem why_ok {d : D} : whyM CS m_law_field (.ok d η) = .ok (.tup [.str "", d]) η := rfl
theorem why_at {f : F D} {d : D} {r : R D} (t0 : η[0]? = some TQ) (h : f δ η = r) (e : whyM CS m_law_field r = .ok d η1) : fWhy 0 "law.<locals>.<lambda>" CS m_law_field f δ η = .ok d η1 := by rw [fWhy_a, if_pos (isT t0), h, e]
theorem whyif {fw : F D} {d : D} (h : fw δ η = .ok d η1) (h9 : δ[9]? = some (vl d)) (ok : okq d = true) : sIf (toB (fOp neD fw (fV 9))) (sRet (fC (.bl false))) SR.nx δ η = .nx δ η1 := if_fn (by (try simp only [DLS, Int.cast_ofNat_Int, Nat.reduceAdd, Nat.reduceLeDiff, Nat.reduceEqDiff, Nat.reduceSub, Nat.reduceMul, Nat.reduceBEq, Nat.reduceLT, Int.reduceAdd, Int.reduceSub, Int.reduceMul, Int.reduceNeg, Int.reduceLE, Int.reduceLT, Int.reduceEq, Int.reduceNe, Int.reduceToNat, reduceIte, szT, szlT, h, h9, neD_self ok]) <;> rfl)
structure Ev (ls : List Str) (ks : List (Str × Int)) (rs : List Row) (m : D) (b : Nat) (z : Str) (δ : En) : Prop where
  len : δ.length = 15
  h1 : δ[1]? = some (vl (.obj 1))
  h3 : δ[3]? = some (vl (.lst (ls.map .str)))
  h4 : δ[4]? = some (vl (bkT ks rs m))
  h5 : δ[5]? = some (vl (.obj b))
  h6 : δ[6]? = some (vl (.lst ((ks.map (·.1)).map .str)))
  h7 : δ[7]? = some (vl (.lst ((rs.map (·.n)).map .str)))
  h8 : δ[8]? = some (vl (.str z))
theorem Ev.set (E : Ev ls ks rs m b z δ) {i : Nat} {x : Option DL.L} (hi : 9 ≤ i) : Ev ls ks rs m b z (δ.set i x) :=
  ⟨by rw [List.length_set]; exact E.len, by rw [List.getElem?_set_ne (by omega)]; exact E.h1, by rw [List.getElem?_set_ne (by omega)]; exact E.h3, by rw [List.getElem?_set_ne (by omega)]; exact E.h4,
   by rw [List.getElem?_set_ne (by omega)]; exact E.h5, by rw [List.getElem?_set_ne (by omega)]; exact E.h6, by rw [List.getElem?_set_ne (by omega)]; exact E.h7, by rw [List.getElem?_set_ne (by omega)]; exact E.h8⟩
theorem inK (E : Ev ls ks rs m b z δ) : toB (fOp inD (fV 8) (fV 6)) δ η = .ok (decide (z ∈ ks.map (·.1))) η := by
  have h8 := E.h8
  have h6 := E.h6
  have e : inD (.str z) (.lst ((ks.map (·.1)).map .str)) = some (.bl (decide (z ∈ ks.map (·.1)))) := inD_ls
  generalize (ks.map (·.1)).map D.str = SD at *
  exact (by (try simp only [DLS, Int.cast_ofNat_Int, Nat.reduceAdd, Nat.reduceLeDiff, Nat.reduceEqDiff, Nat.reduceSub, Nat.reduceMul, Nat.reduceBEq, Nat.reduceLT, Int.reduceAdd, Int.reduceSub, Int.reduceMul, Int.reduceNeg, Int.reduceLE, Int.reduceLT, Int.reduceEq, Int.reduceNe, Int.reduceToNat, reduceIte, szT, szlT, h8, h6, e]) <;> rfl)
theorem inT (E : Ev ls ks rs m b z δ) : toB (fOp inD (fV 8) (fV 7)) δ η = .ok (decide (z ∈ rs.map (·.n))) η := by
  have h8 := E.h8
  have h7 := E.h7
  have e : inD (.str z) (.lst ((rs.map (·.n)).map .str)) = some (.bl (decide (z ∈ rs.map (·.n)))) := inD_ls
  generalize (rs.map (·.n)).map D.str = SD at *
  exact (by (try simp only [DLS, Int.cast_ofNat_Int, Nat.reduceAdd, Nat.reduceLeDiff, Nat.reduceEqDiff, Nat.reduceSub, Nat.reduceMul, Nat.reduceBEq, Nat.reduceLT, Int.reduceAdd, Int.reduceSub, Int.reduceMul, Int.reduceNeg, Int.reduceLE, Int.reduceLT, Int.reduceEq, Int.reduceNe, Int.reduceToNat, reduceIte, szT, szlT, h8, h7, e]) <;> rfl)
theorem notT (E : Ev ls ks rs m b z δ) : toB (fOp notInD (fV 8) (fV 7)) δ η = .ok (!decide (z ∈ rs.map (·.n))) η := by
  have h8 := E.h8
  have h7 := E.h7
  have e : notInD (.str z) (.lst ((rs.map (·.n)).map .str)) = some (.bl (!decide (z ∈ rs.map (·.n)))) := by unfold notInD; rw [inD_ls]; rfl
  generalize (rs.map (·.n)).map D.str = SD at *
  exact (by (try simp only [DLS, Int.cast_ofNat_Int, Nat.reduceAdd, Nat.reduceLeDiff, Nat.reduceEqDiff, Nat.reduceSub, Nat.reduceMul, Nat.reduceBEq, Nat.reduceLT, Int.reduceAdd, Int.reduceSub, Int.reduceMul, Int.reduceNeg, Int.reduceLE, Int.reduceLT, Int.reduceEq, Int.reduceNe, Int.reduceToNat, reduceIte, szT, szlT, h8, h7, e]) <;> rfl)
theorem fIf_t {t : F Bool} {x y : F D} {r : R D} (h : t δ η = .ok true η1) (h2 : x δ η1 = r) : fIf t x y δ η = r := by rw [fIf_a, h, bind_ok]; exact h2
theorem fIf_f {t : F Bool} {x y : F D} {r : R D} (h : t δ η = .ok false η1) (h2 : y δ η1 = r) : fIf t x y δ η = r := by rw [fIf_a, h, bind_ok]; exact h2
theorem pair_of {f : F D} {s : Str} {d : D} (h : f δ η = .ok d η1) : (fTup (fCons (fC (.str s)) (fCons f fNil))) δ η = .ok (.tup [.str s, d]) η1 := (by (try simp only [DLS, Int.cast_ofNat_Int, Nat.reduceAdd, Nat.reduceLeDiff, Nat.reduceEqDiff, Nat.reduceSub, Nat.reduceMul, Nat.reduceBEq, Nat.reduceLT, Int.reduceAdd, Int.reduceSub, Int.reduceMul, Int.reduceNeg, Int.reduceLE, Int.reduceLT, Int.reduceEq, Int.reduceNe, Int.reduceToNat, reduceIte, szT, szlT, h]) <;> rfl)
theorem ix4 (E : Ev ls ks rs m b z δ) {i : Int} {d : D} (h : ixD (bkT ks rs m) (.int i) = some d) : fOp ixD (fV 4) (fC (.int i)) δ η = .ok d η := by
  have h4 := E.h4
  generalize bkT ks rs m = BT at *
  exact (by (try simp only [DLS, Int.cast_ofNat_Int, Nat.reduceAdd, Nat.reduceLeDiff, Nat.reduceEqDiff, Nat.reduceSub, Nat.reduceMul, Nat.reduceBEq, Nat.reduceLT, Int.reduceAdd, Int.reduceSub, Int.reduceMul, Int.reduceNeg, Int.reduceLE, Int.reduceLT, Int.reduceEq, Int.reduceNe, Int.reduceToNat, reduceIte, szT, szlT, h4, h]) <;> rfl)
/-! ### name_price -/
theorem s1 (B : BookDrawn ks rs m) (E : Ev ls ks rs m b z δ) (hb : η[b]? = some (bkO ks rs m)) : ∃ d, L2b6b1 δ η = .nx (δ.set 9 (vl d)) η ∧ okq d = true ∧ whyM CS m_law_field (m_Book_name_price [.obj b, .str z] η) = .ok d η := by
  have h8 := E.h8
  by_cases hk : z ∈ ks.map (·.1)
  · obtain ⟨k, hf⟩ := kind_find hk
    refine ⟨.tup [.str "", .int k.2], set_of (fIf_t (by rw [inK E, decide_eq_true hk]) (pair_of (dict_ks B.k.nd (ix4 E bk0) (by (try simp only [DLS, Int.cast_ofNat_Int, Nat.reduceAdd, Nat.reduceLeDiff, Nat.reduceEqDiff, Nat.reduceSub, Nat.reduceMul, Nat.reduceBEq, Nat.reduceLT, Int.reduceAdd, Int.reduceSub, Int.reduceMul, Int.reduceNeg, Int.reduceLE, Int.reduceLT, Int.reduceEq, Int.reduceNe, Int.reduceToNat, reduceIte, szT, szlT, h8]) <;> rfl) hf))), rfl, ?_⟩
    rw [price_find hb hf]
    exact why_ok
  · refine ⟨.tup [.str "UnknownSort", .str z], set_of (fIf_f (by rw [inK E, decide_eq_false hk]) (pair_of (by (try simp only [DLS, Int.cast_ofNat_Int, Nat.reduceAdd, Nat.reduceLeDiff, Nat.reduceEqDiff, Nat.reduceSub, Nat.reduceMul, Nat.reduceBEq, Nat.reduceLT, Int.reduceAdd, Int.reduceSub, Int.reduceMul, Int.reduceNeg, Int.reduceLE, Int.reduceLT, Int.reduceEq, Int.reduceNe, Int.reduceToNat, reduceIte, szT, szlT, h8]) <;> rfl))), rfl, ?_⟩
    rw [price_none hb hk]
    exact why_s
theorem s2 {d : D} (E : Ev ls ks rs m b z δ) (hb : η[b]? = some (bkO ks rs m)) (t0 : η[0]? = some TQ) (h9 : δ[9]? = some (vl d)) (ok : okq d = true) (hw : whyM CS m_law_field (m_Book_name_price [.obj b, .str z] η) = .ok d η) : L2b6b2 δ η = .nx δ η := by
  have h8 := E.h8
  have h5 := E.h5
  refine whyif (why_at t0 (r := m_Book_name_price [.obj b, .str z] η) ?_ hw) h9 ok
  have hb' : η[b]? = some (.ins 0 NSB [.lst (ks.map kd2), .lst (rs.map Row.d), m]) := hb
  generalize D.lst (ks.map kd2) = KK at hb'
  generalize D.lst (rs.map Row.d) = RR at hb'
  exact (by (try simp only [DLS, Int.cast_ofNat_Int, Nat.reduceAdd, Nat.reduceLeDiff, Nat.reduceEqDiff, Nat.reduceSub, Nat.reduceMul, Nat.reduceBEq, Nat.reduceLT, Int.reduceAdd, Int.reduceSub, Int.reduceMul, Int.reduceNeg, Int.reduceLE, Int.reduceLT, Int.reduceEq, Int.reduceNe, Int.reduceToNat, reduceIte, szT, szlT, h8, h5, hb']) <;> rfl)
/-! ### words_for -/
theorem rng_zip : rngD 0 ((rs.length : Nat) : Int).toNat = rs.zipIdx.map fun x => D.int (x.2 : Nat) := by
  rw [show ((rs.length : Nat) : Int).toNat = rs.length from rfl, rngD_eq, ← List.zipIdx_map_snd 0 rs, List.map_map]
  rfl
theorem row_at {i : Nat} {r : Row} (h : rs[i]? = some r) : ixD (.lst (rs.map Row.d)) (.int (i : Nat)) = some r.d := at_map h
theorem s3 (E : Ev ls ks rs m b z δ) (hR : rs.length ≤ 4) : L2b6b3 δ η = .nx (δ.set 10 (vl (.lst ((orderR z rs).map t2)))) η := by
  refine set_of (frzE_of ?_)
  rw [← sort2]
  have lx := xs_len (z := z) (rs := rs)
  refine sortF_of (η1 := η) (frzE_of ?_) pure2 able2 (by rw [List.length_map]; omega)
  refine lc_of' (η1 := η) (ds := rs.zipIdx.map fun x => D.int (x.2 : Nat)) ?_ ?_
  · rw [← rng_zip]
    refine fiR1_of (j := (rs.length : Nat)) ?_ (by omega)
    have e := ix4 (η := η) E bk1
    have e2 : lenD (.lst (rs.map Row.d)) = some (.int (rs.length : Nat)) := by rw [lenD_l, List.length_map]
    generalize rs.map Row.d = RR at *
    rw [fCall1_a, e, bind_ok, e2]
    rfl
  · have Ew : Ev ls ks rs m b z (wipeD δ [14]) := E.set (by decide)
    have := comp_enc (t := .nm 14) (ft := (toB (fOp inD (fV 8) (fOp ixD (fOp ixD (fOp ixD (fV 4) (fC (.int 1))) (fV 14)) (fC (.int 1)))))) (fe := (fTup (fCons (fOp ixD (fOp ixD (fOp ixD (fV 4) (fC (.int 1))) (fV 14)) (fC (.int 2))) (fCons (fV 14) fNil)))) (δw := wipeD δ [14]) (η := η) (fun x : Row × Nat => D.int (x.2 : Nat)) (fun x => decide (z ∈ x.1.st)) (fun x => x) t2 (xs := rs.zipIdx) fun x hx => by
      have E2 : Ev ls ks rs m b z ((wipeD δ [14]).set 14 (vl (.int (x.2 : Nat)))) := Ew.set (by decide)
      have c14 : ((wipeD δ [14]).set 14 (vl (.int (x.2 : Nat))))[14]? = some (vl (.int (x.2 : Nat))) := List.getElem?_set_self (by rw [Ew.len]; decide)
      have e2 := row_at (List.mem_zipIdx_iff_getElem?.mp hx)
      have e3 : ixD x.1.d (.int 1) = some (.tup (x.1.st.map .str)) := rfl
      have e4 : ixD x.1.d (.int 2) = some (.int x.1.p) := rfl
      have ei : inD (.str z) (.tup (x.1.st.map .str)) = some (.bl (decide (z ∈ x.1.st))) := inD_ts
      have h8 := E2.h8
      have h4 := E2.h4
      refine ⟨(wipeD δ [14]).set 14 (vl (.int (x.2 : Nat))), asg_nm, ?_, fun _ => ?_⟩
      · generalize (wipeD δ [14]).set 14 (vl (.int (x.2 : Nat))) = δ9 at *
        generalize x.1.st.map D.str = SD at *
        generalize x.1.d = RD at *
        have b1 : ixD (bkT ks rs m) (.int 1) = some (.lst (rs.map Row.d)) := bk1
        generalize bkT ks rs m = BT at h4 b1
        generalize rs.map Row.d = RR at *
        exact (by (try simp only [DLS, Int.cast_ofNat_Int, Nat.reduceAdd, Nat.reduceLeDiff, Nat.reduceEqDiff, Nat.reduceSub, Nat.reduceMul, Nat.reduceBEq, Nat.reduceLT, Int.reduceAdd, Int.reduceSub, Int.reduceMul, Int.reduceNeg, Int.reduceLE, Int.reduceLT, Int.reduceEq, Int.reduceNe, Int.reduceToNat, reduceIte, szT, szlT, h8, h4, b1, c14, e2, e3, ei]) <;> rfl)
      · generalize (wipeD δ [14]).set 14 (vl (.int (x.2 : Nat))) = δ9 at *
        unfold t2
        generalize x.1.d = RD at *
        have b1 : ixD (bkT ks rs m) (.int 1) = some (.lst (rs.map Row.d)) := bk1
        generalize bkT ks rs m = BT at h4 b1
        generalize rs.map Row.d = RR at *
        exact (by (try simp only [DLS, Int.cast_ofNat_Int, Nat.reduceAdd, Nat.reduceLeDiff, Nat.reduceEqDiff, Nat.reduceSub, Nat.reduceMul, Nat.reduceBEq, Nat.reduceLT, Int.reduceAdd, Int.reduceSub, Int.reduceMul, Int.reduceNeg, Int.reduceLE, Int.reduceLT, Int.reduceEq, Int.reduceNe, Int.reduceToNat, reduceIte, szT, szlT, h4, b1, c14, e2, e4]) <;> rfl)
    rw [this, List.map_id']
    rfl
theorem s4 (B : BookDrawn ks rs m) (E : Ev ls ks rs m b z δ) (h10 : δ[10]? = some (vl (.lst ((orderR z rs).map t2)))) (hb : η[b]? = some (bkO ks rs m)) : ∃ d, L2b6b4 δ η = .nx (δ.set 9 (vl d)) η ∧ okq d = true ∧ whyM CS m_law_field (m_Book_words_for [.obj b, .str z] η) = .ok d η := by
  have h8 := E.h8
  by_cases hk : z ∈ ks.map (·.1)
  · refine ⟨.tup [.str "", .lst (((orderR z rs).map fun x => x.1.n).map .str)], set_of (fIf_t (by rw [inK E, decide_eq_true hk]) (pair_of (frzE_of (lc_of' (η1 := η) (ds := (orderR z rs).map t2) (fiA_of (d := .lst ((orderR z rs).map t2)) (by (try simp only [DLS, Int.cast_ofNat_Int, Nat.reduceAdd, Nat.reduceLeDiff, Nat.reduceEqDiff, Nat.reduceSub, Nat.reduceMul, Nat.reduceBEq, Nat.reduceLT, Int.reduceAdd, Int.reduceSub, Int.reduceMul, Int.reduceNeg, Int.reduceLE, Int.reduceLT, Int.reduceEq, Int.reduceNe, Int.reduceToNat, reduceIte, szT, szlT, h10]) <;> rfl) rfl) ?_)))), ?_, ?_⟩
    · have Ew : Ev ls ks rs m b z (wipeD δ [12, 14]) := (E.set (by decide)).set (by decide)
      have := comp_enc (t := (.tp [(.nm 12), (.nm 14)])) (ft := fYes) (fe := (fOp ixD (fOp ixD (fOp ixD (fV 4) (fC (.int 1))) (fV 14)) (fC (.int 0)))) (δw := wipeD δ [12, 14]) (η := η) t2 (fun _ => true) (fun x => x.1.n) D.str (xs := orderR z rs) fun x hx => by
        have E2 : Ev ls ks rs m b z (((wipeD δ [12, 14]).set 12 (vl (.int x.1.p))).set 14 (vl (.int (x.2 : Nat)))) := (Ew.set (by decide)).set (by decide)
        have c14 : (((wipeD δ [12, 14]).set 12 (vl (.int x.1.p))).set 14 (vl (.int (x.2 : Nat))))[14]? = some (vl (.int (x.2 : Nat))) := List.getElem?_set_self (by rw [List.length_set, Ew.len]; decide)
        refine ⟨((wipeD δ [12, 14]).set 12 (vl (.int x.1.p))).set 14 (vl (.int (x.2 : Nat))), by rw [t2, asg_tp, asgs_cons, asg_nm]; rfl, rfl, fun _ => ?_⟩
        generalize ((wipeD δ [12, 14]).set 12 (vl (.int x.1.p))).set 14 (vl (.int (x.2 : Nat))) = δ9 at *
        have e2 := row_at (order_at hx)
        have e3 : ixD x.1.d (.int 0) = some (.str x.1.n) := rfl
        have h4 := E2.h4
        generalize x.1.d = RD at *
        have b1 : ixD (bkT ks rs m) (.int 1) = some (.lst (rs.map Row.d)) := bk1
        generalize bkT ks rs m = BT at *
        generalize rs.map Row.d = RR at *
        exact (by (try simp only [DLS, Int.cast_ofNat_Int, Nat.reduceAdd, Nat.reduceLeDiff, Nat.reduceEqDiff, Nat.reduceSub, Nat.reduceMul, Nat.reduceBEq, Nat.reduceLT, Int.reduceAdd, Int.reduceSub, Int.reduceMul, Int.reduceNeg, Int.reduceLE, Int.reduceLT, Int.reduceEq, Int.reduceNe, Int.reduceToNat, reduceIte, szT, szlT, h4, b1, c14, e2, e3]) <;> rfl)
      rw [List.filter_eq_self.mpr fun _ _ => rfl] at this
      exact this
    · show (pureDs 19 [.str "", .lst _]) = true
      refine pureDs_iff.mpr fun d hd => ?_
      simp only [List.mem_cons, List.not_mem_nil, or_false] at hd
      rcases hd with rfl | rfl
      · rfl
      · exact pureDs_map fun x _ => rfl
    · rw [words_for_ok hb B.r.l1 hk]
      exact why_ok
  · refine ⟨.tup [.str "UnknownSort", .str z], set_of (fIf_f (by rw [inK E, decide_eq_false hk]) (pair_of (by (try simp only [DLS, Int.cast_ofNat_Int, Nat.reduceAdd, Nat.reduceLeDiff, Nat.reduceEqDiff, Nat.reduceSub, Nat.reduceMul, Nat.reduceBEq, Nat.reduceLT, Int.reduceAdd, Int.reduceSub, Int.reduceMul, Int.reduceNeg, Int.reduceLE, Int.reduceLT, Int.reduceEq, Int.reduceNe, Int.reduceToNat, reduceIte, szT, szlT, h8]) <;> rfl))), rfl, ?_⟩
    rw [words_for_no hb hk]
    exact why_s
theorem s5 {d : D} (E : Ev ls ks rs m b z δ) (hb : η[b]? = some (bkO ks rs m)) (t0 : η[0]? = some TQ) (h9 : δ[9]? = some (vl d)) (ok : okq d = true) (hw : whyM CS m_law_field (m_Book_words_for [.obj b, .str z] η) = .ok d η) : L2b6b5 δ η = .nx δ η := by
  have h8 := E.h8
  have h5 := E.h5
  refine whyif (why_at t0 (r := m_Book_words_for [.obj b, .str z] η) ?_ hw) h9 ok
  have hb' : η[b]? = some (.ins 0 NSB [.lst (ks.map kd2), .lst (rs.map Row.d), m]) := hb
  generalize D.lst (ks.map kd2) = KK at hb'
  generalize D.lst (rs.map Row.d) = RR at hb'
  exact (by (try simp only [DLS, Int.cast_ofNat_Int, Nat.reduceAdd, Nat.reduceLeDiff, Nat.reduceEqDiff, Nat.reduceSub, Nat.reduceMul, Nat.reduceBEq, Nat.reduceLT, Int.reduceAdd, Int.reduceSub, Int.reduceMul, Int.reduceNeg, Int.reduceLE, Int.reduceLT, Int.reduceEq, Int.reduceNe, Int.reduceToNat, reduceIte, szT, szlT, h8, h5, hb']) <;> rfl)
/-! ### word_price -/
theorem s6 (B : BookDrawn ks rs m) (E : Ev ls ks rs m b z δ) (hb : η[b]? = some (bkO ks rs m)) : ∃ d, L2b6b6 δ η = .nx (δ.set 9 (vl d)) η ∧ okq d = true ∧ whyM CS m_law_field (m_Book_word_price [.obj b, .str z] η) = .ok d η := by
  have h8 := E.h8
  have h4 := E.h4
  by_cases hk : z ∈ rs.map (·.n)
  · obtain ⟨r, hf⟩ := find_of hk
    have el := law_price_ok (ks := ks) (m := m) (η := η) hf
    refine ⟨.tup [.str "", .int r.p], set_of (fIf_t (by rw [inT E, decide_eq_true hk]) (pair_of ?_)), rfl, ?_⟩
    · generalize bkT ks rs m = BT at *
      exact (by (try simp only [DLS, Int.cast_ofNat_Int, Nat.reduceAdd, Nat.reduceLeDiff, Nat.reduceEqDiff, Nat.reduceSub, Nat.reduceMul, Nat.reduceBEq, Nat.reduceLT, Int.reduceAdd, Int.reduceSub, Int.reduceMul, Int.reduceNeg, Int.reduceLE, Int.reduceLT, Int.reduceEq, Int.reduceNe, Int.reduceToNat, reduceIte, szT, szlT, h4, h8, el]) <;> rfl)
    · rw [word_price_ok hb hf]
      exact why_ok
  · refine ⟨.tup [.str "UnknownWord", .str z], set_of (fIf_f (by rw [inT E, decide_eq_false hk]) (pair_of (by (try simp only [DLS, Int.cast_ofNat_Int, Nat.reduceAdd, Nat.reduceLeDiff, Nat.reduceEqDiff, Nat.reduceSub, Nat.reduceMul, Nat.reduceBEq, Nat.reduceLT, Int.reduceAdd, Int.reduceSub, Int.reduceMul, Int.reduceNeg, Int.reduceLE, Int.reduceLT, Int.reduceEq, Int.reduceNe, Int.reduceToNat, reduceIte, szT, szlT, h8]) <;> rfl))), rfl, ?_⟩
    rw [word_price_no hb hk]
    exact why_w
theorem s7 {d : D} (E : Ev ls ks rs m b z δ) (hb : η[b]? = some (bkO ks rs m)) (t0 : η[0]? = some TQ) (h9 : δ[9]? = some (vl d)) (ok : okq d = true) (hw : whyM CS m_law_field (m_Book_word_price [.obj b, .str z] η) = .ok d η) : L2b6b7 δ η = .nx δ η := by
  have h8 := E.h8
  have h5 := E.h5
  refine whyif (why_at t0 (r := m_Book_word_price [.obj b, .str z] η) ?_ hw) h9 ok
  have hb' : η[b]? = some (.ins 0 NSB [.lst (ks.map kd2), .lst (rs.map Row.d), m]) := hb
  generalize D.lst (ks.map kd2) = KK at hb'
  generalize D.lst (rs.map Row.d) = RR at hb'
  exact (by (try simp only [DLS, Int.cast_ofNat_Int, Nat.reduceAdd, Nat.reduceLeDiff, Nat.reduceEqDiff, Nat.reduceSub, Nat.reduceMul, Nat.reduceBEq, Nat.reduceLT, Int.reduceAdd, Int.reduceSub, Int.reduceMul, Int.reduceNeg, Int.reduceLE, Int.reduceLT, Int.reduceEq, Int.reduceNe, Int.reduceToNat, reduceIte, szT, szlT, h8, h5, hb']) <;> rfl)
/-! ### can_stand -/
theorem s8 (E : Ev ls ks rs m b z δ) (f : FA_ 1 η) (ll : 0 < ls.length ∧ ls.length ≤ 1000) (lk : ks.length ≤ 1000) : ∃ y η', L2b6b8 δ η = .nx (δ.set 11 (vl (.str y))) η' ∧ FSt 1 η η' := by
  have h1 := E.h1
  have h3 := E.h3
  have h6 := E.h6
  obtain ⟨y, η', e, s, hy⟩ := ofM (enc := D.str) f (ls ++ ks.map (·.1)) (by rw [List.length_append]; omega) (by rw [List.length_append, List.length_map]; omega)
  refine ⟨y, η', set_of ?_, s⟩
  have ea : addD (.lst (ls.map .str)) (.lst ((ks.map (·.1)).map .str)) = some (.lst ((ls ++ ks.map (·.1)).map .str)) := by
    rw [addD_ll, if_pos (by rw [List.length_map, List.length_map, List.length_map, sizeLine_eq]; omega), List.map_append]
  generalize (ls ++ ks.map (·.1)).map D.str = AA at *
  generalize (ks.map (·.1)).map D.str = SD at *
  generalize ls.map D.str = LD at *
  exact (by (try simp only [DLS, Int.cast_ofNat_Int, Nat.reduceAdd, Nat.reduceLeDiff, Nat.reduceEqDiff, Nat.reduceSub, Nat.reduceMul, Nat.reduceBEq, Nat.reduceLT, Int.reduceAdd, Int.reduceSub, Int.reduceMul, Int.reduceNeg, Int.reduceLE, Int.reduceLT, Int.reduceEq, Int.reduceNe, Int.reduceToNat, reduceIte, szT, szlT, h1, h3, h6, ea, e]) <;> rfl)
def due9 (rs : List Row) (z y : Str) : D := if z ∈ rs.map (·.n) then .tup [.str "UnknownSort", .str y] else .tup [.str "UnknownWord", .str z]
theorem s9 {y : Str} (E : Ev ls ks rs m b z δ) (h11 : δ[11]? = some (vl (.str y))) : L2b6b9 δ η = .nx (δ.set 9 (vl (due9 rs z y))) η := by
  have h8 := E.h8
  refine set_of ?_
  unfold due9
  by_cases hk : z ∈ rs.map (·.n)
  · rw [if_pos hk]
    exact fIf_f (by rw [notT E, decide_eq_true hk]; rfl) (pair_of (by (try simp only [DLS, Int.cast_ofNat_Int, Nat.reduceAdd, Nat.reduceLeDiff, Nat.reduceEqDiff, Nat.reduceSub, Nat.reduceMul, Nat.reduceBEq, Nat.reduceLT, Int.reduceAdd, Int.reduceSub, Int.reduceMul, Int.reduceNeg, Int.reduceLE, Int.reduceLT, Int.reduceEq, Int.reduceNe, Int.reduceToNat, reduceIte, szT, szlT, h11]) <;> rfl))
  · rw [if_neg hk]
    exact fIf_t (by rw [notT E, decide_eq_false hk]; rfl) (pair_of (by (try simp only [DLS, Int.cast_ofNat_Int, Nat.reduceAdd, Nat.reduceLeDiff, Nat.reduceEqDiff, Nat.reduceSub, Nat.reduceMul, Nat.reduceBEq, Nat.reduceLT, Int.reduceAdd, Int.reduceSub, Int.reduceMul, Int.reduceNeg, Int.reduceLE, Int.reduceLT, Int.reduceEq, Int.reduceNe, Int.reduceToNat, reduceIte, szT, szlT, h8]) <;> rfl))
theorem s10 {y : Str} (E : Ev ls ks rs m b z δ) (h11 : δ[11]? = some (vl (.str y))) (h9 : δ[9]? = some (vl (due9 rs z y))) (hb : η[b]? = some (bkO ks rs m)) : ∃ d, L2b6b10 δ η = .nx (δ.set 9 (vl d)) η ∧ okq d = true ∧ whyM CS m_law_field (m_Book_can_stand [.obj b, .str z, .str y] η) = .ok d η := by
  have h8 := E.h8
  have h4 := E.h4
  have h6 := E.h6
  have ey : toB (fOp inD (fV 11) (fV 6)) δ η = .ok (decide (y ∈ ks.map (·.1))) η := by
    have e : inD (.str y) (.lst ((ks.map (·.1)).map .str)) = some (.bl (decide (y ∈ ks.map (·.1)))) := inD_ls
    generalize (ks.map (·.1)).map D.str = SD at *
    exact (by (try simp only [DLS, Int.cast_ofNat_Int, Nat.reduceAdd, Nat.reduceLeDiff, Nat.reduceEqDiff, Nat.reduceSub, Nat.reduceMul, Nat.reduceBEq, Nat.reduceLT, Int.reduceAdd, Int.reduceSub, Int.reduceMul, Int.reduceNeg, Int.reduceLE, Int.reduceLT, Int.reduceEq, Int.reduceNe, Int.reduceToNat, reduceIte, szT, szlT, h11, h6, e]) <;> rfl)
  by_cases hk : z ∈ rs.map (·.n)
  · obtain ⟨r, hf⟩ := find_of hk
    by_cases hy : y ∈ ks.map (·.1)
    · have el := law_stands_ok (ks := ks) (m := m) (η := η) hf
      have ei : inD (.str y) (.tup (r.st.map .str)) = some (.bl (decide (y ∈ r.st))) := inD_ts
      refine ⟨.tup [.str "", .bl (decide (y ∈ r.st))], set_of (fIf_t (by rw [fAndB_a, inT E, decide_eq_true hk, bind_ok, if_pos rfl, ey, decide_eq_true hy]) (pair_of ?_)), rfl, ?_⟩
      · generalize r.st.map D.str = SD at *
        generalize bkT ks rs m = BT at *
        exact (by (try simp only [DLS, Int.cast_ofNat_Int, Nat.reduceAdd, Nat.reduceLeDiff, Nat.reduceEqDiff, Nat.reduceSub, Nat.reduceMul, Nat.reduceBEq, Nat.reduceLT, Int.reduceAdd, Int.reduceSub, Int.reduceMul, Int.reduceNeg, Int.reduceLE, Int.reduceLT, Int.reduceEq, Int.reduceNe, Int.reduceToNat, reduceIte, szT, szlT, h4, h8, h11, el, ei]) <;> rfl)
      · rw [stand_ok hb hf hy]
        exact why_ok
    · refine ⟨due9 rs z y, set_of (fIf_f (by rw [fAndB_a, inT E, decide_eq_true hk, bind_ok, if_pos rfl, ey, decide_eq_false hy]) (by (try simp only [DLS, Int.cast_ofNat_Int, Nat.reduceAdd, Nat.reduceLeDiff, Nat.reduceEqDiff, Nat.reduceSub, Nat.reduceMul, Nat.reduceBEq, Nat.reduceLT, Int.reduceAdd, Int.reduceSub, Int.reduceMul, Int.reduceNeg, Int.reduceLE, Int.reduceLT, Int.reduceEq, Int.reduceNe, Int.reduceToNat, reduceIte, szT, szlT, h9]) <;> rfl)), by unfold due9; rw [if_pos hk]; rfl, ?_⟩
      rw [stand_nosort hb hf hy]
      unfold due9
      rw [if_pos hk]
      exact why_s
  · refine ⟨due9 rs z y, set_of (fIf_f (by rw [fAndB_a, inT E, decide_eq_false hk, bind_ok]; rfl) (by (try simp only [DLS, Int.cast_ofNat_Int, Nat.reduceAdd, Nat.reduceLeDiff, Nat.reduceEqDiff, Nat.reduceSub, Nat.reduceMul, Nat.reduceBEq, Nat.reduceLT, Int.reduceAdd, Int.reduceSub, Int.reduceMul, Int.reduceNeg, Int.reduceLE, Int.reduceLT, Int.reduceEq, Int.reduceNe, Int.reduceToNat, reduceIte, szT, szlT, h9]) <;> rfl)), by unfold due9; rw [if_neg hk]; rfl, ?_⟩
    rw [stand_noword hb hk]
    unfold due9
    rw [if_neg hk]
    exact why_w
theorem s11 {d : D} {y : Str} (E : Ev ls ks rs m b z δ) (hb : η[b]? = some (bkO ks rs m)) (t0 : η[0]? = some TQ) (h11 : δ[11]? = some (vl (.str y))) (h9 : δ[9]? = some (vl d)) (ok : okq d = true) (hw : whyM CS m_law_field (m_Book_can_stand [.obj b, .str z, .str y] η) = .ok d η) : L2b6b11 δ η = .nx δ η := by
  have h8 := E.h8
  have h5 := E.h5
  refine whyif (why_at t0 (r := m_Book_can_stand [.obj b, .str z, .str y] η) ?_ hw) h9 ok
  have hb' : η[b]? = some (.ins 0 NSB [.lst (ks.map kd2), .lst (rs.map Row.d), m]) := hb
  generalize D.lst (ks.map kd2) = KK at hb'
  generalize D.lst (rs.map Row.d) = RR at hb'
  exact (by (try simp only [DLS, Int.cast_ofNat_Int, Nat.reduceAdd, Nat.reduceLeDiff, Nat.reduceEqDiff, Nat.reduceSub, Nat.reduceMul, Nat.reduceBEq, Nat.reduceLT, Int.reduceAdd, Int.reduceSub, Int.reduceMul, Int.reduceNeg, Int.reduceLE, Int.reduceLT, Int.reduceEq, Int.reduceNe, Int.reduceToNat, reduceIte, szT, szlT, h8, h5, h11, hb']) <;> rfl)
theorem name_step (B : BookDrawn ks rs m) (E : Ev ls ks rs m b z δ) (f : FA_ 1 η) (t0 : η[0]? = some TQ) (hb : η[b]? = some (bkO ks rs m)) (nb : b ≠ 1) (ll : 0 < ls.length ∧ ls.length ≤ 1000) :
    ∃ δ' η', L2b6b δ η = .nx δ' η' ∧ (Kp [9, 10, 11] δ δ' ∧ FSt 1 η η') := by
  have k1 := B.k.l1
  obtain ⟨d1, e1, o1, w1⟩ := s1 B E hb
  have E1 : Ev ls ks rs m b z (δ.set 9 (vl d1)) := E.set (by decide)
  have g1 : (δ.set 9 (vl d1))[9]? = some (vl d1) := List.getElem?_set_self (by rw [E.len]; decide)
  have K1 : Kp [9, 10, 11] δ (δ.set 9 (vl d1)) := Kp.st Kp.refl (by decide)
  generalize δ.set 9 (vl d1) = δ1 at *
  have e2 := s2 E1 hb t0 g1 o1 w1
  have e3 := s3 (η := η) E1 B.r.l1
  have E3 : Ev ls ks rs m b z (δ1.set 10 (vl (.lst ((orderR z rs).map t2)))) := E1.set (by decide)
  have g3 : (δ1.set 10 (vl (.lst ((orderR z rs).map t2))))[10]? = some (vl (.lst ((orderR z rs).map t2))) := List.getElem?_set_self (by rw [E1.len]; decide)
  have K3 : Kp [9, 10, 11] δ (δ1.set 10 (vl (.lst ((orderR z rs).map t2)))) := K1.st (by decide)
  generalize δ1.set 10 (vl (.lst ((orderR z rs).map t2))) = δ3 at *
  obtain ⟨d4, e4, o4, w4⟩ := s4 B E3 g3 hb
  have E4 : Ev ls ks rs m b z (δ3.set 9 (vl d4)) := E3.set (by decide)
  have g4 : (δ3.set 9 (vl d4))[9]? = some (vl d4) := List.getElem?_set_self (by rw [E3.len]; decide)
  have K4 : Kp [9, 10, 11] δ (δ3.set 9 (vl d4)) := K3.st (by decide)
  generalize δ3.set 9 (vl d4) = δ4 at *
  have e5 := s5 E4 hb t0 g4 o4 w4
  obtain ⟨d6, e6, o6, w6⟩ := s6 B E4 hb
  have E6 : Ev ls ks rs m b z (δ4.set 9 (vl d6)) := E4.set (by decide)
  have g6 : (δ4.set 9 (vl d6))[9]? = some (vl d6) := List.getElem?_set_self (by rw [E4.len]; decide)
  have K6 : Kp [9, 10, 11] δ (δ4.set 9 (vl d6)) := K4.st (by decide)
  generalize δ4.set 9 (vl d6) = δ6 at *
  have e7 := s7 E6 hb t0 g6 o6 w6
  obtain ⟨y, η8, e8, f8⟩ := s8 E6 f ll (by omega)
  have E8 : Ev ls ks rs m b z (δ6.set 11 (vl (.str y))) := E6.set (by decide)
  have g8 : (δ6.set 11 (vl (.str y)))[11]? = some (vl (.str y)) := List.getElem?_set_self (by rw [E6.len]; decide)
  have K8 : Kp [9, 10, 11] δ (δ6.set 11 (vl (.str y))) := K6.st (by decide)
  generalize δ6.set 11 (vl (.str y)) = δ8 at *
  have hb8 := f8.keep b _ nb hb
  have t8 := f8.keep 0 _ (by decide) t0
  have e9 := s9 (η := η8) E8 g8
  have E9 : Ev ls ks rs m b z (δ8.set 9 (vl (due9 rs z y))) := E8.set (by decide)
  have g9 : (δ8.set 9 (vl (due9 rs z y)))[9]? = some (vl (due9 rs z y)) := List.getElem?_set_self (by rw [E8.len]; decide)
  have g9' : (δ8.set 9 (vl (due9 rs z y)))[11]? = some (vl (.str y)) := by rw [List.getElem?_set_ne (by decide)]; exact g8
  have K9 : Kp [9, 10, 11] δ (δ8.set 9 (vl (due9 rs z y))) := K8.st (by decide)
  generalize δ8.set 9 (vl (due9 rs z y)) = δ9 at *
  obtain ⟨d10, e10, o10, w10⟩ := s10 E9 g9' g9 hb8
  have E10 : Ev ls ks rs m b z (δ9.set 9 (vl d10)) := E9.set (by decide)
  have g10 : (δ9.set 9 (vl d10))[9]? = some (vl d10) := List.getElem?_set_self (by rw [E9.len]; decide)
  have g10' : (δ9.set 9 (vl d10))[11]? = some (vl (.str y)) := by rw [List.getElem?_set_ne (by decide)]; exact g9'
  have K10 : Kp [9, 10, 11] δ (δ9.set 9 (vl d10)) := K9.st (by decide)
  generalize δ9.set 9 (vl d10) = δ10 at *
  have e11 := s11 E10 hb8 t8 g10' g10 o10 w10
  exact ⟨δ10, η8, sq e1 (sq e2 (sq e3 (sq e4 (sq e5 (sq e6 (sq e7 (sq e8 (sq e9 (sq e10 e11))))))))), K10, f8⟩
end
section
variable {δ : En} {η η1 : List O} {b : Nat} {ks : List (Str × Int)} {rs : List Row} {m : D} {ls : List Str} {z : Str}
theorem madeK (hB : BookDrawn ks rs m) (f : FA_ 1 η) : ∃ b η', m_law_made [bkT ks rs m] η = .ok (.obj b) η' ∧ FSt 1 η η' ∧ η'[b]? = some (bkO ks rs m) ∧ b ≠ 1 := by
  have l1 : 2 ≤ η.length := by obtain ⟨o, ho, _⟩ := f; have := (List.getElem?_eq_some_iff.mp ho).1; omega
  exact ⟨_, _, madeF hB, .app f _, by simp, by omega⟩
theorem known_ok (hl : δ.length = 15) (h4 : δ[4]? = some (vl (bkT ks rs m))) : L2b4 δ η = .nx (δ.set 6 (vl (.lst ((ks.map (·.1)).map .str)))) η := by
  have ec := comp_enc (t := .tp [(.nm 8), (.nm 12)]) (ft := fYes) (fe := fV 8) (δw := wipeD δ [8, 12]) (η := η) kd2 (fun _ => true) (·.1) D.str (xs := ks) fun x hx => ⟨((wipeD δ [8, 12]).set 8 (vl (.str x.1))).set 12 (vl (.int x.2)), by rw [kd2, asg_tp, asgs_cons, asg_nm]; rfl, rfl, fun _ => (by (try simp only [DLS, Int.cast_ofNat_Int, Nat.reduceAdd, Nat.reduceLeDiff, Nat.reduceEqDiff, Nat.reduceSub, Nat.reduceMul, Nat.reduceBEq, Nat.reduceLT, Int.reduceAdd, Int.reduceSub, Int.reduceMul, Int.reduceNeg, Int.reduceLE, Int.reduceLT, Int.reduceEq, Int.reduceNe, Int.reduceToNat, reduceIte, szT, szlT, wipeD, hl]) <;> rfl)⟩
  rw [List.filter_eq_self.mpr fun _ _ => rfl] at ec
  show sFrz 6 _ _ _ = _
  rw [sFrz_a, lc_of' (η1 := η) (ds := ks.map kd2) (fiA_of (d := .lst (ks.map kd2)) (by
    generalize hB : bkT ks rs m = BT at *
    have b0 : ixD BT (.int 0) = some (.lst (ks.map kd2)) := by rw [← hB]; exact bk0
    generalize ks.map kd2 = KK at *
    exact (by (try simp only [DLS, Int.cast_ofNat_Int, Nat.reduceAdd, Nat.reduceLeDiff, Nat.reduceEqDiff, Nat.reduceSub, Nat.reduceMul, Nat.reduceBEq, Nat.reduceLT, Int.reduceAdd, Int.reduceSub, Int.reduceMul, Int.reduceNeg, Int.reduceLE, Int.reduceLT, Int.reduceEq, Int.reduceNe, Int.reduceToNat, reduceIte, szT, szlT, h4, b0]) <;> rfl)) rfl) ec]
  rfl
theorem tokens_ok (hl : δ.length = 15) (h4 : δ[4]? = some (vl (bkT ks rs m))) : L2b5 δ η = .nx (δ.set 7 (vl (.lst ((rs.map (·.n)).map .str)))) η := by
  have ec := comp_enc (t := .tp [(.nm 8), (.nm 13), (.nm 12)]) (ft := fYes) (fe := fV 8) (δw := wipeD δ [8, 13, 12]) (η := η) Row.d (fun _ => true) (·.n) D.str (xs := rs) fun x hx => ⟨(((wipeD δ [8, 13, 12]).set 8 (vl (.str x.n))).set 13 (vl (.tup (x.st.map .str)))).set 12 (vl (.int x.p)), by rw [Row.d, asg_tp, asgs_cons, asg_nm]; rfl, rfl, fun _ => (by (try simp only [DLS, Int.cast_ofNat_Int, Nat.reduceAdd, Nat.reduceLeDiff, Nat.reduceEqDiff, Nat.reduceSub, Nat.reduceMul, Nat.reduceBEq, Nat.reduceLT, Int.reduceAdd, Int.reduceSub, Int.reduceMul, Int.reduceNeg, Int.reduceLE, Int.reduceLT, Int.reduceEq, Int.reduceNe, Int.reduceToNat, reduceIte, szT, szlT, wipeD, hl]) <;> rfl)⟩
  rw [List.filter_eq_self.mpr fun _ _ => rfl] at ec
  show sFrz 7 _ _ _ = _
  rw [sFrz_a, lc_of' (η1 := η) (ds := rs.map Row.d) (fiA_of (d := .lst (rs.map Row.d)) (by
    generalize hB : bkT ks rs m = BT at *
    have b0 : ixD BT (.int 1) = some (.lst (rs.map Row.d)) := by rw [← hB]; exact bk1
    generalize rs.map Row.d = KK at *
    exact (by (try simp only [DLS, Int.cast_ofNat_Int, Nat.reduceAdd, Nat.reduceLeDiff, Nat.reduceEqDiff, Nat.reduceSub, Nat.reduceMul, Nat.reduceBEq, Nat.reduceLT, Int.reduceAdd, Int.reduceSub, Int.reduceMul, Int.reduceNeg, Int.reduceLE, Int.reduceLT, Int.reduceEq, Int.reduceNe, Int.reduceToNat, reduceIte, szT, szlT, h4, b0]) <;> rfl)) rfl) ec]
  rfl
theorem turn (hl : δ.length = 15) (h1 : δ[1]? = some (vl (.obj 1))) (f : FA_ 1 η) (t0 : η[0]? = some TQ) : ∃ δ' η', L2b δ η = .nx δ' η' ∧ (Kp [3, 4, 5, 6, 7, 8, 9, 10, 11] δ δ' ∧ FSt 1 η η') := by
  obtain ⟨ns, η1, e1, s1, n10, hN⟩ := namesF f (m := 10) (by decide)
  obtain ⟨ks, rs, m, η2, e2, s2, B⟩ := bookF s1.feed hN (by omega) (by omega) (most := 4) (by decide)
  obtain ⟨b, η3, e3, s3, hb, nb⟩ := madeK B s2.feed
  have e1 : m_law_names [.obj 1, .int 10] η = .ok (.lst (ns.map .str)) η1 := e1
  have e2 : m_law_book [.obj 1, .lst (ns.map .str), .int 4] η1 = .ok (bkT ks rs m) η2 := e2
  have a1 : L2b1 δ η = .nx (δ.set 3 (vl (.lst (ns.map .str)))) η1 := set_of (by (try simp only [DLS, Int.cast_ofNat_Int, Nat.reduceAdd, Nat.reduceLeDiff, Nat.reduceEqDiff, Nat.reduceSub, Nat.reduceMul, Nat.reduceBEq, Nat.reduceLT, Int.reduceAdd, Int.reduceSub, Int.reduceMul, Int.reduceNeg, Int.reduceLE, Int.reduceLT, Int.reduceEq, Int.reduceNe, Int.reduceToNat, reduceIte, szT, szlT, h1, e1]) <;> rfl)
  have h3 : (δ.set 3 (vl (.lst (ns.map .str))))[3]? = some (vl (.lst (ns.map .str))) := List.getElem?_set_self (by rw [hl]; decide)
  have h1' : (δ.set 3 (vl (.lst (ns.map .str))))[1]? = some (vl (.obj 1)) := by rw [List.getElem?_set_ne (by decide)]; exact h1
  have l3 : (δ.set 3 (vl (.lst (ns.map .str)))).length = 15 := by rw [List.length_set]; exact hl
  have K3 : Kp [3, 4, 5, 6, 7, 8, 9, 10, 11] δ (δ.set 3 (vl (.lst (ns.map .str)))) := Kp.st Kp.refl (by decide)
  generalize δ.set 3 (vl (.lst (ns.map .str))) = δ3 at *
  have a2 : L2b2 δ3 η1 = .nx (δ3.set 4 (vl (bkT ks rs m))) η2 := set_of (by
    generalize bkT ks rs m = BT at *
    generalize ns.map D.str = NN at *
    exact (by (try simp only [DLS, Int.cast_ofNat_Int, Nat.reduceAdd, Nat.reduceLeDiff, Nat.reduceEqDiff, Nat.reduceSub, Nat.reduceMul, Nat.reduceBEq, Nat.reduceLT, Int.reduceAdd, Int.reduceSub, Int.reduceMul, Int.reduceNeg, Int.reduceLE, Int.reduceLT, Int.reduceEq, Int.reduceNe, Int.reduceToNat, reduceIte, szT, szlT, h1', h3, e2]) <;> rfl))
  have h4 : (δ3.set 4 (vl (bkT ks rs m)))[4]? = some (vl (bkT ks rs m)) := List.getElem?_set_self (by rw [l3]; decide)
  have h34 : (δ3.set 4 (vl (bkT ks rs m)))[3]? = some (vl (.lst (ns.map .str))) := by rw [List.getElem?_set_ne (by decide)]; exact h3
  have h14 : (δ3.set 4 (vl (bkT ks rs m)))[1]? = some (vl (.obj 1)) := by rw [List.getElem?_set_ne (by decide)]; exact h1'
  have l4 : (δ3.set 4 (vl (bkT ks rs m))).length = 15 := by rw [List.length_set]; exact l3
  have K4 : Kp [3, 4, 5, 6, 7, 8, 9, 10, 11] δ (δ3.set 4 (vl (bkT ks rs m))) := K3.st (by decide)
  generalize δ3.set 4 (vl (bkT ks rs m)) = δ4 at *
  have a3 : L2b3 δ4 η2 = .nx (δ4.set 5 (vl (.obj b))) η3 := set_of (by
    generalize bkT ks rs m = BT at *
    exact (by (try simp only [DLS, Int.cast_ofNat_Int, Nat.reduceAdd, Nat.reduceLeDiff, Nat.reduceEqDiff, Nat.reduceSub, Nat.reduceMul, Nat.reduceBEq, Nat.reduceLT, Int.reduceAdd, Int.reduceSub, Int.reduceMul, Int.reduceNeg, Int.reduceLE, Int.reduceLT, Int.reduceEq, Int.reduceNe, Int.reduceToNat, reduceIte, szT, szlT, h4, e3]) <;> rfl))
  have K5 : Kp [3, 4, 5, 6, 7, 8, 9, 10, 11] δ (δ4.set 5 (vl (.obj b))) := K4.st (by decide)
  have h5 : (δ4.set 5 (vl (.obj b)))[5]? = some (vl (.obj b)) := List.getElem?_set_self (by rw [l4]; decide)
  have h45 : (δ4.set 5 (vl (.obj b)))[4]? = some (vl (bkT ks rs m)) := by rw [List.getElem?_set_ne (by decide)]; exact h4
  have h35 : (δ4.set 5 (vl (.obj b)))[3]? = some (vl (.lst (ns.map .str))) := by rw [List.getElem?_set_ne (by decide)]; exact h34
  have h15 : (δ4.set 5 (vl (.obj b)))[1]? = some (vl (.obj 1)) := by rw [List.getElem?_set_ne (by decide)]; exact h14
  have l5 : (δ4.set 5 (vl (.obj b))).length = 15 := by rw [List.length_set]; exact l4
  generalize δ4.set 5 (vl (.obj b)) = δ5 at *
  have a4 := known_ok (η := η3) l5 h45
  have K6 : Kp [3, 4, 5, 6, 7, 8, 9, 10, 11] δ (δ5.set 6 (vl (.lst ((ks.map (·.1)).map .str)))) := K5.st (by decide)
  have h6 : (δ5.set 6 (vl (.lst ((ks.map (·.1)).map .str))))[6]? = some (vl (.lst ((ks.map (·.1)).map .str))) := List.getElem?_set_self (by rw [l5]; decide)
  have h56 : (δ5.set 6 (vl (.lst ((ks.map (·.1)).map .str))))[5]? = some (vl (.obj b)) := by rw [List.getElem?_set_ne (by decide)]; exact h5
  have h46 : (δ5.set 6 (vl (.lst ((ks.map (·.1)).map .str))))[4]? = some (vl (bkT ks rs m)) := by rw [List.getElem?_set_ne (by decide)]; exact h45
  have h36 : (δ5.set 6 (vl (.lst ((ks.map (·.1)).map .str))))[3]? = some (vl (.lst (ns.map .str))) := by rw [List.getElem?_set_ne (by decide)]; exact h35
  have h16 : (δ5.set 6 (vl (.lst ((ks.map (·.1)).map .str))))[1]? = some (vl (.obj 1)) := by rw [List.getElem?_set_ne (by decide)]; exact h15
  have l6 : (δ5.set 6 (vl (.lst ((ks.map (·.1)).map .str)))).length = 15 := by rw [List.length_set]; exact l5
  generalize δ5.set 6 (vl (.lst ((ks.map (·.1)).map .str))) = δ6 at *
  have a5 := tokens_ok (η := η3) l6 h46
  have K7 : Kp [3, 4, 5, 6, 7, 8, 9, 10, 11] δ (δ6.set 7 (vl (.lst ((rs.map (·.n)).map .str)))) := K6.st (by decide)
  have h7 : (δ6.set 7 (vl (.lst ((rs.map (·.n)).map .str))))[7]? = some (vl (.lst ((rs.map (·.n)).map .str))) := List.getElem?_set_self (by rw [l6]; decide)
  have h67 : (δ6.set 7 (vl (.lst ((rs.map (·.n)).map .str))))[6]? = some (vl (.lst ((ks.map (·.1)).map .str))) := by rw [List.getElem?_set_ne (by decide)]; exact h6
  have h57 : (δ6.set 7 (vl (.lst ((rs.map (·.n)).map .str))))[5]? = some (vl (.obj b)) := by rw [List.getElem?_set_ne (by decide)]; exact h56
  have h47 : (δ6.set 7 (vl (.lst ((rs.map (·.n)).map .str))))[4]? = some (vl (bkT ks rs m)) := by rw [List.getElem?_set_ne (by decide)]; exact h46
  have h37 : (δ6.set 7 (vl (.lst ((rs.map (·.n)).map .str))))[3]? = some (vl (.lst (ns.map .str))) := by rw [List.getElem?_set_ne (by decide)]; exact h36
  have h17 : (δ6.set 7 (vl (.lst ((rs.map (·.n)).map .str))))[1]? = some (vl (.obj 1)) := by rw [List.getElem?_set_ne (by decide)]; exact h16
  have l7 : (δ6.set 7 (vl (.lst ((rs.map (·.n)).map .str)))).length = 15 := by rw [List.length_set]; exact l6
  generalize δ6.set 7 (vl (.lst ((rs.map (·.n)).map .str))) = δ7 at *
  have S := (s1.trans s2).trans s3
  have t3 : η3[0]? = some TQ := S.keep 0 _ (by decide) t0
  obtain ⟨δ8, η8, el, kp, s8⟩ := loop_k (t := .nm 8) (b := L2b6b) [8, 9, 10, 11] (fun k δ η => FSt 1 η3 η) (ds := ns.map .str) (δ := δ7) (η := η3) (FSt.refl s3.feed) fun k x δ1 η1 hx hk s => by
    obtain ⟨z, hz, rfl⟩ := map_get hx
    have E : Ev ns ks rs m b z (δ1.set 8 (vl (.str z))) :=
      ⟨by rw [List.length_set, hk.1]; exact l7, by rw [List.getElem?_set_ne (by decide), hk.2 1 (by decide)]; exact h17, by rw [List.getElem?_set_ne (by decide), hk.2 3 (by decide)]; exact h37, by rw [List.getElem?_set_ne (by decide), hk.2 4 (by decide)]; exact h47,
       by rw [List.getElem?_set_ne (by decide), hk.2 5 (by decide)]; exact h57, by rw [List.getElem?_set_ne (by decide), hk.2 6 (by decide)]; exact h67, by rw [List.getElem?_set_ne (by decide), hk.2 7 (by decide)]; exact h7, List.getElem?_set_self (by rw [hk.1, l7]; decide)⟩
    obtain ⟨δ2, η2, e, k2, s2⟩ := name_step B E s.feed (s.keep 0 _ (by decide) t3) (s.keep b _ nb hb) nb (by omega)
    exact ⟨_, asg_nm, δ2, η2, .inl e, (hk.st (by decide)).tr k2 (by decide), s.trans s2⟩
  have a6 : L2b6 δ7 η3 = .nx δ8 η8 := for_of (fiA_of (d := .lst (ns.map .str)) (η1 := η3) (by
    generalize ns.map D.str = NN at *
    exact (by (try simp only [DLS, Int.cast_ofNat_Int, Nat.reduceAdd, Nat.reduceLeDiff, Nat.reduceEqDiff, Nat.reduceSub, Nat.reduceMul, Nat.reduceBEq, Nat.reduceLT, Int.reduceAdd, Int.reduceSub, Int.reduceMul, Int.reduceNeg, Int.reduceLE, Int.reduceLT, Int.reduceEq, Int.reduceNe, Int.reduceToNat, reduceIte, szT, szlT, h37]) <;> rfl)) rfl) el
  exact ⟨δ8, η8, sq a1 (sq a2 (sq a3 (sq a4 (sq a5 a6)))), K7.tr kp (by decide), S.trans s8⟩
theorem law_true : ∀ ns : List Int, ns.length ≤ 63 → ∃ η, m_law [DL.D.lst (ns.map DL.D.int)] [DL.O.tbl "law.<locals>.<lambda>"] = DL.R.ok (DL.D.bl true) η := by
  intro ns hns
  obtain ⟨η1, e1, f1, g1⟩ := feedF hns [TQ]
  have e1 : m_law_feed [.lst (ns.map .int)] [TQ] = .ok (.obj 1) η1 := e1
  have f1 : FA_ 1 η1 := f1
  have t1 : η1[0]? = some TQ := g1 0 _ rfl
  generalize hN : ns.map D.int = N at *
  suffices h : ∃ η', b_law [vl (.lst N), none, none, none, none, none, none, none, none, none, none, none, none, none, none] [TQ] = .rt (.bl true) η' by
    obtain ⟨η', h⟩ := h
    exact ⟨η', run_rt2 rfl h⟩
  rw [L_eq]
  obtain ⟨δ8, η8, el, kp8, f8, t8⟩ := loop_k (t := .nm 2) (b := L2b) [2, 3, 4, 5, 6, 7, 8, 9, 10, 11] (fun k δ η => FA_ 1 η ∧ η[0]? = some TQ) (ds := rngD 0 (3 : Int).toNat) (δ := [vl (.lst N), vl (.obj 1), none, none, none, none, none, none, none, none, none, none, none, none, none]) (η := η1) ⟨f1, t1⟩ fun k x δ1 η2 hx hk ⟨f, t⟩ => by
    obtain ⟨_, rfl⟩ := rng_get hx
    obtain ⟨δ2, η3, e, k2, s2⟩ := turn (δ := δ1.set 2 (vl (.int (0 + (k : Int))))) (η := η2) (by rw [List.length_set, hk.1]; rfl) (by rw [List.getElem?_set_ne (by decide), hk.2 1 (by decide)]; rfl) f t
    exact ⟨_, asg_nm, δ2, η3, .inl e, (hk.st (by decide)).tr k2 (by decide), s2.feed, s2.keep 0 _ (by decide) t⟩
  exact ⟨η8, sq (δ1 := [vl (.lst N), vl (.obj 1), none, none, none, none, none, none, none, none, none, none, none, none, none]) (η1 := η1) (set_of (by (try simp only [DLS, Int.cast_ofNat_Int, Nat.reduceAdd, Nat.reduceLeDiff, Nat.reduceEqDiff, Nat.reduceSub, Nat.reduceMul, Nat.reduceBEq, Nat.reduceLT, Int.reduceAdd, Int.reduceSub, Int.reduceMul, Int.reduceNeg, Int.reduceLE, Int.reduceLT, Int.reduceEq, Int.reduceNe, Int.reduceToNat, reduceIte, szT, szlT, e1]) <;> rfl)) (sq (for_of (fiR1_of (j := 3) (η1 := η1) rfl (by decide)) el) (ret_of rfl))⟩
end
end Law
open PySem PySem.W PyProof.Rows in
set_option maxRecDepth 100000 in
set_option maxHeartbeats 0 in
theorem PySem.Challenge.cw_lastheard_k04_prices_and_words_for_sorts_holds : PySem.Challenge.rw_lastheard_k04_prices_and_words_for_sorts.Holds := by
  w_on; o_law; k_head; (case hw => w_witness2)
  k_fill
  refine Law.walk (l := PySem.Challenge.rw_lastheard_k04_prices_and_words_for_sorts) rfl rfl (fun w h Y => PySem.W.km_in_of Y) ?F
  case F =>
    intro w mg mb mean fa h KX G hmg
    refine' Law.all_mk KX G hmg Law.law_true ?C0 ?a0 ?l0 ?c0_ ?k0 ?a1 ?l1 ?c1_ ?k1 ?a2 ?l2 ?c2_ ?k2 ?a3 ?l3 ?c3_ ?k3 ?a4 ?l4 ?c4_ ?k4 ?a5 ?l5 ?c5_ ?k5 ?a6 ?l6 ?c6_ ?k6 ?a7 ?l7 ?c7_ ?k7 ?a8 ?i8 ?l8 ?c8_ ?k8 ?T8_ ?a9 ?l9 ?c9_ ?k9 ?a10 ?l10 ?c10_ ?k10 ?a11 ?l11 ?c11_ ?k11 ?a12 ?i12 ?l12 ?c12_ ?k12 ?a13 ?i13 ?l13 ?c13_ ?k13 ?a14 ?l14 ?c14_ ?k14 ?a15 ?i15 ?l15 ?c15_ ?k15 ?a16 ?i16 ?l16 ?c16_ ?k16 ?a17 ?l17 ?c17_ ?k17 ?a18 ?i18 ?l18 ?c18_ ?k18 ?a19 ?l19 ?c19_ ?k19 ?pg0 ?hd0 ?po0 ?sa0 ?mk0 ?kc0 ?rd0 ?ga0 ?n0_own_memory ?n0_sort_rows ?n0_word_rows ?v0_MOST_PRICE ?v0_MOST_SORTS ?v0_MOST_WORDS ?z_all ?z_dict ?z_enumerate ?z_int ?z_isinstance ?z_len ?z_list ?z_range ?z_set ?z_sorted ?z_str ?z_tuple ?e_LETTERS ?e_MOST_SIGNS ?e_MOST_MEMORY ?C46 ?C47 ?C20 ?C21 ?C22 ?C23 ?C40 ?C41 ?C45 ?xany ?xsup ?xtop ?xa20 ?xl20 ?xb20 ?xc20 ?xd20 ?xe20 ?xg20 ?xh20 ?xi20 ?xj20 ?xk20 ?xm20 ?xn20 ?xo20 ?xp20 ?xq20 ?xr20 ?xs20 ?xt20_what ?xt20_code ?xa21 ?xl21 ?xb21 ?xc21 ?xd21 ?xe21 ?xg21 ?xh21 ?xi21 ?xj21 ?xk21 ?xm21 ?xn21 ?xo21 ?xp21 ?xq21 ?xr21 ?xs21 ?xt21_at ?xt21_code ?xa22 ?xl22 ?xb22 ?xc22 ?xd22 ?xe22 ?xg22 ?xh22 ?xi22 ?xj22 ?xk22 ?xm22 ?xn22 ?xo22 ?xp22 ?xq22 ?xr22 ?xs22 ?xt22_at ?xt22_code ?xa23 ?xl23 ?xb23 ?xc23 ?xd23 ?xe23 ?xg23 ?xh23 ?xi23 ?xj23 ?xk23 ?xm23 ?xn23 ?xo23 ?xp23 ?xq23 ?xr23 ?xs23 ?xt23_given ?xt23_code ?xa40 ?xl40 ?xb40 ?xc40 ?xd40 ?xe40 ?xg40 ?xh40 ?xi40 ?xj40 ?xk40 ?xm40 ?xn40 ?xo40 ?xp40 ?xq40 ?xr40 ?xs40 ?xt40_name ?xt40_code ?xa41 ?xl41 ?xb41 ?xc41 ?xd41 ?xe41 ?xg41 ?xh41 ?xi41 ?xj41 ?xk41 ?xm41 ?xn41 ?xo41 ?xp41 ?xq41 ?xr41 ?xs41 ?xt41_name ?xt41_code ?xu23_code ?xu23_given ?xu21_at ?xu21_code ?xu22_at ?xu22_code ?xu40_code ?xu40_name ?xu41_code ?xu41_name ?xu20_code ?xu20_what ?xv23 ?xw23 ?xv21 ?xw21 ?xv22 ?xw22 ?xv40 ?xw40 ?xv41 ?xw41 ?xv20 ?xw20 ?xx20_TellError ?xx20_Missing ?xx20_NothingLeft ?xx21_TellError ?xx21_Missing ?xx21_NothingLeft ?xx22_TellError ?xx22_Missing ?xx22_NothingLeft ?xx23_TellError ?xx23_Missing ?xx23_NothingLeft ?xx40_TellError ?xx40_Missing ?xx40_NothingLeft ?xx41_TellError ?xx41_Missing ?xx41_NothingLeft ?lq19 ?lv19 ?lr19 ?ln19
    (case C0 => k_is)
    (case a0 => k_is)
    (case l0 => k_is)
    (case c0_ => k_is)
    (case k0 => k_is)
    (case a1 => k_is)
    (case l1 => k_is)
    (case c1_ => k_is)
    (case k1 => k_is)
    (case a2 => k_is)
    (case l2 => k_is)
    (case c2_ => k_is)
    (case k2 => k_is)
    (case a3 => k_is)
    (case l3 => k_is)
    (case c3_ => k_is)
    (case k3 => k_is)
    (case a4 => k_is)
    (case l4 => k_is)
    (case c4_ => k_is)
    (case k4 => k_is)
    (case a5 => k_is)
    (case l5 => k_is)
    (case c5_ => k_is)
    (case k5 => k_is)
    (case a6 => k_is)
    (case l6 => k_is)
    (case c6_ => k_is)
    (case k6 => k_is)
    (case a7 => k_is)
    (case l7 => k_is)
    (case c7_ => k_is)
    (case k7 => k_is)
    (case a8 => k_is)
    (case i8 => k_is)
    (case l8 => k_is)
    (case c8_ => k_is)
    (case k8 => k_is)
    (case T8_ => k_is)
    (case a9 => k_is)
    (case l9 => k_is)
    (case c9_ => k_is)
    (case k9 => k_is)
    (case a10 => k_is)
    (case l10 => k_is)
    (case c10_ => k_is)
    (case k10 => k_is)
    (case a11 => k_is)
    (case l11 => k_is)
    (case c11_ => k_is)
    (case k11 => k_is)
    (case a12 => k_is)
    (case i12 => k_is)
    (case l12 => k_is)
    (case c12_ => k_is)
    (case k12 => k_is)
    (case a13 => k_is)
    (case i13 => k_is)
    (case l13 => k_is)
    (case c13_ => k_is)
    (case k13 => k_is)
    (case a14 => k_is)
    (case l14 => k_is)
    (case c14_ => k_is)
    (case k14 => k_is)
    (case a15 => k_is)
    (case i15 => k_is)
    (case l15 => k_is)
    (case c15_ => k_is)
    (case k15 => k_is)
    (case a16 => k_is)
    (case i16 => k_is)
    (case l16 => k_is)
    (case c16_ => k_is)
    (case k16 => k_is)
    (case a17 => k_is)
    (case l17 => k_is)
    (case c17_ => k_is)
    (case k17 => k_is)
    (case a18 => k_is)
    (case i18 => k_is)
    (case l18 => k_is)
    (case c18_ => k_is)
    (case k18 => k_is)
    (case a19 => k_is)
    (case l19 => k_is)
    (case c19_ => k_is)
    (case k19 => k_is)
    (case pg0 => k_is)
    (case hd0 => k_is)
    (case po0 => k_is)
    (case sa0 => k_is)
    (case mk0 => k_is)
    (case kc0 => k_is)
    (case rd0 => k_is)
    (case ga0 => k_is)
    (case n0_own_memory => k_is)
    (case n0_sort_rows => k_is)
    (case n0_word_rows => k_is)
    (case v0_MOST_PRICE => k_is)
    (case v0_MOST_SORTS => k_is)
    (case v0_MOST_WORDS => k_is)
    (case z_all => k_is)
    (case z_dict => k_is)
    (case z_enumerate => k_is)
    (case z_int => k_is)
    (case z_isinstance => k_is)
    (case z_len => k_is)
    (case z_list => k_is)
    (case z_range => k_is)
    (case z_set => k_is)
    (case z_sorted => k_is)
    (case z_str => k_is)
    (case z_tuple => k_is)
    (case e_LETTERS => k_is)
    (case e_MOST_SIGNS => k_is)
    (case e_MOST_MEMORY => k_is)
    (case C46 => k_is)
    (case C47 => k_is)
    (case C20 => k_is)
    (case C21 => k_is)
    (case C22 => k_is)
    (case C23 => k_is)
    (case C40 => k_is)
    (case C41 => k_is)
    (case C45 => k_is)
    (case xany => k_is)
    (case xsup => k_is)
    (case xtop => first | rfl | decide +kernel)
    (case xa20 => k_is)
    (case xl20 => k_is)
    (case xb20 => kx_is)
    (case xc20 => kx_is)
    (case xd20 => k_is)
    (case xe20 => ks_is)
    (case xg20 => k_is)
    (case xh20 => k_is)
    (case xi20 => k_is)
    (case xj20 => k_is)
    (case xk20 => k_is)
    (case xm20 => k_is)
    (case xn20 => k_is)
    (case xo20 => k_is)
    (case xp20 => k_is)
    (case xq20 => k_is)
    (case xr20 => first | rfl | decide +kernel)
    (case xs20 => first | rfl | decide +kernel)
    (case xt20_what => k_is)
    (case xt20_code => k_is)
    (case xa21 => k_is)
    (case xl21 => k_is)
    (case xb21 => kx_is)
    (case xc21 => kx_is)
    (case xd21 => k_is)
    (case xe21 => ks_is)
    (case xg21 => k_is)
    (case xh21 => k_is)
    (case xi21 => k_is)
    (case xj21 => k_is)
    (case xk21 => k_is)
    (case xm21 => k_is)
    (case xn21 => k_is)
    (case xo21 => k_is)
    (case xp21 => k_is)
    (case xq21 => k_is)
    (case xr21 => first | rfl | decide +kernel)
    (case xs21 => first | rfl | decide +kernel)
    (case xt21_at => k_is)
    (case xt21_code => k_is)
    (case xa22 => k_is)
    (case xl22 => k_is)
    (case xb22 => kx_is)
    (case xc22 => kx_is)
    (case xd22 => k_is)
    (case xe22 => ks_is)
    (case xg22 => k_is)
    (case xh22 => k_is)
    (case xi22 => k_is)
    (case xj22 => k_is)
    (case xk22 => k_is)
    (case xm22 => k_is)
    (case xn22 => k_is)
    (case xo22 => k_is)
    (case xp22 => k_is)
    (case xq22 => k_is)
    (case xr22 => first | rfl | decide +kernel)
    (case xs22 => first | rfl | decide +kernel)
    (case xt22_at => k_is)
    (case xt22_code => k_is)
    (case xa23 => k_is)
    (case xl23 => k_is)
    (case xb23 => kx_is)
    (case xc23 => kx_is)
    (case xd23 => k_is)
    (case xe23 => ks_is)
    (case xg23 => k_is)
    (case xh23 => k_is)
    (case xi23 => k_is)
    (case xj23 => k_is)
    (case xk23 => k_is)
    (case xm23 => k_is)
    (case xn23 => k_is)
    (case xo23 => k_is)
    (case xp23 => k_is)
    (case xq23 => k_is)
    (case xr23 => first | rfl | decide +kernel)
    (case xs23 => first | rfl | decide +kernel)
    (case xt23_given => k_is)
    (case xt23_code => k_is)
    (case xa40 => k_is)
    (case xl40 => k_is)
    (case xb40 => kx_is)
    (case xc40 => kx_is)
    (case xd40 => k_is)
    (case xe40 => ks_is)
    (case xg40 => k_is)
    (case xh40 => k_is)
    (case xi40 => k_is)
    (case xj40 => k_is)
    (case xk40 => k_is)
    (case xm40 => k_is)
    (case xn40 => k_is)
    (case xo40 => k_is)
    (case xp40 => k_is)
    (case xq40 => k_is)
    (case xr40 => first | rfl | decide +kernel)
    (case xs40 => first | rfl | decide +kernel)
    (case xt40_name => k_is)
    (case xt40_code => k_is)
    (case xa41 => k_is)
    (case xl41 => k_is)
    (case xb41 => kx_is)
    (case xc41 => kx_is)
    (case xd41 => k_is)
    (case xe41 => ks_is)
    (case xg41 => k_is)
    (case xh41 => k_is)
    (case xi41 => k_is)
    (case xj41 => k_is)
    (case xk41 => k_is)
    (case xm41 => k_is)
    (case xn41 => k_is)
    (case xo41 => k_is)
    (case xp41 => k_is)
    (case xq41 => k_is)
    (case xr41 => first | rfl | decide +kernel)
    (case xs41 => first | rfl | decide +kernel)
    (case xt41_name => k_is)
    (case xt41_code => k_is)
    (case xu23_code => k_is)
    (case xu23_given => k_is)
    (case xu21_at => k_is)
    (case xu21_code => k_is)
    (case xu22_at => k_is)
    (case xu22_code => k_is)
    (case xu40_code => k_is)
    (case xu40_name => k_is)
    (case xu41_code => k_is)
    (case xu41_name => k_is)
    (case xu20_code => k_is)
    (case xu20_what => k_is)
    (case xv23 => k_is)
    (case xw23 => k_is)
    (case xv21 => k_is)
    (case xw21 => k_is)
    (case xv22 => k_is)
    (case xw22 => k_is)
    (case xv40 => k_is)
    (case xw40 => k_is)
    (case xv41 => k_is)
    (case xw41 => k_is)
    (case xv20 => k_is)
    (case xw20 => k_is)
    (case xx20_TellError => exact PySem.W.exm_ref (by k_is) (by k_is) (by k_is) (by k_is))
    (case xx20_Missing => exact PySem.W.exm_ref (by k_is) (by k_is) (by k_is) (by k_is))
    (case xx20_NothingLeft => exact PySem.W.exm_ref (by k_is) (by k_is) (by k_is) (by k_is))
    (case xx21_TellError => exact PySem.W.exm_ref (by k_is) (by k_is) (by k_is) (by k_is))
    (case xx21_Missing => exact PySem.W.exm_ref (by k_is) (by k_is) (by k_is) (by k_is))
    (case xx21_NothingLeft => exact PySem.W.exm_ref (by k_is) (by k_is) (by k_is) (by k_is))
    (case xx22_TellError => exact PySem.W.exm_ref (by k_is) (by k_is) (by k_is) (by k_is))
    (case xx22_Missing => exact PySem.W.exm_ref (by k_is) (by k_is) (by k_is) (by k_is))
    (case xx22_NothingLeft => exact PySem.W.exm_ref (by k_is) (by k_is) (by k_is) (by k_is))
    (case xx23_TellError => exact PySem.W.exm_ref (by k_is) (by k_is) (by k_is) (by k_is))
    (case xx23_Missing => exact PySem.W.exm_ref (by k_is) (by k_is) (by k_is) (by k_is))
    (case xx23_NothingLeft => exact PySem.W.exm_ref (by k_is) (by k_is) (by k_is) (by k_is))
    (case xx40_TellError => exact PySem.W.exm_ref (by k_is) (by k_is) (by k_is) (by k_is))
    (case xx40_Missing => exact PySem.W.exm_ref (by k_is) (by k_is) (by k_is) (by k_is))
    (case xx40_NothingLeft => exact PySem.W.exm_ref (by k_is) (by k_is) (by k_is) (by k_is))
    (case xx41_TellError => exact PySem.W.exm_ref (by k_is) (by k_is) (by k_is) (by k_is))
    (case xx41_Missing => exact PySem.W.exm_ref (by k_is) (by k_is) (by k_is) (by k_is))
    (case xx41_NothingLeft => exact PySem.W.exm_ref (by k_is) (by k_is) (by k_is) (by k_is))
    (case lq19 => k_is)
    (case lv19 => first | rfl | decide +kernel)
    (case lr19 => first | rfl | decide +kernel)
    (case ln19 => first | rfl | decide +kernel)
