import PyProof.Rows.All
import Wide.All
import OpenK.AllK
import Wide.FinOn
import HandS.ForMost
import HandS.Lambda
import HandS.IsInst
import HandS.TupAny
import PyProof.Draws
import PyProof.EnumFor
import PyProof.TupleIter
import HandS.Zip
import PyProof.P3Eq
import HandS.Defaults
import HandS.MakeKwOnly
import HandS.ClsMeth
import HandS.Property
import HandS.OwnEq
import HandS.Strs
import HandS.Star
import HandS.Style
import HandS.FStr
import HandS.RaiseMore
import HandS.Codes
import HandS.SetFor
import KE.KExcSuper
import HandS.Base
import HandS.Call
import HandS.Exc
import HandS.ExcInit
import HandS.ExcOwn
import HandS.HotCalls
import KE.KTryMore
import HandS.EndTab
import PyProof.ListMulRoad
import PyProof.Rows.SeqMore
import PyProof.InstNe
import KE.KEqNest
import PyProof.NeKinds
import PyProof.ZipIter
import KE.KDflt
import KE.KIndexOf
import HandS.NoneIn
import KE.SortData
import KE.SortLaws
import HandS.Dict
import HandS.RaiseFrom
import HandS.SuiteRaise
import HandS.ExcValue
import KE.KExcLine
import KE.KNestM
import HandS.ExcIs
import PySem.Challenge.RW_lastheard_k69_errors_made_by_name
set_option Elab.async false
set_option linter.all false
set_option autoImplicit false
set_option maxRecDepth 100000
namespace DL
open PySem L2

inductive D where
  | non | bl (b : Bool) | int (i : Int) | str (s : Str)
  | tup (l : List D) | lst (l : List D)
  | ins (c : Nat) (ns : List Str) (l : List D)
  | obj (n : Nat)
  | exn (c : Nat) (ns : List Str) (l : List D)
  | cls (c : Nat)
inductive L where
  | val (d : D) | own (l : List D) | oins (c : Nat) (ns : List Str) (l : List D)
def L.owns : L → Bool
  | .val _ => false
  | _ => true
inductive O where
  | lst (l : List D)
  | ins (c : Nat) (ns : List Str) (l : List D)
  | tbl (q : Str)

structure Gh where
  ads : List Addr
  M : Addr → Prop
/-- the written part; the classes; the tables of the lambdas' code objects; the exception that is handled -/
structure Ct where
  K : PySem.W.Frag
  cl : Nat → Addr
  tb : Str → Addr := fun _ => 0
  xp : Option (Addr × Obj) := none
/-- an exception of the class at Ca that is a value: at a, its dict at d -/
def ExV (Ca a d : Addr) : HO := .ext fun h => ∃ (oe : Obj) (vs : Array Value), h.get? a = some oe ∧ Zc (.ref Ca) (some d) oe ∧ oe.data = .fields vs
/-- an exception's dict -/
def Xd (G : Gh) (H : Hp) (x : Addr) (fs : List (Str × V)) : Prop := H x = some (.xd fs) ∧ ¬ G.M x

abbrev H0 : Hp := fun _ => none
def LAt (C : Ct) (G : Gh) (H : Hp) (a : Addr) (vs : List V) : Prop := (Rd H a (.lst vs) ∧ ¬ G.M a) ∨ SqL C.K H0 a vs
def TAt (C : Ct) (G : Gh) (H : Hp) (a : Addr) (vs : List V) : Prop := (Rd H a (.tup vs) ∧ ¬ G.M a) ∨ SqT C.K H0 a vs
theorem noRd {a : Addr} {u : HO} (h : Rd H0 a u) : False := by
  rcases h with h | ⟨_, h⟩ <;> cases h
theorem LAt.sq {C : Ct} {G : Gh} {H : Hp} {a : Addr} {vs : List V} (h : LAt C G H a vs) : SqL C.K H a vs := by
  rcases h with ⟨h, _⟩ | h | h
  · exact .inl h
  · exact (noRd h).elim
  · exact .inr h
theorem TAt.sq {C : Ct} {G : Gh} {H : Hp} {a : Addr} {vs : List V} (h : TAt C G H a vs) : SqT C.K H a vs := by
  rcases h with ⟨h, _⟩ | h | h
  · exact .inl h
  · exact (noRd h).elim
  · exact .inr h

mutual
inductive Rp (C : Ct) (G : Gh) (H : Hp) : D → V → Prop
  | non : Rp C G H .non .non
  | bl (b : Bool) : Rp C G H (.bl b) (.bl b)
  | int (i : Int) : Rp C G H (.int i) (.int i)
  | str (x : Str) : PySem.PyData.strOk x = true → Rp C G H (.str x) (.str x)
  | lst {a : Addr} {vs : List V} {l : List D} : LAt C G H a vs → l.length ≤ sizeLine → Rps C G H l vs → Rp C G H (.lst l) (.ref a)
  | tup {a : Addr} {vs : List V} {l : List D} : TAt C G H a vs → l.length ≤ sizeLine → Rps C G H l vs → Rp C G H (.tup l) (.ref a)
  | ins {a dx : Addr} {c : Nat} {ns : List Str} {vs : List V} {l : List D} : H a = some (.ins (C.cl c) dx (ns.zip vs)) → ¬ G.M a → ns.length = vs.length → Rps C G H l vs → Rp C G H (.ins c ns l) (.ref a)
  | obj {n : Nat} {a : Addr} : G.ads[n]? = some a → Rp C G H (.obj n) (.ref a)
  | exn {a d : Addr} {oe : Obj} {c : Nat} {ns : List Str} {vs : List V} {l : List D} : C.xp = some (a, oe) → Zc (.ref (C.cl c)) (some d) oe → Xd G H d (ns.zip vs) → Rps C G H l vs → Rp C G H (.exn c ns l) (.ref a)
  | exv {a d : Addr} {c : Nat} {ns : List Str} {vs : List V} {l : List D} : H a = some (ExV (C.cl c) a d) ∧ ¬ G.M a → Xd G H d (ns.zip vs) → Rps C G H l vs → Rp C G H (.exn c ns l) (.ref a)
  | cls (c : Nat) : Rp C G H (.cls c) (.ref (C.cl c))
inductive Rps (C : Ct) (G : Gh) (H : Hp) : List D → List V → Prop
  | nil : Rps C G H [] []
  | cons {d : D} {v : V} {l : List D} {vs : List V} : Rp C G H d v → Rps C G H l vs → Rps C G H (d :: l) (v :: vs)
end

structure Stab (G : Gh) (H : Hp) (G' : Gh) (H' : Hp) : Prop where
  ads : ∀ (n : Nat) (a : Addr), G.ads[n]? = some a → G'.ads[n]? = some a
  keep : ∀ a o, H a = some o → ¬ G.M a → H' a = some o ∧ ¬ G'.M a

section
variable {C : Ct} {G G' G2 : Gh} {H H' H2 : Hp}
theorem Stab.rd (s : Stab G H G' H') {a : Addr} {u : HO} (h : Rd H a u ∧ ¬ G.M a) : Rd H' a u ∧ ¬ G'.M a := by
  obtain ⟨h | ⟨o, h⟩, m⟩ := h
  · exact ⟨.inl (s.keep _ _ h m).1, (s.keep _ _ h m).2⟩
  · exact ⟨.inr ⟨o, (s.keep _ _ h m).1⟩, (s.keep _ _ h m).2⟩
theorem LAt.stab {a : Addr} {vs : List V} (h : LAt C G H a vs) (s : Stab G H G' H') : LAt C G' H' a vs := h.elim (fun h => .inl (s.rd h)) .inr
theorem TAt.stab {a : Addr} {vs : List V} (h : TAt C G H a vs) (s : Stab G H G' H') : TAt C G' H' a vs := h.elim (fun h => .inl (s.rd h)) .inr
mutual
theorem Rp.stab (s : Stab G H G' H') : ∀ {d : D} {v : V}, Rp C G H d v → Rp C G' H' d v
  | _, _, .non => .non
  | _, _, .bl b => .bl b
  | _, _, .int i => .int i
  | _, _, .str x h => .str x h
  | _, _, .lst h z r => .lst (h.stab s) z (Rps.stab s r)
  | _, _, .tup h z r => .tup (h.stab s) z (Rps.stab s r)
  | _, _, .ins h m e r => .ins (s.keep _ _ h m).1 (s.keep _ _ h m).2 e (Rps.stab s r)
  | _, _, .obj h => .obj (s.ads _ _ h)
  | _, _, .exn e z h r => .exn e z (s.keep _ _ h.1 h.2) (Rps.stab s r)
  | _, _, .exv e h r => .exv (s.keep _ _ e.1 e.2) (s.keep _ _ h.1 h.2) (Rps.stab s r)
  | _, _, .cls c => .cls c
theorem Rps.stab (s : Stab G H G' H') : ∀ {l : List D} {vs : List V}, Rps C G H l vs → Rps C G' H' l vs
  | _, _, .nil => .nil
  | _, _, .cons r q => .cons (Rp.stab s r) (Rps.stab s q)
end
theorem Rps.length : ∀ {l : List D} {vs : List V}, Rps C G H l vs → l.length = vs.length
  | _, _, .nil => rfl
  | _, _, .cons _ q => by rw [List.length_cons, List.length_cons, q.length]
theorem Rps.get : ∀ {l : List D} {vs : List V} {i : Nat} {d : D}, Rps C G H l vs → l[i]? = some d → ∃ v, vs[i]? = some v ∧ Rp C G H d v
  | _, _, _, _, .nil, h => by simp at h
  | _, _, 0, _, .cons r _, h => by simp at h; subst h; exact ⟨_, rfl, r⟩
  | _, _, i + 1, _, .cons _ q, h => by
    obtain ⟨v, h1, h2⟩ := q.get (i := i) (by simpa using h)
    exact ⟨v, by simpa using h1, h2⟩
theorem Rps.append : ∀ {l m : List D} {vs ws : List V}, Rps C G H l vs → Rps C G H m ws → Rps C G H (l ++ m) (vs ++ ws)
  | _, _, _, _, .nil, h => h
  | _, _, _, _, .cons r q, h => .cons r (q.append h)
theorem Rps.set {d : D} {v : V} (h : Rp C G H d v) : ∀ {l : List D} {vs : List V} (i : Nat), Rps C G H l vs → Rps C G H (l.set i d) (vs.set i v)
  | _, _, _, .nil => .nil
  | _, _, 0, .cons _ q => .cons h q
  | _, _, i + 1, .cons r q => .cons r (Rps.set h i q)
theorem Rps.take : ∀ {l : List D} {vs : List V} (n : Nat), Rps C G H l vs → Rps C G H (l.take n) (vs.take n)
  | _, _, 0, _ => .nil
  | _, _, _ + 1, .nil => .nil
  | _, _, n + 1, .cons r q => .cons r (q.take n)
theorem Rps.drop : ∀ {l : List D} {vs : List V} (n : Nat), Rps C G H l vs → Rps C G H (l.drop n) (vs.drop n)
  | _, _, 0, r => r
  | _, _, _ + 1, .nil => .nil
  | _, _, n + 1, .cons _ q => q.drop n
/-- an object's state -/
inductive Ro (C : Ct) (G : Gh) (H : Hp) : O → Addr → Prop
  | lst {a : Addr} {vs : List V} {l : List D} : H a = some (.lst vs) → l.length ≤ sizeLine → Rps C G H l vs → Ro C G H (.lst l) a
  | ins {a dx : Addr} {c : Nat} {ns : List Str} {vs : List V} {l : List D} : H a = some (.ins (C.cl c) dx (ns.zip vs)) → ns.length = vs.length → Rps C G H l vs → Ro C G H (.ins c ns l) a
  | tbl {a : Addr} {q : Str} {ps : Array Value} : C.tb q = a → H a = some (.tbl ps) → TriplesOk ps.toList → (∀ (pos : Pos) (cv : Value), codeAmong pos ps.toList = some cv → ∃ c, cv = .ref c ∧ H c = some (LamX.CodeO c q) ∧ ¬ G.M c) → Ro C G H (.tbl q) a
/-- a slot's -/
inductive Rl (C : Ct) (G : Gh) (H : Hp) : L → V → Prop
  | val {d : D} {v : V} : Rp C G H d v → Rl C G H (.val d) v
  | own {a : Addr} {vs : List V} {l : List D} : G.M a → H a = some (.lst vs) → l.length ≤ sizeLine → Rps C G H l vs → Rl C G H (.own l) (.ref a)
  | oins {a dx : Addr} {c : Nat} {ns : List Str} {vs : List V} {l : List D} : G.M a → H a = some (.ins (C.cl c) dx (ns.zip vs)) → ns.length = vs.length → Rps C G H l vs → Rl C G H (.oins c ns l) (.ref a)
structure Rh (C : Ct) (G : Gh) (H : Hp) (η : List O) : Prop where
  len : G.ads.length = η.length
  nd : G.ads.Nodup
  ob : ∀ (n : Nat) (o : O) (a : Addr), η[n]? = some o → G.ads[n]? = some a → G.M a ∧ Ro C G H o a
  mh : ∀ a, G.M a → H a ≠ none

abbrev En := List (Option L)
structure At (C : Ct) (G : Gh) (H : Hp) (δ : En) (σ : St) (η : List O) : Prop where
  len : δ.length = σ.length
  sl : ∀ (i : Nat) (l : L), δ[i]? = some (some l) → ∃ v, σ[i]? = some (some v) ∧ Rl C G H l v
  un : ∀ (i j : Nat) (l l' : L) (v : V), i ≠ j → δ[i]? = some (some l) → δ[j]? = some (some l') → l.owns = true → l'.owns = true → σ[i]? = some (some v) → σ[j]? = some (some v) → False
  nad : ∀ (i : Nat) (l : L) (a : Addr), δ[i]? = some (some l) → l.owns = true → σ[i]? = some (some (.ref a)) → a ∉ G.ads
  he : Rh C G H η

structure Nx (G : Gh) (H : Hp) (G' : Gh) (H' : Hp) : Prop where
  ads : ∀ (n : Nat) (a : Addr), G.ads[n]? = some a → G'.ads[n]? = some a
  keep : ∀ a o, H a = some o → a ∉ G.ads → H' a = some o
  mu : ∀ a o, H a = some o → (G'.M a ↔ G.M a)
  new : ∀ a, a ∈ G'.ads → a ∈ G.ads ∨ H a = none
  there : ∀ a, H' a = none → H a = none

theorem Rh.adsM {η : List O} (h : Rh C G H η) {a : Addr} (ha : a ∈ G.ads) : G.M a := by
  obtain ⟨n, hn⟩ := List.mem_iff_getElem?.mp ha
  obtain ⟨h1, _⟩ := List.getElem?_eq_some_iff.mp hn
  have h2 : n < η.length := by rw [← h.len]; exact h1
  exact (h.ob n η[n] a (by simp [h2]) hn).1
theorem Nx.refl : Nx G H G H := ⟨fun _ _ h => h, fun _ _ h _ => h, fun _ _ _ => Iff.rfl, fun _ h => .inl h, fun _ h => h⟩
theorem Nx.trans (x : Nx G H G' H') (y : Nx G' H' G2 H2) : Nx G H G2 H2 := by
  refine ⟨fun n a h => y.ads n a (x.ads n a h), fun a o h m => ?_, fun a o h => ?_, fun a h => ?_, fun a h => x.there a (y.there a h)⟩
  · refine y.keep a o (x.keep a o h m) fun h' => ?_
    rcases x.new a h' with z | z
    · exact m z
    · rw [h] at z; cases z
  · cases q : H' a with
    | none => rw [x.there a q] at h; cases h
    | some o' => exact (y.mu a o' q).trans (x.mu a o h)
  · rcases y.new a h with z | z
    · exact x.new a z
    · exact .inr (x.there a z)
theorem Nx.stab {η : List O} (x : Nx G H G' H') (h : Rh C G H η) : Stab G H G' H' :=
  ⟨x.ads, fun a o ha m => ⟨x.keep a o ha fun z => m (h.adsM z), fun z => m ((x.mu a o ha).mp z)⟩⟩

/-- behind a step: the slots stand -/
theorem At.next {δ : En} {σ : St} {η η' : List O} (a : At C G H δ σ η) (x : Nx G H G' H') (h : Rh C G' H' η') : At C G' H' δ σ η' := by
  have st := x.stab a.he
  have kp : ∀ {i : Nat} {l : L} {b : Addr}, δ[i]? = some (some l) → l.owns = true → σ[i]? = some (some (V.ref b)) → ∀ o, H b = some o → H' b = some o := fun h1 h2 h3 o h4 => x.keep _ o h4 (a.nad _ _ _ h1 h2 h3)
  refine ⟨a.len, fun i l hl => ?_, a.un, fun i l b h1 h2 h3 => ?_, h⟩
  · obtain ⟨v, h1, h2⟩ := a.sl i l hl
    refine ⟨v, h1, ?_⟩
    cases h2 with
    | val r => exact .val (r.stab st)
    | own m e z r => exact .own ((x.mu _ _ e).mpr m) (kp hl rfl h1 _ e) z (r.stab st)
    | oins m e n r => exact .oins ((x.mu _ _ e).mpr m) (kp hl rfl h1 _ e) n (r.stab st)
  · intro z
    have q := a.nad i l b h1 h2 h3
    rcases x.new b z with w | w
    · exact q w
    · obtain ⟨v, e1, e2⟩ := a.sl i l h1
      rw [h3] at e1
      cases e1
      cases e2 with
      | val r => cases h2
      | own m e z r => rw [w] at e; cases e
      | oins m e n r => rw [w] at e; cases e
end

/-! ### results -/
inductive R (α : Type) where
  | ok (a : α) (η : List O)
  | exc (c : Nat) (ns : List Str) (l : List D) (η : List O)
  | bad
def R.bind {α β : Type} (r : R α) (k : α → List O → R β) : R β := match r with
  | .ok a η => k a η
  | .exc c ns l η => .exc c ns l η
  | .bad => .bad
abbrev F (α : Type) := En → List O → R α

def FinR {α β : Type} (C : Ct) (Rel : Gh → Hp → α → β → Prop) (E : XK) (G : Gh) (H : Hp) (r : R α) (Q : β → Hp → Prop) : Prop := match r with
  | .ok d η' => ∀ v G' H', Nx G H G' H' → Rh C G' H' η' → Rel G' H' d v → Q v H'
  | .exc c ns l η' => ∀ x vs G' H', Nx G H G' H' → Rh C G' H' η' → Xd G' H' x (ns.zip vs) → Rps C G' H' l vs → E (.ref (C.cl c)) (some x) H'
  | .bad => False
/-- the reading of a function of the data -/
def tG {α β : Type} (C : Ct) (Rel : Gh → Hp → α → β → Prop) (W : Value → Option Addr → St → Hp → Prop) (f : F α) : St → Hp → (β → Hp → Prop) → Prop := fun σ H Q =>
  ∃ G δ η, At C G H δ σ η ∧ FinR C Rel (fun c d H' => W c d σ H') G H (f δ η) Q

section
variable {α β γ κ : Type} {C : Ct} {G G' : Gh} {H H' : Hp} {δ : En} {σ : St} {η η' : List O} {E : XK} {W : Value → Option Addr → St → Hp → Prop}
variable {Rel : Gh → Hp → α → β → Prop} {Rel2 : Gh → Hp → γ → κ → Prop} {Q : β → Hp → Prop} {Q2 : κ → Hp → Prop}
theorem FinR.next {r : R α} (h : FinR C Rel E G H r Q) (x : Nx G H G' H') : FinR C Rel E G' H' r Q := by
  cases r with
  | ok d η' => exact fun v G2 H2 y q1 q2 => h v G2 H2 (x.trans y) q1 q2
  | exc c ns l η' => exact fun a vs G2 H2 y q1 q2 q3 => h a vs G2 H2 (x.trans y) q1 q2 q3
  | bad => exact h
theorem tG.bind {f : F α} {k : α → List O → R γ} (a : At C G H δ σ η) (fin : FinR C Rel2 (fun c d H' => W c d σ H') G H ((f δ η).bind k) Q2)
    (h : ∀ x v G1 H1 η1, At C G1 H1 δ σ η1 → Nx G H G1 H1 → Rel G1 H1 x v → FinR C Rel2 (fun c d H' => W c d σ H') G1 H1 (k x η1) Q2 → Q v H1) : tG C Rel W f σ H Q := by
  refine ⟨G, δ, η, a, ?_⟩
  cases hf : f δ η with
  | ok d η1 =>
    rw [hf] at fin
    have fin' : FinR C Rel2 (fun c d H' => W c d σ H') G H (k d η1) Q2 := fin
    exact fun v G1 H1 x q1 q2 => h d v G1 H1 η1 (a.next x q1) x q2 (fin'.next x)
  | exc c ns l η1 =>
    rw [hf] at fin
    exact fun b vs G1 H1 x q1 q2 q3 => fin b vs G1 H1 x q1 q2 q3
  | bad =>
    rw [hf] at fin
    exact fin
end
end DL
namespace DL
open PySem L2

/-! ### borrowed values -/
/-- stable: a list of the frame's own; loose: any list that stands now -/
def Rpb (C : Ct) (G : Gh) (H : Hp) (d : D) (v : V) : Prop := Rp C G H d v ∨ ∃ a vs l, d = .lst l ∧ v = .ref a ∧ H a = some (.lst vs) ∧ (Rps C G H l vs ∧ l.length ≤ sizeLine) ∧ a ∉ G.ads
def Rpu (C : Ct) (G : Gh) (H : Hp) (d : D) (v : V) : Prop := Rp C G H d v ∨ ∃ a vs l, d = .lst l ∧ v = .ref a ∧ H a = some (.lst vs) ∧ (Rps C G H l vs ∧ l.length ≤ sizeLine)
def RB (G : Gh) (H : Hp) (b c : Bool) : Prop := b = c
section
variable {C : Ct} {G G' G2 : Gh} {H H' H2 : Hp} {d : D} {v : V} {η : List O}
theorem Rp.b (h : Rp C G H d v) : Rpb C G H d v := .inl h
theorem Rpb.u (h : Rpb C G H d v) : Rpu C G H d v := h.elim .inl fun ⟨a, vs, l, h1, h2, h3, h4, _⟩ => .inr ⟨a, vs, l, h1, h2, h3, h4⟩
theorem Rpb.next (h : Rpb C G H d v) (x : Nx G H G' H') (r : Rh C G H η) : Rpb C G' H' d v := by
  rcases h with h | ⟨a, vs, l, h1, h2, h3, h4, h5⟩
  · exact .inl (h.stab (x.stab r))
  · refine .inr ⟨a, vs, l, h1, h2, x.keep _ _ h3 h5, ⟨h4.1.stab (x.stab r), h4.2⟩, fun z => ?_⟩
    rcases x.new a z with w | w
    · exact h5 w
    · rw [h3] at w; cases w
/-- a list that is read -/
theorem Rpu.lst {l : List D} (h : Rpu C G H (.lst l) v) : ∃ a vs, v = .ref a ∧ SqL C.K H a vs ∧ Rps C G H l vs := by
  rcases h with h | ⟨a, vs, l', h1, h2, h3, h4, _⟩
  · cases h with
    | lst h1 _ h2 => exact ⟨_, _, rfl, h1.sq, h2⟩
  · cases h1
    exact ⟨a, vs, h2, SqL.of h3, h4⟩
theorem Rpu.lstZ {l : List D} (h : Rpu C G H (.lst l) v) : l.length ≤ sizeLine := by
  rcases h with h | ⟨a, vs, l', h1, h2, h3, h4, z⟩
  · cases h with
    | lst _ z _ => exact z
  · cases h1
    exact z
theorem Rpu.tupZ {l : List D} (h : Rpu C G H (.tup l) v) : l.length ≤ sizeLine := by
  rcases h with h | ⟨a, vs, l', h1, h2, h3, h4, z⟩
  · cases h with
    | tup _ z _ => exact z
  · cases h1
theorem Rpu.tup {l : List D} (h : Rpu C G H (.tup l) v) : ∃ a vs, v = .ref a ∧ SqT C.K H a vs ∧ Rps C G H l vs := by
  rcases h with h | ⟨a, vs, l', h1, h2, h3, h4⟩
  · cases h with
    | tup h1 _ h2 => exact ⟨_, _, rfl, h1.sq, h2⟩
  · cases h1
theorem Rpu.int {i : Int} (h : Rpu C G H (.int i) v) : v = .int i := by
  rcases h with h | ⟨a, vs, l', h1, _⟩
  · cases h; rfl
  · cases h1
theorem Rpu.str {i : Str} (h : Rpu C G H (.str i) v) : v = .str i := by
  rcases h with h | ⟨a, vs, l', h1, _⟩
  · cases h; rfl
  · cases h1
theorem Rpu.strOk {i : Str} (h : Rpu C G H (.str i) v) : PySem.PyData.strOk i = true := by
  rcases h with h | ⟨a, vs, l', h1, _⟩
  · cases h with
    | str _ h => exact h
  · cases h1
theorem Rpu.bl {i : Bool} (h : Rpu C G H (.bl i) v) : v = .bl i := by
  rcases h with h | ⟨a, vs, l', h1, _⟩
  · cases h; rfl
  · cases h1
theorem Rpu.non (h : Rpu C G H .non v) : v = .non := by
  rcases h with h | ⟨a, vs, l', h1, _⟩
  · cases h; rfl
  · cases h1
theorem Rpu.obj {n : Nat} (h : Rpu C G H (.obj n) v) : ∃ a, v = .ref a ∧ G.ads[n]? = some a := by
  rcases h with h | ⟨a, vs, l', h1, _⟩
  · cases h with
    | obj h => exact ⟨_, rfl, h⟩
  · cases h1

/-! ### a new object that will not change -/
theorem Nx.alloc {p : Addr} {o : HO} (hp : H p = none) : Nx G H G (upd H p o) := by
  refine ⟨fun _ _ h => h, fun a u h _ => ?_, fun _ _ _ => Iff.rfl, fun _ h => .inl h, fun a h => ?_⟩
  · rw [upd_ne (ne_of_none h hp)]; exact h
  · by_cases e : a = p
    · subst e; exact hp
    · rw [upd_ne e] at h; exact h
theorem Ro.stab {o : O} {a : Addr} (s : Stab G H G' H') (k : ∀ u, H a = some u → H' a = some u) (r : Ro C G H o a) : Ro C G' H' o a := by
  cases r with
  | lst h z r => exact .lst (k _ h) z (r.stab s)
  | ins h e r => exact .ins (k _ h) e (r.stab s)
  | tbl e h t c => exact .tbl e (k _ h) t fun pos cv hc => (c pos cv hc).elim fun b z => ⟨b, z.1, (s.keep _ _ z.2.1 z.2.2).1, (s.keep _ _ z.2.1 z.2.2).2⟩
theorem Ro.at {o : O} {a : Addr} (r : Ro C G H o a) : H a ≠ none := by
  cases r with
  | lst h z r => rw [h]; exact fun z => by cases z
  | ins h e r => rw [h]; exact fun z => by cases z
  | tbl e h t c => rw [h]; exact fun z => by cases z
theorem Rh.alloc {p : Addr} {o : HO} (r : Rh C G H η) (hp : H p = none) : Rh C G (upd H p o) η := by
  have x : Nx G H G (upd H p o) := Nx.alloc hp
  refine ⟨r.len, r.nd, fun n o' a h1 h2 => ?_, fun a m => ?_⟩
  · obtain ⟨m, q⟩ := r.ob n o' a h1 h2
    refine ⟨m, q.stab (x.stab r) fun u hu => ?_⟩
    rw [upd_ne (ne_of_none hu hp)]; exact hu
  · exact fun z => r.mh a m (x.there a z)
theorem Rh.fresh {p : Addr} (r : Rh C G H η) (hp : H p = none) : ¬ G.M p := fun m => r.mh p m hp
end

/-! ### lifting -/
def lift {α : Type} (o : Option α) (η : List O) : R α := match o with
  | some a => .ok a η
  | none => .bad
@[simp] theorem lift_some {α : Type} {a : α} {η : List O} : lift (some a) η = .ok a η := rfl
@[simp] theorem bind_ok {α β : Type} {a : α} {η : List O} {k : α → List O → R β} : (R.ok a η).bind k = k a η := rfl
@[simp] theorem bind_exc {α β : Type} {c : Nat} {ns : List Str} {l : List D} {η : List O} {k : α → List O → R β} : (R.exc c ns l η : R α).bind k = .exc c ns l η := rfl
abbrev WX0 : Value → Option Addr → St → Hp → Prop := fun _ _ _ _ => False
section
variable {X : Cx} {C : Ct} {W : Value → Option Addr → St → Hp → Prop}
abbrev FE (C : Ct) (W : Value → Option Addr → St → Hp → Prop) (X : Cx) (e : Expr) (f : F D) : Prop := PE X e (tG C (Rp C) W f)
abbrev FB (C : Ct) (W : Value → Option Addr → St → Hp → Prop) (X : Cx) (e : Expr) (f : F D) : Prop := PE X e (tG C (Rpb C) W f)
abbrev FU (C : Ct) (W : Value → Option Addr → St → Hp → Prop) (X : Cx) (e : Expr) (f : F D) : Prop := PE X e (tG C (Rpu C) W f)
abbrev FT (C : Ct) (W : Value → Option Addr → St → Hp → Prop) (X : Cx) (e : Expr) (f : F Bool) : Prop := PT X e (tG C RB W f)
abbrev FA (C : Ct) (W : Value → Option Addr → St → Hp → Prop) (X : Cx) (es : List Expr) (f : F (List D)) : Prop := PA X es (tG C (Rps C) W f)

theorem PE.imp {X : Cx} {e : Expr} {t t' : TE} (h : PE X e t) (i : ∀ σ H Q, t' σ H Q → t σ H Q) : PE X e t' := ⟨fun pins s σ H Q I q => h.run pins s σ H Q I (i _ _ _ q)⟩
theorem PT.imp {X : Cx} {e : Expr} {t t' : TT} (h : PT X e t) (i : ∀ σ H Q, t' σ H Q → t σ H Q) : PT X e t' := ⟨fun pins s σ H Q I q => h.run pins s σ H Q I (i _ _ _ q)⟩
theorem PA.imp {X : Cx} {e : List Expr} {t t' : TA} (h : PA X e t) (i : ∀ σ H Q, t' σ H Q → t σ H Q) : PA X e t' := ⟨fun pos pins s σ H Q I q => h.run pos pins s σ H Q I (i _ _ _ q)⟩
theorem PS.imp {X : Cx} {e : Stmt} {t t' : TS} (h : PS X e t) (i : ∀ D σ H, t' D σ H → t D σ H) : PS X e t' := ⟨fun pins s σ H Q I q => h.run pins s σ H Q I (i _ _ _ q)⟩
theorem PSs.imp {X : Cx} {e : List Stmt} {t t' : TS} (h : PSs X e t) (i : ∀ D σ H, t' D σ H → t D σ H) : PSs X e t' := ⟨fun pins s σ H Q I q => h.run pins s σ H Q I (i _ _ _ q)⟩

theorem tG.rel {α β : Type} {Rel Rel' : Gh → Hp → α → β → Prop} {f : F α} (h : ∀ G H d v, Rel G H d v → Rel' G H d v) {σ : St} {H : Hp} {Q : β → Hp → Prop} (q : tG C Rel' W f σ H Q) : tG C Rel W f σ H Q := by
  obtain ⟨G, δ, η, a, fin⟩ := q
  refine ⟨G, δ, η, a, ?_⟩
  cases hf : f δ η with
  | ok d η1 => rw [hf] at fin; exact fun v G1 H1 x q1 q2 => fin v G1 H1 x q1 (h _ _ _ _ q2)
  | exc c ns l η1 => rw [hf] at fin; exact fin
  | bad => rw [hf] at fin; exact fin
theorem fe_b {e : Expr} {f : F D} (h : FE C W X e f) : FB C W X e f := PE.imp h fun _ _ _ q => tG.rel (fun _ _ _ _ z => Rp.b z) q
theorem fb_u {e : Expr} {f : F D} (h : FB C W X e f) : FU C W X e f := PE.imp h fun _ _ _ q => tG.rel (fun _ _ _ _ z => Rpb.u z) q
theorem fe_u {e : Expr} {f : F D} (h : FE C W X e f) : FU C W X e f := fb_u (fe_b h)

/-! ### names, constants -/
def fV (i : Nat) : F D := fun δ η => match δ[i]? with
  | some (some (.val d)) => .ok d η
  | _ => .bad
theorem fe_v (i : Nat) {x : Str} {pos : Pos} (hN : X.N[i]? = some x := by rfl) (hv : Vis X.env.scope x := by first | exact Or.inl rfl | exact Or.inr (Or.inl rfl) | exact Or.inr (Or.inr rfl)) (hd : (x == ("__debug__" : Str)) = false := by decide)
    (hcd : (x == ("__classdict__" : Str)) = false := by decide) : FE C W X (.Name x pos) (fV i) := by
  refine PE.imp (pe_var hN hv hd hcd) fun σ H Q ⟨G, δ, η, a, fin⟩ => ?_
  unfold fV at fin
  split at fin
  · rename_i d h
    obtain ⟨v, h1, h2⟩ := a.sl i _ h
    cases h2 with
    | val r => exact ⟨v, h1, fin v G H Nx.refl a.he r⟩
  · exact fin.elim
/-- a list of the frame's own is read -/
def fVo (i : Nat) : F D := fun δ η => match δ[i]? with
  | some (some (.own l)) => .ok (.lst l) η
  | _ => .bad
theorem fb_v (i : Nat) {x : Str} {pos : Pos} (hN : X.N[i]? = some x := by rfl) (hv : Vis X.env.scope x := by first | exact Or.inl rfl | exact Or.inr (Or.inl rfl) | exact Or.inr (Or.inr rfl)) (hd : (x == ("__debug__" : Str)) = false := by decide)
    (hcd : (x == ("__classdict__" : Str)) = false := by decide) : FB C W X (.Name x pos) (fVo i) := by
  refine PE.imp (pe_var hN hv hd hcd) fun σ H Q ⟨G, δ, η, a, fin⟩ => ?_
  unfold fVo at fin
  split at fin
  · rename_i l h
    obtain ⟨v, h1, h2⟩ := a.sl i _ h
    cases h2 with
    | own m e z r => exact ⟨_, h1, fin _ G H Nx.refl a.he (.inr ⟨_, _, _, rfl, rfl, e, ⟨r, z⟩, a.nad i _ _ h rfl h1⟩)⟩
  · exact fin.elim
def fC (d : D) : F D := fun _ η => .ok d η
theorem fe_c {e : Expr} {d : D} {v : V} (h : PE X e (tC v)) (r : ∀ G H, Rp C G H d v) : FE C W X e (fC d) :=
  PE.imp h fun σ H Q ⟨G, δ, η, a, fin⟩ => fin v G H Nx.refl a.he (r G H)
theorem fe_int {i : Int} {j pos} : FE C W X (.Constant (.int i) j pos) (fC (.int i)) := fe_c pe_int fun _ _ => .int i
theorem fe_bl {b : Bool} {j pos} : FE C W X (.Constant (.bool b) j pos) (fC (.bl b)) := fe_c pe_bl fun _ _ => .bl b
theorem fe_non {j pos} : FE C W X (.Constant .none j pos) (fC .non) := fe_c pe_non fun _ _ => .non
theorem fe_str {x : Str} {j pos} (h : PySem.PyData.strOk x = true := by decide +kernel) : FE C W X (.Constant (.str x) j pos) (fC (.str x)) := fe_c pe_str fun _ _ => .str x h
/-! ### two-place operations -/
/-- what follows a value that an operation has made -/
def Gives (C : Ct) (G : Gh) (H : Hp) (η : List O) (o : Option D) (Q : VK) : Prop := match o with
  | some r => ∀ z G' H', Nx G H G' H' → Rh C G' H' η → Rp C G' H' r z → Q z H'
  | none => False
def rD (C : Ct) (g : D → D → Option D) : R2 := fun x y H Q => ∃ G η d e, Rh C G H η ∧ Rpu C G H d x ∧ Rpu C G H e y ∧ Gives C G H η (g d e) Q
def fOp (g : D → D → Option D) (fa fb : F D) : F D := fun δ η => (fa δ η).bind fun d η => (fb δ η).bind fun e η => lift (g d e) η
theorem FinR.gives {G : Gh} {H : Hp} {η : List O} {o : Option D} {E : XK} {Q : VK} (r : Rh C G H η) (h : FinR C (Rp C) E G H (lift o η) Q) : Gives C G H η o Q := by
  cases o with
  | none => exact h
  | some d => exact fun z G' H' x q1 q2 => h z G' H' x q1 q2
theorem tOp_of {g : D → D → Option D} {fa fb : F D} {σ : St} {H : Hp} {Q : VK} (h : tG C (Rp C) W (fOp g fa fb) σ H Q) : tOp (rD C g) (tG C (Rpb C) W fa) (tG C (Rpu C) W fb) σ H Q := by
  obtain ⟨G, δ, η, a, fin⟩ := h
  refine tG.bind (Rel2 := Rp C) a fin fun d v G1 H1 η1 a1 x1 r1 fin1 => ?_
  refine tG.bind (Rel2 := Rp C) a1 fin1 fun e w G2 H2 η2 a2 x2 r2 fin2 => ?_
  exact ⟨G2, η2, d, e, a2.he, (r1.next x2 a1.he).u, r2, fin2.gives a2.he⟩
variable {a b c : Expr} {fa fb fc : F D} {pos : Pos} {g g' : D → D → Option D}
theorem fe_op {op : Operator} (ho : OpR X (binaryOp op) (rD C g)) (ha : FB C W X a fa) (hb : FU C W X b fb) : FE C W X (.BinOp a op b pos) (fOp g fa fb) := PE.imp (pe_op ho ha hb) fun _ _ _ q => tOp_of q
theorem fe_cmp {op : CmpOp} (ho : OpR X (compareOp op) (rD C g)) (ha : FB C W X a fa) (hb : FU C W X b fb) (hm : behindInMarks op b = false) : FE C W X (.Compare a [op] [b] pos) (fOp g fa fb) := PE.imp (pe_cmpR ho ha hb hm) fun _ _ _ q => tOp_of q

/-- a test by a value: True or False -/
def toB (f : F D) : F Bool := fun δ η => (f δ η).bind fun d η => match d with
  | .bl b => .ok b η
  | _ => .bad
theorem tTest_of {f : F D} {t : TE} (h : ∀ σ H Q, tG C (Rp C) W f σ H Q → t σ H Q) (mono : True) {σ : St} {H : Hp} {Q : Bool → Hp → Prop} (q : tG C RB W (toB f) σ H Q) : tTest t σ H Q := by
  obtain ⟨G, δ, η, a, fin⟩ := q
  refine h _ _ _ (tG.bind (Rel2 := RB) a fin fun d v G1 H1 η1 a1 x1 r1 fin1 => ?_)
  cases r1 with
  | bl b => exact ⟨b, rfl, fin1 b G1 H1 Nx.refl a1.he rfl⟩
  | _ => exact fin1.elim
theorem ft_cmp {op : CmpOp} (ho : OpR X (compareOp op) (rD C g)) (ha : FB C W X a fa) (hb : FU C W X b fb) (hm : behindInMarks op b = false) : FT C W X (.Compare a [op] [b] pos) (toB (fOp g fa fb)) := PT.imp (pt_cmpR ho ha hb hm) fun _ _ _ q => tTest_of (fun _ _ _ z => tOp_of z) trivial q
/-- a < b < c -/
def fCh (g g' : D → D → Option D) (fa fb fc : F D) : F D := fun δ η => (fa δ η).bind fun d η => (fb δ η).bind fun e η => match g d e with
  | some (.bl true) => (fc δ η).bind fun k η => lift (g' e k) η
  | some (.bl false) => .ok (.bl false) η
  | _ => .bad
/-! ### truth, and, or, not, if -/
def truD : D → Option Bool
  | .non => some false
  | .bl b => some b
  | .int i => some (i != 0)
  | .str x => if x.length ≤ sizeLine then some ((x.length : Int) != 0) else none
  | .lst l => some (!l.isEmpty)
  | .tup l => some (!l.isEmpty)
  | _ => none
def fTru (f : F D) : F Bool := fun δ η => (f δ η).bind fun d η => lift (truD d) η
theorem Rps.emp {G : Gh} {H : Hp} {l : List D} {vs : List V} (h : Rps C G H l vs) : l.isEmpty = vs.isEmpty := by cases h <;> rfl
theorem ft_tru (hK : X.K = C.K) (ha : FU C W X a fa) (he : ∀ whole, isTrue a X.env whole = (do let v ← whole; standAt a.pos; holding [v] (truthy v)) := by intro _; rfl) : FT C W X a (fTru fa) := by
  refine PT.imp (pt_truth ha he) fun σ H Q ⟨G, δ, η, at0, fin⟩ => ?_
  refine tG.bind (Rel2 := RB) at0 fin fun d v G1 H1 η1 a1 x1 r1 fin1 => ?_
  have go : ∀ {k : Bool}, FinR C RB (fun c d H' => W c d σ H') G1 H1 (lift (some k) η1) Q → Q k H1 := fun z => z _ G1 H1 Nx.refl a1.he rfl
  cases d with
  | non => rw [r1.non]; exact ⟨_, rfl, go fin1⟩
  | bl b => rw [r1.bl]; exact ⟨_, rfl, go fin1⟩
  | int i => rw [r1.int]; exact ⟨_, rfl, go fin1⟩
  | str x =>
    rw [r1.str]
    unfold truD at fin1
    dsimp only at fin1
    split at fin1
    · rename_i h; exact ⟨_, ⟨h, rfl⟩, go fin1⟩
    · exact fin1.elim
  | lst l =>
    obtain ⟨p, vs, rfl, h1, h2⟩ := r1.lst
    rw [← hK] at h1
    exact ⟨_, .inl ⟨vs, h1, rfl⟩, by rw [← h2.emp]; exact go fin1⟩
  | tup l =>
    obtain ⟨p, vs, rfl, h1, h2⟩ := r1.tup
    rw [← hK] at h1
    exact ⟨_, .inr (.inl ⟨vs, h1, rfl⟩), by rw [← h2.emp]; exact go fin1⟩
  | _ => exact fin1.elim
def fAndB (f u : F Bool) : F Bool := fun δ η => (f δ η).bind fun c η => if c = true then u δ η else .ok false η
def fOrB (f u : F Bool) : F Bool := fun δ η => (f δ η).bind fun c η => if c = true then .ok true η else u δ η
def fNotB (f : F Bool) : F Bool := fun δ η => (f δ η).bind fun c η => .ok (!c) η
variable {rest : List Expr} {tA tB' : F Bool}
abbrev FW (C : Ct) (W : Value → Option Addr → St → Hp → Prop) (X : Cx) (e : Expr) (f : F Bool) : Prop := PW X e (tG C RB W f)
theorem PW.imp {X : Cx} {e : Expr} {t t' : TT} (h : PW X e t) (i : ∀ σ H Q, t' σ H Q → t σ H Q) : PW X e t' := ⟨fun wh pins s σ H Q I q => h.run wh pins s σ H Q I (i _ _ _ q)⟩
theorem fw_and1 (ha : FT C W X a tA) : FW C W X (.BoolOp .And [a] pos) tA := pw_and1 ha
theorem fw_or1 (ha : FT C W X a tA) : FW C W X (.BoolOp .Or [a] pos) tA := pw_or1 ha
theorem fw_and (ha : FT C W X a tA) (hb : FW C W X (.BoolOp .And (b :: rest) pos) tB') : FW C W X (.BoolOp .And (a :: b :: rest) pos) (fAndB tA tB') := by
  refine PW.imp (pw_and ha hb) fun σ H Q ⟨G, δ, η, at0, fin⟩ => ?_
  refine tG.bind (Rel2 := RB) at0 fin fun d v G1 H1 η1 a1 x1 r1 fin1 => ?_
  have r1 : d = v := r1
  subst r1
  cases d with
  | true => rw [if_pos rfl] at fin1 ⊢; exact ⟨G1, δ, η1, a1, fin1⟩
  | false => rw [if_neg Bool.false_ne_true] at fin1 ⊢; exact fin1 _ G1 H1 Nx.refl a1.he rfl
theorem fw_or (ha : FT C W X a tA) (hb : FW C W X (.BoolOp .Or (b :: rest) pos) tB') : FW C W X (.BoolOp .Or (a :: b :: rest) pos) (fOrB tA tB') := by
  refine PW.imp (pw_or ha hb) fun σ H Q ⟨G, δ, η, at0, fin⟩ => ?_
  refine tG.bind (Rel2 := RB) at0 fin fun d v G1 H1 η1 a1 x1 r1 fin1 => ?_
  have r1 : d = v := r1
  subst r1
  cases d with
  | false => rw [if_neg Bool.false_ne_true] at fin1 ⊢; exact ⟨G1, δ, η1, a1, fin1⟩
  | true => rw [if_pos rfl] at fin1 ⊢; exact fin1 _ G1 H1 Nx.refl a1.he rfl
theorem ft_w {f : F Bool} (h : FW C W X a f) : FT C W X a f := h.pt
theorem ft_not (ha : FT C W X a tA) : FT C W X (.UnaryOp .Not a pos) (fNotB tA) := by
  refine PT.imp (pt_not ha) fun σ H Q ⟨G, δ, η, at0, fin⟩ => ?_
  refine tG.bind (Rel2 := RB) at0 fin fun d v G1 H1 η1 a1 x1 r1 fin1 => ?_
  have r1 : d = v := r1
  subst r1
  exact fin1 _ G1 H1 Nx.refl a1.he rfl
/-- as values -/
def fAnd (fa fb : F D) : F D := fun δ η => (fa δ η).bind fun d η => match d with
  | .bl true => fb δ η
  | .bl false => .ok (.bl false) η
  | _ => .bad
def fOr (fa fb : F D) : F D := fun δ η => (fa δ η).bind fun d η => match d with
  | .bl true => .ok (.bl true) η
  | .bl false => fb δ η
  | _ => .bad
def fNot (fa : F D) : F D := fun δ η => (fa δ η).bind fun d η => match d with
  | .bl b => .ok (.bl (!b)) η
  | _ => .bad
theorem fe_one {op} (h : FE C W X a fa) : FE C W X (.BoolOp op [a] pos) fa := pe_one h
theorem fe_and (ha : FE C W X a fa) (hb : FE C W X (.BoolOp .And (b :: rest) pos) fb) : FE C W X (.BoolOp .And (a :: b :: rest) pos) (fAnd fa fb) := by
  refine PE.imp (pe_and ha hb) fun σ H Q ⟨G, δ, η, at0, fin⟩ => ?_
  refine tG.bind (Rel2 := Rp C) at0 fin fun d v G1 H1 η1 a1 x1 r1 fin1 => ?_
  cases r1 with
  | bl b =>
    refine ⟨b, rfl, ?_⟩
    cases b with
    | true => rw [if_pos rfl]; exact ⟨G1, δ, η1, a1, fin1⟩
    | false => rw [if_neg Bool.false_ne_true]; exact fin1 _ G1 H1 Nx.refl a1.he (.bl false)
  | _ => exact fin1.elim
def fIf (t : F Bool) (fa fb : F D) : F D := fun δ η => (t δ η).bind fun c η => if c = true then fa δ η else fb δ η
theorem fe_if (hc : FT C W X c tA) (ha : FE C W X a fa) (hb : FE C W X b fb) : FE C W X (.IfExp c a b pos) (fIf tA fa fb) := by
  refine PE.imp (pe_ifExp hc ha hb) fun σ H Q ⟨G, δ, η, at0, fin⟩ => ?_
  refine tG.bind (Rel2 := Rp C) at0 fin fun d v G1 H1 η1 a1 x1 r1 fin1 => ?_
  have r1 : d = v := r1
  subst r1
  cases d with
  | true => rw [if_pos rfl] at fin1 ⊢; exact ⟨G1, δ, η1, a1, fin1⟩
  | false => rw [if_neg Bool.false_ne_true] at fin1 ⊢; exact ⟨G1, δ, η1, a1, fin1⟩

/-! ### argument lists, displays -/
def fNil : F (List D) := fun _ η => .ok [] η
def fCons (fa : F D) (fr : F (List D)) : F (List D) := fun δ η => (fa δ η).bind fun d η => (fr δ η).bind fun ds η => .ok (d :: ds) η
variable {es : List Expr} {fs : F (List D)} {e : Expr} {fe : F D}
theorem fa_nil : FA C W X [] fNil := PA.imp pa_nil fun σ H Q ⟨G, δ, η, a, fin⟩ => fin [] G H Nx.refl a.he .nil
theorem fa_cons (ha : FE C W X e fe) (hr : FA C W X es fs) (hs : starEach (e :: es) X.env = (false, eval e X.env) :: starEach es X.env := by rfl) : FA C W X (e :: es) (fCons fe fs) := by
  refine PA.imp (pa_cons ha hr hs) fun σ H Q ⟨G, δ, η, at0, fin⟩ => ?_
  refine tG.bind (Rel2 := Rps C) at0 fin fun d v G1 H1 η1 a1 x1 r1 fin1 => ?_
  refine tG.bind (Rel2 := Rps C) a1 fin1 fun ds vs G2 H2 η2 a2 x2 r2 fin2 => ?_
  exact fin2 _ G2 H2 Nx.refl a2.he (.cons (r1.stab (x2.stab a1.he)) r2)
def fTup (fs : F (List D)) : F D := fun δ η => (fs δ η).bind fun ds η => if ds.length ≤ sizeLine then .ok (.tup ds) η else .bad
def fLst (fs : F (List D)) : F D := fun δ η => (fs δ η).bind fun ds η => if ds.length ≤ sizeLine then .ok (.lst ds) η else .bad
theorem Rp.newTup {G : Gh} {H : Hp} {η : List O} {p : Addr} {l : List D} {vs : List V} (r : Rh C G H η) (hp : H p = none) (z : l.length ≤ sizeLine) (h : Rps C G H l vs) : Rp C G (upd H p (.tup vs)) (.tup l) (.ref p) :=
  .tup (.inl ⟨.inl upd_same, r.fresh hp⟩) z (h.stab ((Nx.alloc hp).stab r))
theorem Rp.newLst {G : Gh} {H : Hp} {η : List O} {p : Addr} {l : List D} {vs : List V} (r : Rh C G H η) (hp : H p = none) (z : l.length ≤ sizeLine) (h : Rps C G H l vs) : Rp C G (upd H p (.lst vs)) (.lst l) (.ref p) :=
  .lst (.inl ⟨.inl upd_same, r.fresh hp⟩) z (h.stab ((Nx.alloc hp).stab r))
theorem fe_tup {x1} (h : FA C W X es fs) : FE C W X (.Tuple es x1 pos) (fTup fs) := by
  refine PE.imp (pe_tup h) fun σ H Q ⟨G, δ, η, at0, fin⟩ => ?_
  refine tG.bind (Rel2 := Rp C) at0 fin fun d v G1 H1 η1 a1 x1 r1 fin1 => ?_
  split at fin1
  · rename_i hz
    exact ⟨by rw [← r1.length]; exact hz, fun p hp => fin1 _ G1 _ (Nx.alloc hp) (a1.he.alloc hp) (.newTup a1.he hp hz r1)⟩
  · exact fin1.elim
end
end DL
namespace DL
open PySem L2
section
variable {X : Cx} {C : Ct} {W : Value → Option Addr → St → Hp → Prop}
theorem Gives.same {G : Gh} {H : Hp} {η : List O} {r : D} {Q : VK} {z : V} (h : Gives C G H η (some r) Q) (hr : Rh C G H η) (q : Rp C G H r z) : Q z H := h z G H Nx.refl hr q
theorem Gives.lst {G : Gh} {H : Hp} {η : List O} {l : List D} {vs : List V} {Q : VK} {p : Addr} (h : Gives C G H η (some (.lst l)) Q) (hr : Rh C G H η) (hp : H p = none) (z : l.length ≤ sizeLine) (q : Rps C G H l vs) : Q (.ref p) (upd H p (.lst vs)) :=
  h _ G _ (Nx.alloc hp) (hr.alloc hp) (.newLst hr hp z q)
theorem Gives.tup {G : Gh} {H : Hp} {η : List O} {l : List D} {vs : List V} {Q : VK} {p : Addr} (h : Gives C G H η (some (.tup l)) Q) (hr : Rh C G H η) (hp : H p = none) (z : l.length ≤ sizeLine) (q : Rps C G H l vs) : Q (.ref p) (upd H p (.tup vs)) :=
  h _ G _ (Nx.alloc hp) (hr.alloc hp) (.newTup hr hp z q)
/-- an operation by what it does on values -/
theorem opD {f : Value → Value → Sem Value} {r : R2} {g : D → D → Option D} (h : OpR X f r) (i : ∀ x y H Q, rD C g x y H Q → r x y H Q) : OpR X f (rD C g) := fun pins s σ H x y v u Q I rx ry q => h pins s σ H x y v u Q I rx ry (i _ _ _ _ q)
theorem ok_app {a b : Str} (h1 : PySem.PyData.strOk a = true) (h2 : PySem.PyData.strOk b = true) : PySem.PyData.strOk (a ++ b) = true := by
  unfold PySem.PyData.strOk at *
  show (a.cps ++ b.cps).all _ = true
  rw [Array.all_append, h1, h2]; rfl
theorem ok_list {a : Str} : PySem.PyData.strOk a = true ↔ ∀ c ∈ a.cps.toList, c < 0x110000 := by
  unfold PySem.PyData.strOk
  rw [← Array.all_toList, List.all_eq_true]
  simp
theorem ok_one {a : Str} {c : Nat} (h : PySem.PyData.strOk a = true) (hc : c ∈ a.cps.toList) : PySem.PyData.strOk ⟨#[c]⟩ = true := ok_list.mpr fun d hd => by
  have : d = c := by simpa using hd
  rw [this]; exact ok_list.mp h c hc
theorem ok_cut {z : Str} {lo hi : Option Int} (h : PySem.PyData.strOk z = true) : PySem.PyData.strOk (cutS z lo hi) = true := ok_list.mpr fun d hd => by
  unfold cutS at hd
  simp only [List.toList_toArray] at hd
  exact ok_list.mp h d (List.mem_of_mem_drop (List.mem_of_mem_take hd))
/-- a list and a list -/
def rCatL (K : PySem.W.Frag) : R2 := fun x y H Q => ∃ l b xs zs, x = .ref l ∧ y = .ref b ∧ SqL K H l xs ∧ SqL K H b zs ∧ xs.length + zs.length ≤ sizeLine ∧ ∀ p, H p = none → Q (.ref p) (upd H p (.lst (xs ++ zs)))
theorem op_catL : OpR X (binaryOp .Add) (rCatL X.K) := by
  intro pins s σ H x y v u Q I rx ry h
  obtain ⟨l, b, xs, zs, rfl, rfl, hl, hb, hz, q⟩ := h
  cases rx
  cases ry
  obtain ⟨is, r, ⟨⟨_, _, _, sl⟩, n, e, rfl, rfl, rfl⟩, _⟩ := I.list hl
  obtain ⟨js, r2, ⟨⟨_, _, _, sl2⟩, n2, e2, rfl, rfl, rfl⟩, _⟩ := I.list hb
  have len : is.toArray.size + js.toArray.size ≤ sizeLine := by rw [List.size_toArray, List.size_toArray, ← r.length, ← r2.length]; exact hz
  have cat : is.toArray ++ js.toArray = (is ++ js).toArray := by simp
  refine concat_meets ⟨_, e, rfl⟩ ⟨_, e2, rfl⟩ noFill_list_add seq_list_add PySem.F.slot_list_add PySem.F.entry_list_add (PySem.F.args_list_add_2 _ _) (PyProof.Rows.list_addW l b is.toArray js.toArray n n2 none none sl sl2 len) ⟨e, e2, ?_⟩
  rw [cat]
  exact ⟨.ref _, _, I.lnew (t' := s.toks) (r.append r2) (by rw [List.length_append]; exact hz), rfl, q _ I.fresh⟩
def addD : D → D → Option D
  | .int i, .int j => some (.int (i + j))
  | .str a, .str b => if a.length + b.length ≤ sizeLine then some (.str (a ++ b)) else none
  | .lst a, .lst b => if a.length + b.length ≤ sizeLine then some (.lst (a ++ b)) else none
  | .tup a, .tup b => if a.length + b.length ≤ sizeLine then some (.tup (a ++ b)) else none
  | _, _ => none
theorem opD4 {f : Value → Value → Sem Value} {r r' r3 r4 : R2} {g : D → D → Option D} (h : OpR X f r) (h' : OpR X f r') (h3 : OpR X f r3) (h4 : OpR X f r4) (i : ∀ x y H Q, rD C g x y H Q → r x y H Q ∨ r' x y H Q ∨ r3 x y H Q ∨ r4 x y H Q) : OpR X f (rD C g) := fun pins s σ H x y v u Q I rx ry q =>
  (i _ _ _ _ q).elim (h pins s σ H x y v u Q I rx ry) fun q => q.elim (h' pins s σ H x y v u Q I rx ry) fun q => q.elim (h3 pins s σ H x y v u Q I rx ry) (h4 pins s σ H x y v u Q I rx ry)
theorem Rpu.tupRp {G : Gh} {H : Hp} {l : List D} {v : V} (h : Rpu C G H (.tup l) v) : Rp C G H (.tup l) v := by
  rcases h with h | ⟨a, vs, l', h1, _⟩
  · exact h
  · cases h1
theorem o_add (hK : X.K = C.K) : OpR X (binaryOp .Add) (rD C addD) := opD4 op_add op_add_str op_catL op_catA fun x y H Q ⟨G, η, d, e, hr, h1, h2, q⟩ => by
  unfold addD at q
  split at q
  · exact .inl ⟨_, _, h1.int, h2.int, q.same hr (.int _)⟩
  · split at q
    · rename_i hz; exact .inr (.inl ⟨_, _, h1.str, h2.str, hz, q.same hr (.str _ (ok_app h1.strOk h2.strOk))⟩)
    · exact q.elim
  · split at q
    · rename_i hz
      obtain ⟨l, vs, e1, s1, r1⟩ := h1.lst
      obtain ⟨l2, vs2, e2, s2, r2⟩ := h2.lst
      rw [← hK] at s1 s2
      exact .inr (.inr (.inl ⟨l, l2, vs, vs2, e1, e2, s1, s2, by rw [← r1.length, ← r2.length]; exact hz, fun p hp => q.lst hr hp (by rw [List.length_append]; exact hz) (r1.append r2)⟩))
    · exact q.elim
  · split at q
    · rename_i hz
      have t1 := h1.tupRp
      have t2 := h2.tupRp
      obtain ⟨l, vs, e1, s1, r1⟩ := h1.tup
      obtain ⟨l2, vs2, e2, s2, r2⟩ := h2.tup
      rw [← hK] at s1 s2
      subst e1 e2
      refine .inr (.inr (.inr ⟨l, l2, vs, vs2, rfl, rfl, s1, s2, by rw [← r1.length, ← r2.length]; exact hz, fun z => ?_, fun _ z => ?_, fun _ _ p hp => q.tup hr hp (by rw [List.length_append]; exact hz) (r1.append r2)⟩))
      · subst z
        cases r1
        exact q.same hr t2
      · subst z
        cases r2
        rw [List.append_nil] at q
        exact q.same hr t1
    · exact q.elim
  · exact q.elim
def intD (c : Int → Int → Bool) (g : Int → Int → D) : D → D → Option D
  | .int i, .int j => if c i j = true then some (g i j) else none
  | _, _ => none
theorem o_intI {f : Value → Value → Sem Value} {c : Int → Int → Bool} {P : Int → Int → Prop} {g : Int → Int → Int} (h : OpR X f (rI P fun i j => .int (g i j))) (hc : ∀ i j, c i j = true → P i j) : OpR X f (rD C (intD c fun i j => .int (g i j))) :=
  opD h fun x y H Q ⟨G, η, d, e, hr, h1, h2, q⟩ => by
    unfold intD at q
    split at q
    · split at q
      · rename_i hz; exact ⟨_, _, h1.int, h2.int, hc _ _ hz, q.same hr (.int _)⟩
      · exact q.elim
    · exact q.elim
theorem o_intB0 {f : Value → Value → Sem Value} {g : Int → Int → Bool} (h : OpR X f (rI0 fun i j => .bl (g i j))) : OpR X f (rD C (intD (fun _ _ => true) fun i j => .bl (g i j))) :=
  opD h fun x y H Q ⟨G, η, d, e, hr, h1, h2, q⟩ => by
    unfold intD at q
    split at q
    · exact ⟨_, _, h1.int, h2.int, Gives.same (r := .bl (g _ _)) q hr (.bl _)⟩
    · exact q.elim
def cmulB (i j : Int) : Bool := (decide (-(2 ^ 64) < i) && decide (i < 2 ^ 64)) || (decide (-(2 ^ 64) < j) && decide (j < 2 ^ 64))
def cdivB (_ j : Int) : Bool := decide (0 < j) && decide (j < 1073741824)
def cpowB (i j : Int) : Bool := decide (0 ≤ j) && decide (j ≤ 1000000) && decide (i.natAbs < 2 ^ 64)
def subD := intD (fun _ _ => true) fun i j => .int (i - j)
def mulD := intD cmulB fun i j => .int (i * j)
def modD := intD (fun _ j => decide (0 < j)) fun i j => .int (i % j)
def fdivD := intD cdivB fun i j => .int (i / j)
def powD := intD cpowB fun i j => .int (i ^ j.toNat)
theorem o_mul : OpR X (binaryOp .Mult) (rD C mulD) := o_intI op_mul fun i j h => by simpa [cmulB, CMul] using h
theorem o_mod : OpR X (binaryOp .Mod) (rD C modD) := o_intI op_mod fun i j h => by simpa using h
theorem o_fdiv : OpR X (binaryOp .FloorDiv) (rD C fdivD) := o_intI op_fdiv fun i j h => by simpa [cdivB, CDiv] using h
theorem o_pow : OpR X (binaryOp .Pow) (rD C powD) := o_intI op_pow fun i j h => by
  simp only [cpowB, Bool.and_eq_true, decide_eq_true_eq] at h
  exact ⟨h.1.1, h.1.2, h.2⟩
def ltD := intD (fun _ _ => true) fun i j => .bl (decide (i < j))
def leD := intD (fun _ _ => true) fun i j => .bl (decide (i ≤ j))
def gtD := intD (fun _ _ => true) fun i j => .bl (decide (j < i))
def geD := intD (fun _ _ => true) fun i j => .bl (decide (j ≤ i))
theorem o_lt : OpR X (compareOp .Lt) (rD C ltD) := o_intB0 op_lt
theorem o_ge : OpR X (compareOp .GtE) (rD C geD) := o_intB0 op_ge

/-- is None -/
def D.isNon : D → Bool
  | .non => true
  | _ => false
def isN (d e : D) : Option D := if e.isNon = true then some (.bl d.isNon) else none
def notN (d e : D) : Option D := if e.isNon = true then some (.bl (!d.isNon)) else none
theorem isNon_eq {e : D} (h : e.isNon = true) : e = .non := by cases e <;> first | rfl | cases h
theorem Rpu.none_iff {G : Gh} {H : Hp} {d : D} {x : V} (h : Rpu C G H d x) : decide (x = .non) = d.isNon := by
  rcases h with h | ⟨a, vs, l, rfl, rfl, _⟩
  · cases h <;> simp [D.isNon]
  · simp [D.isNon]
theorem o_isN : OpR X (compareOp .Is) (rD C isN) := opD op_isN fun x y H Q ⟨G, η, d, e, hr, h1, h2, q⟩ => by
  have k := h1.none_iff
  unfold isN at q
  split at q
  · rename_i hn
    rw [isNon_eq hn] at h2
    exact ⟨h2.non, by rw [k]; exact q.same hr (.bl _)⟩
  · exact q.elim
/-! ### subscripts, slices -/
def ixD : D → D → Option D
  | .lst l, .int i => atI l i
  | .tup l, .int i => atI l i
  | .str z, .int i => if z.length ≤ sizeLine then (atI z.cps.toList i).map fun c => .str ⟨#[c]⟩ else none
  | _, _ => none
theorem Rps.atI {G : Gh} {H : Hp} {l : List D} {vs : List V} {i : Int} {d : D} (r : Rps C G H l vs) (h : L2.atI l i = some d) : ∃ v, L2.atI vs i = some v ∧ Rp C G H d v := by
  unfold L2.atI at h ⊢
  rw [← r.length]
  cases hx : ixN l.length i with
  | none => rw [hx] at h; cases h
  | some j =>
    rw [hx] at h
    exact r.get h
theorem atI_mem {α : Type} {l : List α} {i : Int} {c : α} (h : L2.atI l i = some c) : c ∈ l := by
  unfold L2.atI at h
  cases hx : ixN l.length i with
  | none => rw [hx] at h; cases h
  | some j => rw [hx] at h; exact List.mem_of_getElem? h
theorem x_ix (hK : X.K = C.K) : IxR X (rD C ixD) := fun value slice pins s σ H x y v u Q I rx ry ⟨G, η, d, e, hr, h1, h2, q⟩ hsb => by
  refine ix_seq value slice pins s σ H x y v u Q I rx ry ?_ hsb
  unfold ixD at q
  split at q
  · rename_i l i
    obtain ⟨a, vs, ex, hs, hrs⟩ := h1.lst
    rw [← hK] at hs
    cases hd : atI l i with
    | none => rw [hd] at q; exact q.elim
    | some d =>
      rw [hd] at q
      obtain ⟨w, k1, k2⟩ := hrs.atI hd
      exact .inl ⟨a, vs, i, w, ex, h2.int, hs, k1, q.same hr k2⟩
  · rename_i l i
    obtain ⟨a, vs, ex, hs, hrs⟩ := h1.tup
    rw [← hK] at hs
    cases hd : atI l i with
    | none => rw [hd] at q; exact q.elim
    | some d =>
      rw [hd] at q
      obtain ⟨w, k1, k2⟩ := hrs.atI hd
      exact .inr (.inl ⟨a, vs, i, w, ex, h2.int, hs, k1, q.same hr k2⟩)
  · rename_i z i
    split at q
    · rename_i hz
      cases hd : atI z.cps.toList i with
      | none => rw [hd] at q; exact q.elim
      | some c =>
        rw [hd] at q
        exact .inr (.inr ⟨z, i, c, h1.str, h2.int, hz, hd, q.same hr (.str _ (ok_one h1.strOk (atI_mem hd)))⟩)
    · exact q.elim
  · exact q.elim
variable {a b c : Expr} {fa fb fc : F D} {pos p2 : Pos}
theorem fe_ix (hK : X.K = C.K) (ha : FB C W X a fa) (hb : FU C W X b fb) (hs : PlainIx b) : FE C W X (.Subscript a b pos) (fOp ixD fa fb) := PE.imp (pe_ix (x_ix hK) ha hb hs) fun _ _ _ q => tOp_of q
/-- an item of a mutable list at index n of the store -/
def fIxO (fa fb : F D) : F D := fun δ η => (fa δ η).bind fun d η => (fb δ η).bind fun e η => match d with
  | .obj n => match η[n]? with
    | some (.lst l) => lift (ixD (.lst l) e) η
    | _ => .bad
  | _ => .bad
theorem fe_ixO (hK : X.K = C.K) (ha : FE C W X a fa) (hb : FE C W X b fb) (hs : PlainIx b) : FE C W X (.Subscript a b pos) (fIxO fa fb) := by
  refine PE.imp (pe_ix (x_ix hK) ha hb hs) fun σ H Q ⟨G, δ, η, at0, fin⟩ => ?_
  refine tG.bind (Rel2 := Rp C) at0 fin fun d v G1 H1 η1 a1 x1 r1 fin1 => ?_
  refine tG.bind (Rel2 := Rp C) a1 fin1 fun e w G2 H2 η2 a2 x2 r2 fin2 => ?_
  split at fin2
  · rename_i n
    split at fin2
    · rename_i l hl
      cases (r1.stab (x2.stab a1.he)) with
      | obj ho =>
        obtain ⟨m, q⟩ := a2.he.ob n _ _ hl ho
        cases q with
        | lst h3 z h4 => exact ⟨G2, η2, .lst l, e, a2.he, .inr ⟨_, _, l, rfl, rfl, h3, h4, z⟩, .inl r2, fin2.gives a2.he⟩
    · exact fin2.elim
  · exact fin2.elim
def cutD (l : List D) (lo hi : Option Int) : List D := (l.drop (HT.sIx l.length 0 lo)).take (HT.sIx l.length l.length hi - HT.sIx l.length 0 lo)
def slD : D → Option Int → Option Int → Option D
  | .lst l, lo, hi => some (.lst (cutD l lo hi))
  | .str z, lo, hi => if z.length ≤ sizeLine then some (.str (cutS z lo hi)) else none
  | .tup l, lo, hi => some (.tup (cutD l lo hi))
  | _, _, _ => none
def rSlD (C : Ct) : V → Option Int → Option Int → Hp → VK → Prop := fun x lo hi H Q => ∃ G η d, Rh C G H η ∧ Rpu C G H d x ∧ Gives C G H η (slD d lo hi) Q
theorem s_sl (hK : X.K = C.K) : SlR X (rSlD C) := by
  have h := ((sl_list (X := X)).or sl_str).or sl_tupA
  intro pins s σ H x v vl vu lo hi sl Q I rx hs pl pu ⟨G, η, d, hr, h1, q⟩
  refine h pins s σ H x v vl vu lo hi sl Q I rx hs pl pu ?_
  unfold slD at q
  split at q
  · rename_i l lo hi
    obtain ⟨a, vs, ex, hq, hrs⟩ := h1.lst
    rw [← hK] at hq
    have hz := h1.lstZ
    refine .inl (.inl ⟨a, vs, ex, hq, fun p hp => ?_⟩)
    refine q.lst hr hp (by unfold cutD; rw [List.length_take, List.length_drop]; omega) ?_
    unfold cutD cutV
    rw [← hrs.length]
    exact (hrs.drop _).take _
  · split at q
    · rename_i hz; exact .inl (.inr ⟨_, h1.str, hz, q.same hr (.str _ (ok_cut h1.strOk))⟩)
    · exact q.elim
  · rename_i l
    have t1 := h1.tupRp
    obtain ⟨a, vs, ex, hq, hrs⟩ := h1.tup
    subst ex
    rw [← hK] at hq
    have hz := h1.tupZ
    refine .inr ⟨a, vs, rfl, hq, fun hw => ?_, fun _ p hp => ?_⟩
    · have e : cutD l lo hi = l := by
        unfold cutD
        rw [hrs.length, hw.1, hw.2, List.drop_zero, Nat.sub_zero, List.take_of_length_le (by rw [hrs.length]; exact Nat.le_refl _)]
      rw [e] at q
      exact q.same hr t1
    · refine q.tup hr hp (by unfold cutD; rw [List.length_take, List.length_drop]; omega) ?_
      unfold cutD cutV
      rw [← hrs.length]
      exact (hrs.drop _).take _
  · exact q.elim
/-- a part of a slice -/
abbrev FO (C : Ct) (W : Value → Option Addr → St → Hp → Prop) (X : Cx) (e : Option Expr) (f : F (Option Int)) : Prop := PO X e (tG C (fun _ _ a b => a = b) W f)
theorem PO.imp {X : Cx} {e : Option Expr} {t t' : TO} (h : PO X e t) (i : ∀ σ H Q, t' σ H Q → t σ H Q) : PO X e t' := ⟨fun pins s σ H Q I q => h.run pins s σ H Q I (i _ _ _ q)⟩
def fNoP : F (Option Int) := fun _ η => .ok none η
def fPt (f : F D) : F (Option Int) := fun δ η => (f δ η).bind fun d η => match d with
  | .int i => .ok (some i) η
  | _ => .bad
theorem fo_none : FO C W X none fNoP := PO.imp po_none fun σ H Q ⟨G, δ, η, a, fin⟩ => fin none G H Nx.refl a.he rfl
theorem fo_some (h : FE C W X a fa) : FO C W X (some a) (fPt fa) := PO.imp (po_some h) fun σ H Q ⟨G, δ, η, at0, fin⟩ => by
  refine tG.bind (Rel2 := fun _ _ a b => a = b) at0 fin fun d v G1 H1 η1 a1 x1 r1 fin1 => ?_
  cases r1 with
  | int i => exact ⟨i, rfl, fin1 _ G1 H1 Nx.refl a1.he rfl⟩
  | _ => exact fin1.elim
def fSl (fa : F D) (fl fh : F (Option Int)) : F D := fun δ η => (fa δ η).bind fun d η => (fl δ η).bind fun lo η => (fh δ η).bind fun hi η => lift (slD d lo hi) η
variable {lo hi : Option Expr} {fl fh : F (Option Int)}
theorem fe_sl (hK : X.K = C.K) (ha : FB C W X a fa) (hl : FO C W X lo fl) (hh : FO C W X hi fh) : FE C W X (.Subscript a (.Slice lo hi none p2) pos) (fSl fa fl fh) := by
  refine PE.imp (pe_slice (s_sl hK) ha hl hh) fun σ H Q ⟨G, δ, η, at0, fin⟩ => ?_
  refine tG.bind (Rel2 := Rp C) at0 fin fun d v G1 H1 η1 a1 x1 r1 fin1 => ?_
  refine tG.bind (Rel2 := Rp C) a1 fin1 fun i j G2 H2 η2 a2 x2 r2 fin2 => ?_
  refine tG.bind (Rel2 := Rp C) a2 fin2 fun i' j' G3 H3 η3 a3 x3 r3 fin3 => ?_
  have r2 : i = j := r2
  have r3 : i' = j' := r3
  subst r2 r3
  exact ⟨G3, η3, d, a3.he, ((r1.next x2 a1.he).next x3 a2.he).u, fin3.gives a3.he⟩

/-! ### built-ins by name -/
/-- one argument, also a list that may change -/
def rC1 (C : Ct) (g : D → Option D) : List V → Hp → VK → Prop := fun vs H Q => ∃ G η d v, vs = [v] ∧ Rh C G H η ∧ Rpu C G H d v ∧ Gives C G H η (g d) Q
def fCall1 (g : D → Option D) (fa : F D) : F D := fun δ η => (fa δ η).bind fun d η => lift (g d) η
def Rpu1 (C : Ct) (G : Gh) (H : Hp) (d : D) (vs : List V) : Prop := ∃ v, vs = [v] ∧ Rpu C G H d v
variable {e : Expr} {fe : F D} {es : List Expr} {fs : F (List D)} {x : Str} {p : Pos} {id : String} {g : D → Option D} {gs : List D → Option D}
abbrev FA1 (C : Ct) (W : Value → Option Addr → St → Hp → Prop) (X : Cx) (es : List Expr) (f : F D) : Prop := PA X es (tG C (Rpu1 C) W f)
theorem fa1 (ha : FU C W X e fe) (hs : starEach [e] X.env = [(false, eval e X.env)] := by rfl) : FA1 C W X [e] fe := by
  refine PA.imp (pa_cons ha pa_nil hs) fun σ H Q ⟨G, δ, η, at0, fin⟩ => ?_
  have e1 : (fe δ η).bind (fun d η => R.ok d η) = fe δ η := by cases fe δ η <;> rfl
  rw [← e1] at fin
  refine tG.bind (Rel2 := Rpu1 C) at0 fin fun d v G1 H1 η1 a1 x1 r1 fin1 => ?_
  exact fin1 _ G1 H1 Nx.refl a1.he ⟨v, rfl, r1⟩
theorem fe_call1 (hc : CallR X (.builtin id) (rC1 C g)) (hm : X.mg x = none) (ha : FA1 C W X [e] fe) (hg : Gl X x := by rfl) (hv : bootBuiltins x = some (.builtin id) := by decide +kernel) (hn : x ≠ "__name__" := by decide) (hdb : (x == ("__debug__" : Str)) = false := by decide)
    (he : starEach [e] X.env = (false, eval e X.env) :: starEach [] X.env := by rfl) (hpl : (backTo pos (starEach [] X.env)).any (·.1) = false := by rfl) : FE C W X (.Call (.Name x p) [e] [] pos) (fCall1 g fe) := by
  refine PE.imp (pe_callB hc hg hm hv ha hn hdb he hpl) fun σ H Q ⟨G, δ, η, at0, fin⟩ => ?_
  refine tG.bind (Rel2 := Rp C) at0 fin fun d v G1 H1 η1 a1 x1 r1 fin1 => ?_
  obtain ⟨w, rfl, r1⟩ := r1
  exact ⟨G1, η1, d, w, rfl, a1.he, r1, fin1.gives a1.he⟩
theorem fe_callT1 (hc : CallR X (.type id) (rC1 C g)) (hm : X.mg x = none) (ha : FA1 C W X [e] fe) (hg : Gl X x := by rfl) (hv : bootBuiltins x = some (.type id) := by decide +kernel) (hn : x ≠ "__name__" := by decide) (hdb : (x == ("__debug__" : Str)) = false := by decide)
    (he : starEach [e] X.env = (false, eval e X.env) :: starEach [] X.env := by rfl) (hpl : (backTo pos (starEach [] X.env)).any (·.1) = false := by rfl) : FE C W X (.Call (.Name x p) [e] [] pos) (fCall1 g fe) := by
  refine PE.imp (pe_callTy hc hg hm hv ha hn hdb he hpl) fun σ H Q ⟨G, δ, η, at0, fin⟩ => ?_
  refine tG.bind (Rel2 := Rp C) at0 fin fun d v G1 H1 η1 a1 x1 r1 fin1 => ?_
  obtain ⟨w, rfl, r1⟩ := r1
  exact ⟨G1, η1, d, w, rfl, a1.he, r1, fin1.gives a1.he⟩
def lenD : D → Option D
  | .lst l => some (.int l.length)
  | .tup l => some (.int l.length)
  | .str z => if z.length ≤ sizeLine then some (.int z.length) else none
  | _ => none
theorem c_len (hK : X.K = C.K) : CallR X (.builtin "len") (rC1 C lenD) := fun pins s σ H xs us Q I r ⟨G, η, d, v, e, hr, h1, q⟩ => by
  refine call_len pins s σ H xs us Q I r ?_
  unfold lenD at q
  split at q
  · rename_i l
    obtain ⟨a, vs, rfl, hq, hrs⟩ := h1.lst
    rw [← hK] at hq
    exact ⟨_, vs.length, e, .inl ⟨vs, hq, rfl⟩, by rw [← hrs.length]; exact q.same hr (.int _)⟩
  · rename_i l
    obtain ⟨a, vs, rfl, hq, hrs⟩ := h1.tup
    rw [← hK] at hq
    exact ⟨_, vs.length, e, .inr ⟨vs, hq, rfl⟩, by rw [← hrs.length]; exact q.same hr (.int _)⟩
  · split at q
    · rename_i z hz
      refine ⟨v, z.length, e, ?_, q.same hr (.int _)⟩
      rw [h1.str]
      exact ⟨hz, rfl⟩
    · exact q.elim
  · exact q.elim
def intC : D → Option D
  | .int i => some (.int i)
  | .bl k => some (.int (if k then 1 else 0))
  | _ => none
theorem c_int : CallR X (.type "int") (rC1 C intC) := fun pins s σ H xs us Q I r ⟨G, η, d, v, e, hr, h1, q⟩ => by
  refine call_int1 pins s σ H xs us Q I r ?_
  unfold intC at q
  split at q
  · exact .inl ⟨_, by rw [e, h1.int], q.same hr (.int _)⟩
  · exact .inr ⟨_, by rw [e, h1.bl], q.same hr (.int _)⟩
  · exact q.elim
def tupC : D → Option D
  | .lst l => some (.tup l)
  | .tup l => some (.tup l)
  | _ => none
/-- the items as Bools -/
def blsOf : List D → Option (List Bool)
  | [] => some []
  | .bl b :: r => (blsOf r).map (b :: ·)
  | _ => none
theorem blsOf_r {G : Gh} {H : Hp} : ∀ {l : List D} {vs : List V} {bs : List Bool}, Rps C G H l vs → blsOf l = some bs → vs = bs.map V.bl
  | [], _, _, .nil, h => by cases h; rfl
  | d :: l, _, bs, .cons r q, h => by
    cases r with
    | bl b =>
      have h : (blsOf l).map (b :: ·) = some bs := h
      cases hl : blsOf l with
      | none => rw [hl] at h; cases h
      | some cs =>
        rw [hl] at h
        cases h
        rw [blsOf_r q hl]
        rfl
    | _ => cases h
def allC : D → Option D
  | .lst l => (blsOf l).map fun bs => .bl (bs.all fun b => b)
  | _ => none
def anyC : D → Option D
  | .lst l => (blsOf l).map fun bs => .bl (bs.any fun b => b)
  | _ => none
theorem c_all (hK : X.K = C.K) (hc : X.calm = true) : CallR X (.builtin "all") (rC1 C allC) := fun pins s σ H xs us Q I r ⟨G, η, d, v, e, hr, h1, q⟩ => by
  refine cr_all hc pins s σ H xs us Q I r ?_
  unfold allC at q
  split at q
  · obtain ⟨a, vs, rfl, hq, hrs⟩ := h1.lst
    rw [← hK] at hq
    rename_i l
    cases hb : blsOf l with
    | none => rw [hb] at q; exact q.elim
    | some bs =>
      rw [hb] at q
      rw [blsOf_r hrs hb] at hq
      exact ⟨a, bs, e, hq, q.same hr (.bl _)⟩
  · exact q.elim
/-- texts joined -/
def strsOf : List D → Option (List Str)
  | [] => some []
  | .str b :: r => (strsOf r).map (b :: ·)
  | _ => none
theorem strsOf_r {G : Gh} {H : Hp} : ∀ {l : List D} {vs : List V} {bs : List Str}, Rps C G H l vs → strsOf l = some bs → vs = bs.map V.str
  | [], _, _, .nil, h => by cases h; rfl
  | d :: l, _, bs, .cons r q, h => by
    cases r with
    | str b _ =>
      have h : (strsOf l).map (b :: ·) = some bs := h
      cases hl : strsOf l with
      | none => rw [hl] at h; cases h
      | some cs =>
        rw [hl] at h
        cases h
        rw [strsOf_r q hl]
        rfl
    | _ => cases h
theorem strsOf_ok {G : Gh} {H : Hp} : ∀ {l : List D} {vs : List V} {bs : List Str}, Rps C G H l vs → strsOf l = some bs → ∀ z ∈ bs, PySem.PyData.strOk z = true
  | [], _, _, .nil, h => by cases h; simp
  | d :: l, _, bs, .cons r q, h => by
    cases r with
    | str b hb =>
      have h : (strsOf l).map (b :: ·) = some bs := h
      cases hl : strsOf l with
      | none => rw [hl] at h; cases h
      | some cs =>
        rw [hl] at h
        cases h
        intro z hz
        rcases List.mem_cons.mp hz with e | hz
        · rw [e]; exact hb
        · exact strsOf_ok q hl z hz
    | _ => cases h
theorem ok_join {a : Str} (ha : PySem.PyData.strOk a = true) {ys : List Str} (h : ∀ z ∈ ys, PySem.PyData.strOk z = true) : PySem.PyData.strOk (Txt.join a ys) = true := by
  rw [TL.join_eq]
  induction ys with
  | nil => exact (show PySem.PyData.strOk Str.empty = true by decide +kernel)
  | cons x r ih =>
    cases r with
    | nil => exact h x (by simp)
    | cons z r =>
      show PySem.PyData.strOk (x ++ a ++ Str.join a (z :: r)) = true
      exact ok_app (ok_app (h x (by simp)) ha) (ih fun w hw => h w (List.mem_cons_of_mem _ hw))
def joinS (a : Str) : D → Option D
  | .lst l => match strsOf l with
    | some ys => if (ys.map (·.length)).sum + ys.length * a.length ≤ 16777216 then some (.str (Txt.join a ys)) else none
    | none => none
  | .tup l => match strsOf l with
    | some ys => if (ys.map (·.length)).sum + ys.length * a.length ≤ 16777216 then some (.str (Txt.join a ys)) else none
    | none => none
  | _ => none
def fStrM (g : Str → D → Option D) (fa fb : F D) : F D := fun δ η => (fa δ η).bind fun d η => match d with
  | .str z => (fb δ η).bind fun e η => lift (g z e) η
  | _ => .bad
theorem fe_join {apos : Pos} (hK : X.K = C.K) (ha : FE C W X a fa) (hb : FU C W X b fb) (hs : starEach [b] X.env = [(false, eval b X.env)] := by rfl) (hbase : attributeBase a "join" X.env (eval a X.env) = eval a X.env := by rfl) (hline : (apos.endLine == pos.line) = true := by rfl) :
    FE C W X (.Call (.Attribute a "join" apos) [b] [] pos) (fStrM joinS fa fb) := by
  refine PE.imp (pe_join ha hb hs hbase hline) fun σ H Q ⟨G, δ, η, at0, fin⟩ => ?_
  refine tG.bind (Rel2 := Rp C) at0 fin fun d v G1 H1 η1 a1 x1 r1 fin1 => ?_
  split at fin1
  · rename_i z
    cases r1 with
    | str z okz =>
    refine ⟨⟨z, rfl⟩, ?_⟩
    refine tG.bind (Rel2 := Rp C) a1 fin1 fun e w G2 H2 η2 a2 x2 r2 fin2 => ?_
    have q := fin2.gives a2.he
    unfold joinS at q
    split at q
    · obtain ⟨p, vs, rfl, hq, hrs⟩ := r2.lst
      rw [← hK] at hq
      split at q
      · rename_i ys hy
        split at q
        · rename_i hz
          rw [strsOf_r hrs hy] at hq
          exact ⟨_, p, ys, rfl, rfl, .inl hq, hz, q.same a2.he (.str _ (ok_join okz (strsOf_ok hrs hy)))⟩
        · exact q.elim
      · exact q.elim
    · obtain ⟨p, vs, rfl, hq, hrs⟩ := r2.tup
      rw [← hK] at hq
      split at q
      · rename_i ys hy
        split at q
        · rename_i hz
          rw [strsOf_r hrs hy] at hq
          exact ⟨_, p, ys, rfl, rfl, .inr hq, hz, q.same a2.he (.str _ (ok_join okz (strsOf_ok hrs hy)))⟩
        · exact q.elim
      · exact q.elim
    · exact q.elim
  · exact fin1.elim
end
end DL
namespace DL
open PySem L2
abbrev WX := Value → Option Addr → St → Hp → Prop

/-! ### what a statement does -/
inductive SR where
  | nx (δ : En) (η : List O)
  | rt (d : D) (η : List O)
  | bk (δ : En) (η : List O)
  | ct (δ : En) (η : List O)
  | exc (c : Nat) (ns : List Str) (l : List D) (δ : En) (η : List O)
  | bad
abbrev S := En → List O → SR
def SR.seq (r : SR) (k : S) : SR := match r with
  | .nx δ η => k δ η
  | r => r
def R.toS {α : Type} (r : R α) (δ : En) (k : α → List O → SR) : SR := match r with
  | .ok a η => k a η
  | .exc c ns l η => .exc c ns l δ η
  | .bad => .bad
@[simp] theorem toS_ok {α : Type} {a : α} {δ : En} {η : List O} {k : α → List O → SR} : (R.ok a η).toS δ k = k a η := rfl
@[simp] theorem toS_exc {α : Type} {c : Nat} {ns : List Str} {l : List D} {δ : En} {η : List O} {k : α → List O → SR} : (R.exc c ns l η : R α).toS δ k = .exc c ns l δ η := rfl
@[simp] theorem seq_nx {δ : En} {η : List O} {k : S} : (SR.nx δ η).seq k = k δ η := rfl
@[simp] theorem seq_rt {d : D} {η : List O} {k : S} : (SR.rt d η).seq k = .rt d η := rfl
@[simp] theorem seq_bk {δ : En} {η : List O} {k : S} : (SR.bk δ η).seq k = .bk δ η := rfl
@[simp] theorem seq_ct {δ : En} {η : List O} {k : S} : (SR.ct δ η).seq k = .ct δ η := rfl
@[simp] theorem seq_exc {c : Nat} {ns : List Str} {l : List D} {δ : En} {η : List O} {k : S} : (SR.exc c ns l δ η).seq k = .exc c ns l δ η := rfl
def Own (Hb : Hp) (δ : En) (σ : St) : Prop := ∀ (i : Nat) (l : L) (a : Addr), δ[i]? = some (some l) → l.owns = true → σ[i]? = some (some (V.ref a)) → Hb a = none
/-- the base: the def's entry; the stable base: a loop's start -/
structure Bs where
  G : Gh
  H : Hp
  Gs : Gh
  Hs : Hp
structure Hold (C : Ct) (B : Bs) (G : Gh) (H : Hp) (δ : En) (σ : St) (η : List O) : Prop where
  a : At C G H δ σ η
  o : Own B.H δ σ
  n : Nx B.G B.H G H
  s : Stab B.Gs B.Hs G H
def FinS (C : Ct) (W : WX) (B : Bs) (r : SR) (Dn : Ends) : Prop := match r with
  | .nx δ η => ∀ G H σ, Hold C B G H δ σ η → Dn.nx σ H
  | .bk δ η => ∀ G H σ, Hold C B G H δ σ η → Dn.bk σ H
  | .ct δ η => ∀ G H σ, Hold C B G H δ σ η → Dn.ct σ H
  | .rt d η => ∀ v G H, Nx B.G B.H G H → Rh C G H η → Rp C G H d v → Dn.rt v H
  | .exc c ns l δ η => ∀ x vs G H σ, Hold C B G H δ σ η → Xd G H x (ns.zip vs) → Rps C G H l vs → W (.ref (C.cl c)) (some x) σ H
  | .bad => False
def tS (C : Ct) (W : WX) (f : S) : TS := fun Dn σ H => ∃ B G δ η, Hold C B G H δ σ η ∧ FinS C W B (f δ η) Dn
abbrev FS (C : Ct) (W : WX) (X : Cx) (st : Stmt) (f : S) : Prop := PS X st (tS C W f)
abbrev FSs (C : Ct) (W : WX) (X : Cx) (st : List Stmt) (f : S) : Prop := PSs X st (tS C W f)

section
variable {C : Ct} {W : WX} {B : Bs} {G G' G1 : Gh} {H H' H1 : Hp} {δ : En} {σ : St} {η η' : List O}
theorem Stab.refl : Stab G H G H := ⟨fun _ _ h => h, fun _ _ h m => ⟨h, m⟩⟩
theorem Stab.trans (x : Stab G H G' H') (y : Stab G' H' G1 H1) : Stab G H G1 H1 := ⟨fun n a h => y.ads n a (x.ads n a h), fun a o h m => y.keep a o (x.keep a o h m).1 (x.keep a o h m).2⟩
theorem Hold.next (h : Hold C B G H δ σ η) (x : Nx G H G' H') (r : Rh C G' H' η') : Hold C B G' H' δ σ η' := ⟨h.a.next x r, h.o, h.n.trans x, h.s.trans (x.stab h.a.he)⟩
theorem tG.bindS {α β : Type} {Rel : Gh → Hp → α → β → Prop} {Q : β → Hp → Prop} {f : F α} {k : α → List O → SR} {Dn : Ends} (hd : Hold C B G H δ σ η) (fin : FinS C W B ((f δ η).toS δ k) Dn)
    (h : ∀ x v G1 H1 η1, Hold C B G1 H1 δ σ η1 → Nx G H G1 H1 → Rel G1 H1 x v → FinS C W B (k x η1) Dn → Q v H1) : tG C Rel W f σ H Q := by
  refine ⟨G, δ, η, hd.a, ?_⟩
  cases hf : f δ η with
  | ok d η1 =>
    rw [hf] at fin
    exact fun v G1 H1 x q1 q2 => h d v G1 H1 η1 (hd.next x q1) x q2 fin
  | exc c ns l η1 =>
    rw [hf] at fin
    exact fun b vs G1 H1 x q1 q2 q3 => fin b vs G1 H1 σ (hd.next x q1) q2 q3
  | bad =>
    rw [hf] at fin
    exact fin

/-! ### slots stored -/
theorem getSet {α : Type} {l : List α} {i j : Nat} {x y : α} (h : (l.set i x)[j]? = some y) : (j = i ∧ y = x) ∨ (j ≠ i ∧ l[j]? = some y) := by
  by_cases e : i = j
  · subst e
    left
    rw [List.getElem?_set_self'] at h
    cases q : l[i]? with
    | none => rw [q] at h; cases h
    | some z => rw [q] at h; exact ⟨rfl, (Option.some.inj h).symm⟩
  · right
    rw [List.getElem?_set_ne e] at h
    exact ⟨fun z => e z.symm, h⟩
theorem At.setVal {i : Nat} {d : D} {v : V} (a : At C G H δ σ η) (r : Rp C G H d v) : At C G H (δ.set i (some (.val d))) (σ.set i (some v)) η := by
  refine ⟨by simp [a.len], fun j l h => ?_, fun j k l l' v' hne h1 h2 o1 o2 s1 s2 => ?_, fun j l b h o s => ?_, a.he⟩
  · rcases getSet h with ⟨rfl, z⟩ | ⟨hj, h⟩
    · cases z
      have hlt : j < σ.length := by
        have := (List.getElem?_eq_some_iff.mp ‹_›).1
        rw [List.length_set] at this
        rw [← a.len]; exact this
      exact ⟨v, by rw [List.getElem?_set_self hlt], .val r⟩
    · obtain ⟨w, h1, h2⟩ := a.sl j l h
      exact ⟨w, by rw [List.getElem?_set_ne (Ne.symm hj)]; exact h1, h2⟩
  · rcases getSet h1 with ⟨_, h1⟩ | ⟨e1, h1⟩
    · cases h1; cases o1
    · rcases getSet h2 with ⟨_, h2⟩ | ⟨e2, h2⟩
      · cases h2; cases o2
      · rw [List.getElem?_set_ne (Ne.symm e1)] at s1
        rw [List.getElem?_set_ne (Ne.symm e2)] at s2
        exact a.un j k l l' v' hne h1 h2 o1 o2 s1 s2
  · rcases getSet h with ⟨_, h⟩ | ⟨e, h⟩
    · cases h; cases o
    · rw [List.getElem?_set_ne (Ne.symm e)] at s
      exact a.nad j l b h o s
theorem Own.setVal {Hb : Hp} {i : Nat} {d : D} {v : V} (o : Own Hb δ σ) : Own Hb (δ.set i (some (.val d))) (σ.set i (some v)) := fun j l b h ow s => by
  rcases getSet h with ⟨_, h⟩ | ⟨e, h⟩
  · cases h; cases ow
  · rw [List.getElem?_set_ne (Ne.symm e)] at s
    exact o j l b h ow s
theorem Hold.setVal {i : Nat} {d : D} {v : V} (h : Hold C B G H δ σ η) (r : Rp C G H d v) : Hold C B G H (δ.set i (some (.val d))) (σ.set i (some v)) η := ⟨h.a.setVal r, h.o.setVal, h.n, h.s⟩

/-- a mutable address more -/
def Gh.add (G : Gh) (p : Addr) : Gh := ⟨G.ads, fun a => G.M a ∨ a = p⟩
theorem Stab.add {p : Addr} {o : HO} (hp : H p = none) : Stab G H (G.add p) (upd H p o) := ⟨fun _ _ h => h, fun a u h m => ⟨by rw [upd_ne (ne_of_none h hp)]; exact h, fun z => z.elim m fun e => by subst e; rw [hp] at h; cases h⟩⟩
theorem Nx.add {p : Addr} {o : HO} (hp : H p = none) : Nx G H (G.add p) (upd H p o) := by
  refine ⟨fun _ _ h => h, fun a u h _ => by rw [upd_ne (ne_of_none h hp)]; exact h, fun a u h => ⟨fun z => z.elim (fun z => z) fun e => ?_, .inl⟩, fun _ h => .inl h, fun a h => ?_⟩
  · subst e; rw [hp] at h; cases h
  · by_cases e : a = p
    · subst e; exact hp
    · rw [upd_ne e] at h; exact h
theorem Rh.add {p : Addr} {o : HO} (r : Rh C G H η) (hp : H p = none) : Rh C (G.add p) (upd H p o) η := by
  refine ⟨r.len, r.nd, fun n o' a h1 h2 => ?_, fun a m => ?_⟩
  · obtain ⟨m, q⟩ := r.ob n o' a h1 h2
    refine ⟨.inl m, q.stab (Stab.add hp) fun u hu => ?_⟩
    rw [upd_ne (ne_of_none hu hp)]; exact hu
  · rcases m with m | rfl
    · exact fun z => r.mh a m ((Nx.add (G := G) (o := o) hp).there a z)
    · rw [upd_same]; exact fun z => by cases z
/-- a slot takes a new list as its own -/
theorem Hold.setOwn {i : Nat} {p : Addr} {l : List D} {vs : List V} (h : Hold C B G H δ σ η) (hp : H p = none) (hz : l.length ≤ sizeLine) (r : Rps C G H l vs) :
    Hold C B (G.add p) (upd H p (.lst vs)) (δ.set i (some (.own l))) (σ.set i (some (.ref p))) η := by
  have st : Stab G H (G.add p) (upd H p (.lst vs)) := Stab.add hp
  have a2 : At C (G.add p) (upd H p (.lst vs)) δ σ η := h.a.next (Nx.add hp) (h.a.he.add hp)
  have np : ∀ (j : Nat) (l : L), δ[j]? = some (some l) → l.owns = true → σ[j]? = some (some (V.ref p)) → False := fun j l h1 h2 h3 => by
    obtain ⟨v, e1, e2⟩ := h.a.sl j l h1
    rw [h3] at e1
    cases e1
    cases e2 with
    | val _ => cases h2
    | own m e z r => rw [hp] at e; cases e
    | oins m e n r => rw [hp] at e; cases e
  have npa : p ∉ G.ads := fun hm => h.a.he.mh p (h.a.he.adsM hm) hp
  refine ⟨⟨by simp [h.a.len], fun j l' hl => ?_, fun j k l' l'' v' hne h1 h2 o1 o2 s1 s2 => ?_, fun j l' b hl o s => ?_, a2.he⟩, fun j l' b hl o s => ?_, h.n.trans (Nx.add hp), h.s.trans st⟩
  · rcases getSet hl with ⟨rfl, z⟩ | ⟨hj, hl⟩
    · cases z
      have hlt : j < σ.length := by
        have := (List.getElem?_eq_some_iff.mp ‹_›).1
        rw [List.length_set] at this
        rw [← h.a.len]; exact this
      exact ⟨_, by rw [List.getElem?_set_self hlt], .own (.inr rfl) upd_same hz (r.stab st)⟩
    · obtain ⟨w, h1, h2⟩ := a2.sl j l' hl
      exact ⟨w, by rw [List.getElem?_set_ne (Ne.symm hj)]; exact h1, h2⟩
  · rcases getSet h1 with ⟨q1, y1⟩ | ⟨e1, y1⟩
    · rcases getSet h2 with ⟨q2, y2⟩ | ⟨e2, y2⟩
      · exact hne (q1.trans q2.symm)
      · subst q1
        rcases getSet s1 with ⟨_, w1⟩ | ⟨z, _⟩
        · cases w1
          rw [List.getElem?_set_ne (Ne.symm e2)] at s2
          exact np k l'' y2 o2 s2
        · exact z rfl
    · rw [List.getElem?_set_ne (Ne.symm e1)] at s1
      rcases getSet h2 with ⟨q2, y2⟩ | ⟨e2, y2⟩
      · subst q2
        rcases getSet s2 with ⟨_, w2⟩ | ⟨z, _⟩
        · cases w2
          exact np j l' y1 o1 s1
        · exact z rfl
      · rw [List.getElem?_set_ne (Ne.symm e2)] at s2
        exact h.a.un j k l' l'' v' hne y1 y2 o1 o2 s1 s2
  · rcases getSet hl with ⟨q1, hl⟩ | ⟨e1, hl⟩
    · subst q1
      rcases getSet s with ⟨_, s⟩ | ⟨z, _⟩
      · cases s; exact npa
      · exact absurd rfl z
    · rw [List.getElem?_set_ne (Ne.symm e1)] at s
      exact h.a.nad j l' b hl o s
  · rcases getSet hl with ⟨q1, hl⟩ | ⟨e1, hl⟩
    · subst q1
      rcases getSet s with ⟨_, s⟩ | ⟨z, _⟩
      · cases s; exact h.n.there p hp
      · exact absurd rfl z
    · rw [List.getElem?_set_ne (Ne.symm e1)] at s
      exact h.o j l' b hl o s
/-- a frame's own list is changed -/
theorem Hold.chOwn {i : Nat} {p : Addr} {l l' : List D} {vs vs' : List V} (h : Hold C B G H δ σ η) (hi : δ[i]? = some (some (.own l))) (hs : σ[i]? = some (some (.ref p))) (hm : G.M p) (he : H p = some (.lst vs)) (hz : l'.length ≤ sizeLine) (r : Rps C G H l' vs') :
    Hold C B G (upd H p (.lst vs')) (δ.set i (some (.own l'))) σ η := by
  have st : Stab G H G (upd H p (.lst vs')) := ⟨fun _ _ h => h, fun a o ha m => ⟨by rw [upd_ne (fun e => m (by rw [e]; exact hm))]; exact ha, m⟩⟩
  have npa : p ∉ G.ads := h.a.nad i _ p hi rfl hs
  have keep : ∀ a o, a ≠ p → H a = some o → upd H p (.lst vs') a = some o := fun a o e z => by rw [upd_ne e]; exact z
  have he2 : Rh C G (upd H p (.lst vs')) η := by
    refine ⟨h.a.he.len, h.a.he.nd, fun n o a h1 h2 => ?_, fun a m => ?_⟩
    · obtain ⟨m, q⟩ := h.a.he.ob n o a h1 h2
      exact ⟨m, q.stab st fun u hu => keep a u (fun e => npa (by rw [← e]; exact List.mem_of_getElem? h2)) hu⟩
    · by_cases e : a = p
      · subst e; rw [upd_same]; exact fun z => by cases z
      · rw [upd_ne e]; exact h.a.he.mh a m
  have hii : i < δ.length := (List.getElem?_eq_some_iff.mp hi).1
  have old : ∀ {j : Nat} {k : L}, (δ.set i (some (.own l')))[j]? = some (some k) → k.owns = true → ∃ k', δ[j]? = some (some k') ∧ k'.owns = true := fun {j k} hk ho => by
    rcases getSet hk with ⟨rfl, _⟩ | ⟨_, hk⟩
    · exact ⟨_, hi, rfl⟩
    · exact ⟨_, hk, ho⟩
  refine ⟨⟨by rw [List.length_set]; exact h.a.len, fun j k hk => ?_, fun j k l1 l2 v' hne h1 h2 o1 o2 s1 s2 => ?_, fun j k b hk o s => ?_, he2⟩, fun j k b hk o s => ?_, ?_, h.s.trans st⟩
  · rcases getSet hk with ⟨rfl, z⟩ | ⟨hj, hk⟩
    · cases z
      exact ⟨_, hs, .own hm upd_same hz (r.stab st)⟩
    · obtain ⟨w, h1, h2⟩ := h.a.sl j k hk
      refine ⟨w, h1, ?_⟩
      cases h2 with
      | val r => exact .val (r.stab st)
      | own m e zz r =>
        have q : _ ≠ p := fun z => h.a.un j i _ _ _ hj hk hi rfl rfl h1 (by rw [hs, ← z])
        exact .own m (keep _ _ q e) zz (r.stab st)
      | oins m e n r =>
        have q : _ ≠ p := fun z => h.a.un j i _ _ _ hj hk hi rfl rfl h1 (by rw [hs, ← z])
        exact .oins m (keep _ _ q e) n (r.stab st)
  · obtain ⟨k1, q1, p1⟩ := old h1 o1
    obtain ⟨k2, q2, p2⟩ := old h2 o2
    exact h.a.un j k k1 k2 v' hne q1 q2 p1 p2 s1 s2
  · obtain ⟨k1, q1, p1⟩ := old hk o
    exact h.a.nad j k1 b q1 p1 s
  · obtain ⟨k1, q1, p1⟩ := old hk o
    exact h.o j k1 b q1 p1 s
  · have hb : B.H p = none := h.o i _ p hi rfl hs
    refine ⟨h.n.ads, fun a o ha m => ?_, h.n.mu, h.n.new, fun a z => ?_⟩
    · exact keep a o (fun e => by rw [e, hb] at ha; cases ha) (h.n.keep a o ha m)
    · by_cases e : a = p
      · rw [e]; exact hb
      · rw [upd_ne e] at z; exact h.n.there a z
theorem ndIx {α : Type} {N : List α} (hN : N.Nodup) {i j : Nat} {x : α} (a : N[i]? = some x) (b : N[j]? = some x) : i = j := by
  obtain ⟨h1, e1⟩ := List.getElem?_eq_some_iff.mp a
  obtain ⟨h2, e2⟩ := List.getElem?_eq_some_iff.mp b
  exact (List.getElem_inj hN).mp (e1.trans e2.symm)
/-- an object of the store is changed -/
theorem Nx.chObj {n : Nat} {p : Addr} {o : HO} (hn : G.ads[n]? = some p) (hp : H p ≠ none) : Nx G H G (upd H p o) := by
  have hm : p ∈ G.ads := List.mem_of_getElem? hn
  refine ⟨fun _ _ h => h, fun a u h m => ?_, fun _ _ _ => Iff.rfl, fun _ h => .inl h, fun a h => ?_⟩
  · rw [upd_ne (fun e => m (by rw [e]; exact hm))]; exact h
  · by_cases e : a = p
    · subst e; rw [upd_same] at h; cases h
    · rw [upd_ne e] at h; exact h
theorem Rh.chObj {n : Nat} {p : Addr} {o : HO} {o' : O} (r : Rh C G H η) (hn : G.ads[n]? = some p) (q : Ro C G (upd H p o) o' p) : Rh C G (upd H p o) (η.set n o') := by
  have hm : G.M p := r.adsM (List.mem_of_getElem? hn)
  have st : Stab G H G (upd H p o) := ⟨fun _ _ h => h, fun a u ha m => ⟨by rw [upd_ne (fun e => m (by rw [e]; exact hm))]; exact ha, m⟩⟩
  refine ⟨by rw [List.length_set]; exact r.len, r.nd, fun k u a h1 h2 => ?_, fun a m => ?_⟩
  · rcases getSet h1 with ⟨rfl, rfl⟩ | ⟨hk, h1⟩
    · rw [hn] at h2; cases h2; exact ⟨hm, q⟩
    · obtain ⟨m, z⟩ := r.ob k u a h1 h2
      refine ⟨m, z.stab st fun w hw => ?_⟩
      rw [upd_ne]; exact hw
      intro e
      subst e
      exact hk (ndIx r.nd h2 hn)
  · by_cases e : a = p
    · subst e; rw [upd_same]; exact fun z => by cases z
    · rw [upd_ne e]; exact r.mh a m
end

/-! ### statements -/
section
variable {X : Cx} {C : Ct} {W : WX} {pos : Pos} {st : Stmt} {rest : List Stmt} {f g : S} {e : Expr} {fe : F D}
theorem fss_nil : FSs C W X [] .nx := PSs.imp pss_nil fun Dn σ H ⟨B, G, δ, η, h, fin⟩ => fin G H σ h
def sSeq (f g : S) : S := fun δ η => (f δ η).seq g
theorem fss_cons (h1 : FS C W X st f) (h2 : FSs C W X rest g) : FSs C W X (st :: rest) (sSeq f g) := by
  refine PSs.imp (pss_cons h1 h2) fun Dn σ H ⟨B, G, δ, η, h, fin⟩ => ⟨B, G, δ, η, h, ?_⟩
  unfold sSeq at fin
  cases hf : f δ η with
  | nx δ' η' => rw [hf] at fin; exact fun G' H' σ' h' => ⟨B, G', δ', η', h', fin⟩
  | rt d η' => rw [hf] at fin; exact fin
  | bk δ' η' => rw [hf] at fin; exact fin
  | ct δ' η' => rw [hf] at fin; exact fin
  | exc c ns l δ' η' => rw [hf] at fin; exact fin
  | bad => rw [hf] at fin; exact fin
theorem fss_one (h1 : FS C W X st f) : FSs C W X [st] f := pss_one h1
def sRet (f : F D) : S := fun δ η => (f δ η).toS δ fun d η => .rt d η
theorem fs_ret (he : FE C W X e fe) : FS C W X (.Return (some e) pos) (sRet fe) := PS.imp (ps_ret he) fun Dn σ H ⟨B, G, δ, η, h, fin⟩ =>
  tG.bindS h fin fun d v G1 H1 η1 h1 x1 r1 fin1 => fin1 v G1 H1 h1.n h1.a.he r1
def sRetN : S := fun _ η => .rt .non η
/-- a list of the frame's own is handed back: it will not change any more -/
def sRetO (i : Nat) : S := fun δ η => match δ[i]? with
  | some (some (.own l)) => .rt (.lst l) η
  | _ => .bad
def Gh.sub (G : Gh) (p : Addr) : Gh := ⟨G.ads, fun a => G.M a ∧ a ≠ p⟩
theorem Stab.sub {G : Gh} {H : Hp} {p : Addr} : Stab G H (G.sub p) H := ⟨fun _ _ h => h, fun _ _ h m => ⟨h, fun z => m z.1⟩⟩
def sIf (c : F Bool) (f g : S) : S := fun δ η => (c δ η).toS δ fun b η => if b = true then f δ η else g δ η
theorem fs_if {c : Expr} {a b : List Stmt} {tc : F Bool} (hc : FT C W X c tc) (ha : FSs C W X a f) (hb : FSs C W X b g) : FS C W X (.If c a b pos) (sIf tc f g) :=
  PS.imp (ps_if hc ha hb) fun Dn σ H ⟨B, G, δ, η, h, fin⟩ => tG.bindS h fin fun d v G1 H1 η1 h1 x1 r1 fin1 => by
    have r1 : d = v := r1
    subst r1
    cases d with
    | true => rw [if_pos rfl] at fin1 ⊢; exact ⟨B, G1, δ, η1, h1, fin1⟩
    | false => rw [if_neg Bool.false_ne_true] at fin1 ⊢; exact ⟨B, G1, δ, η1, h1, fin1⟩
def sDrop (f : F D) : S := fun δ η => (f δ η).toS δ fun _ η => .nx δ η
/-! ### targets -/
inductive Tg where
  | nm (i : Nat) | tp (l : List Tg)
mutual
def gV (K : PySem.W.Frag) : Tg → TG
  | .nm i => gName i
  | .tp l => gTup K l.length (gVs K l)
def gVs (K : PySem.W.Frag) : List Tg → TGs
  | [] => gNil
  | t :: l => gCons (gV K t) (gVs K l)
end
mutual
def asg : Tg → D → En → Option En
  | .nm i, d, δ => some (δ.set i (some (.val d)))
  | .tp ts, .tup l, δ => asgs ts l δ
  | .tp _, _, _ => none
def asgs : List Tg → List D → En → Option En
  | [], [], δ => some δ
  | t :: ts, d :: l, δ => (asg t d δ).bind fun δ' => asgs ts l δ'
  | _, _, _ => none
end
mutual
def Tg.sl : Tg → List Nat
  | .nm i => [i]
  | .tp l => Tg.sls l
def Tg.sls : List Tg → List Nat
  | [] => []
  | t :: l => t.sl ++ Tg.sls l
end
theorem asgs_len : ∀ {ts : List Tg} {l : List D} {δ δ' : En}, asgs ts l δ = some δ' → l.length = ts.length
  | [], [], _, _, _ => rfl
  | [], _ :: _, _, _, h => by simp [asgs] at h
  | _ :: _, [], _, _, h => by simp [asgs] at h
  | t :: ts, d :: l, δ, δ', h => by
    rw [asgs] at h
    cases q : asg t d δ with
    | none => rw [q] at h; cases h
    | some δ1 =>
      rw [q] at h
      rw [List.length_cons, List.length_cons, asgs_len (ts := ts) h]
/-- the slots that a target does not name are as before -/
def Same' (vs : List Nat) (σ σ' : St) : Prop := σ'.length = σ.length ∧ ∀ i, i ∉ vs → σ'[i]? = σ[i]?
theorem Same'.refl {vs : List Nat} {σ : St} : Same' vs σ σ := ⟨rfl, fun _ _ => rfl⟩
theorem Same'.trans {vs : List Nat} {σ σ1 σ2 : St} (a : Same' vs σ σ1) (b : Same' vs σ1 σ2) : Same' vs σ σ2 := ⟨b.1.trans a.1, fun i h => (b.2 i h).trans (a.2 i h)⟩
theorem Same'.mono {vs ws : List Nat} {σ σ' : St} (a : Same' vs σ σ') (h : ∀ i ∈ vs, i ∈ ws) : Same' ws σ σ' := ⟨a.1, fun i z => a.2 i fun q => z (h i q)⟩
mutual
theorem gV_ok (hK : X.K = C.K) : ∀ (t : Tg) (d : D) (v : V) (G : Gh) (H : Hp) (δ δ' : En) (σ : St) (η : List O) (Q : St → Hp → Prop), asg t d δ = some δ' → Rp C G H d v →
    (∀ σ', (∀ B, Hold C B G H δ σ η → Hold C B G H δ' σ' η) → (At C G H δ σ η → At C G H δ' σ' η) → Same' t.sl σ σ' → Q σ' H) → gV X.K t v σ H Q
  | .nm i, d, v, G, H, δ, δ', σ, η, Q, h, r, q => by
    rw [asg] at h
    cases h
    rw [gV]
    exact q _ (fun B h => h.setVal r) (fun h => h.setVal r) ⟨by simp, fun j hj => List.getElem?_set_ne (by simpa [Tg.sl, eq_comm] using hj)⟩
  | .tp ts, d, v, G, H, δ, δ', σ, η, Q, h, r, q => by
    cases d with
    | tup l =>
      rw [asg] at h
      obtain ⟨a, vs, rfl, hs, hr⟩ := (Rp.b r).u.tup
      rw [← hK] at hs
      rw [gV]
      refine ⟨a, vs, rfl, hs, by rw [← hr.length]; exact asgs_len h, ?_⟩
      exact gVs_ok hK ts l vs G H δ δ' σ η Q h hr fun σ' h1 h2 h3 => q σ' h1 h2 (by rw [Tg.sl]; exact h3)
    | _ => simp [asg] at h
theorem gVs_ok (hK : X.K = C.K) : ∀ (ts : List Tg) (l : List D) (vs : List V) (G : Gh) (H : Hp) (δ δ' : En) (σ : St) (η : List O) (Q : St → Hp → Prop), asgs ts l δ = some δ' → Rps C G H l vs →
    (∀ σ', (∀ B, Hold C B G H δ σ η → Hold C B G H δ' σ' η) → (At C G H δ σ η → At C G H δ' σ' η) → Same' (Tg.sls ts) σ σ' → Q σ' H) → gVs X.K ts vs σ H Q
  | [], l, vs, G, H, δ, δ', σ, η, Q, h, r, q => by
    cases l with
    | nil =>
      rw [asgs] at h
      cases h
      cases r
      rw [gVs]
      exact ⟨rfl, q _ (fun _ h => h) (fun h => h) .refl⟩
    | cons _ _ => simp [asgs] at h
  | t :: ts, l, vs, G, H, δ, δ', σ, η, Q, h, r, q => by
    cases l with
    | nil => simp [asgs] at h
    | cons d l =>
      rw [asgs] at h
      cases q1 : asg t d δ with
      | none => rw [q1] at h; cases h
      | some δ1 =>
        rw [q1] at h
        cases r with
        | @cons _ v _ vs r rr =>
          rw [gVs]
          refine ⟨v, vs, rfl, ?_⟩
          refine gV_ok hK t d v G H δ δ1 σ η _ q1 r fun σ1 a1 b1 c1 => ?_
          refine gVs_ok hK ts l vs G H δ1 δ' σ1 η _ h rr fun σ2 a2 b2 c2 => ?_
          refine q σ2 (fun B z => a2 B (a1 B z)) (fun z => b2 (b1 z)) ?_
          rw [Tg.sls]
          exact (c1.mono fun i z => List.mem_append_left _ z).trans (c2.mono fun i z => List.mem_append_right _ z)
end
abbrev FG (X : Cx) (e : Expr) (t : Tg) : Prop := PG X e (gV X.K t)
abbrev FGs (X : Cx) (es : List Expr) (t : List Tg) : Prop := PGs X es (gVs X.K t)
theorem fg_nm {i : Nat} {x : Str} (hN : X.N.Nodup) (hi : X.N[i]? = some x := by rfl) (hx : Loc X.env.scope x := by first | exact Or.inl rfl | exact Or.inr rfl) (hf : X.fn x = true ∨ X.env.scope.names.lookup x = some .local := by first | exact .inl rfl | exact .inr rfl | assumption) : FG X (.Name x pos) (.nm i) := by
  show PG X _ (gV X.K (.nm i))
  rw [gV]
  exact pg_name hN hi hx hf
theorem fgs_nil : FGs X [] [] := by
  show PGs X _ (gVs X.K [])
  rw [gVs]
  exact pgs_nil
theorem fgs_cons {e : Expr} {es : List Expr} {t : Tg} {ts : List Tg} (h1 : FG X e t) (h2 : FGs X es ts) (hs : (assignEach (e :: es) X.env).map (·.2) = assign e X.env :: (assignEach es X.env).map (·.2) := by rfl) : FGs X (e :: es) (t :: ts) := by
  show PGs X _ (gVs X.K (t :: ts))
  rw [gVs]
  exact pgs_cons h1 h2 hs
theorem fg_tp {es : List Expr} {k : Nat} {ts : List Tg} (hc : X.calm = true) (h : FGs X es ts) (hn : (assignEach es X.env).length = ts.length := by rfl) (hst : (assignEach es X.env).findIdx? (·.1) = none := by rfl) : FG X (.Tuple es k pos) (.tp ts) := by
  show PG X _ (gV X.K (.tp ts))
  rw [gV]
  exact pg_tup hc h hn hst
/-- target = e -/
def sAsg (f : F D) (t : Tg) : S := fun δ η => (f δ η).toS δ fun d η => match asg t d δ with
  | some δ' => .nx δ' η
  | none => .bad
end
end DL
/-! enumerate(a tuple) -/
namespace EnT
open PySem PySem.Spec
section
variable {prog : Program} {w : World} {A : Around} {E : Value → Shared → Prop} {s : Shared}
end
end EnT
namespace EnT
open PySem PySem.Spec PyProof.Rows L2
end EnT
namespace DL
open PySem L2

/-! ### lists just made -/
def FinN (C : Ct) (E : XK) (G : Gh) (H : Hp) (r : R (List D)) (Q : VK) : Prop := match r with
  | .ok l η' => ∀ p vs G' H', Nx G H G' H' → Rh C G' H' η' → Rps C G' H' l vs → l.length ≤ sizeLine → H' p = none → Q (.ref p) (upd H' p (.lst vs))
  | .exc c ns l η' => ∀ x vs G' H', Nx G H G' H' → Rh C G' H' η' → Xd G' H' x (ns.zip vs) → Rps C G' H' l vs → E (.ref (C.cl c)) (some x) H'
  | .bad => False
def tN (C : Ct) (W : WX) (f : F (List D)) : TE := fun σ H Q => ∃ G δ η, At C G H δ σ η ∧ FinN C (fun c d H' => W c d σ H') G H (f δ η) Q
abbrev FN (C : Ct) (W : WX) (X : Cx) (e : Expr) (f : F (List D)) : Prop := PE X e (tN C W f)
section
variable {X : Cx} {C : Ct} {W : WX} {pos p2 : Pos} {e a b : Expr} {es : List Expr} {fe fa fb : F D} {fs fn : F (List D)}
theorem FinN.of {E : XK} {G G1 : Gh} {H H1 : Hp} {η1 : List O} {l : List D} {vs : List V} {Q : VK} (x : Nx G H G1 H1) (h : FinN C E G H (.ok l η1) Q) (r : Rh C G1 H1 η1) (q : Rps C G1 H1 l vs) (hz : l.length ≤ sizeLine) {p : Addr} (hp : H1 p = none) : Q (.ref p) (upd H1 p (.lst vs)) := h p vs G1 H1 x r q hz hp
theorem tN.bind {α β : Type} {Rel : Gh → Hp → α → β → Prop} {G : Gh} {H : Hp} {δ : En} {σ : St} {η : List O} {f : F α} {k : α → List O → R (List D)} {Q : β → Hp → Prop} {Q2 : VK} (a : At C G H δ σ η) (fin : FinN C (fun c d H' => W c d σ H') G H ((f δ η).bind k) Q2)
    (h : ∀ x v G1 H1 η1, At C G1 H1 δ σ η1 → Nx G H G1 H1 → Rel G1 H1 x v → FinN C (fun c d H' => W c d σ H') G1 H1 (k x η1) Q2 → Q v H1) : tG C Rel W f σ H Q := by
  refine ⟨G, δ, η, a, ?_⟩
  cases hf : f δ η with
  | ok d η1 =>
    rw [hf] at fin
    refine fun v G1 H1 x q1 q2 => h d v G1 H1 η1 (a.next x q1) x q2 ?_
    have fin : FinN C (fun c d H' => W c d σ H') G H (k d η1) Q2 := fin
    cases hk : k d η1 with
    | ok l η2 => rw [hk] at fin; exact fun p vs G2 H2 y z1 z2 z4 z3 => fin p vs G2 H2 (x.trans y) z1 z2 z4 z3
    | exc c ns l η2 => rw [hk] at fin; exact fun b vs G2 H2 y z1 z2 z3 => fin b vs G2 H2 (x.trans y) z1 z2 z3
    | bad => rw [hk] at fin; exact fin
  | exc c ns l η1 =>
    rw [hf] at fin
    exact fun b vs G1 H1 x q1 q2 q3 => fin b vs G1 H1 x q1 q2 q3
  | bad => rw [hf] at fin; exact fin
/-- as a value that will not change -/
def fFrz (f : F (List D)) : F D := fun δ η => (f δ η).bind fun l η => .ok (.lst l) η
theorem fe_n (h : FN C W X e fn) : FE C W X e (fFrz fn) := PE.imp h fun σ H Q ⟨G, δ, η, a, fin⟩ => by
  refine ⟨G, δ, η, a, ?_⟩
  unfold fFrz at fin
  cases hf : fn δ η with
  | ok l η1 =>
    rw [hf] at fin
    exact fun p vs G1 H1 x r q hz hp => fin _ G1 _ (x.trans (Nx.alloc hp)) (r.alloc hp) (.newLst r hp hz q)
  | exc c ns l η1 => rw [hf] at fin; exact fin
  | bad => rw [hf] at fin; exact fin
def fLstN (fs : F (List D)) : F (List D) := fun δ η => (fs δ η).bind fun ds η => if ds.length ≤ sizeLine then .ok ds η else .bad
theorem fn_lst (h : FA C W X es fs) : FN C W X (.List es pos) (fLstN fs) := by
  refine PE.imp (pe_lst h) fun σ H Q ⟨G, δ, η, at0, fin⟩ => ?_
  refine tN.bind at0 fin fun d v G1 H1 η1 a1 x1 r1 fin1 => ?_
  split at fin1
  · rename_i hz
    exact ⟨by rw [← r1.length]; exact hz, fun p hp => FinN.of Nx.refl fin1 a1.he r1 hz hp⟩
  · exact fin1.elim
/-- list(e) -/
def itemsD : D → Option (List D)
  | .lst l => some l
  | .tup l => some l
  | _ => none
def fListN (fa : F D) : F (List D) := fun δ η => (fa δ η).bind fun d η => lift (itemsD d) η
theorem fn_list {x : Str} {p : Pos} (hK : X.K = C.K) (hm : X.mg x = none) (ha : FU C W X e fe) (hs : starEach [e] X.env = [(false, eval e X.env)] := by rfl) (hg : Gl X x := by rfl) (hv : bootBuiltins x = some (.type "list") := by decide +kernel) (hn : x ≠ "__name__" := by decide) (hdb : (x == ("__debug__" : Str)) = false := by decide)
    (he : starEach [e] X.env = (false, eval e X.env) :: starEach [] X.env := by rfl) (hpl : (backTo pos (starEach [] X.env)).any (·.1) = false := by rfl) : FN C W X (.Call (.Name x p) [e] [] pos) (fListN fe) := by
  refine PE.imp (pe_callTy call_list_of hg hm hv (pa_cons ha pa_nil hs) hn hdb he hpl) fun σ H Q ⟨G, δ, η, at0, fin⟩ => ?_
  refine tN.bind at0 fin fun d v G1 H1 η1 a1 x1 r1 fin1 => ?_
  unfold itemsD at fin1
  split at fin1
  · have hz := r1.lstZ
    obtain ⟨a, vs, rfl, hq, hrs⟩ := r1.lst
    rw [← hK] at hq
    exact ⟨a, vs, rfl, .inl hq, fun l hl => FinN.of Nx.refl fin1 a1.he hrs hz hl⟩
  · have hz := r1.tupZ
    obtain ⟨a, vs, rfl, hq, hrs⟩ := r1.tup
    rw [← hK] at hq
    exact ⟨a, vs, rfl, .inr hq, fun l hl => FinN.of Nx.refl fin1 a1.he hrs hz hl⟩
  · exact fin1.elim
/-! ### a frame's own lists: made, changed -/
def sOwn (i : Nat) (f : F (List D)) : S := fun δ η => (f δ η).toS δ fun l η => .nx (δ.set i (some (.own l))) η
theorem fs_own {i : Nat} {st : Stmt} (h : PS X st (tAsg (tN C W fn) (gName i))) : FS C W X st (sOwn i fn) := PS.imp h fun Dn σ H ⟨B, G, δ, η, h, fin⟩ => by
  refine ⟨G, δ, η, h.a, ?_⟩
  unfold sOwn at fin
  cases hf : fn δ η with
  | ok l η1 =>
    rw [hf] at fin
    exact fun p vs G1 H1 x r q hz hp => fin _ _ _ ((h.next x r).setOwn hp hz q)
  | exc c ns l η1 => rw [hf] at fin; exact fun b vs G1 H1 x r q1 q2 => fin b vs G1 H1 σ (h.next x r) q1 q2
  | bad => rw [hf] at fin; exact fin
def sApp (i : Nat) (f : F D) : S := fun δ η => match δ[i]? with
  | some (some (.own l)) => (f δ η).toS δ fun d η => if l.length < sizeLine then .nx (δ.set i (some (.own (l ++ [d])))) η else .bad
  | _ => .bad
/-! ### an item of an object of the store: o[i] = e (o a mutable list) -/
def sSetO (fe fa fb : F D) : S := fun δ η => (fe δ η).toS δ fun d η => (fa δ η).toS δ fun o η => (fb δ η).toS δ fun k η => match o, k with
  | .obj n, .int i => match η[n]? with
    | some (.lst l) => match ixN l.length i with
      | some j => .nx δ (η.set n (.lst (l.set j d)))
      | none => .bad
    | _ => .bad
  | _, _ => .bad
theorem fs_setO {st : Stmt} (h : PS X st (tAsg (tG C (Rp C) W fe) (gSub (tG C (Rp C) W fa) (tG C (Rp C) W fb) rSetL))) : FS C W X st (sSetO fe fa fb) := PS.imp h fun Dn σ H ⟨B, G, δ, η, h, fin⟩ => by
  refine tG.bindS h fin fun d v G1 H1 η1 h1 x1 r1 fin1 => ?_
  refine tG.bindS h1 fin1 fun o w G2 H2 η2 h2 x2 r2 fin2 => ?_
  refine tG.bindS h2 fin2 fun k u G3 H3 η3 h3 x3 r3 fin3 => ?_
  have r1' := (r1.stab (x2.stab h1.a.he)).stab (x3.stab h2.a.he)
  have r2' := r2.stab (x3.stab h2.a.he)
  split at fin3
  · rename_i n i
    split at fin3
    · rename_i l hl
      split at fin3
      · rename_i j hj
        cases r3
        cases r2' with
        | @obj _ p ho =>
          obtain ⟨m, q⟩ := h3.a.he.ob n _ _ hl ho
          cases q with
          | @lst _ vs _ e zz rs =>
            refine ⟨p, vs, i, j, rfl, rfl, e, by rw [← rs.length]; exact hj, ?_⟩
            have nx : Nx G3 H3 G3 (upd H3 p (.lst (vs.set j v))) := Nx.chObj ho (by rw [e]; exact fun z => by cases z)
            have st := nx.stab h3.a.he
            exact fin3 G3 _ σ (h3.next nx (h3.a.he.chObj ho (.lst upd_same (by rw [List.length_set]; exact zz) ((rs.set r1' j).stab st))))
      · exact fin3.elim
    · exact fin3.elim
  · exact fin3.elim

/-! ### what is walked -/
/-- the items of a walk, wherever the heap has gone by steps that leave standing things -/
def ItOk (C : Ct) (G : Gh) (H : Hp) (J : It) (ds : List D) : Prop := ds.length ≤ sizeLine ∧ ∀ G2 H2, Stab G H G2 H2 → (∀ a, G2.M a → H2 a ≠ none) → J.stop ds.length H2 ∧
  ∀ (i : Nat) (d : D), ds[i]? = some d → J.go i H2 ∧ ∀ x H3, J.yld i H2 x H3 → (∀ a o, H2 a = some o → H3 a = some o) ∧ Rp C G2 H3 d x
def FinI (C : Ct) (E : XK) (G : Gh) (H : Hp) (r : R (List D)) (K : It → Hp → Prop) : Prop := match r with
  | .ok ds η' => ∀ J G' H', Nx G H G' H' → Rh C G' H' η' → ItOk C G' H' J ds → K J H'
  | .exc c ns l η' => ∀ x vs G' H', Nx G H G' H' → Rh C G' H' η' → Xd G' H' x (ns.zip vs) → Rps C G' H' l vs → E (.ref (C.cl c)) (some x) H'
  | .bad => False
def tI (C : Ct) (W : WX) (f : F (List D)) : TI := fun σ H R => ∃ G δ η, At C G H δ σ η ∧ FinI C (fun c d H' => W c d σ H') G H (f δ η) R
abbrev FI (C : Ct) (W : WX) (X : Cx) (tg e : Expr) (f : F (List D)) : Prop := PI X tg e (tI C W f)
theorem PI.imp {X : Cx} {tg e : Expr} {t t' : TI} (h : PI X tg e t) (i : ∀ σ H Q, t' σ H Q → t σ H Q) : PI X tg e t' := ⟨fun pins s σ H Q I q => h.run pins s σ H Q I (i _ _ _ q)⟩
theorem FinI.next {E : XK} {G G' : Gh} {H H' : Hp} {r : R (List D)} {K : It → Hp → Prop} (h : FinI C E G H r K) (x : Nx G H G' H') : FinI C E G' H' r K := by
  cases r with
  | ok d η' => exact fun v G2 H2 y q1 q2 => h v G2 H2 (x.trans y) q1 q2
  | exc c ns l η' => exact fun a vs G2 H2 y q1 q2 q3 => h a vs G2 H2 (x.trans y) q1 q2 q3
  | bad => exact h
theorem tI.bind {α β : Type} {Rel : Gh → Hp → α → β → Prop} {f : F α} {k : α → List O → R (List D)} {G : Gh} {δ : En} {η : List O} {σ : St} {H : Hp} {R : It → Hp → Prop} {Q : β → Hp → Prop} (a : At C G H δ σ η) (fin : FinI C (fun c d H' => W c d σ H') G H ((f δ η).bind k) R)
    (h : ∀ x v G1 H1 η1, At C G1 H1 δ σ η1 → Nx G H G1 H1 → Rel G1 H1 x v → FinI C (fun c d H' => W c d σ H') G1 H1 (k x η1) R → Q v H1) : tG C Rel W f σ H Q := by
  refine ⟨G, δ, η, a, ?_⟩
  cases hf : f δ η with
  | ok d η1 =>
    rw [hf] at fin
    exact fun v G1 H1 x q1 q2 => h d v G1 H1 η1 (a.next x q1) x q2 (FinI.next (r := k d η1) fin x)
  | exc c ns l η1 => rw [hf] at fin; exact fin
  | bad => rw [hf] at fin; exact fin
/-- a list that stands still -/
theorem itList (hK : X.K = C.K) {G : Gh} {H : Hp} {a : Addr} {vs : List V} {l : List D} (h : LAt C G H a vs) (z : l.length ≤ sizeLine) (r : Rps C G H l vs) : ItOk C G H (Itl X.K a) l := ⟨z, fun G2 H2 st mh => by
  have h2 := (h.stab st).sq
  rw [← hK] at h2
  have r2 := r.stab st
  refine ⟨⟨vs, h2, Nat.le_of_eq r2.length.symm⟩, fun i d hd => ?_⟩
  obtain ⟨v, e1, e2⟩ := r2.get hd
  refine ⟨⟨vs, v, h2, e1⟩, fun x H3 ⟨y1, y2⟩ => ?_⟩
  subst y1
  have := y2 vs h2
  rw [e1] at this
  cases this
  exact ⟨fun _ _ z => z, e2⟩⟩
theorem itTup (hK : X.K = C.K) {G : Gh} {H : Hp} {a : Addr} {vs : List V} {l : List D} (h : TAt C G H a vs) (z : l.length ≤ sizeLine) (r : Rps C G H l vs) : ItOk C G H (Itt X.K a) l := ⟨z, fun G2 H2 st mh => by
  have h2 := (h.stab st).sq
  rw [← hK] at h2
  have r2 := r.stab st
  refine ⟨⟨vs, h2, Nat.le_of_eq r2.length.symm⟩, fun i d hd => ?_⟩
  obtain ⟨v, e1, e2⟩ := r2.get hd
  refine ⟨⟨vs, v, h2, e1⟩, fun x H3 ⟨y1, y2⟩ => ?_⟩
  subst y1
  have := y2 vs h2
  rw [e1] at this
  cases this
  exact ⟨fun _ _ z => z, e2⟩⟩
def lstOf : D → Option (List D)
  | .lst l => some l
  | _ => none
def tupOf : D → Option (List D)
  | .tup l => some l
  | _ => none
def fiL (fa : F D) : F (List D) := fun δ η => (fa δ η).bind fun d η => lift (lstOf d) η
def fiT (fa : F D) : F (List D) := fun δ η => (fa δ η).bind fun d η => lift (tupOf d) η
variable {tg : Expr}
theorem fi_lst (hK : X.K = C.K) (he : FE C W X e fe) : FI C W X tg e (fiL fe) := PI.imp (pi_list he) fun σ H R ⟨G, δ, η, a0, fin0⟩ => tI.bind a0 fin0 fun d v G1 H1 η1 a1 x1 r1 fin => by
  cases r1 with
  | lst h z r =>
    have h2 := h.sq
    rw [← hK] at h2
    exact ⟨_, rfl, ⟨_, h2⟩, fin _ G1 H1 Nx.refl a1.he (itList hK h z r)⟩
  | _ => exact fin.elim
theorem fi_tup (hK : X.K = C.K) (he : FE C W X e fe) : FI C W X tg e (fiT fe) := PI.imp (pi_tup he) fun σ H R ⟨G, δ, η, a0, fin0⟩ => tI.bind a0 fin0 fun d v G1 H1 η1 a1 x1 r1 fin => by
  cases r1 with
  | tup h z r =>
    have h2 := h.sq
    rw [← hK] at h2
    exact ⟨_, rfl, ⟨_, h2⟩, fin _ G1 H1 Nx.refl a1.he (itTup hK h z r)⟩
  | _ => exact fin.elim
/-- range(n) -/
def rngD (lo : Int) (n : Nat) : List D := (List.range n).map fun (k : Nat) => D.int (lo + (k : Int))
def fiR1 (fa : F D) : F (List D) := fun δ η => (fa δ η).bind fun d η => match d with
  | .int j => if j ≤ 16777216 ∧ -16777216 ≤ j then .ok (rngD 0 j.toNat) η else .bad
  | _ => .bad
theorem itRng {G : Gh} {H : Hp} {lo : Int} {n : Nat} (z : n ≤ sizeLine) : ItOk C G H (Itr lo n) (rngD lo n) := ⟨by simpa [rngD] using z, fun G2 H2 st mh => by
  refine ⟨by show n ≤ (rngD lo n).length; simp [rngD], fun i d hd => ?_⟩
  unfold rngD at hd
  rw [List.getElem?_map] at hd
  cases q : (List.range n)[i]? with
  | none => rw [q] at hd; cases hd
  | some k =>
    rw [q] at hd
    have hlt : i < n := by
      have := (List.getElem?_eq_some_iff.mp q).1
      simpa using this
    have hk : k = i := by
      have := (List.getElem?_eq_some_iff.mp q).2
      simpa using this.symm
    subst hk
    cases hd
    refine ⟨hlt, fun x H3 ⟨y1, y2⟩ => ?_⟩
    subst y1 y2
    exact ⟨fun _ _ z => z, .int _⟩⟩
theorem fi_rng1 {p : Pos} (hm : X.mg "range" = none) (he : FE C W X e fe) (hg : Gl X "range" := by rfl) (hs : starEach [e] X.env = [(false, eval e X.env)] := by rfl) : FI C W X tg (.Call (.Name "range" p) [e] [] pos) (fiR1 fe) :=
  PI.imp (pi_range1 hg hm (pa_cons he pa_nil hs) hs) fun σ H R ⟨G, δ, η, a0, fin0⟩ => tI.bind a0 fin0 fun d v G1 H1 η1 a1 x1 r1 fin => by
    cases r1 with
    | int j =>
      dsimp only at fin
      by_cases hz : j ≤ 16777216 ∧ -16777216 ≤ j
      · rw [if_pos hz] at fin
        exact ⟨j, rfl, by omega, by omega, fin _ G1 H1 Nx.refl a1.he (itRng (by rw [sizeLine_eq]; omega))⟩
      · rw [if_neg hz] at fin
        exact fin.elim
    | _ => exact fin.elim
/-- a text, sign by sign -/
def signsD (z : Str) : List D := z.cps.toList.map fun c => .str ⟨#[c]⟩
def fiS (fa : F D) : F (List D) := fun δ η => (fa δ η).bind fun d η => match d with
  | .str z => if z.length ≤ sizeLine then .ok (signsD z) η else .bad
  | _ => .bad
theorem fi_str (he : FE C W X e fe) : FI C W X tg e (fiS fe) := PI.imp (pi_str he) fun σ H R ⟨G, δ, η, a0, fin0⟩ => tI.bind a0 fin0 fun d v G1 H1 η1 a1 x1 r1 fin => by
  cases r1 with
  | str z okz =>
    dsimp only at fin
    by_cases hz : z.length ≤ sizeLine
    case neg => rw [if_neg hz] at fin; exact fin.elim
    rw [if_pos hz] at fin
    refine ⟨z, rfl, fin _ G1 H1 Nx.refl a1.he ⟨by simpa [signsD, Str.length] using hz, fun G2 H2 st mh => ⟨by show z.cps.size ≤ (signsD z).length; simp [signsD], fun i d hd => ?_⟩⟩⟩
    unfold signsD at hd
    rw [List.getElem?_map] at hd
    cases q : z.cps.toList[i]? with
    | none => rw [q] at hd; cases hd
    | some c =>
      rw [q] at hd
      cases hd
      have hlt : i < z.cps.size := by simpa using (List.getElem?_eq_some_iff.mp q).1
      refine ⟨hlt, fun x H3 ⟨y1, c', y2, y3⟩ => ?_⟩
      subst y1 y3
      rw [show z.cps.toList[i]? = z.cps[i]? from by simp] at q
      rw [q] at y2
      cases y2
      exact ⟨fun _ _ z => z, .str _ (ok_one okz (Array.mem_toList_iff.mpr (Array.mem_of_getElem? q)))⟩
  | _ => exact fin.elim
/-- enumerate(a list) -/
def enumD (l : List D) : List D := l.zipIdx.map fun p => .tup [.int (p.2 : Nat), p.1]
def seqOf : D → Option (List D)
  | .lst l => some l
  | .tup l => some l
  | _ => none
def fiE (fa : F D) : F (List D) := fun δ η => (fa δ η).bind fun d η => (lift (seqOf d) η).bind fun l η => .ok (enumD l) η
/-- zip(two lists) -/
def zipD (l m : List D) : List D := (l.zip m).map fun p => .tup [p.1, p.2]
def fiZ (fa fb : F D) : F (List D) := fun δ η => (fa δ η).bind fun d η => (fb δ η).bind fun e η => match d, e with
  | .lst l, .lst m => .ok (zipD l m) η
  | .tup l, .tup m => .ok (zipD l m) η
  | _, _ => .bad
theorem fi_zip {p tpos : Pos} {elts : List Expr} {kk : Nat} (hK : X.K = C.K) (hm : X.mg "zip" = none) (ha : FE C W X a fa) (hb : FE C W X b fb) (hg : Gl X "zip" := by rfl)
    (hs : starEach [a, b] X.env = (false, eval a X.env) :: starEach [b] X.env := by rfl) (hs2 : starEach [b] X.env = (false, eval b X.env) :: starEach [] X.env := by rfl) (hpl : (backTo pos (starEach [b] X.env)).any (·.1) = false := by rfl) :
    FI C W X (.Tuple elts kk tpos) (.Call (.Name "zip" p) [a, b] [] pos) (fiZ fa fb) :=
  PI.imp (RZ.pi_zipA hg hm (pa_cons ha (pa_cons hb pa_nil hs2) hs) hs hpl) fun σ H R ⟨G, δ, η, a0, fin⟩ => by
    refine tI.bind (Rel := Rp C) a0 fin fun d v G1 H1 η1 a1 x1 r1 fin1 => ?_
    refine tI.bind (Rel := Rp C) a1 fin1 fun e w G2 H2 η2 a2 x2 r2 fin2 => ?_
    split at fin2
    · rename_i l m
      cases (r1.stab (x2.stab a1.he)) with
      | @lst p vs _ h z r =>
        cases r2 with
        | @lst p2 ws _ h' z' r' =>
          have h2 := h.sq
          have h2' := h'.sq
          rw [← hK] at h2 h2'
          refine ⟨p, p2, vs, ws, rfl, .inl ⟨h2, h2', fin2 _ G2 H2 Nx.refl a2.he ⟨by simp only [zipD, List.length_map, List.length_zip]; omega, fun G3 H3 st mh => ?_⟩⟩⟩
          have h3 := (h.stab st).sq
          have h3' := (h'.stab st).sq
          rw [← hK] at h3 h3'
          have r3 := r.stab st
          have r3' := r'.stab st
          refine ⟨⟨vs, ws, h3, h3', ?_⟩, fun i d hd => ?_⟩
          · have e1 := r3.length
            have e2 := r3'.length
            simp only [zipD, List.length_map, List.length_zip]
            omega
          · unfold zipD at hd
            rw [List.getElem?_map] at hd
            cases q : (l.zip m)[i]? with
            | none => rw [q] at hd; cases hd
            | some z =>
              rw [q] at hd
              obtain ⟨q1, q2⟩ := List.getElem?_zip_eq_some.mp q
              obtain ⟨w1, e1, e2⟩ := r3.get q1
              obtain ⟨w2, e3, e4⟩ := r3'.get q2
              refine ⟨⟨vs, ws, w1, w2, h3, h3', e1, e3⟩, fun x H4 ⟨T, y, y', y1, y2, y3, y4, y5⟩ => ?_⟩
              have g1 := y4 vs h3
              have g2 := y5 ws h3'
              rw [e1] at g1
              rw [e3] at g2
              cases g1
              cases g2
              subst y1 y3
              refine ⟨fun b o z => by rw [upd_ne (ne_of_none z y2)]; exact z, ?_⟩
              have hd : D.tup [z.1, z.2] = d := Option.some.inj hd
              rw [← hd]
              have st4 : Stab G3 H3 G3 (upd H3 T (.tup [w1, w2])) := ⟨fun _ _ z => z, fun b o z m => ⟨by rw [upd_ne (ne_of_none z y2)]; exact z, m⟩⟩
              exact .tup (.inl ⟨.inl upd_same, fun m => mh T m y2⟩) (by rw [sizeLine_eq]; simp) (.cons (e2.stab st4) (.cons (e4.stab st4) .nil))
    · rename_i l m
      cases (r1.stab (x2.stab a1.he)) with
      | @tup p vs _ h z r =>
        cases r2 with
        | @tup p2 ws _ h' z' r' =>
          have h2 := h.sq
          have h2' := h'.sq
          rw [← hK] at h2 h2'
          refine ⟨p, p2, vs, ws, rfl, .inr ⟨h2, h2', fin2 _ G2 H2 Nx.refl a2.he ⟨by simp only [zipD, List.length_map, List.length_zip]; omega, fun G3 H3 st mh => ?_⟩⟩⟩
          have h3 := (h.stab st).sq
          have h3' := (h'.stab st).sq
          rw [← hK] at h3 h3'
          have r3 := r.stab st
          have r3' := r'.stab st
          refine ⟨⟨vs, ws, h3, h3', ?_⟩, fun i d hd => ?_⟩
          · have e1 := r3.length
            have e2 := r3'.length
            simp only [zipD, List.length_map, List.length_zip]
            omega
          · unfold zipD at hd
            rw [List.getElem?_map] at hd
            cases q : (l.zip m)[i]? with
            | none => rw [q] at hd; cases hd
            | some z =>
              rw [q] at hd
              obtain ⟨q1, q2⟩ := List.getElem?_zip_eq_some.mp q
              obtain ⟨w1, e1, e2⟩ := r3.get q1
              obtain ⟨w2, e3, e4⟩ := r3'.get q2
              refine ⟨⟨vs, ws, w1, w2, h3, h3', e1, e3⟩, fun x H4 ⟨T, y, y', y1, y2, y3, y4, y5⟩ => ?_⟩
              have g1 := y4 vs h3
              have g2 := y5 ws h3'
              rw [e1] at g1
              rw [e3] at g2
              cases g1
              cases g2
              subst y1 y3
              refine ⟨fun b o z => by rw [upd_ne (ne_of_none z y2)]; exact z, ?_⟩
              have hd : D.tup [z.1, z.2] = d := Option.some.inj hd
              rw [← hd]
              have st4 : Stab G3 H3 G3 (upd H3 T (.tup [w1, w2])) := ⟨fun _ _ z => z, fun b o z m => ⟨by rw [upd_ne (ne_of_none z y2)]; exact z, m⟩⟩
              exact .tup (.inl ⟨.inl upd_same, fun m => mh T m y2⟩) (by rw [sizeLine_eq]; simp) (.cons (e2.stab st4) (.cons (e4.stab st4) .nil))
    · exact fin2.elim
/-! ### for -/
def SR.turn (r : SR) (k : S) : SR := match r with
  | .nx δ η => k δ η
  | .ct δ η => k δ η
  | .bk δ η => .nx δ η
  | r => r
def loopF (t : Tg) (fb : S) : List D → S
  | [], δ, η => .nx δ η
  | x :: r, δ, η => match asg t x δ with
    | none => .bad
    | some δ1 => (fb δ1 η).turn (loopF t fb r)
def sFor (fi : F (List D)) (t : Tg) (fb : S) : S := fun δ η => (fi δ η).toS δ fun ds η => loopF t fb ds δ η
/-- the heap grows by things that no one knows -/
theorem Nx.ext {G : Gh} {H H' : Hp} (k : ∀ a o, H a = some o → H' a = some o) : Nx G H G H' := ⟨fun _ _ h => h, fun a o h _ => k a o h, fun _ _ _ => Iff.rfl, fun _ h => .inl h, fun a h => by
  cases q : H a with
  | none => rfl
  | some o => rw [k a o q] at h; cases h⟩
theorem Rh.ext {G : Gh} {H H' : Hp} {η : List O} (r : Rh C G H η) (k : ∀ a o, H a = some o → H' a = some o) : Rh C G H' η := by
  have x : Nx G H G H' := Nx.ext k
  refine ⟨r.len, r.nd, fun n o a h1 h2 => ?_, fun a m z => r.mh a m (x.there a z)⟩
  obtain ⟨m, q⟩ := r.ob n o a h1 h2
  exact ⟨m, q.stab (x.stab r) fun u hu => k a u hu⟩
theorem fs_for {iter : Expr} {t : Tg} {fi : F (List D)} {body : List Stmt} {fb : S} (hK : X.K = C.K) (hp : PassesOwn (model X.prog X.w) X.A X.env X.xe) (hc : X.calm = true) (hi : FI C W X tg iter fi) (hg : FG X tg t) (hb : FSs C W X body fb)
    (hs : ∀ x, foldedSetIterable iter X.env x = pure x := by intro _; rfl) : FS C W X (.For tg iter body [] pos) (sFor fi t fb) := by
  refine PS.imp (ps_for hp hc hi hg hb hs) fun Dn σ H ⟨B, G, δ, η, h, fin⟩ => ?_
  refine ⟨G, δ, η, h.a, ?_⟩
  unfold sFor at fin
  cases hf : fi δ η with
  | exc c ns l η1 => rw [hf] at fin; exact fun b vs G1 H1 x q1 q2 q3 => fin b vs G1 H1 σ (h.next x q1) q2 q3
  | bad => rw [hf] at fin; exact fin
  | ok ds η1 =>
    rw [hf, toS_ok] at fin
    intro J G1 H1 x1 r1 it
    have h1 := h.next x1 r1
    -- the base for the loop: its own start
    refine ⟨fun i m σ H => m = ds.length - i ∧ i ≤ ds.length ∧ ∃ G δ η, Hold C ⟨B.G, B.H, G1, H1⟩ G H δ σ η ∧ FinS C W B (loopF t fb (ds.drop i) δ η) Dn, ⟨ds.length, by simp, Nat.zero_le _, G1, δ, η1, ⟨h1.a, h1.o, h1.n, .refl⟩, by simpa using fin⟩, ?_⟩
    rintro i m σ2 H2 ⟨rfl, hi, G2, δ2, η2, h2, fin2⟩
    obtain ⟨i1, i2⟩ := it.2 G2 H2 h2.s h2.a.he.mh
    have back : ∀ {G H δ σ η}, Hold C ⟨B.G, B.H, G1, H1⟩ G H δ σ η → Hold C B G H δ σ η := fun z => ⟨z.a, z.o, z.n, h1.s.trans z.s⟩
    by_cases hlt : i < ds.length
    · refine .inr ?_
      obtain ⟨j1, j2⟩ := i2 i ds[i] (by simp [hlt])
      refine ⟨j1, fun σ H => ∃ G δ η, Hold C ⟨B.G, B.H, G1, H1⟩ G H δ σ η ∧ FinS C W B (loopF t fb (ds.drop (i + 1)) δ η) Dn, fun σ' H' z => ⟨ds.length - (i + 1), by omega, rfl, hlt, z⟩, fun x H3 y => ?_⟩
      obtain ⟨k1, k2⟩ := j2 x H3 y
      have nx : Nx G2 H2 G2 H3 := Nx.ext k1
      have h3 := h2.next nx (h2.a.he.ext k1)
      rw [List.drop_eq_getElem_cons hlt, loopF] at fin2
      cases q : asg t ds[i] δ2 with
      | none => rw [q] at fin2; exact fin2.elim
      | some δ3 =>
        rw [q] at fin2
        dsimp only at fin2
        refine gV_ok hK t _ x G2 H3 δ2 δ3 σ2 η2 _ q k2 fun σ3 a3 _ _ => ?_
        refine ⟨⟨B.G, B.H, G1, H1⟩, G2, δ3, η2, a3 _ h3, ?_⟩
        cases hb : fb δ3 η2 with
        | nx δ4 η4 => rw [hb] at fin2; exact fun G4 H4 σ4 z => ⟨G4, δ4, η4, z, fin2⟩
        | ct δ4 η4 => rw [hb] at fin2; exact fun G4 H4 σ4 z => ⟨G4, δ4, η4, z, fin2⟩
        | bk δ4 η4 => rw [hb] at fin2; exact fun G4 H4 σ4 z => fin2 G4 H4 σ4 (back z)
        | rt d η4 => rw [hb] at fin2; exact fin2
        | exc c ns l δ4 η4 => rw [hb] at fin2; exact fun x vs G4 H4 σ4 z => fin2 x vs G4 H4 σ4 (back z)
        | bad => rw [hb] at fin2; exact fin2
    · have e : i = ds.length := by omega
      subst e
      refine .inl ⟨i1, ?_⟩
      rw [List.drop_length, loopF] at fin2
      exact fin2 G2 H2 σ2 (back h2)

/-! ### comprehensions -/
def wipeD (δ : En) : List Nat → En
  | [] => δ
  | v :: vs => (wipeD δ vs).set v none
/-- nothing is raised within a comprehension -/
def R.nox {α : Type} (r : R α) : R α := match r with
  | .exc _ _ _ _ => .bad
  | r => r
@[simp] theorem nox_ok {α : Type} {a : α} {η : List O} : (R.ok a η).nox = .ok a η := rfl
@[simp] theorem nox_bad {α : Type} : (R.bad : R α).nox = .bad := rfl
@[simp] theorem nox_exc {α : Type} {c : Nat} {ns : List Str} {l : List D} {η : List O} : (R.exc c ns l η : R α).nox = .bad := rfl
def compF (t : Tg) (ft : F Bool) (fe : F D) (δw : En) : List D → List O → R (List D)
  | [], η => .ok [] η
  | x :: r, η => match asg t x δw with
    | none => .bad
    | some δ1 => (ft δ1 η).nox.bind fun b η => if b = true then (fe δ1 η).nox.bind fun y η => (compF t ft fe δw r η).bind fun ys η => .ok (y :: ys) η else compF t ft fe δw r η
/-- with what has been made -/
def fLc (vs : List Nat) (fi : F (List D)) (t : Tg) (ft : F Bool) (fe : F D) : F (List D) := fun δ η => (fi δ η).bind fun ds η => compF t ft fe (wipeD δ vs) ds η
theorem wipe_at {G : Gh} {H : Hp} {η : List O} : ∀ (vs : List Nat) {δ : En} {σ : St}, At C G H δ σ η → At C G H (wipeD δ vs) (wipe σ vs) η
  | [], _, _, a => a
  | v :: vs, δ, σ, a => by
    have b := wipe_at vs a
    have get : ∀ {j : Nat} {l : L}, (wipeD δ (v :: vs))[j]? = some (some l) → j ≠ v ∧ (wipeD δ vs)[j]? = some (some l) := fun {j l} h => by
      rcases getSet h with ⟨_, z⟩ | z
      · cases z
      · exact z
    have gs : ∀ {j : Nat}, j ≠ v → (wipe σ (v :: vs))[j]? = (wipe σ vs)[j]? := fun {j} h => by
      show ((wipe σ vs).set v none)[j]? = _
      rw [List.getElem?_set_ne (Ne.symm h)]
    refine ⟨?_, fun j l h => ?_, fun j k l l' w hne h1 h2 o1 o2 s1 s2 => ?_, fun j l c h o s => ?_, b.he⟩
    · show ((wipeD δ vs).set v none).length = ((wipe σ vs).set v none).length
      rw [List.length_set, List.length_set]; exact b.len
    · obtain ⟨h1, h2⟩ := get h
      rw [gs h1]; exact b.sl j l h2
    · obtain ⟨e1, h1⟩ := get h1
      obtain ⟨e2, h2⟩ := get h2
      rw [gs e1] at s1
      rw [gs e2] at s2
      exact b.un j k l l' w hne h1 h2 o1 o2 s1 s2
    · obtain ⟨e, h⟩ := get h
      rw [gs e] at s
      exact b.nad j l c h o s
theorem wipe_get (σ : St) : ∀ (vs : List Nat) (i : Nat), (wipe σ vs)[i]? = if i ∈ vs then σ[i]?.map (fun _ => none) else σ[i]?
  | [], i => by simp [wipe]
  | v :: vs, i => by
    show ((wipe σ vs).set v none)[i]? = _
    by_cases e : v = i
    · subst e
      rw [List.getElem?_set_self', wipe_get σ vs v]
      by_cases h : v ∈ vs
      · simp [h]; cases σ[v]? <;> rfl
      · simp [h]; cases σ[v]? <;> rfl
    · rw [List.getElem?_set_ne e, wipe_get σ vs i]
      have : i ∈ v :: vs ↔ i ∈ vs := by simp [Ne.symm e]
      simp only [this]
theorem wipe_same {vs : List Nat} {σ σ' : St} (h : Same' vs (wipe σ vs) σ') : wipe σ' vs = wipe σ vs := by
  apply List.ext_getElem?
  intro i
  rw [wipe_get, wipe_get]
  by_cases hi : i ∈ vs
  · rw [if_pos hi, if_pos hi]
    have hl : σ'.length = σ.length := by rw [h.1, wipe_length]
    by_cases hz : i < σ.length
    · rw [List.getElem?_eq_getElem hz, List.getElem?_eq_getElem (by omega)]; rfl
    · rw [List.getElem?_eq_none (by omega), List.getElem?_eq_none (by omega)]
  · rw [if_neg hi, if_neg hi, h.2 i hi, wipe_get, if_neg hi]
end
end DL
namespace DL
open PySem L2
open PyProof.Rows (envOfC)
section
variable {X : Cx} {C : Ct} {W : WX} {pos p2 : Pos} {e a b : Expr} {es : List Expr} {fe fa fb : F D} {fs fn : F (List D)} {tg : Expr}

/-! ### the new list of a comprehension, taken out of the heap -/
def out (H : Hp) (p : Addr) : Hp := fun b => if b = p then none else H b
theorem out_upd {H : Hp} {p : Addr} {o : HO} (h : H p = some o) : upd (out H p) p o = H := by
  funext b
  by_cases e : b = p
  · subst e; rw [upd_same, h]
  · rw [upd_ne e]; unfold out; rw [if_neg e]
theorem out_ne {H : Hp} {p b : Addr} (h : b ≠ p) : out H p b = H b := by unfold out; rw [if_neg h]
theorem out_same {H : Hp} {p : Addr} : out H p p = none := by unfold out; rw [if_pos rfl]
theorem Stab.out {G : Gh} {H : Hp} {p : Addr} (m : G.M p) : Stab G H (G.sub p) (out H p) := ⟨fun _ _ h => h, fun a o h n => ⟨by rw [out_ne (fun e => n (by rw [e]; exact m))]; exact h, fun z => n z.1⟩⟩
theorem Rh.out {G : Gh} {H : Hp} {η : List O} {p : Addr} (r : Rh C G H η) (m : G.M p) (np : p ∉ G.ads) : Rh C (G.sub p) (out H p) η := by
  refine ⟨r.len, r.nd, fun n o a h1 h2 => ?_, fun a z => ?_⟩
  · obtain ⟨q, h⟩ := r.ob n o a h1 h2
    have ne : a ≠ p := fun e => np (by rw [← e]; exact List.mem_of_getElem? h2)
    exact ⟨⟨q, ne⟩, h.stab (Stab.out m) fun u hu => by rw [out_ne ne]; exact hu⟩
  · rw [out_ne z.2]; exact r.mh a z.1
theorem Nx.out {G G' : Gh} {H H' : Hp} {p : Addr} (x : Nx G H G' H') (hp : H p = none) (m : G'.M p) : Nx G H (G'.sub p) (DL.out H' p) := by
  have ne : ∀ {a o}, H a = some o → a ≠ p := fun h e => by rw [e, hp] at h; cases h
  refine ⟨x.ads, fun a o h n => by rw [out_ne (ne h)]; exact x.keep a o h n, fun a o h => ⟨fun z => (x.mu a o h).mp z.1, fun z => ⟨(x.mu a o h).mpr z, ne h⟩⟩, x.new, fun a h => ?_⟩
  by_cases e : a = p
  · rw [e]; exact hp
  · rw [out_ne e] at h; exact x.there a h

/-- the new list grows -/
theorem Stab.temp {G : Gh} {H : Hp} {p : Addr} {o : HO} (m : G.M p) : Stab G H G (upd H p o) := ⟨fun _ _ h => h, fun b u h n => ⟨by rw [upd_ne (fun e => n (by rw [e]; exact m))]; exact h, n⟩⟩
theorem Nx.temp {G G' : Gh} {H H' : Hp} {p : Addr} {o : HO} (x : Nx G H G' H') (hp : H p = none) : Nx G H G' (upd H' p o) := by
  have ne : ∀ {a u}, H a = some u → a ≠ p := fun h e => by rw [e, hp] at h; cases h
  refine ⟨x.ads, fun a u h n => by rw [upd_ne (ne h)]; exact x.keep a u h n, x.mu, x.new, fun a h => ?_⟩
  by_cases e : a = p
  · rw [e]; exact hp
  · rw [upd_ne e] at h; exact x.there a h
theorem At.temp {G : Gh} {H : Hp} {δ : En} {σ : St} {η : List O} {p : Addr} {o : HO} (a : At C G H δ σ η) (no : ∀ (i : Nat) (l : L), δ[i]? = some (some l) → l.owns = true → σ[i]? ≠ some (some (V.ref p))) (m : G.M p) (np : p ∉ G.ads) : At C G (upd H p o) δ σ η := by
  have st : Stab G H G (upd H p o) := Stab.temp m
  have keep : ∀ a u, a ≠ p → H a = some u → upd H p o a = some u := fun a u e z => by rw [upd_ne e]; exact z
  refine ⟨a.len, fun i l h => ?_, a.un, a.nad, ⟨a.he.len, a.he.nd, fun n u b h1 h2 => ?_, fun b z => ?_⟩⟩
  · obtain ⟨v, h1, h2⟩ := a.sl i l h
    refine ⟨v, h1, ?_⟩
    cases h2 with
    | val r => exact .val (r.stab st)
    | own m e z r => exact .own m (keep _ _ (fun q => no i _ h rfl (by rw [h1, q])) e) z (r.stab st)
    | oins m e n r => exact .oins m (keep _ _ (fun q => no i _ h rfl (by rw [h1, q])) e) n (r.stab st)
  · obtain ⟨q, r⟩ := a.he.ob n u b h1 h2
    exact ⟨q, r.stab st fun w hw => keep _ _ (fun e => np (by rw [← e]; exact List.mem_of_getElem? h2)) hw⟩
  · by_cases e : b = p
    · rw [e, upd_same]; exact fun z => by cases z
    · rw [upd_ne e]; exact a.he.mh b z

/-! ### comprehensions -/
abbrev FTs (C : Ct) (X : Cx) (ifs : List Expr) (f : F Bool) : Prop := PTs X ifs (tG C RB WX0 f)
theorem PTs.imp {X : Cx} {e : List Expr} {t t' : TT} (h : PTs X e t) (i : ∀ σ H Q, t' σ H Q → t σ H Q) : PTs X e t' := ⟨fun pins s σ H Q I q => h.run pins s σ H Q I (i _ _ _ q)⟩
def fYes : F Bool := fun _ η => .ok true η
theorem fts_nil : FTs C X [] fYes := PTs.imp pts_nil fun σ H Q ⟨G, δ, η, a, fin⟩ => fin true G H Nx.refl a.he rfl
/-- all but the context's handlers -/
theorem lc_of {t : Tg} {fi : F (List D)} {ft : F Bool} {vs : List Nat} (hK : X.K = C.K) (hvs : ∀ i ∈ t.sl, i ∈ vs) {σ : St} {H : Hp} {Q : VK} (h : tN C W (fLc vs fi t ft fe) σ H Q) :
    tLc (tI C W fi) (gV X.K t) (tG C RB WX0 ft) (tG C (Rp C) WX0 fe) vs σ H Q := by
  obtain ⟨G, δ, η, a, fin⟩ := h
  refine ⟨G, δ, η, a, ?_⟩
  unfold fLc at fin
  cases hf : fi δ η with
  | exc c ns l η1 => rw [hf] at fin; exact fin
  | bad => rw [hf] at fin; exact fin
  | ok ds η1 =>
    rw [hf, bind_ok] at fin
    intro J G1 H1 x1 r1 it D hD
    have a1 := a.next x1 r1
    have noD : ∀ (i : Nat) (l : L), (wipeD δ vs)[i]? = some (some l) → l.owns = true → (wipe σ vs)[i]? ≠ some (some (V.ref D)) := fun i l h1 h2 h3 => by
      obtain ⟨v, e1, e2⟩ := (wipe_at vs a1).sl i l h1
      rw [h3] at e1
      cases e1
      cases e2 with
      | val _ => cases h2
      | own m e z r => rw [hD] at e; cases e
      | oins m e n r => rw [hD] at e; cases e
    -- what remains to be made
    have E1 : ∀ {c d H'}, (fun (c : Value) (d : Option Addr) (H' : Hp) => W c d σ H') c d H' → (fun (c : Value) (d : Option Addr) (H' : Hp) => W c d σ H') c d H' := fun z => z
    refine ⟨fun i m H2 => m = ds.length - i ∧ i ≤ ds.length ∧ ∃ G2 η2 acc avs, At C G2 H2 (wipeD δ vs) (wipe σ vs) η2 ∧ Nx G1 H1 G2 H2 ∧ G2.M D ∧ D ∉ G2.ads ∧ Stab G1 H1 G2 H2 ∧ H2 D = some (.lst avs) ∧ Rps C G2 H2 acc avs ∧ acc.length ≤ i ∧
        FinN C (fun c d H' => W c d σ H') G H ((compF t ft fe (wipeD δ vs) (ds.drop i) η2).bind fun l η => .ok (acc ++ l) η) Q, ?_, ?_⟩
    · refine ⟨ds.length, by simp, Nat.zero_le _, G1.add D, η1, [], [], (wipe_at vs a1).next (Nx.add hD) (a1.he.add hD), Nx.add hD, .inr rfl, fun hm => a1.he.mh D (a1.he.adsM hm) hD, Stab.add hD, upd_same, .nil, Nat.le_refl _, ?_⟩
      have e : (compF t ft fe (wipeD δ vs) (ds.drop 0) η1).bind (fun l η => R.ok ([] ++ l) η) = compF t ft fe (wipeD δ vs) ds η1 := by
        rw [List.drop_zero]
        cases compF t ft fe (wipeD δ vs) ds η1 <;> rfl
      rw [e]
      exact fin
    · rintro i m H2 ⟨rfl, hi, G2, η2, acc, avs, a2, x2, mD, nD, s2, hL, rA, lA, fin2⟩
      obtain ⟨i1, i2⟩ := it.2 G2 H2 s2 a2.he.mh
      by_cases hlt : i < ds.length
      · refine .inr ?_
        obtain ⟨j1, j2⟩ := i2 i ds[i] (by simp [hlt])
        refine ⟨j1, fun H2 => ∃ G2 η2 acc avs, At C G2 H2 (wipeD δ vs) (wipe σ vs) η2 ∧ Nx G1 H1 G2 H2 ∧ G2.M D ∧ D ∉ G2.ads ∧ Stab G1 H1 G2 H2 ∧ H2 D = some (.lst avs) ∧ Rps C G2 H2 acc avs ∧ acc.length ≤ i + 1 ∧
            FinN C (fun c d H' => W c d σ H') G H ((compF t ft fe (wipeD δ vs) (ds.drop (i + 1)) η2).bind fun l η => .ok (acc ++ l) η) Q, fun H' z => ⟨ds.length - (i + 1), by omega, rfl, hlt, z⟩, fun x H3 y => ?_⟩
        obtain ⟨k1, k2⟩ := j2 x H3 y
        have nx3 : Nx G2 H2 G2 H3 := Nx.ext k1
        have a3 := a2.next nx3 (a2.he.ext k1)
        have hL3 := k1 _ _ hL
        have rA3 := rA.stab (nx3.stab a2.he)
        have s3 := s2.trans (nx3.stab a2.he)
        have x3 := x2.trans nx3
        rw [List.drop_eq_getElem_cons hlt, compF] at fin2
        cases q : asg t ds[i] (wipeD δ vs) with
        | none => rw [q] at fin2; exact fin2.elim
        | some δ3 =>
          rw [q] at fin2
          dsimp only at fin2
          refine gV_ok hK t _ x G2 H3 _ δ3 _ η2 _ q k2 fun σ3 _ b3 c3 => ⟨wipe_same (c3.mono hvs), ?_⟩
          have a4 := b3 a3
          -- back from the turn's slots
          have back : ∀ {G' H' η'}, Nx G2 H3 G' H' → Rh C G' H' η' → At C G' H' (wipeD δ vs) (wipe σ vs) η' := fun x r => a3.next x r
          refine ⟨G2, δ3, η2, a4, ?_⟩
          cases ht : ft δ3 η2 with
          | exc c ns l η4 => rw [ht] at fin2; exact fin2.elim
          | bad => rw [ht] at fin2; exact fin2.elim
          | ok bb η4 =>
            rw [ht, nox_ok, bind_ok] at fin2
            intro b' G4 H4 x4 r4 eb
            have eb : bb = b' := eb
            subst eb
            have mD4 := (x4.mu _ _ hL3).mpr mD
            have nD4 : D ∉ G4.ads := fun z => (x4.new D z).elim nD fun z => by rw [hL3] at z; cases z
            have hL4 := x4.keep _ _ hL3 nD
            have st4 := x4.stab a3.he
            cases bb with
            | false =>
              rw [if_neg Bool.false_ne_true] at fin2 ⊢
              exact ⟨G4, η4, acc, avs, back x4 r4, x3.trans x4, mD4, nD4, s3.trans st4, hL4, rA3.stab st4, by omega, fin2⟩
            | true =>
              rw [if_pos rfl] at fin2 ⊢
              refine ⟨G4, δ3, η4, a4.next x4 r4, ?_⟩
              cases he : fe δ3 η4 with
              | exc c ns l η5 => rw [he] at fin2; exact fin2.elim
              | bad => rw [he] at fin2; exact fin2.elim
              | ok yd η5 =>
                rw [he, nox_ok, bind_ok] at fin2
                intro yv G5 H5 x5 r5 ry
                have x45 := x4.trans x5
                have mD5 := (x45.mu _ _ hL3).mpr mD
                have nD5 : D ∉ G5.ads := fun z => (x45.new D z).elim nD fun z => by rw [hL3] at z; cases z
                have hL5 := x45.keep _ _ hL3 nD
                have st5 := x45.stab a3.he
                have a5 := back x45 r5
                have up : Stab G5 H5 G5 (upd H5 D (.lst (avs ++ [yv]))) := ⟨fun _ _ h => h, fun b o h m => ⟨by rw [upd_ne (fun e => m (by rw [e]; exact mD5))]; exact h, m⟩⟩
                refine ⟨avs, hL5, ?_, G5, η5, acc ++ [yd], avs ++ [yv], ?_, ?_, mD5, nD5, (s3.trans st5).trans up, upd_same, ((rA3.stab st5).append (.cons ry .nil)).stab up, by rw [List.length_append, List.length_singleton]; omega, ?_⟩
                · have := rA.length
                  have := it.1
                  omega
                · exact a5.temp noD mD5 nD5
                · exact (x3.trans x45).temp hD
                · have e : ((compF t ft fe (wipeD δ vs) (ds.drop (i + 1)) η5).bind fun ys η => R.ok (yd :: ys) η).bind (fun l η => R.ok (acc ++ l) η) = (compF t ft fe (wipeD δ vs) (ds.drop (i + 1)) η5).bind (fun l η => R.ok ((acc ++ [yd]) ++ l) η) := by
                    cases compF t ft fe (wipeD δ vs) (ds.drop (i + 1)) η5 <;> simp [R.bind]
                  rw [e] at fin2
                  exact fin2
      · have e : i = ds.length := by omega
        subst e
        refine .inl ⟨i1, ?_⟩
        rw [List.drop_length, compF, bind_ok, List.append_nil] at fin2
        have hz : acc.length ≤ sizeLine := Nat.le_trans lA it.1
        have r := fin2 D avs (G2.sub D) (out H2 D) ((x1.trans x2).out (x1.there D hD) mD) (a2.he.out mD nD) (rA.stab (Stab.out mD)) hz out_same
        rw [out_upd hL] at r
        exact r
variable {elt iter : Expr} {ifs : List Expr} {scope : Scope} {own : List (Str × Nat)} {pos' : Pos} {fi : F (List D)} {t : Tg} {ft : F Bool} {felt : F D}
theorem fn_lc (own : List (Str × Nat)) (hK : X.K = C.K) (hc : X.calm = true) (hN : X.N.Nodup) (hi : FI C W X tg iter fi) (ok : BlkOk X.N X.env.scope scope own)
    (hg : ∀ (s : Shared) (H : Hp) (C : Addr) (cl : List (Str × Addr)) (fp : List Addr), FG (X.blk s H scope (compEnvC scope cl C X.env) fp) tg t) (ht : ∀ (s : Shared) (H : Hp) (A : Addr) (cl : List (Str × Addr)) (fp : List Addr), FTs C (X.blk s H scope (compEnvC scope cl A X.env) fp) ifs ft)
    (he : ∀ (s : Shared) (H : Hp) (A : Addr) (cl : List (Str × Addr)) (fp : List Addr), FE C WX0 (X.blk s H scope (compEnvC scope cl A X.env) fp) elt felt) (hvs : ∀ i ∈ t.sl, i ∈ own.map (·.2) := by decide) (hs : ∀ x, foldedSetIterable iter X.env x = pure x := by intro _; rfl) :
    FN C W X (.ListComp elt [⟨tg, iter, ifs, 0⟩] scope pos) (fLc (own.map (·.2)) fi t ft felt) := PE.imp (pe_lc hc hN hi ok hg ht he hs) fun _ _ _ h => lc_of hK hvs h
/-- name = a new list that will not change -/
def sFrz (i : Nat) (f : F (List D)) : S := fun δ η => (f δ η).toS δ fun l η => .nx (δ.set i (some (.val (.lst l)))) η
/-! ### a def's promise, its call, its body -/
abbrev DF := List D → List O → R D
def spD (C : Ct) (n : Nat) (f : DF) : Sp := fun vs H Q _ => vs.length = n ∧ ∃ G ds η, Rps C G H ds vs ∧ Rh C G H η ∧ FinR C (Rp C) E0 G H (f ds η) Q
def runD (N : Nat) (fb : S) : DF := fun ds η => match fb (ds.map (fun d => some (.val d)) ++ List.replicate (N - ds.length) none) η with
  | .nx _ η => .ok .non η
  | .rt d η => .ok d η
  | .exc c ns l _ η => .exc c ns l η
  | _ => .bad
theorem start_at {N : List Str} {G : Gh} {H : Hp} {ds : List D} {vs : List V} {η : List O} (r : Rps C G H ds vs) (h : Rh C G H η) : At C G H (ds.map (fun d => some (.val d)) ++ List.replicate (N.length - ds.length) none) (L2.start N vs) η := by
  have hl := r.length
  have get : ∀ {i : Nat} {l : L}, (ds.map (fun d => some (L.val d)) ++ List.replicate (N.length - ds.length) none)[i]? = some (some l) → ∃ d, ds[i]? = some d ∧ l = .val d := fun {i l} e => by
    by_cases hi : i < ds.length
    · rw [List.getElem?_append_left (by simpa using hi), List.getElem?_map] at e
      cases q : ds[i]? with
      | none => rw [q] at e; cases e
      | some d => rw [q] at e; cases e; exact ⟨d, rfl, rfl⟩
    · rw [List.getElem?_append_right (by simpa using hi), List.getElem?_replicate] at e
      split at e <;> cases e
  refine ⟨by unfold L2.start; simp [hl], fun i l e => ?_, fun i j l l' v hne e1 e2 o1 o2 _ _ => ?_, fun i l a e o => ?_, h⟩
  · obtain ⟨d, q, rfl⟩ := get e
    obtain ⟨v, q1, q2⟩ := r.get q
    refine ⟨v, ?_, .val q2⟩
    have hi := (List.getElem?_eq_some_iff.mp q1).1
    unfold L2.start
    rw [List.getElem?_append_left (by simpa using hi), List.getElem?_map, q1]
    rfl
  · obtain ⟨d, q, rfl⟩ := get e1
    cases o1
  · obtain ⟨d, q, rfl⟩ := get e
    cases o
section
variable {P : Program} {w : World} {K : PySem.W.Frag} {mg : Str → Option Value} {base : Heap}
end
/-- the arguments are as many as the parameters -/
def arg (n : Nat) (f : DF) : DF := fun ds η => if ds.length = n then f ds η else .bad
def fCall (n : Nat) (f : DF) (fa : F (List D)) : F D := fun δ η => (fa δ η).bind fun ds η => (arg n f ds η).nox
theorem FinR.nox {α β : Type} {Rel : Gh → Hp → α → β → Prop} {E E' : XK} {G : Gh} {H : Hp} {r : R α} {Q : β → Hp → Prop} (h : FinR C Rel E G H r.nox Q) : FinR C Rel E' G H r Q := by
  cases r with
  | ok d η => exact h
  | exc c ns l η => exact h.elim
  | bad => exact h
variable {P : Program} {CX : CXT} {k n : Nat} {f A : Addr} {fd : FuncData} {ps : List Str} {df : DF} {x : Str} {p : Pos}
/-- a call f(e, ..) of a def that lets nothing out -/
theorem fe_call (F : FnOk X.prog X.w X.K X.mg X.base CX0 k f fd ps (spD C n df)) (hr : Room k X.A) (hm : X.mg x = some (.ref f)) (hk : PySem.W.keepIn X.K (.ref f) = true) (hb : Binds X.K fd ps [])
    (ha : FA C W X (e :: es) fs) (hg : Gl X x := by rfl) (hdb : (x == ("__debug__" : Str)) = false := by decide) (he : starEach (e :: es) X.env = (false, eval e X.env) :: starEach es X.env := by rfl) (hpl : (backTo pos (starEach es X.env)).any (·.1) = false := by rfl) :
    FE C W X (.Call (.Name x p) (e :: es) [] pos) (fCall n df fs) := by
  refine PE.imp (pe_call (E := E0) F hr hg hm hk hb .nil pass0 ha hdb he hpl) fun σ H Q ⟨G, δ, η, a, fin⟩ => ?_
  refine tG.bind (Rel2 := Rp C) a fin fun ds vs G1 H1 η1 a1 x1 r1 fin1 => ?_
  unfold arg at fin1
  split at fin1
  · rename_i hn
    rw [List.append_nil]
    exact ⟨by rw [← r1.length]; exact hn, G1, ds, η1, r1, a1.he, fin1.nox⟩
  · exact fin1.elim
end
end DL
namespace DL
open PySem L2
open PyProof.Rows (envOfC)
section
variable {X : Cx} {C : Ct} {W : WX} {pos p2 : Pos} {e a b : Expr} {es : List Expr} {fe fa fb : F D} {fs fn : F (List D)} {tg : Expr}
/-! ### isinstance with built-in classes -/
def tyN : D → Option String
  | .non => some "NoneType"
  | .bl _ => some "bool"
  | .int _ => some "int"
  | .str _ => some "str"
  | .lst _ => some "list"
  | .tup _ => some "tuple"
  | _ => none
theorem tyX {G : Gh} {H : Hp} {d : D} {v : V} {t : String} (r : Rp C G H d v) (h : tyN d = some t) : TyX C.K H v (.type t) := by
  cases r with
  | non => cases h; exact .base .non
  | bl b => cases h; exact .base (.bl b)
  | int i => cases h; exact .base (.int i)
  | str z _ => cases h; exact .base (.str z)
  | lst h1 _ _ =>
    cases h
    rcases h1 with ⟨h1 | ⟨o, h1⟩, _⟩ | h1 | ⟨o, its, n, h1, h2, _⟩
    · exact .base (.lst h1)
    · exact .base (.frz h1)
    · exact (noRd h1).elim
    · exact .kList h1 h2
  | tup h1 _ _ =>
    cases h
    rcases h1 with ⟨h1 | ⟨o, h1⟩, _⟩ | h1 | ⟨o, its, n, h1, h2, _⟩
    · exact .base (.tup h1)
    · exact .fTuple h1
    · exact (noRd h1).elim
    · exact .kTuple h1 h2
  | ins _ _ _ _ => cases h
  | exn _ _ _ _ => cases h
  | exv _ _ _ => cases h
  | obj _ => cases h
  | cls _ => cases h
def isD (T : String) (d : D) : Option D := match tyN d with
  | some t => (kitB t T).map .bl
  | none => none
def isD2 (T T2 : String) (d : D) : Option D := match tyN d with
  | some t => match kitB t T, kitB t T2 with
    | some a, some b => some (.bl (a || b))
    | _, _ => none
  | none => none
theorem fe_is {p q : Pos} {T : Str} {TS : String} (hK : X.K = C.K) (hm : X.mg "isinstance" = none) (hmT : X.mg T = none) (ha : FE C W X e fe) (hg : Gl X "isinstance" := by rfl) (hgT : Gl X T := by rfl) (hvT : bootBuiltins T = some (.type TS) := by decide +kernel)
    (hn : T ≠ "__name__" := by decide) (hdb : (T == ("__debug__" : Str)) = false := by decide)
    (hs : starEach [e, .Name T q] X.env = (false, eval e X.env) :: starEach [.Name T q] X.env := by rfl) (hpl : (backTo pos (starEach [.Name T q] X.env)).any (·.1) = false := by rfl)
    (hs2 : starEach [.Name T q] X.env = (false, eval (.Name T q) X.env) :: starEach [] X.env := by rfl) : FE C W X (.Call (.Name "isinstance" p) [e, .Name T q] [] pos) (fCall1 (isD TS) fe) := by
  refine PE.imp (pe_callB call_isi hg hm (by decide +kernel) (pa_cons ha (pa_cons (pe_bltn (v := .ty TS) hgT hmT hvT rfl hn hdb) pa_nil hs2) hs) (by decide) (by decide) hs hpl) fun σ H Q ⟨G, δ, η, at0, fin⟩ => ?_
  refine tG.bind (Rel2 := Rp C) at0 fin fun d v G1 H1 η1 a1 x1 r1 fin1 => ?_
  unfold isD at fin1
  split at fin1
  · rename_i t ht
    cases hk : kitB t TS with
    | none => rw [hk] at fin1; exact fin1.elim
    | some b =>
      rw [hk] at fin1
      have ty := tyX r1 ht
      rw [← hK] at ty
      exact ⟨v, .ty TS, _, _, b, rfl, .ty TS, ty, kit_ty hk, fin1 _ G1 H1 Nx.refl a1.he (.bl b)⟩
  · exact fin1.elim
theorem fe_is2 {p q q2 tp : Pos} {kk : Nat} {T T2 : Str} {TS TS2 : String} (hK : X.K = C.K) (hm : X.mg "isinstance" = none) (hmT : X.mg T = none) (hmT2 : X.mg T2 = none) (ha : FE C W X e fe) (hg : Gl X "isinstance" := by rfl) (hgT : Gl X T := by rfl) (hgT2 : Gl X T2 := by rfl) (hvT : bootBuiltins T = some (.type TS) := by decide +kernel) (hvT2 : bootBuiltins T2 = some (.type TS2) := by decide +kernel)
    (hn : T ≠ "__name__" := by decide) (hdb : (T == ("__debug__" : Str)) = false := by decide) (hn2 : T2 ≠ "__name__" := by decide) (hdb2 : (T2 == ("__debug__" : Str)) = false := by decide)
    (hs : starEach [e, .Tuple [.Name T q, .Name T2 q2] kk tp] X.env = (false, eval e X.env) :: starEach [.Tuple [.Name T q, .Name T2 q2] kk tp] X.env := by rfl) (hpl : (backTo pos (starEach [.Tuple [.Name T q, .Name T2 q2] kk tp] X.env)).any (·.1) = false := by rfl)
    (hs2 : starEach [.Tuple [.Name T q, .Name T2 q2] kk tp] X.env = (false, eval (.Tuple [.Name T q, .Name T2 q2] kk tp) X.env) :: starEach [] X.env := by rfl)
    (hs3 : starEach [.Name T q, .Name T2 q2] X.env = (false, eval (.Name T q) X.env) :: starEach [.Name T2 q2] X.env := by rfl) (hs4 : starEach [.Name T2 q2] X.env = (false, eval (.Name T2 q2) X.env) :: starEach [] X.env := by rfl) :
    FE C W X (.Call (.Name "isinstance" p) [e, .Tuple [.Name T q, .Name T2 q2] kk tp] [] pos) (fCall1 (isD2 TS TS2) fe) := by
  refine PE.imp (pe_callB call_isiT hg hm (by decide +kernel) (pa_cons ha (pa_cons (pe_tup (pa_cons (pe_bltn (v := .ty TS) hgT hmT hvT rfl hn hdb) (pa_cons (pe_bltn (v := .ty TS2) hgT2 hmT2 hvT2 rfl hn2 hdb2) pa_nil hs4) hs3)) pa_nil hs2) hs) (by decide) (by decide) hs hpl) fun σ H Q ⟨G, δ, η, at0, fin⟩ => ?_
  refine tG.bind (Rel2 := Rp C) at0 fin fun d v G1 H1 η1 a1 x1 r1 fin1 => ?_
  refine ⟨by rw [sizeLine_eq]; simp, fun tpl htp => ?_⟩
  unfold isD2 at fin1
  split at fin1
  · rename_i t ht
    split at fin1
    · rename_i ka kb hka hkb
      have ty := tyX (r1.stab ((Nx.alloc (o := .tup [.ty TS, .ty TS2]) htp).stab a1.he)) ht
      rw [← hK] at ty
      refine ⟨v, tpl, _, _, _, ka || kb, rfl, upd_same, .cons (.ty TS) (.cons (.ty TS2) .nil), ty, ?_, fin1 _ G1 _ (Nx.alloc htp) (a1.he.alloc htp) (.bl _)⟩
      refine kitAny_cons (kit_ty hka) (fun h => kitAny_cons (kit_ty hkb) (fun h2 => ?_) fun h2 => ?_) fun h => ?_
      · rw [h, h2]; exact kitAny_nil
      · rw [h2]; simp
      · rw [h]; rfl
    · exact fin1.elim
  · exact fin1.elim
end
end DL
namespace DL
open PySem L2
/-! ### data as the library knows it -/
mutual
def toPy : D → PyData
  | .non => .none
  | .bl b => .bool b
  | .int i => .int i
  | .str x => .str x
  | .lst l => .list (toPys l)
  | .tup l => .tuple (toPys l)
  | .ins _ _ _ => .none
  | .obj _ => .none
  | .exn _ _ _ => .none
  | .cls _ => .none
def toPys : List D → List PyData
  | [] => []
  | d :: l => toPy d :: toPys l
end
mutual
/-- data alone: no instances; at most n deep -/
def pureD : Nat → D → Bool
  | _, .non => true
  | _, .bl _ => true
  | _, .int _ => true
  | _, .str _ => true
  | 0, .lst _ => false
  | 0, .tup _ => false
  | n + 1, .lst l => pureDs n l
  | n + 1, .tup l => pureDs n l
  | _, .ins _ _ _ => false
  | _, .obj _ => false
  | _, .exn _ _ _ => false
  | _, .cls _ => false
def pureDs : Nat → List D → Bool
  | _, [] => true
  | n, d :: l => pureD n d && pureDs n l
end
section
variable {C : Ct} {G : Gh} {H : Hp}
mutual
theorem dp_of {K : PySem.W.Frag} (hK : K = C.K) : ∀ {n : Nat} {d : D} {v : V}, Rp C G H d v → pureD n d = true → Dp K H v (toPy d) ∧ (toPy d).canLay0 = true ∧ (toPy d).depth ≤ n
  | n, _, _, .non, _ => by
    rw [toPy]; exact ⟨.non, rfl, Nat.zero_le _⟩
  | n, _, _, .bl b, _ => by rw [toPy]; exact ⟨.bl b, rfl, Nat.zero_le _⟩
  | n, _, _, .int i, _ => by rw [toPy]; exact ⟨.int i, rfl, Nat.zero_le _⟩
  | n, _, _, .str x h, _ => by rw [toPy]; exact ⟨.str x, by simpa [PyData.canLay0] using h, Nat.zero_le _⟩
  | 0, _, _, .lst h z r, p => by simp [pureD] at p
  | 0, _, _, .tup h z r, p => by simp [pureD] at p
  | n + 1, _, _, .lst h z r, p => by
    rw [pureD] at p
    obtain ⟨h1, h2, h3⟩ := dps_of hK r p
    rw [toPy]
    refine ⟨.lst (by rw [hK]; exact h.sq) h1, by simpa [PyData.canLay0] using h2, ?_⟩
    simp only [PyData.depth]
    omega
  | n + 1, _, _, .tup h z r, p => by
    rw [pureD] at p
    obtain ⟨h1, h2, h3⟩ := dps_of hK r p
    rw [toPy]
    refine ⟨.tup (by rw [hK]; exact h.sq) h1, by simpa [PyData.canLay0] using h2, ?_⟩
    simp only [PyData.depth]
    omega
  | n, _, _, .ins _ _ _ _, p => by cases n <;> simp [pureD] at p
  | n, _, _, .obj _, p => by cases n <;> simp [pureD] at p
  | n, _, _, .exn _ _ _ _, p => by cases n <;> simp [pureD] at p
  | n, _, _, .exv _ _ _, p => by cases n <;> simp [pureD] at p
  | n, _, _, .cls _, p => by cases n <;> simp [pureD] at p
theorem dps_of {K : PySem.W.Frag} (hK : K = C.K) : ∀ {n : Nat} {l : List D} {vs : List V}, Rps C G H l vs → pureDs n l = true → DpAll K H vs (toPys l) ∧ PyData.canLayAll0 (toPys l) = true ∧ PyData.depthAll (toPys l) ≤ n
  | n, _, _, .nil, _ => by rw [toPys]; exact ⟨.nil, rfl, Nat.zero_le _⟩
  | n, _, _, .cons r q, p => by
    rw [pureDs, Bool.and_eq_true] at p
    obtain ⟨h1, h2, h3⟩ := dp_of hK r p.1
    obtain ⟨g1, g2, g3⟩ := dps_of hK q p.2
    rw [toPys]
    refine ⟨.cons h1 g1, by simp [PyData.canLayAll0, h2, g2], ?_⟩
    simp only [PyData.depthAll]
    omega
end
theorem dp_u {K : PySem.W.Frag} (hK : K = C.K) {n : Nat} {d : D} {v : V} (r : Rpu C G H d v) (p : pureD n d = true) : Dp K H v (toPy d) ∧ (toPy d).canLay0 = true ∧ (toPy d).depth ≤ n := by
  rcases r with r | ⟨a, vs, l, rfl, rfl, h, r, _⟩
  · exact dp_of hK r p
  · cases n with
    | zero => simp [pureD] at p
    | succ n =>
      rw [pureD] at p
      obtain ⟨h1, h2, h3⟩ := dps_of hK r p
      rw [toPy]
      refine ⟨.lst (SqL.of h) h1, by simpa [PyData.canLay0] using h2, ?_⟩
      simp only [PyData.depth]
      omega
end
def eqvD (d e : D) : Bool := PyData.eqv (toPy d) (toPy e)
def okq (d : D) : Bool := pureD 20 d
def eqD (d e : D) : Option D := if okq d = true ∧ okq e = true then some (.bl (eqvD d e)) else none
def neD (d e : D) : Option D := if okq d = true ∧ okq e = true then some (.bl (!eqvD d e)) else none
section
variable {X : Cx} {C : Ct} {W : WX} {pos p2 : Pos} {e a b : Expr} {es : List Expr} {fe fa fb : F D} {fs fn : F (List D)} {tg : Expr}
theorem shaped_of {d : PyData} (h : d.canLay0 = true) (z : d.depth ≤ 20) : SeqAt.shaped d = true := by
  unfold SeqAt.shaped
  rw [h, Bool.true_and, decide_eq_true_eq]
  omega
theorem o_eq (hK : X.K = C.K) (hu : X.A.units + 64 < cLine) : OpR X (compareOp .Eq) (rD C eqD) := opD (op_eqD hu) fun x y H Q ⟨G, η, d, e, hr, h1, h2, q⟩ => by
  unfold eqD at q
  split at q
  · rename_i h
    obtain ⟨a1, a2, a3⟩ := dp_u hK h1 h.1
    obtain ⟨b1, b2, b3⟩ := dp_u hK h2 h.2
    exact ⟨_, _, a1, b1, shaped_of a2 a3, shaped_of b2 b3, q.same hr (.bl _)⟩
  · exact q.elim
theorem o_ne (hK : X.K = C.K) (hu : X.A.units + 64 < cLine) : OpR X (compareOp .NotEq) (rD C neD) := opD (op_neD hu) fun x y H Q ⟨G, η, d, e, hr, h1, h2, q⟩ => by
  unfold neD at q
  split at q
  · rename_i h
    obtain ⟨a1, a2, a3⟩ := dp_u hK h1 h.1
    obtain ⟨b1, b2, b3⟩ := dp_u hK h2 h.2
    exact ⟨_, _, a1, b1, shaped_of a2 a3, shaped_of b2 b3, q.same hr (.bl _)⟩
  · exact q.elim
/-! ### in -/
def inL (d : D) (l : List D) : Bool := l.any fun y => eqvD y d
def inD (d e : D) : Option D := match e with
  | .lst l => if okq d = true ∧ pureDs 20 l = true then some (.bl (inL d l)) else none
  | .tup l => if okq d = true ∧ pureDs 20 l = true then some (.bl (inL d l)) else none
  | .str j => match d with
    | .str i => some (.bl (!(Builtin.Str.occurrences j i 0 j.length 1).isEmpty))
    | _ => none
  | _ => none
def notInD (d e : D) : Option D := (inD d e).bind fun r => match r with
  | .bl b => some (.bl (!b))
  | _ => none
/-! ### any walk over a list, a tuple, a text -/
def walkD : D → Option (List D)
  | .lst l => some l
  | .tup l => some l
  | .str z => if z.length ≤ sizeLine then some (signsD z) else none
  | _ => none
def fiA (fa : F D) : F (List D) := fun δ η => (fa δ η).bind fun d η => lift (walkD d) η
theorem fi_any (hK : X.K = C.K) (he : FE C W X e fe) : FI C W X tg e (fiA fe) := ⟨fun pins s σ H R I ⟨G, δ, η, a, fin⟩ => by
  unfold fiA at fin
  cases hf : fe δ η with
  | bad => rw [hf] at fin; exact fin.elim
  | exc c ns l η1 => exact (fi_lst (tg := tg) hK he).run pins s σ H R I ⟨G, δ, η, a, by unfold fiL; rw [hf] at fin ⊢; exact fin⟩
  | ok d η1 =>
    rw [hf, bind_ok] at fin
    cases d with
    | lst l => exact (fi_lst (tg := tg) hK he).run pins s σ H R I ⟨G, δ, η, a, by unfold fiL; rw [hf]; exact fin⟩
    | tup l => exact (fi_tup (tg := tg) hK he).run pins s σ H R I ⟨G, δ, η, a, by unfold fiT; rw [hf]; exact fin⟩
    | str z => exact (fi_str (tg := tg) he).run pins s σ H R I ⟨G, δ, η, a, by
        unfold fiS
        rw [hf, bind_ok]
        unfold walkD at fin
        dsimp only at fin ⊢
        by_cases hz : z.length ≤ sizeLine
        · rw [if_pos hz] at fin; simp only [hz, if_true]; exact fin
        · rw [if_neg hz] at fin; exact fin.elim⟩
    | _ => exact fin.elim⟩
end
end DL
namespace DL
open PySem L2
section
variable {X : Cx} {C : Ct} {W : WX} {pos p2 : Pos} {e a b : Expr} {es : List Expr} {fe fa fb : F D} {fs fn : F (List D)} {tg : Expr}
/-! ### calls with keywords -/
/-- the values by their places -/
def pick {α : Type} (ix : List Nat) (l : List α) : List α := ix.filterMap fun i => l[i]?
abbrev FK (C : Ct) (W : WX) (X : Cx) (kws : List Keyword) (f : F (List D)) : Prop := PK X kws (tG C (Rps C) W f)
theorem PK.imp {X : Cx} {e : List Keyword} {t t' : TA} (h : PK X e t) (i : ∀ σ H Q, t' σ H Q → t σ H Q) : PK X e t' := ⟨fun pos pins s σ H Q I q => h.run pos pins s σ H Q I (i _ _ _ q)⟩
variable {kws : List Keyword} {fk : F (List D)} {nm : Option Str} {kpos : Pos}
theorem fk_nil : FK C W X [] fNil := PK.imp pk_nil fun σ H Q ⟨G, δ, η, a, fin⟩ => fin [] G H Nx.refl a.he .nil
theorem fk_cons (ha : FE C W X e fe) (hr : FK C W X kws fk) : FK C W X (⟨nm, e, kpos⟩ :: kws) (fCons fe fk) := by
  refine PK.imp (pk_cons ha hr) fun σ H Q ⟨G, δ, η, at0, fin⟩ => ?_
  refine tG.bind (Rel2 := Rps C) at0 fin fun d v G1 H1 η1 a1 x1 r1 fin1 => ?_
  refine tG.bind (Rel2 := Rps C) a1 fin1 fun ds vs G2 H2 η2 a2 x2 r2 fin2 => ?_
  exact fin2 _ G2 H2 Nx.refl a2.he (.cons (r1.stab (x2.stab a1.he)) r2)
/-- how keywords bind: the places of the parameters' values in positional ++ keyword values -/
structure KB (K : PySem.W.Frag) (fd : FuncData) (ps : List Str) (n : Nat) (ks : List Str) (ix : List Nat) : Prop where
  to : ∀ (s : Shared) (us ws : List Value), K.In s.heap → us.length = n → ws.length = ks.length → BindsTo s fd ⟨us, ks.zip ws⟩ (ps.zip (pick ix (us ++ ws)))
variable {P : Program} {k n np nk : Nat} {f : Addr} {fd : FuncData} {ps ks : List Str} {df : DF} {x : Str} {p : Pos} {ix : List Nat}
def fCallK (np nk n : Nat) (f : DF) (ix : List Nat) (fa fk : F (List D)) : F D := fun δ η => (fa δ η).bind fun ds η => (fk δ η).bind fun es η => if ds.length = np ∧ es.length = nk then (arg n f (pick ix (ds ++ es)) η).nox else .bad
/-! ### a, b = e1, e2 -/
def sPar (i j : Nat) (fa fb : F D) : S := fun δ η => (fa δ η).toS δ fun d η => (fb δ η).toS δ fun e η => .nx ((δ.set i (some (.val d))).set j (some (.val e))) η
theorem fs_par {i j : Nat} {st : Stmt} (h : PS X st (tPar i j (tCons (tG C (Rp C) W fa) (tCons (tG C (Rp C) W fb) tNil)))) : FS C W X st (sPar i j fa fb) := PS.imp h fun Dn σ H ⟨B, G, δ, η, h, fin⟩ => by
  refine tG.bindS h fin fun d v G1 H1 η1 h1 x1 r1 fin1 => ?_
  refine tG.bindS h1 fin1 fun e w G2 H2 η2 h2 x2 r2 fin2 => ?_
  exact ⟨v, w, rfl, fin2 G2 H2 _ ((h2.setVal (r1.stab (x2.stab h1.a.he))).setVal r2)⟩
end
end DL
namespace DL
open PySem L2
section
variable {X : Cx} {C : Ct} {W : WX} {pos p2 : Pos} {e a b : Expr} {es : List Expr} {fe fa fb : F D} {fs fn : F (List D)} {tg : Expr}
/-- name = e -/
def sSet (i : Nat) (f : F D) : S := fun δ η => (f δ η).toS δ fun d η => .nx (δ.set i (some (.val d))) η
theorem fs_set {i : Nat} {st : Stmt} (h : PS X st (tAsg (tG C (Rp C) W fe) (gName i))) : FS C W X st (sSet i fe) := PS.imp h fun Dn σ H ⟨B, G, δ, η, h, fin⟩ =>
  tG.bindS h fin fun d v G1 H1 η1 h1 x1 r1 fin1 => fin1 G1 H1 _ (h1.setVal r1)
def fNeg (fa : F D) : F D := fun δ η => (fa δ η).bind fun d η => match d with
  | .int i => .ok (.int (-i)) η
  | _ => .bad
theorem fe_neg (ha : FE C W X a fa) : FE C W X (.UnaryOp .USub a pos) (fNeg fa) := PE.imp (pe_un un_neg ha) fun σ H Q ⟨G, δ, η, at0, fin⟩ => by
  refine tG.bind (Rel2 := Rp C) at0 fin fun d v G1 H1 η1 a1 x1 r1 fin1 => ?_
  cases r1 with
  | int i => exact ⟨i, rfl, fin1 _ G1 H1 Nx.refl a1.he (.int _)⟩
  | _ => exact fin1.elim
/-! ### a new list as an object of the store -/
def Gh.push (G : Gh) (p : Addr) : Gh := ⟨G.ads ++ [p], fun a => G.M a ∨ a = p⟩
theorem Nx.push {G : Gh} {H : Hp} {p : Addr} {o : HO} (hp : H p = none) : Nx G H (G.push p) (upd H p o) := by
  refine ⟨fun n a h => ?_, fun a u h _ => by rw [upd_ne (ne_of_none h hp)]; exact h, fun a u h => ⟨fun z => z.elim (fun z => z) fun e => ?_, .inl⟩, fun a h => ?_, fun a h => ?_⟩
  · show (G.ads ++ [p])[n]? = some a
    rw [List.getElem?_append_left (List.getElem?_eq_some_iff.mp h).1]; exact h
  · subst e; rw [hp] at h; cases h
  · rcases List.mem_append.mp h with z | z
    · exact .inl z
    · rw [List.mem_singleton] at z; subst z; exact .inr hp
  · by_cases e : a = p
    · subst e; exact hp
    · rw [upd_ne e] at h; exact h
theorem Rh.push {G : Gh} {H : Hp} {η : List O} {p : Addr} {o : HO} {o' : O} (r : Rh C G H η) (hp : H p = none) (q : Ro C (G.push p) (upd H p o) o' p) : Rh C (G.push p) (upd H p o) (η ++ [o']) := by
  have np : p ∉ G.ads := fun hm => r.mh p (r.adsM hm) hp
  have x : Nx G H (G.push p) (upd H p o) := Nx.push hp
  refine ⟨by show (G.ads ++ [p]).length = _; simp [r.len], ?_, fun n u a h1 h2 => ?_, fun a m => ?_⟩
  · show (G.ads ++ [p]).Nodup
    rw [List.nodup_append]
    refine ⟨r.nd, by simp, fun a ha b hb => ?_⟩
    rw [List.mem_singleton] at hb
    subst hb
    exact fun e => np (e ▸ ha)
  · have h2 : (G.ads ++ [p])[n]? = some a := h2
    by_cases hn : n < η.length
    · rw [List.getElem?_append_left hn] at h1
      rw [List.getElem?_append_left (by rw [r.len]; exact hn)] at h2
      obtain ⟨m, z⟩ := r.ob n u a h1 h2
      refine ⟨.inl m, z.stab (x.stab r) fun w hw => ?_⟩
      rw [upd_ne (ne_of_none hw hp)]; exact hw
    · rw [List.getElem?_append_right (by omega)] at h1
      rw [List.getElem?_append_right (by rw [r.len]; omega), r.len] at h2
      have hz : n - η.length = 0 := by
        have := (List.getElem?_eq_some_iff.mp h1).1
        simp at this
        omega
      rw [hz] at h1 h2
      cases h1
      cases h2
      exact ⟨.inr rfl, q⟩
  · rcases m with m | rfl
    · exact fun z => r.mh a m (x.there a z)
    · rw [upd_same]; exact fun z => by cases z
def fNewO (f : F (List D)) : F D := fun δ η => (f δ η).bind fun l η => .ok (.obj η.length) (η ++ [.lst l])
theorem fe_newO (h : FN C W X e fn) : FE C W X e (fNewO fn) := PE.imp h fun σ H Q ⟨G, δ, η, a, fin⟩ => by
  refine ⟨G, δ, η, a, ?_⟩
  unfold fNewO at fin
  cases hf : fn δ η with
  | ok l η1 =>
    rw [hf, bind_ok] at fin
    intro p vs G1 H1 x r q hz hp
    have y : Nx G1 H1 (G1.push p) (upd H1 p (.lst vs)) := Nx.push hp
    refine fin (.ref p) (G1.push p) _ (x.trans y) (r.push hp (.lst upd_same hz (q.stab (y.stab r)))) (.obj ?_)
    show (G1.ads ++ [p])[η1.length]? = some p
    rw [← r.len]; simp
  | exc c ns l η1 => rw [hf] at fin; exact fin
  | bad => rw [hf] at fin; exact fin
/-! ### a def that hands nothing: the bottom of a recursion -/
theorem ok_bot {P : Program} {w : World} {K : PySem.W.Frag} {mg : Str → Option Value} {base : Heap} {f : Addr} {fd : FuncData} {ps : List Str} {k : Nat} : FnOk P w K mg base CX0 k f fd ps (spD C ps.length fun _ _ => .bad) :=
  ⟨fun _ _ _ _ h => h.1, fun _ _ _ _ _ _ _ _ _ _ _ _ _ hs => by obtain ⟨_, _, _, _, _, _, z⟩ := hs; exact z.elim⟩
end
end DL
namespace DL
open PySem L2
/-! ### the built-ins' names -/
theorem bt_len : bootBuiltins "len" = some (.builtin "len") := by decide +kernel
theorem bt_all : bootBuiltins "all" = some (.builtin "all") := by decide +kernel
theorem bt_int : bootBuiltins "int" = some (.type "int") := by decide +kernel
theorem bt_list : bootBuiltins "list" = some (.type "list") := by decide +kernel
theorem bt_tuple : bootBuiltins "tuple" = some (.type "tuple") := by decide +kernel
theorem bt_str : bootBuiltins "str" = some (.type "str") := by decide +kernel
theorem bt_bool : bootBuiltins "bool" = some (.type "bool") := by decide +kernel
/-! ### the law's own start: an empty store, the script -/
theorem rps_ints {C : Ct} {G : Gh} {H : Hp} : ∀ ns : List Int, Rps C G H (ns.map D.int) (ns.map V.int)
  | [] => .nil
  | n :: ns => .cons (.int n) (rps_ints ns)
theorem law_sp {K : PySem.W.Frag} {cl : Nat → Addr} {m : DF} {H : Hp} {a : Addr} {ns : List Int} (t : ∀ ns : List Int, ns.length ≤ 63 → ∃ η, m [.lst (ns.map .int)] [] = .ok (.bl true) η) (hl : ns.length ≤ 63) (ho : Only H) (hS : SqL K H a (ns.map V.int)) :
    spD ⟨K, cl, fun _ => 0, none⟩ 1 m [.ref a] H (fun v _ => v = .bl true) fun _ _ _ => False := by
  obtain ⟨η, e⟩ := t ns hl
  refine ⟨rfl, ⟨[], fun _ => False⟩, [.lst (ns.map .int)], [], .cons (.lst ?_ ?_ (rps_ints ns)) .nil, ⟨rfl, List.nodup_nil, fun n o b h => by simp at h, fun _ h => h.elim⟩, ?_⟩
  · rcases hS with h | h
    · exact .inl ⟨h, fun z => z⟩
    · exact .inr (.inr h)
  · rw [List.length_map, sizeLine_eq]; omega
  · rw [e]
    intro v G' H' _ _ r
    cases r
    rfl
end DL
namespace DL
open PySem L2
/-! ### what is never reached -/
def fBad : F D := fun _ _ => .bad
def sBad : S := fun _ _ => .bad
section
variable {X : Cx} {C : Ct} {W : WX} {pos p2 : Pos} {e a b : Expr} {es : List Expr} {fe fa fb fo : F D} {fs fn fk : F (List D)} {tg : Expr}
/-! ### fields of instances -/
/-- the object of class c with all its fields NS -/
def insD (η : List O) (c : Nat) (NS : List Str) (d : D) : Option (Nat × List D) := match d with
  | .obj n => match η[n]? with
    | some (.ins c' ns l) => if c' = c ∧ ns = NS then some (n, l) else none
    | _ => none
  | _ => none
def fFld (c : Nat) (NS : List Str) (i : Nat) (fo : F D) : F D := fun δ η => (fo δ η).bind fun d η => match insD η c NS d with
  | some (_, l) => match l[i]? with
    | some x => .ok x η
    | none => .bad
  | none => .bad
/-- o.f = e, a field more -/
def sFldN (c : Nat) (NS NS' : List Str) (fe fo : F D) : S := fun δ η => (fe δ η).toS δ fun d η => (fo δ η).toS δ fun o η => match insD η c NS o with
  | some (n, l) => .nx δ (η.set n (.ins c NS' (l ++ [d])))
  | none => .bad
/-- o.f = e, a field that is there -/
def sFldO (c : Nat) (NS : List Str) (i : Nat) (fe fo : F D) : S := fun δ η => (fe δ η).toS δ fun d η => (fo δ η).toS δ fun o η => match insD η c NS o with
  | some (n, l) => .nx δ (η.set n (.ins c NS (l.set i d)))
  | none => .bad
/-! ### methods -/
variable {P : Program} {k n np nk : Nat} {g A : Addr} {fd : FuncData} {ps ks : List Str} {df : DF} {x : Str} {p : Pos} {ix : List Nat}

/-- a call's values by their places: the written ones, the keywords', the defaults -/
def argK (np nk n : Nat) (df : DF) (ix : List Nat) (dv ds es : List D) : List O → R D := fun η => if ds.length = np ∧ es.length = nk then (arg n df (pick ix (ds ++ es ++ dv)) η).nox else .bad
/-- how a def binds -/
structure KD (K : PySem.W.Frag) (fd : FuncData) (ps : List Str) (np : Nat) (ks : List Str) (ix : List Nat) (dv : List D) (g : List Value → List Value → List Value) (gV : List V → List V → List V) : Prop where
  b : KBn K fd ps np ks g gV
  r : ∀ {C : Ct} {G : Gh} {H : Hp} {ds es : List D} {vs zs : List V}, C.K = K → Rps C G H ds vs → Rps C G H es zs → Rps C G H (pick ix (ds ++ es ++ dv)) (gV vs zs)
def fMeth (c : Nat) (NS : List Str) (np nk n : Nat) (df : DF) (ix : List Nat) (dv : List D) (fo : F D) (fs fk : F (List D)) : F D := fun δ η => (fo δ η).bind fun d η => match insD η c NS d with
  | some _ => (fs δ η).bind fun ds η => (fk δ η).bind fun es η => argK np nk n df ix dv (d :: ds) es η
  | none => .bad
section
variable {CX : CXT} {sp : Sp} {E : XK} {ta : TE} {t tk : TA} {g2 : List Value → List Value → List Value} {gV : List V → List V → List V} {Cc : Addr} {m : Str} {apos : Pos} {kws : List Keyword} {pl : Sem Bool}
end
section
variable {c : Nat} {NS : List Str} {m : Str} {pl : Sem Bool} {apos : Pos} {kws : List Keyword} {dv : List D}
/-! ### new instances -/
def fNewI (c np nk n : Nat) (df : DF) (ix : List Nat) (dv : List D) (fs fk : F (List D)) : F D := fun δ η => (fs δ η).bind fun ds η => (fk δ η).bind fun es η' => (argK np nk n df ix dv (.obj η'.length :: ds) es (η' ++ [.ins c [] []])).bind fun z η2 => match z with
  | .non => .ok (.obj η'.length) η2
  | _ => .bad
end
end
end DL
namespace DL
open PySem L2
section
variable {X : Cx} {C : Ct} {W : WX} {pos p2 : Pos} {e a b : Expr} {es : List Expr} {fe fa fb fo : F D} {fs fn fk : F (List D)} {tg : Expr}
variable {P : Program} {k n np nk : Nat} {g A : Addr} {fd : FuncData} {ps ks : List Str} {df : DF} {x : Str} {p : Pos} {ix : List Nat}
/-- an object of class c -/
def insC (η : List O) (c : Nat) (d : D) : Bool := match d with
  | .obj n => match η[n]? with
    | some (.ins c' _ _) => decide (c' = c)
    | _ => false
  | _ => false
def fProp (c n : Nat) (df : DF) (fo : F D) : F D := fun δ η => (fo δ η).bind fun d η => if insC η c d = true then (arg n df [d] η).nox else .bad
/-! ### x in o, an object with __contains__ -/
def fInM (c n : Nat) (df : DF) (neg : Bool) (fa fb : F D) : F D := fun δ η => (fa δ η).bind fun d η => (fb δ η).bind fun o η => if insC η c o = true then ((arg n df [o, d] η).nox).bind fun z η => (match z with | .bl b => .ok (.bl (neg != b)) η | _ => .bad) else .bad
/-! ### o.f += e -/
def sFldA (c : Nat) (NS : List Str) (i : Nat) (fo fe : F D) : S := fun δ η => (fo δ η).toS δ fun o η => match insD η c NS o with
  | some (_, l) => match l[i]? with
    | some (.int x) => (fe δ η).toS δ fun d η => match insD η c NS o, d with
      | some (n, l), .int y => .nx δ (η.set n (.ins c NS (l.set i (.int (x + y)))))
      | _, _ => .bad
    | _ => .bad
  | none => .bad
/-! ### a constant of a class -/
end
end DL
namespace DL
open PySem PySem.Spec PyProof.Rows L2
/-! ### len(set(texts)) -/
/-- how many of the first i are new -/
def cnt (xs : List Str) : Nat → Nat
  | 0 => 0
  | i + 1 => if (xs.take i).any (· == xs.getD i Str.empty) then cnt xs i else cnt xs i + 1
section
variable {prog : Program} {w : World} {A : Around} {R : Result → Shared → Prop} {It : Addr} {fp wr : List Addr} {Gs : Array GenState → Array GenState → Prop} {n : Nat} {P : Nat → Value → Prop} {St : Nat → Shared → Prop}
end

section
variable {prog : Program} {w : World} {A : Around} {E : Value → Shared → Prop} {s : Shared} {l : Addr} {items : Array Value} {xs : List Str}

end

section
variable {X : Cx} {C : Ct} {W : WX} {e a : Expr} {fa : F D} {ta : TE} {p p2 q pos : Pos}
def fLenSet (fa : F D) : F D := fun δ η => (fa δ η).bind fun d η => match d with
  | .lst l => match strsOf l with
    | some xs => if xs.length ≤ 1000 then .ok (.int (cnt xs xs.length : Nat)) η else .bad
    | none => .bad
  | .tup l => match strsOf l with
    | some xs => if xs.length ≤ 1000 then .ok (.int (cnt xs xs.length : Nat)) η else .bad
    | none => .bad
  | _ => .bad
end
end DL
namespace DL
open PySem L2
section
variable {X : Cx} {C : Ct} {W : WX} {pos p2 p : Pos} {e a b : Expr} {es : List Expr} {fe fa fb fo : F D} {fs fn fr : F (List D)} {tg : Expr}
/-! ### [.., *e, ..] -/
def fStar (fa : F D) (fr : F (List D)) : F (List D) := fun δ η => (fa δ η).bind fun d η => match d with
  | .lst l => (fr δ η).bind fun ds η => .ok (l ++ ds) η
  | .tup l => (fr δ η).bind fun ds η => .ok (l ++ ds) η
  | _ => .bad
/-! ### methods that change a list -/
structure MutOk (C : Ct) (r : V → List V → Hp → VK → Prop) (mu : List D → List D → Option (List D)) : Prop where
  to : ∀ {G : Gh} {H : Hp} {l ds l2 : List D} {vs ws : List V} {q : Addr} {Q : VK}, mu l ds = some l2 → Rps C G H l vs → Rps C G H ds ws → H q = some (.lst vs) → (∀ vs2, Rps C G H l2 vs2 → l2.length ≤ sizeLine → Q .non (upd H q (.lst vs2))) → r (.ref q) ws H Q
def muApp : List D → List D → Option (List D)
  | l, [d] => if l.length < sizeLine then some (l ++ [d]) else none
  | _, _ => none
theorem mu_app : MutOk C rAppend muApp := ⟨fun {G H l ds l2 vs ws q Q} h r s e k => by
  unfold muApp at h
  split at h
  · split at h
    · rename_i d hz
      cases h
      cases s with
      | cons s1 s2 =>
        cases s2
        exact ⟨q, vs, _, rfl, rfl, e, by rw [← r.length]; exact hz, k _ (r.append (.cons s1 .nil)) (by rw [List.length_append]; exact hz)⟩
    · cases h
  · cases h⟩
abbrev rInsert : V → List V → Hp → VK → Prop := fun x vs H Q => ∃ (l : Addr) (xs : List V) (i : Int) (y : V), x = .ref l ∧ vs = [.int i, y] ∧ H l = some (.lst xs) ∧ xs.length < sizeLine ∧ 0 ≤ i ∧ i < 2 ^ 63 ∧
    Q .non (upd H l (.lst (xs.take i.toNat ++ [y] ++ xs.drop i.toNat)))
def muIns : List D → List D → Option (List D)
  | l, [.int i, d] => if l.length < sizeLine ∧ 0 ≤ i ∧ i < 2 ^ 63 then some (l.take i.toNat ++ [d] ++ l.drop i.toNat) else none
  | _, _ => none
theorem mu_ins : MutOk C rInsert muIns := ⟨fun {G H l ds l2 vs ws q Q} h r s e k => by
  unfold muIns at h
  split at h
  · split at h
    · rename_i i d hz
      cases h
      cases s with
      | cons s1 s2 =>
        cases s1
        cases s2 with
        | cons s3 s4 =>
          cases s4
          have hl := hz.1
          refine ⟨q, vs, i, _, rfl, rfl, e, by rw [← r.length]; exact hz.1, hz.2.1, hz.2.2, k _ (((r.take i.toNat).append (.cons s3 .nil)).append (r.drop i.toNat)) ?_⟩
          simp only [List.length_append, List.length_take, List.length_drop, List.length_cons, List.length_nil]
          omega
    · cases h
  · cases h⟩
def muClr : List D → List D → Option (List D)
  | _, [] => some []
  | _, _ => none
def sMut (i : Nat) (mu : List D → List D → Option (List D)) (fs : F (List D)) : S := fun δ η => match δ[i]? with
  | some (some (.own l)) => (fs δ η).toS δ fun ds η => match mu l ds with
    | some l2 => .nx (δ.set i (some (.own l2))) η
    | none => .bad
  | _ => .bad
theorem fs_mut {r : V → List V → Hp → VK → Prop} {mu : List D → List D → Option (List D)} (i : Nat) (hmu : MutOk C r mu) (h : PE X e (tBM X.K "list" r (tVar i) (tG C (Rps C) W fs))) (hsw : swapsWith e none pos.line X.env = pure false := by rfl) : FS C W X (.Expr e pos) (sMut i mu fs) := by
  refine PS.imp (ps_expr h hsw) fun Dn σ H ⟨B, G, δ, η, h, fin⟩ => ?_
  unfold sMut at fin
  split at fin
  · rename_i l hl
    obtain ⟨v, h1, h2⟩ := h.a.sl i _ hl
    cases h2 with
    | @own q vs _ m ee zz r =>
      refine ⟨_, h1, .inl ⟨rfl, vs, SqL.of ee⟩, ?_⟩
      refine tG.bindS h fin fun d v G1 H1 η1 h1' x1 r1 fin1 => ?_
      split at fin1
      · rename_i l2 hm
        have st := x1.stab h.a.he
        have e1 := x1.keep _ _ ee (h.a.nad i _ _ hl rfl h1)
        have m1 := (x1.mu _ _ ee).mpr m
        refine hmu.to hm (r.stab st) r1 e1 fun vs2 r2 hz => fin1 _ _ _ (h1'.chOwn hl h1 m1 e1 hz r2)
      · exact fin1.elim
  · exact fin.elim
/-- .. of the store -/
def sMutO (mu : List D → List D → Option (List D)) (fo : F D) (fs : F (List D)) : S := fun δ η => (fo δ η).toS δ fun d η => match d with
  | .obj n => match η[n]? with
    | some (.lst _) => (fs δ η).toS δ fun ds η => match η[n]? with
      | some (.lst l) => match mu l ds with
        | some l2 => .nx δ (η.set n (.lst l2))
        | none => .bad
      | _ => .bad
    | _ => .bad
  | _ => .bad
/-! ### a, b = e, [..]: the second the frame's own list -/
def sParN (i j : Nat) (fa : F D) (fn : F (List D)) : S := fun δ η => (fa δ η).toS δ fun d η => (fn δ η).toS δ fun l η => .nx ((δ.set i (some (.val d))).set j (some (.own l))) η
/-! ### two ways to read -/
end
end DL
namespace DL
open PySem L2
open PyProof.Rows (envOfC)
section
variable {X : Cx} {C : Ct} {W : WX} {pos p2 p : Pos} {e a b : Expr} {es : List Expr} {fe fa fb fo : F D} {fs fn fr : F (List D)} {tg : Expr}
/-! ### a frame's own list changes no more -/
def sFz (i : Nat) (f : S) : S := fun δ η => match δ[i]? with
  | some (some (.own l)) => f (δ.set i (some (.val (.lst l)))) η
  | _ => f δ η
theorem Hold.freeze {B : Bs} {G : Gh} {H : Hp} {δ : En} {σ : St} {η : List O} {i : Nat} {l : List D} (h : Hold C B G H δ σ η) (hl : δ[i]? = some (some (.own l))) : ∃ G2, Hold C B G2 H (δ.set i (some (.val (.lst l)))) σ η := by
  obtain ⟨v, h1, h2⟩ := h.a.sl i _ hl
  cases h2 with
  | @own p vs _ m e zz r =>
    have hb := h.o i _ p hl rfl h1
    have npa := h.a.nad i _ p hl rfl h1
    have rh : Rh C (G.sub p) H η := by
      refine ⟨h.a.he.len, h.a.he.nd, fun n o a z1 z2 => ?_, fun a z => h.a.he.mh a z.1⟩
      obtain ⟨m, q⟩ := h.a.he.ob n o a z1 z2
      exact ⟨⟨m, fun e => npa (by rw [← e]; exact List.mem_of_getElem? z2)⟩, q.stab Stab.sub fun _ z => z⟩
    refine ⟨G.sub p, ⟨by rw [List.length_set]; exact h.a.len, fun j l2 hj => ?_, fun j k l2 l3 v hne e1 e2 o1 o2 s1 s2 => ?_, fun j l2 a hj ho hs => ?_, rh⟩, fun j l2 a hj ho hs => ?_, ⟨h.n.ads, h.n.keep, fun a o ha => ⟨fun z => (h.n.mu a o ha).mp z.1, fun z => ⟨(h.n.mu a o ha).mpr z, fun q => ?_⟩⟩, h.n.new, h.n.there⟩, ⟨h.s.ads, fun a o ha hm => ⟨(h.s.keep a o ha hm).1, fun z => (h.s.keep a o ha hm).2 z.1⟩⟩⟩
    · rcases getSet hj with ⟨rfl, q⟩ | ⟨hk, hj⟩
      · cases q
        exact ⟨_, h1, .val (.lst (.inl ⟨.inl e, fun z => z.2 rfl⟩) zz (r.stab Stab.sub))⟩
      · obtain ⟨w, e1, e2⟩ := h.a.sl j l2 hj
        refine ⟨w, e1, ?_⟩
        cases e2 with
        | val r2 => exact .val (r2.stab Stab.sub)
        | own m2 e2 z2 r2 => exact .own ⟨m2, fun q => h.a.un j i _ _ _ hk hj hl rfl rfl e1 (by rw [h1, q])⟩ e2 z2 (r2.stab Stab.sub)
        | oins m2 e2 n2 r2 => exact .oins ⟨m2, fun q => h.a.un j i _ _ _ hk hj hl rfl rfl e1 (by rw [h1, q])⟩ e2 n2 (r2.stab Stab.sub)
    · rcases getSet e1 with ⟨rfl, q⟩ | ⟨hk, e1⟩
      · cases q; cases o1
      · rcases getSet e2 with ⟨rfl, q⟩ | ⟨hk2, e2⟩
        · cases q; cases o2
        · exact h.a.un j k l2 l3 v hne e1 e2 o1 o2 s1 s2
    · rcases getSet hj with ⟨rfl, q⟩ | ⟨hk, hj⟩
      · cases q; cases ho
      · exact h.a.nad j l2 a hj ho hs
    · rcases getSet hj with ⟨rfl, q⟩ | ⟨hk, hj⟩
      · cases q; cases ho
      · exact h.o j l2 a hj ho hs
    · subst q; rw [hb] at ha; cases ha
theorem fss_frz {sts : List Stmt} {f : S} (i : Nat) (h : FSs C W X sts f) : FSs C W X sts (sFz i f) := PSs.imp h fun Dn σ H ⟨B, G, δ, η, h, fin⟩ => by
  unfold sFz at fin
  split at fin
  · rename_i l hl
    obtain ⟨G2, h2⟩ := h.freeze hl
    exact ⟨B, G2, _, η, h2, fin⟩
  · exact ⟨B, G, δ, η, h, fin⟩
/-! ### an object of the store, read as it stands -/
def fDr (fa : F D) : F D := fun δ η => (fa δ η).bind fun d η => match d with
  | .obj n => match η[n]? with
    | some (.lst l) => .ok (.lst l) η
    | _ => .ok d η
  | _ => .ok d η
end
/-! ### a def, with or without defaults -/
structure FunG (K : PySem.W.Frag) (x qual : Str) (st : Stmt) (f : Addr) (fd : FuncData) : Prop where
  ex : ∃ (oc : Value) (od : Option Addr) (dV kV doc pm : Value) (an : Option Addr) (cdv ct : Value) (osl : Array (Option Value)),
    fd = PySem.W.fnOf x qual (defArgs st) (defBody st) (defScope st) dV kV doc pm an cdv ct ∧ K.lookup f = some ⟨oc, od, .func fd, osl⟩ ∧ PySem.W.codeIn K cdv qual = true
  kp : PySem.W.keepIn K (.ref f) = true
section
variable {P : Program} {w : World} {K : PySem.W.Frag} {mg : Str → Option Value} {base : Heap} {C : Ct}
theorem FunG.mk' {x qual : Str} {st : Stmt} {f : Addr} {oc : Value} {od an : Option Addr} {osl : Array (Option Value)} {dV kV doc pm cdv ct : Value} (l : K.lookup f = some ⟨oc, od, .func (PySem.W.fnOf x qual (defArgs st) (defBody st) (defScope st) dV kV doc pm an cdv ct), osl⟩)
    (c : PySem.W.codeIn K cdv qual = true) (k : PySem.W.keepIn K (.ref f) = true) : FunG K x qual st f (PySem.W.fnOf x qual (defArgs st) (defBody st) (defScope st) dV kV doc pm an cdv ct) := ⟨⟨oc, od, dV, kV, doc, pm, an, cdv, ct, osl, rfl, l, c⟩, k⟩
/-- THE RULE for a def that lets no exception out -/
theorem ok_defG {x qual : Str} {st : Stmt} {f : Addr} {fd : FuncData} {N ps : List Str} {k n np : Nat} {fb : S} (F : FunG K x qual st f fd) (S : FnScope N ps (defScope st)) (hC : K = C.K) (hn : N.length = n) (hnp : ps.length = np)
    (hbody : ∀ (cdv : Value) (A : Around) (outer : List Env) (s : Shared) (H : Hp), Room k (A.deeper (envOfC qual (defScope st) s.heap.objs.size f cdv)) →
      FSs C WX0 (cxOf CX0 P w K mg base N qual (defScope st) f cdv A outer s H E0).nox (defBody st) fb) : FnOk P w K mg base CX0 (k + 1) f fd ps (spD C np (runD n fb)) := by
  obtain ⟨oc, od, dV, kV, doc, pm, an, cdv, ct, osl, rfl, lk, hcd⟩ := F.ex
  subst hn hnp
  refine fn_of lk hcd S (fun vs H Q E h => h.1) fun A outer s H vs Q E hr h => ?_
  obtain ⟨hl, G, ds, η, r, rh, fin⟩ := h
  have hd : ds.length = ps.length := r.length.trans hl
  refine ⟨_, (hbody cdv A outer s H hr).nox, ⟨G, H, G, H⟩, G, _, η, ⟨start_at r rh, fun i l a e o => ?_, Nx.refl, Stab.refl⟩, ?_⟩
  · exfalso
    by_cases hi : i < ds.length
    · rw [List.getElem?_append_left (by simpa using hi), List.getElem?_map] at e
      cases q : ds[i]? with
      | none => rw [q] at e; cases e
      | some d => rw [q] at e; cases e; cases o
    · rw [List.getElem?_append_right (by simpa using hi), List.getElem?_replicate] at e
      split at e <;> cases e
  · unfold runD at fin
    split at fin
    · rename_i δ' η' q
      rw [q]
      exact fun G' H' σ' h => fin _ G' H' h.n h.a.he .non
    · rename_i d η' q
      rw [q]
      exact fun v G' H' nx rh r => fin v G' H' nx rh r
    · rename_i c ns l δ' η' q
      rw [q]
      exact fun x vs G' H' σ' h q1 q2 => fin x vs G' H' h.n h.a.he q1 q2
    · exact fin.elim
end
end DL
namespace DL
open PySem L2
/-- law's promise, at every table of classes -/
def spL (K : PySem.W.Frag) (m : DF) : Sp := fun vs H Q E => ∀ cl : Nat → Addr, spD ⟨K, cl, fun _ => 0, none⟩ 1 m vs H Q E
theorem law_spL {K : PySem.W.Frag} {m : DF} {H : Hp} {a : Addr} {ns : List Int} (t : ∀ ns : List Int, ns.length ≤ 63 → ∃ η, m [.lst (ns.map .int)] [] = .ok (.bl true) η) (hl : ns.length ≤ 63) (ho : Only H) (hS : SqL K H a (ns.map V.int)) :
    spL K m [.ref a] H (fun v _ => v = .bl true) fun _ _ _ => False := fun cl => law_sp t hl ho hS
end DL
namespace DL
open PySem L2
section
variable {X : Cx} {C : Ct} {W : WX} {pos p2 : Pos} {e a b : Expr} {es : List Expr} {fe fa fb fc fo : F D} {fs fn : F (List D)} {tg : Expr}
/-- a, b = [..], e: the first the frame's own list -/
def sParNV (i j : Nat) (fn : F (List D)) (fa : F D) : S := fun δ η => (fn δ η).toS δ fun l η => (fa δ η).toS δ fun d η => .nx ((δ.set i (some (.own l))).set j (some (.val d))) η
/-- a, b, c = e1, e2, e3 -/
def sPar3 (i j l : Nat) (fa fb fc : F D) : S := fun δ η => (fa δ η).toS δ fun d η => (fb δ η).toS δ fun e η => (fc δ η).toS δ fun g η => .nx (((δ.set i (some (.val d))).set j (some (.val e))).set l (some (.val g))) η
end
end DL
namespace DL
open PySem L2
section
variable {X : Cx} {C : Ct} {W : WX} {pos p2 p : Pos} {e a b : Expr} {es : List Expr} {fe fa fb fo : F D} {fs fn fk : F (List D)}
variable {P : Program} {k n : Nat} {g A : Addr} {fd : FuncData} {ps ks : List Str} {df : DF} {x : Str}
/-! ### len(o), repr(o), o == q of objects of the text's own classes -/
def fLenM (c n : Nat) (df : DF) (fa : F D) : F D := fun δ η => (fa δ η).bind fun o η => if insC η c o = true then ((arg n df [o] η).nox).bind fun z η => (match z with | .int i => if 0 ≤ i ∧ i < 2 ^ 63 then .ok (.int i) η else .bad | _ => .bad) else .bad
def fReprM (c n : Nat) (df : DF) (fa : F D) : F D := fun δ η => (fa δ η).bind fun o η => if insC η c o = true then ((arg n df [o] η).nox).bind fun z η => (match z with | .str i => .ok (.str i) η | _ => .bad) else .bad
end
end DL
namespace DL
open PySem L2
section
variable {X : Cx} {C : Ct} {W : WX} {pos p2 p : Pos} {e a b : Expr} {es : List Expr} {fe fa fb fo : F D} {fs fn fk : F (List D)}
/-! ### texts of numbers, f-strings -/
def intTx (i : Int) : Option D := if i.natAbs.log2 < 1920 ∧ PySem.PyData.strOk (toString i) = true then some (.str (toString i)) else none
def fmtD : D → Option D
  | .str y => if y.length ≤ sizeLine then some (.str y) else none
  | .int i => intTx i
  | _ => none
def jsF : List (F D) → Str → F D
  | [], acc => fun δ η => .ok (.str acc) η
  | f :: fs, acc => fun δ η => (f δ η).bind fun d η => match d with
    | .str y => if (acc ++ y).length ≤ sizeLine then jsF fs (acc ++ y) δ η else .bad
    | _ => .bad
inductive FJ (C : Ct) (W : WX) (X : Cx) : List Expr → List (F D) → Prop
  | nil : FJ C W X [] []
  | cons {e : Expr} {f : F D} {es : List Expr} {fs : List (F D)} : FE C W X e f → FJ C W X es fs → FJ C W X (e :: es) (f :: fs)
def strC : D → Option D
  | .int i => intTx i
  | .str y => some (.str y)
  | _ => none
end
end DL
namespace DL
open PySem L2
section
variable {X : Cx} {C : Ct} {W : WX} {pos p2 p : Pos} {e a b : Expr} {es : List Expr} {fe fa fb fo : F D} {fs fn fk : F (List D)}
variable {P : Program} {k n : Nat} {g A : Addr} {fd : FuncData} {ps ks : List Str} {df : DF} {x : Str}
/-! ### o == q, both of one class of the text's own, by its __eq__ -/
def fEqM (c n : Nat) (df : DF) (fa fb : F D) : F D := fun δ η => (fa δ η).bind fun d η => (fb δ η).bind fun o η => if insC η c d = true ∧ insC η c o = true then ((arg n df [d, o] η).nox).bind fun z η => (match z with | .bl b => .ok (.bl b) η | _ => .bad) else .bad
/-! ### isinstance(o, Own), o of that class -/
end
end DL
namespace DL
open PySem PySem.Spec PyProof.Rows L2
/-! ### sorted(set(ints)) -/
section
variable {prog : Program} {w : World} {A : Around} {E : Value → Shared → Prop} {s : Shared} {l : Addr} {items : Array Value} {ns : List Int}
end
end DL
namespace DL
open PySem PySem.Spec PyProof.Rows L2
/-- k put into a rising list, once -/
def insU (k : Int) : List Int → List Int
  | [] => [k]
  | x :: l => if k < x then k :: x :: l else if k = x then x :: l else x :: insU k l
/-- the members, rising, each once -/
def sortU (ns : List Int) : List Int := ns.foldr insU []
section
variable {X : Cx} {C : Ct} {W : WX} {e a : Expr} {fa : F D} {ta : TE} {p p2 q pos : Pos}
def numsOf : List D → Option (List Int)
  | [] => some []
  | .int b :: r => (numsOf r).map (b :: ·)
  | _ => none
def fSortSet (fa : F D) : F (List D) := fun δ η => (fa δ η).bind fun d η => match d with
  | .lst l => match numsOf l with
    | some ns => if ns.length < 64 ∧ (sortU ns).length ≤ sizeLine then .ok ((sortU ns).map .int) η else .bad
    | none => .bad
  | .tup l => match numsOf l with
    | some ns => if ns.length < 64 ∧ (sortU ns).length ≤ sizeLine then .ok ((sortU ns).map .int) η else .bad
    | none => .bad
  | _ => .bad
end
end DL
namespace DL
open PySem L2
/-! ### min, max, sum of a list of ints -/
def intsOf : List D → Option (List Int)
  | [] => some []
  | .int b :: r => (intsOf r).map (b :: ·)
  | _ => none
section
variable {X : Cx} {C : Ct} {W : WX}
def minOf (n : Int) (l : List Int) : Int := l.foldl min n
def maxOf (n : Int) (l : List Int) : Int := l.foldl max n
def minC : D → Option D
  | .lst l => match intsOf l with
    | some (n :: r) => some (.int (minOf n r))
    | _ => none
  | _ => none
def maxC : D → Option D
  | .lst l => match intsOf l with
    | some (n :: r) => some (.int (maxOf n r))
    | _ => none
  | _ => none
theorem all_nil {p : Nat → Prop} : ∀ c ∈ ([] : List Nat), p c := fun _ h => nomatch h
theorem all_cons {p : Nat → Prop} {a : Nat} {l : List Nat} (h : p a) (r : ∀ c ∈ l, p c) : ∀ c ∈ a :: l, p c := fun c hc => by
  rcases List.mem_cons.mp hc with rfl | hc
  · exact h
  · exact r c hc
end
end DL
/-! own exceptions whose __init__ says super().__init__('..'), then stores its fields -/
namespace DX
open PySem PySem.W PySem.Calls PyProof.Rows PySem.HandSPX
/-- what the written part says of an own exception class at C, its __init__ at fI (its class cell at cc), over the built-in B -/
structure ExK (K : Frag) (C fI cc : Addr) (B newId initId : String) (bmB : List Value) : Prop where
  exi : excInitIn K C bmB newId = true
  exo : excOver K C bmB = true
  ini : findIn K (.ref C) "__init__" = some (some (.ref fI))
  fn : isFn K (.ref fI) = true
  sup : ks_superIn K C C "__init__" = some (some (.builtin initId))
  sB : subIn K (.ref C) (.type B) = some true
  mC : mroIn K C (.ref C) = some true
  any : nsIn K cStatics "thirdparty.any" = some none
  noS : nsIn K mainGlobals "super" = some none
  cell : ∃ cl cld csl, K.lookup cc = some ⟨cl, cld, .cell (some (.ref C)), csl⟩
  sa : findIn K (.ref C) "__setattr__" = some (some (.builtin "object.__setattr__"))
  hd : hasDictIn K C = true
  kC : keepIn K (.ref C) = true
  exC : subIn K (.ref C) (.type "BaseException") = some true
  tyC : typeIn K (.ref C) = some (.type "type")
structure ExB (B newId initId : String) (bmB : List Value) : Prop where
  FB : ExcBaseFacts B newId initId bmB
  KF : KxsFacts B initId
  SF : StoreFacts B bmB "object.__setattr__" "object"
theorem exB_Value : ExB "ValueError" "ValueError.__new__" "ValueError.__init__" [.type "ValueError", .type "Exception", .type "BaseException", .type "object"] := ⟨PySem.F.excBase_ValueError, kxs_ValueError, PySem.F.store_ValueError⟩
theorem exB_Lookup : ExB "LookupError" "LookupError.__new__" "LookupError.__init__" [.type "LookupError", .type "Exception", .type "BaseException", .type "object"] := ⟨PySem.F.excBase_LookupError, kxs_LookupError, PySem.F.store_LookupError⟩
theorem exB_Index : ExB "IndexError" "IndexError.__new__" "IndexError.__init__" [.type "IndexError", .type "LookupError", .type "Exception", .type "BaseException", .type "object"] := ⟨PySem.F.excBase_IndexError, kxs_IndexError, PySem.F.store_IndexError⟩

section
variable {prog : Program} {w : World} {A : Around} {s : Shared} {K : Frag} {E : Value → Shared → Prop} {C fI cc : Addr} {B newId initId : String} {bmB : List Value}
/-- the bound built-in __init__ at u, called -/
theorem mw_call {u x t0 : Addr} {rest : List Value} {Q : Value → Shared → Prop} (b : ExB B newId initId bmB) (T : ExK K C fI cc B newId initId bmB) (X : K.In s.heap) (hu : s.heap.get? u = some (kxs_mw initId x)) (hx : s.heap.get? x = some (excObj C t0 none .none)) (hz : rest.length ≤ sizeLine)
    (h : ∀ h' t1, (∀ c o, c ≠ x → s.heap.get? c = some o → h'.get? c = some o) → h'.get? x = some (excObj C t1 none .none) → Q .none { s with heap := h' }) : wpAny (model prog w) A (call (.ref u) rest) Q E s := by
  obtain ⟨nm, N', qn, bs, bm, hdct, sn, sub, ab, col, dd, k0, k1, k2, k3, k5, hC, hT⟩ := excInit_of X T.exi
  obtain ⟨hh, g, d, tk, os⟩ := s
  refine wpAny_call (codeAny_of_tree ?_)
  show wpAny _ A.in1 (callAny (.ref u) ⟨rest, []⟩) _ _ _
  simp only [callAny]
  refine wpAny_bind (wpAny_load hu ?_)
  have hb : (Value.type "method-wrapper" == Value.type "method" || Value.type "method-wrapper" == Value.type "builtin_function_or_method" || Value.type "method-wrapper" == Value.type "method-wrapper") = true := by decide
  simp only [kxs_mw, hb, if_true]
  refine KFB.if_so (by decide) ?_
  refine wpAny_bind (check_bound_init b.FB.toExcCallFacts hC hx rfl ?_)
  refine wpAny_bind (wpAny_pure (wpAny_pure ?_))
  refine ⟨plainId_quiet b.FB.init.plain _, codeAny_builtin b.FB.initEntry ?_⟩
  exact exc_init_tree (cls := .ref C) (t0 := t0) (dv := none) (c2 := .none) (c3 := .none) (b4 := .bool false) hx hz fun h' k1 e1 _ => h h' _ k1 e1
/-- super().__init__('..') -/
theorem sup_stmt {qual file msg : Str} {scope : Scope} {L cda : Addr} {fd : FuncData} {oc ccl : Value} {od cdd : Option Addr} {osl ccs : Array (Option Value)} {ar : Arg} {vs : Array Value} {tf : Tok} {body : List Stmt} {p0 p1 p2 p3 p4 p5 : Pos} {j : Nat} {m mg mb : Str → Option Value} {x t0 : Addr} {Q : Flow → Shared → Prop} {pl : Sem Bool}
    (b : ExB B newId initId bmB) (T : ExK K C fI cc B newId initId bmB) (X : K.In s.heap) (hx : s.heap.get? x = some (excObj C t0 none .none)) (hn : s.heap.Ns L m) (hv : m ar.arg = some (.ref x))
    (hf : K.lookup fI = some ⟨oc, od, .func fd, osl⟩) (hp : (fd.params.posonlyargs ++ fd.params.args).head? = some ar) (hcode : K.lookup cda = some ⟨ccl, cdd, .fields vs, ccs⟩) (hvs : vs[2]? = some (.str file tf)) (hfile : ((prog.main.file : Str) == file) = true)
    (hks : scope.names.lookup ("super" : Str) = some .globalImplicit) (hkc : scope.names.lookup ("__class__" : Str) = some .free) (hka : scope.names.lookup ar.arg = some .local) (hk : scope.kind = .function) (htop : (prog.main.scope.names.lookup ("super" : Str)).isSome = false)
    (gg : s.heap.Ns mainGlobals mg) (gm : mg "super" = none) (gb : s.heap.Ns builtinsNs mb) (gs : mb "super" = some (.type "super"))
    (h : ∀ h' t1 tk, (∀ c o, c ≠ x → s.heap.get? c = some o → h'.get? c = some o) → h'.get? x = some (excObj C t1 none .none) → Q .next { s with heap := h', toks := tk })
    (he : eval (.Call (.Attribute (.Call (.Name "super" p0) [] [] p1) "__init__" p2) [.Constant (.str msg) j p3] [] p4) (ksEnv qual scope L fI (.ref cda) cc) = (do
      let ov ← attributeBase (.Call (.Name "super" p0) [] [] p1) "__init__" (ksEnv qual scope L fI (.ref cda) cc) (eval (.Call (.Name "super" p0) [] [] p1) (ksEnv qual scope L fI (.ref cda) cc))
      standAt p2.atName
      let (f, first) ← holding [ov] (getMethod ov "__init__" pl)
      callWith p4 f first (backTo p4 (starEach [.Constant (.str msg) j p3] (ksEnv qual scope L fI (.ref cda) cc))) [])) :
    _root_.PySem.wpAt (model prog w) A (.func body (ksEnv qual scope L fI (.ref cda) cc)) (exec (.Expr (.Call (.Attribute (.Call (.Name "super" p0) [] [] p1) "__init__" p2) [.Constant (.str msg) j p3] [] p4) p5) (ksEnv qual scope L fI (.ref cda) cc)) Q E s := by
  obtain ⟨hh, g, d, t, os⟩ := s
  obtain ⟨cl, cld, csl, hcell⟩ := T.cell
  obtain ⟨nm, N', qn, bs, bm, hdct, sn, sub, ab, col, dd, k0, k1, k2, k3, k5, hC, hT⟩ := excInit_of X T.exi
  have hint : interactive (ksEnv qual scope L fI (.ref cda) cc) = false := by
    unfold interactive
    show (scope.kind == .module && _) = false
    rw [hk]; rfl
  refine ks_wpAt_Expr_any (ks_wpAt_MethodCall (pl := pl) ?_ he) hint
  refine ks_wpAt_super_base (env := ksEnv qual scope L fI (.ref cda) cc) hks hkc rfl rfl (X _ _ hf) rfl hp rfl (X _ _ hcode) rfl hvs hfile htop ?_
  refine ks_loadName_global hk hks (loadGlobal_builtin (env := ksEnv qual scope L fI (.ref cda) cc) gg gm gb gs ⟨rfl, ?_⟩)
  refine wpAny_loadName_free hk hkc rfl ⟨_, X _ _ hcell, rfl⟩ ?_
  refine wpAny_loadName_local hk hka hn hv ?_
  refine ks_wpAny_isType_cls hC rfl ⟨rfl, ?_⟩
  refine ks_wpAny_call_super hC rfl hx rfl (fun c e => by cases e) (looks_mroIn X T.mC) (fun h1 e1 k1 => ?_)
  have X1 : K.In h1 := X.keeps k1
  have hx1 := k1 _ _ hx
  have I1 : InstAt h1 x (excObj C t0 none .none) C none := ⟨hx1, rfl, rfl, trivial⟩
  have hsup := T.sup
  cases hc : clsIn K C with
  | none => unfold ks_superIn at hsup; rw [hc] at hsup; cases hsup
  | some cd =>
    unfold ks_superIn at hsup
    rw [hc] at hsup
    refine kxs_getMethod b.KF e1 (looks_opaque X1 T.any) (l₀ := cd.mro) (fun A Q E s k q => wpAny_bind ((looks_clsIn X1 hc) A _ E s k (wpAny_pure q))) rfl X1 hsup (I1.type.andThen (looks_subIn X1 T.sB)) (ks_ne X1 I1 hc) rfl ?_
    have hu : (h1.push (kxs_mw initId x)).get? h1.objs.size = some (kxs_mw initId x) := Heap.get?_push_size _ rfl
    refine kxs_callWith (i := initId) (x := x) rfl (evalArgs_plain ?_)
    refine Calls.spliced_cons ?_
    show wpAny _ _ (eval (.Constant (.str msg) j p3) (ksEnv qual scope L fI (.ref cda) cc)) _ _ _
    refine wpAny_Constant_str ?_
    refine Calls.spliced_nil ⟨hu, ?_⟩
    refine mw_call b T (X1.keeps fun c o e => Heap.get?_push_of_some _ e) hu (Heap.get?_push_of_some _ hx1) (by rw [sizeLine_eq]; simp) fun h' t1 k2 e2 => ?_
    exact h h' t1 _ (fun c o hc e => k2 c o hc (Heap.get?_push_of_some _ (k1 c o e))) e2
/-- self.name = v: the exception has no dict yet -/
theorem set_new {name : Str} {v : Value} {x t0 : Addr} {Q : Unit → Shared → Prop} (b : ExB B newId initId bmB) (T : ExK K C fI cc B newId initId bmB) (X : K.In s.heap) (hx : s.heap.get? x = some (excObj C t0 none .none)) (ht : takerIn K C name = some none)
    (h : ∀ h' dx tk, (∀ c o, c ≠ x → s.heap.get? c = some o → h'.get? c = some o) → s.heap.objs.size ≤ dx → dx ≠ x → h'.get? x = some (excObj C t0 (some dx) .none) → h'.Ns1 dx (fun y => if y = name then some v else none) → Q () { s with heap := h', toks := tk }) :
    wpAny (model prog w) A (setAttr (.ref x) name v) Q E s := by
  obtain ⟨cd, hc, hd'⟩ := any_some T.hd
  have hxs : x ≠ s.heap.objs.size := Nat.ne_of_lt (Heap.lt_size hx)
  refine set_plain (od := none) X ⟨hx, rfl, rfl, trivial⟩ T.sa ?_
  refine osa_openX (s := { s with toks := s.toks + 1 }) (od := none) b.SF X ⟨hx, rfl, rfl, trivial⟩ T.exo ht fun _ => ?_
  refine wpAny_bind (wpAny_pure (wpAny_bind (instanceDict_exc hx (looks_clsIn X hc) hd' ?_)))
  show wpAny _ _ (Builtin.ObjectAttr.storeInDict s.heap.objs.size (.str name s.toks) name v) _ _ _
  have old : ∀ {c : Addr} {o : Obj}, s.heap.get? c = some o → c ≠ s.heap.objs.size := fun e => Nat.ne_of_lt (Heap.lt_size e)
  refine store_in_new ⟨_, #[], _, (Heap.get?_update_ne _ _ _ _ hxs.symm).trans (Heap.get?_push_at rfl rfl), rfl, fun e he => absurd he (by simp), fun _ => rfl⟩ fun h' tk' hn' hs => ?_
  have hx1 : (s.heap.push (dictOf [] 0)).get? x = some (excObj C t0 none .none) := Heap.get?_push_of_some _ hx
  refine h h' s.heap.objs.size tk' (fun c o hc ho => ?_) (Nat.le_refl _) hxs.symm ?_ hn'
  · exact (hs.2 c (old ho)).trans ((Heap.get?_update_ne _ _ _ _ hc).trans (Heap.get?_push_of_some _ ho))
  · exact (hs.2 x hxs).trans (Heap.get?_update_self _ hx1 rfl)
/-- self.name = v: one field more -/
theorem set_more {name : Str} {v : Value} {x t0 dx : Addr} {m0 : Str → Option Value} {nl : List Str} {Q : Unit → Shared → Prop} (b : ExB B newId initId bmB) (T : ExK K C fI cc B newId initId bmB) (X : K.In s.heap) (hx : s.heap.get? x = some (excObj C t0 (some dx) .none)) (ht : takerIn K C name = some none)
    (hn : s.heap.Ns1 dx m0) (hw : Within m0 nl) (hz : nl.length ≤ 1000)
    (h : ∀ h' tk, (∀ c o, c ≠ dx → s.heap.get? c = some o → h'.get? c = some o) → h'.Ns1 dx (fun y => if y = name then some v else m0 y) → Q () { s with heap := h', toks := tk }) :
    wpAny (model prog w) A (setAttr (.ref x) name v) Q E s := by
  obtain ⟨cd, hc, hd'⟩ := any_some T.hd
  obtain ⟨oD, _, _, hoD, _, _⟩ := hn.count hw
  obtain ⟨hp, g, d, t, os⟩ := s
  refine set_plain (od := some oD) X ⟨hx, rfl, rfl, hoD⟩ T.sa ?_
  refine osa_openX (s := ⟨hp, g, d, t + 1, os⟩) (od := some oD) b.SF X ⟨hx, rfl, rfl, hoD⟩ T.exo ht fun _ => ?_
  refine wpAny_bind (wpAny_pure (wpAny_bind (wpAny_bind (wpAny_loadPart hx (wpAny_bind ((looks_clsIn X hc).at ?_))))))
  rw [hd']
  refine wpAny_pure (a := some dx) ?_
  exact OEX.store_in_old hn hw hz fun h' tk' hn' hs => h h' tk' (fun c o hc ho => (hs.2 c hc).trans ho) hn'
end
end DX
namespace DX
open PySem PySem.W PySem.Calls PyProof.Rows PySem.HandSPX
/-- the def of __init__ in the written part -/
structure ExF (prog : Program) (K : Frag) (fI cc cda : Addr) (qual : Str) (params : Arguments) (body : List Stmt) (scope : Scope) : Prop where
  lk : ∃ oc od kV doc pm an ct osl, K.lookup fI = some ⟨oc, od, .func (ksFn "__init__" qual params body scope .none kV doc pm an (.ref cda) ct cc), osl⟩
  cd : codeIn K (.ref cda) qual = true
  code : ∃ (ccl : Value) (cdd : Option Addr) (vs : Array Value) (ccs : Array (Option Value)) (file : Str) (tf : Tok), K.lookup cda = some ⟨ccl, cdd, .fields vs, ccs⟩ ∧ vs[2]? = some (.str file tf) ∧ ((prog.main.file : Str) == file) = true
  top : (prog.main.scope.names.lookup ("super" : Str)).isSome = false
/-- its names -/
structure ExS (scope : Scope) (ps : List Str) : Prop where
  kind : scope.kind = .function
  co : scope.isCoroutine = false
  gen : scope.isGenerator = false
  cell : ∀ x ∈ scope.names, x.2 ≠ .cell
  par : ∀ p ∈ ps, scope.names.lookup p = some .local
  sup : scope.names.lookup ("super" : Str) = some .globalImplicit
  cls : scope.names.lookup ("__class__" : Str) = some .free
/-- the module's facts in a state -/
structure Gb (h : Heap) : Prop where
  gg : ∃ mg : Str → Option Value, h.Ns mainGlobals mg ∧ mg "super" = none
  gb : ∃ mb : Str → Option Value, h.Ns builtinsNs mb ∧ mb "super" = some (.type "super")
/-- the line of the call super().__init__('..') -/
def LineOk (qual msg : Str) (scope : Scope) (fI cc cda : Addr) (p0 p1 p2 p3 p4 : Pos) (j : Nat) : Prop := ∀ L : Addr, ∃ pl : Sem Bool, eval (.Call (.Attribute (.Call (.Name "super" p0) [] [] p1) "__init__" p2) [.Constant (.str msg) j p3] [] p4) (ksEnv qual scope L fI (.ref cda) cc) = (do
      let ov ← attributeBase (.Call (.Name "super" p0) [] [] p1) "__init__" (ksEnv qual scope L fI (.ref cda) cc) (eval (.Call (.Name "super" p0) [] [] p1) (ksEnv qual scope L fI (.ref cda) cc))
      standAt p2.atName
      let (f, first) ← holding [ov] (getMethod ov "__init__" pl)
      callWith p4 f first (backTo p4 (starEach [.Constant (.str msg) j p3] (ksEnv qual scope L fI (.ref cda) cc))) [])
/-- what __init__ leaves of a fresh exception at x -/
structure InitEnd (h h' : Heap) (x C dx t1 : Addr) (m : Str → Option Value) : Prop where
  keep : ∀ b o, b ≠ x → h.get? b = some o → h'.get? b = some o
  obj : h'.get? x = some (excObj C t1 (some dx) .none)
  dbig : h.objs.size ≤ dx
  dne : dx ≠ x
  ns : h'.Ns1 dx m
section
variable {prog : Program} {w : World} {A : Around} {s : Shared} {K : Frag} {E : Value → Shared → Prop} {C fI cc cda : Addr} {B newId initId : String} {bmB : List Value} {R : Result → Shared → Prop}
variable {qual nm f : Str} {params : Arguments} {body : List Stmt} {scope : Scope} {p0 p1 p2 p3 p4 p5 q1 q2 q3 q4 r1 r2 r3 r4 : Pos} {j j2 : Nat} {ar : Arg}
theorem kept_but {h h' : Heap} {x : Addr} (X : K.In h) (hx : K.lookup x = none) (k : ∀ b o, b ≠ x → h.get? b = some o → h'.get? b = some o) : K.In h' := fun a o e => k a o (fun z => by rw [z, hx] at e; cases e) (X a o e)
/-- without one -/
theorem exc_init0 {x t0 : Addr} (b : ExB B newId initId bmB) (T : ExK K C fI cc B newId initId bmB) (F : ExF prog K fI cc cda qual params body scope) (S : ExS scope ["self"])
    (hb : body = [.Expr (.Call (.Attribute (.Call (.Name "super" p0) [] [] p1) "__init__" p2) [.Constant (.str nm) j p3] [] p4) p5, .Assign [.Attribute (.Name "self" r1) "code" r2] (.Constant (.str nm) j2 r3) r4])
    (hp : (params.posonlyargs ++ params.args).head? = some ar) (ha : ar.arg = "self") (line : LineOk qual nm scope fI cc cda p0 p1 p2 p3 p4 j) (tc : takerIn K C "code" = some none)
    (bd : ∀ (kV doc pm : Value) (an : Option Addr) (ct u : Value), bindArgs (ksFn "__init__" qual params body scope .none kV doc pm an (.ref cda) ct cc) ⟨[u], []⟩ = pure [(("self" : Str), u)])
    (X : K.In s.heap) (G : Gb s.heap) (hlim : s.heap.NoLimit) (hx : s.heap.get? x = some (excObj C t0 none .none)) (hnx : K.lookup x = none) (hroom : A.depth < recursionLimit)
    (hq : ∀ h' tk dx t1 tk', InitEnd s.heap h' x C dx t1 (fun y => if y = "code" then some (.str nm tk') else none) → R (.ok (.ret .none)) { s with heap := h', toks := tk }) :
    codeAny (model prog w) A (.call (.ref fI) ⟨[.ref x], []⟩) R s := by
  obtain ⟨oc, od, kV, doc, pm, an, ct, osl, lk⟩ := F.lk
  obtain ⟨ccl, cdd, vs, ccs, file, tfl, hcode, hvs, hfile⟩ := F.code
  have pS := S.par "self" (by simp)
  refine ks_codeAny_call_defAt (fd := ksFn "__init__" qual params body scope .none kV doc pm an (.ref cda) ct cc) (body := body) (binds := [(("self" : Str), .ref x)]) hroom (X _ _ lk) rfl hlim (codeRec_of X F.cd) rfl (.of_eq (bd _ _ _ _ _ _)) S.cell
    (fun y hy => by
      rcases List.mem_cons.mp hy with rfl | hy
      · exact pS
      · cases hy) (fun h1 hn k1 => ?_) S.co S.gen S.kind
  obtain ⟨hh, g, d, t, os⟩ := s
  show _root_.PySem.wpAt (model prog w) (A.deeper (ksEnv qual scope hh.objs.size fI (.ref cda) cc)) (.func body (ksEnv qual scope hh.objs.size fI (.ref cda) cc)) (execs body (ksEnv qual scope hh.objs.size fI (.ref cda) cc)) _ _ _
  rw [show execs body (ksEnv qual scope hh.objs.size fI (.ref cda) cc) = execs _ _ from by rw [hb]]
  have hxL : x ≠ hh.objs.size := Nat.ne_of_lt (Heap.lt_size hx)
  obtain ⟨⟨mg, g1, g2⟩, mb, b1, b2⟩ := G
  obtain ⟨pl, he⟩ := line hh.objs.size
  have mS : (fun y => ([(("self" : Str), Value.ref x)] : List (Str × Value)).reverse.lookup y) "self" = some (.ref x) := by simp [List.lookup]
  refine ks_wpAt_execs_cons ?_
  refine sup_stmt (s := ⟨h1, g, d, t + 1, os⟩) b T (X.keeps k1) (k1 _ _ hx) hn (by rw [ha]; exact mS) lk hp hcode hvs hfile S.sup S.cls (by rw [ha]; exact pS) S.kind F.top (g1.keeps k1) g2 (b1.keeps k1) b2 (fun h2 t1 tk k2 e2 => ?_) he
  have nsk : ∀ {h h' : Heap} {m : Str → Option Value}, h.Ns hh.objs.size m → (∀ c o, c ≠ x → h.get? c = some o → h'.get? c = some o) → h'.Ns hh.objs.size m := fun ⟨o, es, ep, e1, e2⟩ k => ⟨o, es, ep, k _ _ hxL.symm e1, e2⟩
  have n2 := nsk hn k2
  have k12 : ∀ c o, c ≠ x → hh.get? c = some o → h2.get? c = some o := fun c o hc e => k2 c o hc (k1 c o e)
  have sz : hh.objs.size < h2.objs.size := n2.lt
  refine wpAt_of_wpAny (wpAny_execs_cons (plainObj_wpAny_Assign_Attribute ?_))
  refine wpAny_Constant_str ?_
  refine wpAny_Name (wpAny_loadName_local S.kind pS n2 mS ?_) (by decide)
  refine set_new b T (kept_but X hnx k12) e2 tc fun h3 dx tk3 k3 dbig dne e3 ns3 => ?_
  exact wpAny_execs_nil (hq h3 tk3 dx t1 _ ⟨fun c o hc e => k3 c o hc (k12 c o hc e), e3, Nat.le_of_lt (Nat.lt_of_lt_of_le sz dbig), dne, ns3⟩)
end
end DX
namespace DX
open PySem PySem.W PySem.Calls PyProof.Rows PySem.HandSPX
/-- __init__ runs: it stores the fields that Pm tells of -/
def IniOk (prog : Program) (w : World) (K : Frag) (C fI : Addr) (us : List Value) (Pm : (Str → Option Value) → Prop) : Prop := ∀ (A : Around) (s : Shared) (R : Result → Shared → Prop) (x t0 : Addr),
  K.In s.heap → Gb s.heap → s.heap.NoLimit → s.heap.get? x = some (excObj C t0 none .none) → K.lookup x = none → A.depth < recursionLimit →
  (∀ h' tk dx t1 m, InitEnd s.heap h' x C dx t1 m → Pm m → R (.ok (.ret .none)) { s with heap := h', toks := tk }) → codeAny (model prog w) A (.call (.ref fI) ⟨.ref x :: us, []⟩) R s
/-- a made one -/
structure OwnMade (h h' : Heap) (e C d : Addr) (Pm : (Str → Option Value) → Prop) : Prop where
  keep : ∀ b o, h.get? b = some o → h'.get? b = some o
  new : h.objs.size ≤ e
  obj : ∃ oe vs, h'.get? e = some oe ∧ oe.cls = .ref C ∧ oe.dict = some d ∧ oe.data = .fields vs ∧ vs[1]? = some .none
  dbig : h.objs.size ≤ d
  dne : d ≠ e
  ns : ∃ m, h'.Ns1 d m ∧ Pm m
theorem Gb.keeps {h h' : Heap} (G : Gb h) (k : ∀ b o, h.get? b = some o → h'.get? b = some o) : Gb h' := by
  obtain ⟨⟨mg, g1, g2⟩, mb, b1, b2⟩ := G
  exact ⟨⟨mg, g1.keeps k, g2⟩, mb, b1.keeps k, b2⟩
section
variable {prog : Program} {w : World} {A : Around} {s : Shared} {K : Frag} {C fI cc : Addr} {B newId initId : String} {bmB : List Value} {R : Result → Shared → Prop}
end
end DX
namespace L2
open PySem PySem.Spec PyProof.Rows DX
/-- the fields as V's -/
def MRel (fs : List (Str × V)) (m : Str → Option Value) : Prop := ∀ f, RelO (fs.lookup f) (m f)
section
variable {X : Cx} {C fI cc : Addr} {B newId initId : String} {bmB : List Value} {k n : Nat} {x : Str} {p pos : Pos} {a : Expr} {ta : TA} {fs : List V → List (Str × V)} {pins : List (Addr × Obj)} {σ : St} {H : Hp} {s : Shared} {Q : XK}
end
/-! ### the two forms of __init__ -/
section
open PySem.W
variable {prog : Program} {w : World} {K : Frag} {C fI cc cda : Addr} {B newId initId : String} {bmB : List Value}
variable {qual nm f : Str} {params : Arguments} {body : List Stmt} {scope : Scope} {p0 p1 p2 p3 p4 p5 q1 q2 q3 q4 r1 r2 r3 r4 : Pos} {j j2 : Nat} {ar : Arg}
theorem ini_none (b : ExB B newId initId bmB) (T : ExK K C fI cc B newId initId bmB) (F : ExF prog K fI cc cda qual params body scope) (S : ExS scope ["self"])
    (hb : body = [.Expr (.Call (.Attribute (.Call (.Name "super" p0) [] [] p1) "__init__" p2) [.Constant (.str nm) j p3] [] p4) p5, .Assign [.Attribute (.Name "self" r1) "code" r2] (.Constant (.str nm) j2 r3) r4])
    (hp : (params.posonlyargs ++ params.args).head? = some ar) (ha : ar.arg = "self") (line : LineOk qual nm scope fI cc cda p0 p1 p2 p3 p4 j) (tc : takerIn K C "code" = some none)
    (bd : ∀ (kV doc pm : Value) (an : Option Addr) (ct u : Value), bindArgs (ksFn "__init__" qual params body scope .none kV doc pm an (.ref cda) ct cc) ⟨[u], []⟩ = pure [(("self" : Str), u)]) : IniOk prog w K C fI [] (MRel [("code", .str nm)]) := by
  intro A s R x t0 X G hlim hx hnx hroom hq
  refine exc_init0 b T F S hb hp ha line tc bd X G hlim hx hnx hroom fun h' tk dx t1 tk' ie => hq h' tk dx t1 _ ie fun y => ?_
  by_cases h1 : y = "code"
  · subst h1
    rw [if_pos rfl]
    exact ⟨tk', rfl⟩
  · rw [if_neg h1]
    have e2 : (y == ("code" : Str)) = false := by simpa using h1
    have l : List.lookup y [("code", V.str nm)] = none := by simp [List.lookup, e2]
    rw [l]
    trivial
end
end L2
namespace DL
open PySem L2
open PyProof.Rows (envOfC)
/-- an own exception class C of the name x whose __init__ takes f -/
structure ExR (prog : Program) (K : PySem.W.Frag) (mg : Str → Option Value) (C : Addr) (x : Str) (fs : List Str) : Prop where
  g : mg x = some (.ref C)
  sup : mg "super" = none
  ini : ∃ fI cc B newId initId bmB, DX.ExB B newId initId bmB ∧ DX.ExK K C fI cc B newId initId bmB ∧ ∀ (w : World) (vs : List V) (us : List Value), Vals vs us → vs.length = fs.length → DX.IniOk prog w K C fI us (MRel ((fs ++ [("code" : Str)]).zip (vs ++ [V.str x])))
section
variable {X : Cx} {C : Ct} {W : WX} {E : XK} {pos p2 p pos2 : Pos} {e a b : Expr} {es : List Expr} {fe fa fb fo : F D} {fs fn fk : F (List D)} {x : Str}
/-! ### raise -/
def sRaise1 (c : Nat) (f x : Str) (fe : F D) : S := fun δ η => (fe δ η).toS δ fun d η => .exc c [f, "code"] [d, .str x] δ η
def sRaise0 (c : Nat) (x : Str) : S := fun δ η => .exc c ["code"] [.str x] δ η
end
/-! ### a def that may let an exception out -/
section
variable {P : Program} {w : World} {K : PySem.W.Frag} {mg : Str → Option Value} {base : Heap} {C : Ct}
end
end DL
namespace DL
open PySem L2
section
variable {X : Cx} {C : Ct} {E : XK} {pos p2 p : Pos} {e a b : Expr} {es : List Expr} {fe fa fb fo : F D} {fs fn fk : F (List D)} {tg : Expr} {x : Str}
variable {P : Program} {k n np nk : Nat} {g f A : Addr} {fd : FuncData} {ps ks : List Str} {df : DF} {ix : List Nat} {kws : List Keyword} {c : Nat} {NS : List Str} {m : Str} {pl : Sem Bool} {apos : Pos} {dv : List D}
def fCallX (n : Nat) (f : DF) (fa : F (List D)) : F D := fun δ η => (fa δ η).bind fun ds η => (arg n f ds η)
def fCallKX (np nk n : Nat) (f : DF) (ix : List Nat) (fa fk : F (List D)) : F D := fun δ η => (fa δ η).bind fun ds η => (fk δ η).bind fun es η => if ds.length = np ∧ es.length = nk then (arg n f (pick ix (ds ++ es)) η) else .bad
def argKX (np nk n : Nat) (df : DF) (ix : List Nat) (dv ds es : List D) : List O → R D := fun η => if ds.length = np ∧ es.length = nk then (arg n df (pick ix (ds ++ es ++ dv)) η) else .bad
def fMethX (c : Nat) (NS : List Str) (np nk n : Nat) (df : DF) (ix : List Nat) (dv : List D) (fo : F D) (fs fk : F (List D)) : F D := fun δ η => (fo δ η).bind fun d η => match insD η c NS d with
  | some _ => (fs δ η).bind fun ds η => (fk δ η).bind fun es η => argKX np nk n df ix dv (d :: ds) es η
  | none => .bad
def fNewIX (c np nk n : Nat) (df : DF) (ix : List Nat) (dv : List D) (fs fk : F (List D)) : F D := fun δ η => (fs δ η).bind fun ds η => (fk δ η).bind fun es η' => (argKX np nk n df ix dv (.obj η'.length :: ds) es (η' ++ [.ins c [] []])).bind fun z η2 => match z with
  | .non => .ok (.obj η'.length) η2
  | _ => .bad
end
end DL
/-! a lambda without parameters, made and handed to a def: the heap behind it told exactly -/
namespace DL
open PySem PySem.Spec PyProof.Rows L2 LamX
section
variable {X : Cx} {pins : List (Addr × Obj)} {σ : L2.St} {H : Hp} {s : Shared}
end
end DL
/-! the exception that is handled: its fields, a def that gets it -/
namespace DL
open PySem PySem.Spec PyProof.Rows L2 L2H
abbrev Ct.hot (C : Ct) (p : Addr × Obj) : Ct := { C with xp := some p }
/-- what the written part says of reading f of an exception of the class at Ca -/
structure XGet (K : PySem.W.Frag) (Ca : Addr) (f : Str) : Prop where
  ga : PySem.W.findIn K (.ref Ca) "__getattribute__" = some (some (.builtin "BaseException.__getattribute__"))
  gg : PySem.W.findIn K (.ref Ca) "__getattr__" = some none
  sB : PySem.W.subIn K (.ref Ca) (.type "BaseException") = some true
  hd : PySem.W.hasDictIn K Ca = true
  no : PySem.W.findIn K (.ref Ca) f = some none
/-- the handled exception is pinned -/
def XPin (C : Ct) (X : Cx) : Prop := ∀ p, C.xp = some p → p ∈ X.pn ∧ ∃ vs, p.2.data = .fields vs
theorem xf_look {C : Ct} {G : Gh} {H : Hp} {f : Str} {x : D} : ∀ {ns : List Str} {l : List D} {vs : List V}, Rps C G H l vs → (ns.zip l).lookup f = some x → ∃ v, (ns.zip vs).lookup f = some v ∧ Rp C G H x v
  | [], _, _, _, h => by simp at h
  | n :: ns, _, _, .nil, h => by simp at h
  | n :: ns, _, _, .cons (d := d) (v := v) r q, h => by
    rw [List.zip_cons_cons, List.lookup] at h
    rw [List.zip_cons_cons, List.lookup]
    cases e : f == n with
    | true => rw [e] at h; cases h; exact ⟨v, rfl, r⟩
    | false => rw [e] at h; exact xf_look q h
def fXf (f : Str) (cs : List Nat) (fe : F D) : F D := fun δ η => (fe δ η).bind fun d η => match d with
  | .exn c ns l => if c ∈ cs then match (ns.zip l).lookup f with
    | some x => .ok x η
    | none => .bad
    else .bad
  | _ => .bad
section
variable {X : Cx} {C : Ct} {W : WX} {pos p2 p : Pos} {e a b : Expr} {es : List Expr} {fe fa fb fo : F D} {fs fn fk : F (List D)} {x : Str}
/-- an exception that is handled, or one that is a value -/
def XAt (pn : List (Addr × Obj)) (H : Hp) (a Ca d : Addr) : Prop := (∃ oe : Obj, (a, oe) ∈ pn ∧ (∃ vs, oe.data = .fields vs) ∧ Zc (.ref Ca) (some d) oe) ∨ H a = some (ExV Ca a d)
def tXf (K : PySem.W.Frag) (pn : List (Addr × Obj)) (f : Str) (te : TE) : TE := fun σ H Q => te σ H fun u H1 => ∃ (a : Addr) (Ca d : Addr) (fs : List (Str × V)) (v : V), u = .ref a ∧ XAt pn H1 a Ca d ∧ XGet K Ca f ∧ H1 d = some (.xd fs) ∧ fs.lookup f = some v ∧ Q v H1
theorem pe_xf {f : Str} {te : TE} (he : PE X e te) (hb : attributeBase e f X.env (eval e X.env) = eval e X.env := by rfl) : PE X (.Attribute e f pos) (tXf X.K X.pn f te) := by
  refine ⟨fun pins s σ H Q I h => attr_of hb (thn (he.run pins s σ H _ I h) fun u s1 ⟨y, H1, I1, ry, a, Ca, d, fs, v, ey, hat, T, hx, hl, q⟩ => ?_)⟩
  subst ey
  obtain rfl : u = Value.ref a := ry
  obtain ⟨oe, ha, ⟨vs, hd⟩, hz⟩ : ∃ oe : Obj, s1.heap.get? a = some oe ∧ (∃ vs, oe.data = .fields vs) ∧ Zc (.ref Ca) (some d) oe := by
    rcases hat with ⟨oe, hp, hd, hz⟩ | hE
    · exact ⟨oe, (I1.pin (a, oe) (List.mem_append_left _ hp)).1, hd, hz⟩
    · obtain ⟨⟨oe, vs, h1, h2, h3⟩, _⟩ := (show ObjOk X.prog X.w H1 s1.heap a (ExV Ca a d) from I1.hok a _ hE)
      exact ⟨oe, h1, ⟨vs, h3⟩, h2⟩
  obtain ⟨mA, hns, hr⟩ := (show ObjOk X.prog X.w H1 s1.heap d (.xd fs) from I1.hok d _ hx)
  obtain ⟨od, ho, hl2⟩ := lookIn_ns hns
  obtain ⟨w, hw, rw'⟩ := RelO.some_of (v := v) (o := mA f) (by rw [← hl]; exact hr f)
  exact HandSPX.exc_get I1.kIn ⟨ha, hz.1, by unfold PySem.W.notCls; rw [hd] <;> rfl, by rw [hz.2]; exact ho⟩ T.ga T.gg T.sB (PySem.W.findObj_own T.hd T.no rfl (by rw [hl2, hw])) (handed_of rw') ⟨v, H1, I1.tok _, rw', q⟩
theorem fe_xf {f : Str} {cs : List Nat} (hK : X.K = C.K) (hp : XPin C X) (hx : ∀ c ∈ cs, XGet X.K (C.cl c) f) (he : FE C W X e fe) (hb : attributeBase e f X.env (eval e X.env) = eval e X.env := by rfl) : FE C W X (.Attribute e f pos) (fXf f cs fe) := by
  refine PE.imp (pe_xf he hb) fun σ H Q ⟨G, δ, η, a0, fin⟩ => ?_
  refine tG.bind (Rel2 := Rp C) a0 fin fun d v G1 H1 η1 a1 x1 r1 fin1 => ?_
  cases r1 with
  | @exn a dd oe c ns vs l e1 hz hd rs =>
    dsimp only at fin1
    split at fin1
    · rename_i hc
      cases q : (ns.zip l).lookup f with
      | none => rw [q] at fin1; exact fin1.elim
      | some y =>
        rw [q] at fin1
        obtain ⟨w, h1, h2⟩ := xf_look rs q
        obtain ⟨p1, p2⟩ := hp _ e1
        exact ⟨a, C.cl c, dd, _, w, rfl, .inl ⟨oe, p1, p2, hz⟩, hx c hc, hd.1, h1, fin1 _ G1 H1 Nx.refl a1.he h2⟩
    · exact fin1.elim
  | @exv a dd c ns vs l e1 hd rs =>
    dsimp only at fin1
    split at fin1
    · rename_i hc
      cases q : (ns.zip l).lookup f with
      | none => rw [q] at fin1; exact fin1.elim
      | some y =>
        rw [q] at fin1
        obtain ⟨w, h1, h2⟩ := xf_look rs q
        exact ⟨a, C.cl c, dd, _, w, rfl, .inr e1.1, hx c hc, hd.1, h1, fin1 _ G1 H1 Nx.refl a1.he h2⟩
    · exact fin1.elim
  | _ => exact fin1.elim
end
/-! ### a def called while an exception is handled, the exception among its arguments -/
theorem _root_.L2H.RoomH.units {k : Nat} {A : Around} (r : RoomH k A) : A.units + 64 < cLine := by have := r.un; omega
structure FnX (P : Program) (w : World) (K : PySem.W.Frag) (mg : Str → Option Value) (base : Heap) (C : Ct) (k : Nat) (f : Addr) (fd : FuncData) (ps : List Str) (n : Nat) (m : DF) : Prop where
  len : ps.length = n
  run : ∀ (A : Around) (outer : List Env) (s : Shared) (H : Hp) (args : Args) (us : List Value) (vs : List V) (Q : VK) (p : Addr × Obj), RoomH k A → PinOk outer H s p → (∃ vs, p.2.data = .fields vs) → Env0 P w K mg base A outer s H → BindsTo s fd args (ps.zip us) → Vals vs us → spD (C.hot p) n m vs H Q E0 →
    codeAny (model P w) A (.call (.ref f) args) (CR CX0 outer P w H s Q E0) s
section
variable {P : Program} {w : World} {K : PySem.W.Frag} {mg : Str → Option Value} {base : Heap} {C : Ct}
end
section
variable {X : Cx} {C : Ct} {W : WX} {pos p : Pos} {e : Expr} {es : List Expr} {fs : F (List D)} {x : Str} {k n : Nat} {f : Addr} {fd : FuncData} {ps : List Str} {df : DF}
end
end DL
/-! try: .. except (A, B, C) as n: .. -/
namespace DL
open PySem PySem.Spec PyProof.Rows L2
section
variable {X : Cx} {x1 x2 x3 n : Str} {c1 c2 c3 : Addr} {i : Nat} {body suite : List Stmt} {b₀ : Stmt} {n1 n2 n3 tp pos pos' : Pos} {kk : Nat} {tb : WX → TS} {ts : Addr → Value → Option Addr → TS} {Wout : WX}
end
end DL
/-! why(lambda: e): what the call returns behind an empty code, or the code of its error and what it bears -/
namespace DL
open PySem PySem.Spec PyProof.Rows L2 L2H
open PyProof.Rows (envOfC)
/-! ### data that holds in any ghost -/
section
variable {C C2 : Ct} {G G2 : Gh} {H : Hp}
theorem rd_there {a : Addr} {u : HO} (h : Rd H a u) : ∃ o, H a = some o := h.elim (fun h => ⟨_, h⟩) fun ⟨o, h⟩ => ⟨_, h⟩
mutual
theorem Rp.move (hK : C2.K = C.K) (hM : ∀ a o, H a = some o → ¬ G.M a → ¬ G2.M a) : ∀ {n : Nat} {d : D} {v : V}, pureD n d = true → Rp C G H d v → Rp C2 G2 H d v
  | _, _, _, _, .non => .non
  | _, _, _, _, .bl b => .bl b
  | _, _, _, _, .int i => .int i
  | _, _, _, _, .str x h => .str x h
  | 0, _, _, p, .lst h z r => by simp [pureD] at p
  | 0, _, _, p, .tup h z r => by simp [pureD] at p
  | n + 1, _, _, p, .lst h z r => .lst (h.elim (fun h => .inl ⟨h.1, (rd_there h.1).elim fun o e => hM _ o e h.2⟩) fun h => .inr (by rw [hK]; exact h)) z (Rps.move hK hM (by rw [pureD] at p; exact p) r)
  | n + 1, _, _, p, .tup h z r => .tup (h.elim (fun h => .inl ⟨h.1, (rd_there h.1).elim fun o e => hM _ o e h.2⟩) fun h => .inr (by rw [hK]; exact h)) z (Rps.move hK hM (by rw [pureD] at p; exact p) r)
  | n, _, _, p, .ins _ _ _ _ => by cases n <;> simp [pureD] at p
  | n, _, _, p, .obj _ => by cases n <;> simp [pureD] at p
  | n, _, _, p, .exn _ _ _ _ => by cases n <;> simp [pureD] at p
  | n, _, _, p, .exv _ _ _ => by cases n <;> simp [pureD] at p
theorem Rps.move (hK : C2.K = C.K) (hM : ∀ a o, H a = some o → ¬ G.M a → ¬ G2.M a) : ∀ {n : Nat} {l : List D} {vs : List V}, pureDs n l = true → Rps C G H l vs → Rps C2 G2 H l vs
  | _, _, _, _, .nil => .nil
  | n, _, _, p, .cons r q => by
    rw [pureDs, Bool.and_eq_true] at p
    exact .cons (Rp.move hK hM p.1 r) (Rps.move hK hM p.2 q)
end
end
/-! ### the mirror -/
def hotS (d : D) : En := [none, none, some (.val d)]
def sufF (cs : List Nat) (fld : DF) : F D := fTup (fCons (fXf "code" cs (fV 2)) (fCons (fCall 1 fld (fCons (fV 2) fNil)) fNil))
def whyM (cs : List Nat) (fld : DF) (r : R D) : R D := match r with
  | .ok d η => .ok (.tup [.str "", d]) η
  | .exc c ns l η => if c ∈ cs ∧ pureDs 20 l = true then match sufF cs fld (hotS (.exn c ns l)) [] with
    | .ok v _ => if pureD 20 v = true then .ok v η else .bad
    | _ => .bad
    else .bad
  | .bad => .bad
def isTbl (η : List O) (i : Nat) (q : Str) : Bool := match η[i]? with
  | some (.tbl q') => decide (q' = q)
  | _ => false
def fWhy (i : Nat) (q : Str) (cs : List Nat) (fld : DF) (f : F D) : F D := fun δ η => if isTbl η i q = true then whyM cs fld (f δ η) else .bad
/-! ### the def that catches -/
section
variable {X : Cx} {C : Ct}
end
end DL
namespace DL
open PySem PySem.Spec PyProof.Rows L2 L2H LamX
open PyProof.Rows (envOfC)
section
variable {X : Cx} {C : Ct} {W : WX}
variable {i k : Nat} {q : Str} {cs : List Nat} {fld : DF} {fb : F D} {st : Stmt} {g c : Addr} {fdg : FuncData} {hs : List Value} {params : Arguments} {body : Expr} {scope : Scope} {p lpos pos : Pos}
end
end DL
namespace DL
open PySem PySem.Spec PyProof.Rows L2 L2H LamX
open PyProof.Rows (envOfC)
/-! ### exception classes by their texts -/
section
open PySem.W
variable {P : Program} {K : PySem.W.Frag} {mg : Str → Option Value} {C fI cc cda : Addr} {B newId initId : String} {bmB : List Value} {st : Stmt} {qual nm f : Str} {p0 p1 p2 p3 p4 p5 q1 q2 q3 q4 r1 r2 r3 r4 : Pos} {j j2 : Nat} {ar : Arg}
theorem exR0 (b : DX.ExB B newId initId bmB) (T : DX.ExK K C fI cc B newId initId bmB) (g : mg nm = some (.ref C)) (sup : mg "super" = none) (F : DX.ExF P K fI cc cda qual (defArgs st) (defBody st) (defScope st)) (S : DX.ExS (defScope st) ["self"])
    (hb : defBody st = [.Expr (.Call (.Attribute (.Call (.Name "super" p0) [] [] p1) "__init__" p2) [.Constant (.str nm) j p3] [] p4) p5, .Assign [.Attribute (.Name "self" r1) "code" r2] (.Constant (.str nm) j2 r3) r4])
    (hp : ((defArgs st).posonlyargs ++ (defArgs st).args).head? = some ar) (ha : ar.arg = "self") (line : DX.LineOk qual nm (defScope st) fI cc cda p0 p1 p2 p3 p4 j) (tc : takerIn K C "code" = some none)
    (bd : ∀ (kV doc pm : Value) (an : Option Addr) (ct u : Value), bindArgs (ksFn "__init__" qual (defArgs st) (defBody st) (defScope st) .none kV doc pm an (.ref cda) ct cc) ⟨[u], []⟩ = pure [(("self" : Str), u)]) : ExR P K mg C nm [] := by
  refine ⟨g, sup, fI, cc, B, newId, initId, bmB, b, T, fun w vs us r hl => ?_⟩
  match vs, us, r, hl with
  | [], [], .nil, _ => exact ini_none b T F S hb hp ha line tc bd
end
/-! ### a def that makes lambdas: its code object is at c -/
structure FunL (K : PySem.W.Frag) (x qual : Str) (st : Stmt) (f : Addr) (fd : FuncData) (c : Addr) : Prop where
  ex : ∃ (oc : Value) (od : Option Addr) (dV kV doc pm : Value) (an : Option Addr) (ct : Value) (osl : Array (Option Value)),
    fd = PySem.W.fnOf x qual (defArgs st) (defBody st) (defScope st) dV kV doc pm an (.ref c) ct ∧ K.lookup f = some ⟨oc, od, .func fd, osl⟩ ∧ PySem.W.codeIn K (.ref c) qual = true
  kp : PySem.W.keepIn K (.ref f) = true
section
variable {P : Program} {w : World} {K : PySem.W.Frag} {mg : Str → Option Value} {base : Heap} {C : Ct}
theorem FunL.mk' {x qual : Str} {st : Stmt} {f c : Addr} {oc : Value} {od an : Option Addr} {osl : Array (Option Value)} {dV kV doc pm ct : Value} (l : K.lookup f = some ⟨oc, od, .func (PySem.W.fnOf x qual (defArgs st) (defBody st) (defScope st) dV kV doc pm an (.ref c) ct), osl⟩)
    (h : PySem.W.codeIn K (.ref c) qual = true) (k : PySem.W.keepIn K (.ref f) = true) : FunL K x qual st f (PySem.W.fnOf x qual (defArgs st) (defBody st) (defScope st) dV kV doc pm an (.ref c) ct) c := ⟨⟨oc, od, dV, kV, doc, pm, an, ct, osl, rfl, l, h⟩, k⟩
end
/-! ### the law's start, with tables -/
end DL
/-! xs[::-1] of a list and a tuple -/
namespace HT
open PySem PyProof.Rows
open PySem.SeqAt
open PySem.AutoSeq1 (wpAny_loadPart')
open PySem.MeetsSeq PySem.MeetsSeq2 PySem.MeetsSeq3
section
variable {prog : Program} {w : World} {A : Around} {E : Value → Shared → Prop} {s : Shared}
end
end HT
namespace L2
open PySem PySem.Spec PyProof.Rows
section
variable {X : Cx} {e est : Expr} {te ts : TE} {pos p2 : Pos}
end
end L2
/-! xs[::-1] of a list and a tuple; an item store in an own list; a list times an int -/
namespace DL
open PySem L2
section
variable {X : Cx} {C : Ct} {W : WX} {pos p2 p : Pos} {e a b est : Expr} {es : List Expr} {fe fa fb fo : F D} {fs : F (List D)} {x : Str}
def revD : D → Option D
  | .lst l => some (.lst l.reverse)
  | .tup l => some (.tup l.reverse)
  | _ => none
def fRev (fa : F D) : F D := fun δ η => (fa δ η).bind fun d η => lift (revD d) η
/-! ### xs[i] = e, xs an own list -/
def sSetI (i : Nat) (fe fb : F D) : S := fun δ η => (fe δ η).toS δ fun d η => match δ[i]? with
  | some (some (.own l)) => (fb δ η).toS δ fun k η => match k with
    | .int j => match ixN l.length j with
      | some n => .nx (δ.set i (some (.own (l.set n d)))) η
      | none => .bad
    | _ => .bad
  | _ => .bad
/-! ### xs * n: a new list -/
def repB (n : Nat) (k : Int) : Bool := decide (-(2 ^ 63) ≤ k) && decide (k < 2 ^ 63) && decide (n * k.toNat ≤ sizeLine)
theorem repB_of {n : Nat} {k : Int} (h : repB n k = true) : -(2 ^ 63) ≤ k ∧ k < 2 ^ 63 ∧ n * k.toNat ≤ sizeLine := by
  unfold repB at h
  rw [Bool.and_eq_true, Bool.and_eq_true] at h
  exact ⟨of_decide_eq_true h.1.1, of_decide_eq_true h.1.2, of_decide_eq_true h.2⟩
theorem rps_rep {C : Ct} {G : Gh} {H : Hp} {l : List D} {vs : List V} (r : Rps C G H l vs) : ∀ n : Nat, Rps C G H (List.replicate n l).flatten (List.replicate n vs).flatten
  | 0 => .nil
  | n + 1 => by rw [List.replicate_succ, List.replicate_succ, List.flatten_cons, List.flatten_cons]; exact r.append (rps_rep r n)
theorem rep_len {α : Type} (l : List α) : ∀ n : Nat, (List.replicate n l).flatten.length = l.length * n
  | 0 => rfl
  | n + 1 => by rw [List.replicate_succ, List.flatten_cons, List.length_append, rep_len l n, Nat.mul_succ]; omega
end
end DL
namespace DL
open PySem L2
/-! ### the data layer's functions, applied -/
section
variable {δ : En} {η : List O} {f fa fb fc : F D} {fl fh : F (Option Int)} {t u : F Bool} {g g' : D → D → Option D} {h : D → Option D} {fs fr : F (List D)} {a b : S} {i j : Nat} {d : D}
@[simp] theorem fV_a : fV i δ η = (match δ[i]? with | some (some (.val d)) => .ok d η | _ => .bad) := rfl
@[simp] theorem fVo_a : fVo i δ η = (match δ[i]? with | some (some (.own l)) => .ok (.lst l) η | _ => .bad) := rfl
@[simp] theorem fC_a : fC d δ η = .ok d η := rfl
@[simp] theorem fOp_a : fOp g fa fb δ η = (fa δ η).bind fun d η => (fb δ η).bind fun e η => lift (g d e) η := rfl
@[simp] theorem toB_a : toB f δ η = (f δ η).bind fun d η => (match d with | .bl b => .ok b η | _ => .bad) := rfl
@[simp] theorem fCh_a : fCh g g' fa fb fc δ η = (fa δ η).bind fun d η => (fb δ η).bind fun e η => (match g d e with | some (.bl true) => (fc δ η).bind fun k η => lift (g' e k) η | some (.bl false) => .ok (.bl false) η | _ => .bad) := rfl
@[simp] theorem fTru_a : fTru f δ η = (f δ η).bind fun d η => lift (truD d) η := rfl
@[simp] theorem fAndB_a : fAndB t u δ η = (t δ η).bind fun c η => if c = true then u δ η else .ok false η := rfl
@[simp] theorem fOrB_a : fOrB t u δ η = (t δ η).bind fun c η => if c = true then .ok true η else u δ η := rfl
@[simp] theorem fNotB_a : fNotB t δ η = (t δ η).bind fun c η => .ok (!c) η := rfl
@[simp] theorem fAnd_a : fAnd fa fb δ η = (fa δ η).bind fun d η => (match d with | .bl true => fb δ η | .bl false => .ok (.bl false) η | _ => .bad) := rfl
@[simp] theorem fOr_a : fOr fa fb δ η = (fa δ η).bind fun d η => (match d with | .bl true => .ok (.bl true) η | .bl false => fb δ η | _ => .bad) := rfl
@[simp] theorem fNot_a : fNot fa δ η = (fa δ η).bind fun d η => (match d with | .bl b => .ok (.bl (!b)) η | _ => .bad) := rfl
@[simp] theorem fIf_a : fIf t fa fb δ η = (t δ η).bind fun c η => if c = true then fa δ η else fb δ η := rfl
@[simp] theorem fNil_a : fNil δ η = .ok [] η := rfl
@[simp] theorem fCons_a : fCons fa fr δ η = (fa δ η).bind fun d η => (fr δ η).bind fun ds η => .ok (d :: ds) η := rfl
@[simp] theorem fTup_a : fTup fs δ η = (fs δ η).bind fun ds η => if ds.length ≤ sizeLine then .ok (.tup ds) η else .bad := rfl
@[simp] theorem fLst_a : fLst fs δ η = (fs δ η).bind fun ds η => if ds.length ≤ sizeLine then .ok (.lst ds) η else .bad := rfl
@[simp] theorem fLstN_a : fLstN fs δ η = (fs δ η).bind fun ds η => if ds.length ≤ sizeLine then .ok ds η else .bad := rfl
@[simp] theorem fIxO_a : fIxO fa fb δ η = (fa δ η).bind fun d η => (fb δ η).bind fun e η => (match d with | .obj n => (match η[n]? with | some (.lst l) => lift (ixD (.lst l) e) η | _ => .bad) | _ => .bad) := rfl
@[simp] theorem fNoP_a : fNoP δ η = .ok none η := rfl
@[simp] theorem fPt_a : fPt f δ η = (f δ η).bind fun d η => (match d with | .int i => .ok (some i) η | _ => .bad) := rfl
@[simp] theorem fSl_a : fSl fa fl fh δ η = (fa δ η).bind fun d η => (fl δ η).bind fun lo η => (fh δ η).bind fun hi η => lift (slD d lo hi) η := rfl
@[simp] theorem fCall1_a : fCall1 h fa δ η = (fa δ η).bind fun d η => lift (h d) η := rfl
@[simp] theorem fStrM_a {k : Str → D → Option D} : fStrM k fa fb δ η = (fa δ η).bind fun d η => (match d with | .str z => (fb δ η).bind fun e η => lift (k z e) η | _ => .bad) := rfl
@[simp] theorem fNeg_a : fNeg fa δ η = (fa δ η).bind fun d η => (match d with | .int i => .ok (.int (-i)) η | _ => .bad) := rfl
@[simp] theorem fFrz_a : fFrz fs δ η = (fs δ η).bind fun l η => .ok (.lst l) η := rfl
@[simp] theorem fListN_a : fListN fa δ η = (fa δ η).bind fun d η => lift (itemsD d) η := rfl
@[simp] theorem fNewO_a : fNewO fs δ η = (fs δ η).bind fun l η => .ok (.obj η.length) (η ++ [.lst l]) := rfl
@[simp] theorem fCall_a {n : Nat} {m : DF} : fCall n m fs δ η = (fs δ η).bind fun ds η => (arg n m ds η).nox := rfl
@[simp] theorem fCallK_a {np nk n : Nat} {m : DF} {ix : List Nat} : fCallK np nk n m ix fs fr δ η = (fs δ η).bind fun ds η => (fr δ η).bind fun es η => if ds.length = np ∧ es.length = nk then (arg n m (pick ix (ds ++ es)) η).nox else .bad := rfl
@[simp] theorem fLc_a {vs : List Nat} {tg : Tg} : fLc vs fs tg t fa δ η = (fs δ η).bind fun ds η => compF tg t fa (wipeD δ vs) ds η := rfl
@[simp] theorem fYes_a : fYes δ η = .ok true η := rfl
@[simp] theorem fiA_a : fiA fa δ η = (fa δ η).bind fun d η => lift (walkD d) η := rfl
@[simp] theorem fiL_a : fiL fa δ η = (fa δ η).bind fun d η => lift (lstOf d) η := rfl
@[simp] theorem fiE_a : fiE fa δ η = (fa δ η).bind fun d η => (lift (seqOf d) η).bind fun l η => .ok (enumD l) η := rfl
@[simp] theorem fiZ_a : fiZ fa fb δ η = (fa δ η).bind fun d η => (fb δ η).bind fun e η => (match d, e with | .lst l, .lst m => .ok (zipD l m) η | .tup l, .tup m => .ok (zipD l m) η | _, _ => .bad) := rfl
@[simp] theorem fiR1_a : fiR1 fa δ η = (fa δ η).bind fun d η => (match d with | .int j => if j ≤ 16777216 ∧ -16777216 ≤ j then .ok (rngD 0 j.toNat) η else .bad | _ => .bad) := rfl
@[simp] theorem sSeq_a : sSeq a b δ η = (a δ η).seq b := rfl
@[simp] theorem sRet_a : sRet f δ η = (f δ η).toS δ fun d η => .rt d η := rfl
@[simp] theorem sRetN_a : sRetN δ η = .rt .non η := rfl
@[simp] theorem sRetO_a : sRetO i δ η = (match δ[i]? with | some (some (.own l)) => .rt (.lst l) η | _ => .bad) := rfl
@[simp] theorem sIf_a : sIf t a b δ η = (t δ η).toS δ fun c η => if c = true then a δ η else b δ η := rfl
@[simp] theorem sDrop_a : sDrop f δ η = (f δ η).toS δ fun _ η => .nx δ η := rfl
@[simp] theorem sSet_a : sSet i f δ η = (f δ η).toS δ fun d η => .nx (δ.set i (some (.val d))) η := rfl
@[simp] theorem sFrz_a : sFrz i fs δ η = (fs δ η).toS δ fun l η => .nx (δ.set i (some (.val (.lst l)))) η := rfl
@[simp] theorem sOwn_a : sOwn i fs δ η = (fs δ η).toS δ fun l η => .nx (δ.set i (some (.own l))) η := rfl
@[simp] theorem sApp_a : sApp i f δ η = (match δ[i]? with | some (some (.own l)) => (f δ η).toS δ fun d η => if l.length < sizeLine then .nx (δ.set i (some (.own (l ++ [d])))) η else .bad | _ => .bad) := rfl
@[simp] theorem sAsg_a {tg : Tg} : sAsg f tg δ η = (f δ η).toS δ fun d η => (match asg tg d δ with | some δ' => .nx δ' η | none => .bad) := rfl
@[simp] theorem sPar_a : sPar i j fa fb δ η = (fa δ η).toS δ fun d η => (fb δ η).toS δ fun e η => .nx ((δ.set i (some (.val d))).set j (some (.val e))) η := rfl
@[simp] theorem sFor_a {tg : Tg} : sFor fs tg a δ η = (fs δ η).toS δ fun ds η => loopF tg a ds δ η := rfl
@[simp] theorem sSetO_a : sSetO f fa fb δ η = (f δ η).toS δ fun d η => (fa δ η).toS δ fun o η => (fb δ η).toS δ fun k η => (match o, k with | .obj n, .int i => (match η[n]? with | some (.lst l) => (match ixN l.length i with | some j => .nx δ (η.set n (.lst (l.set j d))) | none => .bad) | _ => .bad) | _, _ => .bad) := rfl
theorem run_nx {n : Nat} {b : S} {ds : List D} {δ' : En} {η' : List O} (h : b (ds.map (fun d => some (.val d)) ++ List.replicate (n - ds.length) none) η = .nx δ' η') : runD n b ds η = .ok .non η' := by unfold runD; rw [h]
theorem run_rt {n : Nat} {b : S} {ds : List D} {d : D} {η' : List O} (h : b (ds.map (fun d => some (.val d)) ++ List.replicate (n - ds.length) none) η = .rt d η') : runD n b ds η = .ok d η' := by unfold runD; rw [h]
@[simp] theorem arg_a {n : Nat} {m : DF} {ds : List D} : arg n m ds η = if ds.length = n then m ds η else .bad := rfl
@[simp] theorem asg_nm : asg (.nm i) d δ = some (δ.set i (some (.val d))) := by rw [asg]
@[simp] theorem asg_tp {ts : List Tg} {l : List D} : asg (.tp ts) (.tup l) δ = asgs ts l δ := by rw [asg]
@[simp] theorem asgs_nil : asgs [] [] δ = some δ := by rw [asgs]
@[simp] theorem asgs_cons {tg : Tg} {ts : List Tg} {l : List D} : asgs (tg :: ts) (d :: l) δ = (asg tg d δ).bind fun δ' => asgs ts l δ' := by rw [asgs]
end
/-! ### operations on known kinds -/
@[simp] theorem addD_ii {i j : Int} : addD (.int i) (.int j) = some (.int (i + j)) := rfl
@[simp] theorem subD_ii {i j : Int} : subD (.int i) (.int j) = some (.int (i - j)) := rfl
@[simp] theorem mulD_ii {i j : Int} : mulD (.int i) (.int j) = if cmulB i j = true then some (.int (i * j)) else none := rfl
@[simp] theorem modD_ii {i j : Int} : modD (.int i) (.int j) = if decide (0 < j) = true then some (.int (i % j)) else none := rfl
@[simp] theorem fdivD_ii {i j : Int} : fdivD (.int i) (.int j) = if cdivB i j = true then some (.int (i / j)) else none := rfl
@[simp] theorem powD_ii {i j : Int} : powD (.int i) (.int j) = if cpowB i j = true then some (.int (i ^ j.toNat)) else none := rfl
@[simp] theorem ltD_ii {i j : Int} : ltD (.int i) (.int j) = some (.bl (decide (i < j))) := rfl
@[simp] theorem leD_ii {i j : Int} : leD (.int i) (.int j) = some (.bl (decide (i ≤ j))) := rfl
@[simp] theorem gtD_ii {i j : Int} : gtD (.int i) (.int j) = some (.bl (decide (j < i))) := rfl
@[simp] theorem geD_ii {i j : Int} : geD (.int i) (.int j) = some (.bl (decide (j ≤ i))) := rfl
@[simp] theorem addD_ss {i j : Str} : addD (.str i) (.str j) = if i.length + j.length ≤ sizeLine then some (.str (i ++ j)) else none := rfl
@[simp] theorem addD_ll {i j : List D} : addD (.lst i) (.lst j) = if i.length + j.length ≤ sizeLine then some (.lst (i ++ j)) else none := rfl
@[simp] theorem intC_i {i : Int} : intC (.int i) = some (.int i) := rfl
@[simp] theorem lenD_l {l : List D} : lenD (.lst l) = some (.int l.length) := rfl
@[simp] theorem lenD_t {l : List D} : lenD (.tup l) = some (.int l.length) := rfl
@[simp] theorem lenD_s {z : Str} : lenD (.str z) = if z.length ≤ sizeLine then some (.int z.length) else none := rfl
@[simp] theorem ixD_l {l : List D} {i : Int} : ixD (.lst l) (.int i) = L2.atI l i := rfl
@[simp] theorem ixD_t {l : List D} {i : Int} : ixD (.tup l) (.int i) = L2.atI l i := rfl
@[simp] theorem walkD_l {l : List D} : walkD (.lst l) = some l := rfl
@[simp] theorem walkD_t {l : List D} : walkD (.tup l) = some l := rfl
@[simp] theorem walkD_s {z : Str} : walkD (.str z) = if z.length ≤ sizeLine then some (signsD z) else none := rfl
@[simp] theorem seqOf_l {l : List D} : seqOf (.lst l) = some l := rfl
@[simp] theorem seqOf_t {l : List D} : seqOf (.tup l) = some l := rfl
@[simp] theorem lstOf_l {l : List D} : lstOf (.lst l) = some l := rfl
@[simp] theorem itemsD_l {l : List D} : itemsD (.lst l) = some l := rfl
@[simp] theorem itemsD_t {l : List D} : itemsD (.tup l) = some l := rfl
@[simp] theorem slD_l {l : List D} {lo hi : Option Int} : slD (.lst l) lo hi = some (.lst (cutD l lo hi)) := rfl
@[simp] theorem slD_s {z : Str} {lo hi : Option Int} : slD (.str z) lo hi = if z.length ≤ sizeLine then some (.str (cutS z lo hi)) else none := rfl
@[simp] theorem truD_b {b : Bool} : truD (.bl b) = some b := rfl
@[simp] theorem truD_i {i : Int} : truD (.int i) = some (i != 0) := rfl
@[simp] theorem truD_n : truD .non = some false := rfl
@[simp] theorem truD_l {l : List D} : truD (.lst l) = some (!l.isEmpty) := rfl
@[simp] theorem truD_t {l : List D} : truD (.tup l) = some (!l.isEmpty) := rfl
@[simp] theorem isN_n {d : D} : isN d .non = some (.bl d.isNon) := rfl
@[simp] theorem notN_n {d : D} : notN d .non = some (.bl (!d.isNon)) := rfl
@[simp] theorem isNon_n : D.isNon .non = true := rfl
@[simp] theorem isNon_b {b : Bool} : D.isNon (.bl b) = false := rfl
@[simp] theorem isNon_i {b : Int} : D.isNon (.int b) = false := rfl
@[simp] theorem isNon_s {b : Str} : D.isNon (.str b) = false := rfl
@[simp] theorem isNon_l {b : List D} : D.isNon (.lst b) = false := rfl
@[simp] theorem isNon_t {b : List D} : D.isNon (.tup b) = false := rfl
/-! ### equality of kinds -/
@[simp] theorem okq_n : okq .non = true := rfl
@[simp] theorem okq_b {b : Bool} : okq (.bl b) = true := rfl
@[simp] theorem okq_i {b : Int} : okq (.int b) = true := rfl
@[simp] theorem okq_s {b : Str} : okq (.str b) = true := rfl
@[simp] theorem eqv_ii {i j : Int} : eqvD (.int i) (.int j) = decide (i = j) := by
  show PyData.eqv (.int i) (.int j) = _
  rw [PyData.eqv]; rfl
@[simp] theorem eqv_bb {i j : Bool} : eqvD (.bl i) (.bl j) = decide (i = j) := by
  show PyData.eqv (.bool i) (.bool j) = _
  rw [PyData.eqv]; cases i <;> cases j <;> rfl
@[simp] theorem eqv_ss {i j : Str} : eqvD (.str i) (.str j) = decide (i = j) := by
  show PyData.eqv (.str i) (.str j) = _
  rw [PyData.eqv]; rfl
@[simp] theorem eqD_ii {i j : Int} : eqD (.int i) (.int j) = some (.bl (decide (i = j))) := by simp [eqD]
@[simp] theorem eqD_bb {i j : Bool} : eqD (.bl i) (.bl j) = some (.bl (decide (i = j))) := by simp [eqD]
@[simp] theorem eqD_ss {i j : Str} : eqD (.str i) (.str j) = some (.bl (decide (i = j))) := by simp [eqD]
@[simp] theorem neD_ii {i j : Int} : neD (.int i) (.int j) = some (.bl (!decide (i = j))) := by simp [neD]
@[simp] theorem neD_bb {i j : Bool} : neD (.bl i) (.bl j) = some (.bl (!decide (i = j))) := by simp [neD]
@[simp] theorem neD_ss {i j : Str} : neD (.str i) (.str j) = some (.bl (!decide (i = j))) := by simp [neD]
/-! ### kinds by isinstance -/
theorem kit_all : ∀ t ∈ ["NoneType", "bool", "int", "str", "list", "tuple"], ∀ u ∈ ["list", "tuple", "str", "bool", "int"], kitB t u = some (t == u || (t == "bool" && u == "int")) := by decide +kernel
def D.ty : D → String
  | .non => "NoneType" | .bl _ => "bool" | .int _ => "int" | .str _ => "str" | .lst _ => "list" | .tup _ => "tuple" | _ => ""
def isTy (u : String) (d : D) : Bool := d.ty == u || (d.ty == "bool" && u == "int")
theorem isD_of {u : String} {d : D} (hu : u ∈ ["list", "tuple", "str", "bool", "int"]) (hd : d.ty ∈ ["NoneType", "bool", "int", "str", "list", "tuple"]) : isD u d = some (.bl (isTy u d)) := by
  have k := kit_all _ hd u hu
  have e : tyN d = some d.ty := by cases d <;> first | rfl | (exfalso; simp [D.ty] at hd)
  unfold isD
  rw [e]
  dsimp only
  rw [k]
  rfl
theorem isD2_of {u v : String} {d : D} (hu : u ∈ ["list", "tuple", "str", "bool", "int"]) (hv : v ∈ ["list", "tuple", "str", "bool", "int"]) (hd : d.ty ∈ ["NoneType", "bool", "int", "str", "list", "tuple"]) : isD2 u v d = some (.bl (isTy u d || isTy v d)) := by
  have k := kit_all _ hd u hu
  have k2 := kit_all _ hd v hv
  have e : tyN d = some d.ty := by cases d <;> first | rfl | (exfalso; simp [D.ty] at hd)
  unfold isD2
  rw [e]
  dsimp only
  rw [k, k2]
  rfl
/-! ### walks -/
theorem loop_inv {t : Tg} {b : S} (P : List D → En → List O → Prop) : ∀ {ds : List D} {δ : En} {η : List O}, P ds δ η →
    (∀ x r δ η, P (x :: r) δ η → ∃ δ1, asg t x δ = some δ1 ∧ ∃ δ2 η2, (b δ1 η = .nx δ2 η2 ∨ b δ1 η = .ct δ2 η2) ∧ P r δ2 η2) → ∃ δ' η', loopF t b ds δ η = .nx δ' η' ∧ P [] δ' η'
  | [], δ, η, h, _ => ⟨δ, η, rfl, h⟩
  | x :: r, δ, η, h, s => by
    obtain ⟨δ1, e1, δ2, η2, e2, h2⟩ := s x r δ η h
    obtain ⟨δ', η', e3, h3⟩ := loop_inv P h2 s
    refine ⟨δ', η', ?_, h3⟩
    rw [loopF, e1]
    rcases e2 with e2 | e2
    · dsimp only; rw [e2]; exact e3
    · dsimp only; rw [e2]; exact e3
theorem comp_map {t : Tg} {ft : F Bool} {fe : F D} {δw : En} {η : List O} (g : D → D) : ∀ {ds : List D}, (∀ x ∈ ds, ∃ δ1, asg t x δw = some δ1 ∧ ft δ1 η = .ok true η ∧ fe δ1 η = .ok (g x) η) → compF t ft fe δw ds η = .ok (ds.map g) η
  | [], _ => rfl
  | x :: r, h => by
    obtain ⟨δ1, e1, e2, e3⟩ := h x (List.mem_cons_self ..)
    have ih := comp_map g (ds := r) fun y hy => h y (List.mem_cons_of_mem _ hy)
    rw [compF, e1]
    simp only [e2, e3, nox_ok, bind_ok, if_true, ih, List.map_cons]
end DL
namespace DL
open PySem L2
def b_law_feed : S := (sSeq (sSet 1 (fC (.int 4928)))
    (sSeq (sFor (fiA (fSl (fV 0) fNoP (fPt (fC (.int 63))))) (.nm 2) (sSet 1 (fOp modD (fCall1 intC (fOp addD (fOp addD (fOp mulD (fV 1) (fC (.int 52361))) (fOp modD (fCall1 intC (fV 2)) (fC (.int 2147483477)))) (fC (.int 41)))) (fC (.int 2147483563)))))
    (sRet (fNewO (fLstN (fCons (fFrz (fListN (fSl (fV 0) fNoP (fPt (fC (.int 63)))))) (fCons (fC (.int 0)) (fCons (fC (.int 0)) (fCons (fV 1) (fCons (fC (.int 0)) fNil))))))))))
def m_law_feed : DF := runD 3 b_law_feed
def b_law_pick : S := (sSeq (sIf (fAndB (toB (fOp ltD (fIxO (fV 0) (fC (.int 2))) (fV 1))) (toB (fOp ltD (fIxO (fV 0) (fC (.int 1))) (fCall1 lenD (fIxO (fV 0) (fC (.int 0))))))) (sSeq (sSet 2 (fOp ixD (fIxO (fV 0) (fC (.int 0))) (fIxO (fV 0) (fC (.int 1)))))
    (sSeq (sSetO (fOp addD (fIxO (fV 0) (fC (.int 1))) (fC (.int 1))) (fV 0) (fC (.int 1)))
    (sSeq (sSetO (fOp modD (fCall1 intC (fOp addD (fOp addD (fOp mulD (fIxO (fV 0) (fC (.int 3))) (fC (.int 49031))) (fOp modD (fCall1 intC (fV 2)) (fC (.int 2147483543)))) (fC (.int 29)))) (fC (.int 2147483549))) (fV 0) (fC (.int 3)))
    (sSetO (fIf (toB (fOp geD (fV 2) (fOp powD (fC (.int 10)) (fC (.int 18))))) (fV 2) (fC (.int 0))) (fV 0) (fC (.int 2)))))) SR.nx)
    (sSeq (sIf (toB (fOp geD (fIxO (fV 0) (fC (.int 2))) (fV 1))) (sSeq (sSet 3 (fOp modD (fCall1 intC (fIxO (fV 0) (fC (.int 2)))) (fV 1)))
    (sSeq (sSetO (fOp fdivD (fIxO (fV 0) (fC (.int 2))) (fV 1)) (fV 0) (fC (.int 2)))
    (sRet (fV 3)))) SR.nx)
    (sSeq (sSetO (fOp addD (fIxO (fV 0) (fC (.int 4))) (fC (.int 1))) (fV 0) (fC (.int 4)))
    (sSeq (sSet 4 (fOp modD (fCall1 intC (fOp addD (fIxO (fV 0) (fC (.int 3))) (fOp mulD (fIxO (fV 0) (fC (.int 4))) (fC (.int 7919))))) (fC (.int 2147483563))))
    (sSeq (sSet 5 (fOp mulD (fOp modD (fCall1 intC (fOp mulD (fV 4) (fV 4))) (fC (.int 2147483543))) (fOp addD (fOp modD (fCall1 intC (fV 4)) (fC (.int 39979))) (fC (.int 7)))))
    (sSeq (sSetO (fOp modD (fCall1 intC (fOp addD (fOp addD (fV 5) (fOp mulD (fC (.int 40503)) (fV 4))) (fC (.int 977)))) (fC (.int 2147483549))) (fV 0) (fC (.int 3)))
    (sRet (fOp modD (fCall1 intC (fOp addD (fOp fdivD (fIxO (fV 0) (fC (.int 3))) (fC (.int 61))) (fOp mulD (fOp modD (fCall1 intC (fIxO (fV 0) (fC (.int 3)))) (fC (.int 8971))) (fC (.int 53))))) (fV 1)))))))))
def m_law_pick : DF := runD 6 b_law_pick
def b_law_of : S := (sRet (fOp ixD (fV 1) (fCall 2 m_law_pick (fCons (fV 0) (fCons (fCall1 lenD (fV 1)) fNil)))))
def m_law_of : DF := runD 2 b_law_of
def m_law_same : Nat → DF
  | 0 => fun _ _ => .bad
  | n + 1 => runD 4 (sSeq (sIf (fTru (fCall1 (isD2 "list" "tuple") (fV 1))) (sSeq (sIf (fOrB (toB (fOp neD (fCall1 (isD "list") (fV 0)) (fCall1 (isD "list") (fV 1)))) (toB (fOp neD (fCall1 (isD "tuple") (fV 0)) (fCall1 (isD "tuple") (fV 1))))) (sRet (fC (.bl false))) SR.nx)
    (sRet (fAnd (fOp eqD (fCall1 lenD (fV 0)) (fCall1 lenD (fV 1))) (fCall1 allC (fFrz (fLc [2, 3] (fiZ (fV 0) (fV 1)) (.tp [(.nm 2), (.nm 3)]) fYes (fCall 2 (m_law_same n) (fCons (fV 2) (fCons (fV 3) fNil))))))))) SR.nx)
    (sSeq (sIf (fOrB (fTru (fCall1 (isD2 "list" "tuple") (fV 0))) (toB (fOp neD (fCall1 (isD "bool") (fV 0)) (fCall1 (isD "bool") (fV 1))))) (sRet (fC (.bl false))) SR.nx)
    (sSeq (sIf (fOrB (toB (fOp isN (fV 1) (fC .non))) (toB (fOp isN (fV 0) (fC .non)))) (sRet (fAnd (fOp isN (fV 1) (fC .non)) (fOp isN (fV 0) (fC .non)))) SR.nx)
    (sRet (fAnd (fOp eqD (fCall1 (isD "str") (fV 0)) (fCall1 (isD "str") (fV 1))) (fOp eqD (fV 0) (fV 1)))))))
end DL
namespace DL
open PySem L2
theorem atI_of {α : Type} {xs : List α} {i : Int} (h : 0 ≤ i) (h2 : i < xs.length) : L2.atI xs i = some (xs[i.toNat]'(by omega)) := by
  unfold L2.atI ixN
  rw [if_pos h, if_pos h2]
  simp
theorem run_rt2 {n : Nat} {b : S} {ds : List D} {η : List O} {d : D} {η' : List O} {δ : En} (hδ : ds.map (fun d => some (.val d)) ++ List.replicate (n - ds.length) none = δ) (h : b δ η = .rt d η') : runD n b ds η = .ok d η' := by subst hδ; exact run_rt h
theorem run_nx2 {n : Nat} {b : S} {ds : List D} {η : List O} {η' : List O} {δ δ' : En} (hδ : ds.map (fun d => some (.val d)) ++ List.replicate (n - ds.length) none = δ) (h : b δ η = .nx δ' η') : runD n b ds η = .ok .non η' := by subst hδ; exact run_nx h
def Feed (o : O) : Prop := ∃ (ns : List Int) (i c s k : Int), 0 ≤ i ∧ o = .lst [.lst (ns.map .int), .int i, .int c, .int s, .int k]
section
variable {a b c d e x : D}
theorem f5_0 : L2.atI [a, b, c, d, e] 0 = some a := rfl
theorem f5_1 : L2.atI [a, b, c, d, e] 1 = some b := rfl
theorem f5_2 : L2.atI [a, b, c, d, e] 2 = some c := rfl
theorem f5_3 : L2.atI [a, b, c, d, e] 3 = some d := rfl
theorem f5_4 : L2.atI [a, b, c, d, e] 4 = some e := rfl
theorem n5_1 : ixN 5 1 = some 1 := rfl
theorem n5_2 : ixN 5 2 = some 2 := rfl
theorem n5_3 : ixN 5 3 = some 3 := rfl
theorem n5_4 : ixN 5 4 = some 4 := rfl
end
theorem pick_ok {η : List O} {n : Nat} {o : O} {m : Int} (ho : η[n]? = some o) (hf : Feed o) (h0 : 0 < m) (h1 : m < 1073741824) :
    ∃ r o', m_law_pick [.obj n, .int m] η = .ok (.int r) (η.set n o') ∧ Feed o' ∧ 0 ≤ r ∧ r < m := by
  obtain ⟨ns, i, c, s, k, hi, rfl⟩ := hf
  have hn : n < η.length := (List.getElem?_eq_some_iff.mp ho).1
  have hs : ∀ o', (η.set n o')[n]? = some o' := fun o' => by rw [List.getElem?_set_self hn]
  clear hn
  have hp : (decide (-2 ^ 64 < (7919:Int)) && decide ((7919:Int) < 2 ^ 64)) = true := by decide
  suffices ∃ r o', b_law_pick [some (.val (.obj n)), some (.val (.int m)), none, none, none, none] η = .rt (.int r) (η.set n o') ∧ Feed o' ∧ 0 ≤ r ∧ r < m by
    obtain ⟨r, o', h, h2⟩ := this
    exact ⟨r, o', run_rt2 rfl h, h2⟩
  have fin : ∀ z : Int, 0 ≤ z % m ∧ z % m < m := fun z => ⟨Int.emod_nonneg _ (by omega), Int.emod_lt_of_pos _ h0⟩
  have hmu : ∀ x y : Int, 0 ≤ y → y < 2 ^ 64 → cmulB x y = true := fun x y h1 h2 => by
    unfold cmulB
    rw [Bool.or_eq_true]
    right
    simp only [Bool.and_eq_true, decide_eq_true_eq]
    omega
  have hmv : ∀ x y : Int, 0 ≤ x → x < 2 ^ 64 → cmulB x y = true := fun x y h1 h2 => by
    unfold cmulB
    rw [Bool.or_eq_true]
    left
    simp only [Bool.and_eq_true, decide_eq_true_eq]
    omega
  have hmm : ∀ x y : Int, cmulB x (y % 39979 + 7) = true := fun x y => hmu _ _ (by omega) (by omega)
  have hmr : ∀ x y : Int, cmulB (x % 2147483563) y = true := fun x y => hmv _ _ (by omega) (by omega)
  have h2 : ∀ x : Int, cdivB x m = true := fun x => by simp [cdivB, h0, h1]
  have h3 : ∀ x : Int, cdivB x 61 = true := fun x => by simp [cdivB]
  have h4 : ∀ x : Int, cmulB x 49031 = true := fun x => hmu _ _ (by omega) (by omega)
  have h5 : ∀ x : Int, cmulB x 7919 = true := fun x => hmu _ _ (by omega) (by omega)
  have h6 : ∀ x : Int, cmulB x 53 = true := fun x => hmu _ _ (by omega) (by omega)
  have h7 : ∀ x : Int, cmulB 40503 x = true := fun x => hmv _ _ (by omega) (by omega)
  have h8 : cpowB 10 18 = true := by decide
  by_cases hc : c < m ∧ i < ns.length
  · have ha : L2.atI (ns.map D.int) i = some (.int (ns[i.toNat]'(by omega))) := by rw [atI_of hi (by simpa using hc.2)]; simp
    have hc1 : decide (c < m) = true := by simpa using hc.1
    have hc2 : decide (i < ns.length) = true := by simpa using hc.2
    generalize ns[i.toNat]'(by omega) = v at ha
    have hi2 : 0 ≤ i + 1 := by omega
    have hz : ¬ m ≤ 0 := by omega
    by_cases hv : 1000000000000000000 ≤ v
    · by_cases hm : m ≤ v
      · skip
        generalize hx : b_law_pick _ η = x
        unfold b_law_pick at hx
        simp [ho, hs, f5_0, f5_1, f5_2, f5_3, f5_4, n5_1, n5_2, n5_3, n5_4, h0, h2, h3, h4, h5, h6, h7, h8, hmm, hmr, hc.1, hc.2, ha, hv, hm] at hx
        subst hx
        exact ⟨_, _, rfl, ⟨ns, _, _, _, _, hi2, rfl⟩, fin _⟩
      · skip
        generalize hx : b_law_pick _ η = x
        unfold b_law_pick at hx
        simp [ho, hs, f5_0, f5_1, f5_2, f5_3, f5_4, n5_1, n5_2, n5_3, n5_4, h0, h2, h3, h4, h5, h6, h7, h8, hmm, hmr, hc.1, hc.2, ha, hv, hm] at hx
        subst hx
        exact ⟨_, _, rfl, ⟨ns, _, _, _, _, hi2, rfl⟩, fin _⟩
    · skip
      generalize hx : b_law_pick _ η = x
      unfold b_law_pick at hx
      simp [ho, hs, f5_0, f5_1, f5_2, f5_3, f5_4, n5_1, n5_2, n5_3, n5_4, h0, h2, h3, h4, h5, h6, h7, h8, hmm, hmr, hc.1, hc.2, ha, hv, hz] at hx
      subst hx
      exact ⟨_, _, rfl, ⟨ns, _, _, _, _, hi2, rfl⟩, fin _⟩
  · have hf : ∀ {α : Type} (a b : α), (if c < m then (if i < ns.length then a else b) else b) = b := fun a b => by
      by_cases h1 : c < m
      · rw [if_pos h1, if_neg fun h2 => hc ⟨h1, h2⟩]
      · rw [if_neg h1]
    by_cases hm : m ≤ c
    · have h9 : ¬ c < m := by omega
      generalize hx : b_law_pick _ η = x
      unfold b_law_pick at hx
      simp [ho, hs, f5_0, f5_1, f5_2, f5_3, f5_4, n5_1, n5_2, n5_3, n5_4, h0, h2, h3, h4, h5, h6, h7, h8, hmm, hmr, hm, h9] at hx
      subst hx
      exact ⟨_, _, rfl, ⟨ns, _, _, _, _, hi, rfl⟩, fin _⟩
    · have h9 : c < m := by omega
      have h10 : ¬ i < ns.length := fun h => hc ⟨h9, h⟩
      generalize hx : b_law_pick _ η = x
      unfold b_law_pick at hx
      simp [ho, hs, f5_0, f5_1, f5_2, f5_3, f5_4, n5_1, n5_2, n5_3, n5_4, h0, h2, h3, h4, h5, h6, h7, h8, hmm, hmr, hm, h9, h10] at hx
      subst hx
      exact ⟨_, _, rfl, ⟨ns, _, _, _, _, hi, rfl⟩, fin _⟩
end DL
namespace DL
open PySem L2
theorem loop_inv2 {t : Tg} {b : S} (P : En → List O → Prop) : ∀ {ds : List D} {δ : En} {η : List O}, P δ η →
    (∀ x ∈ ds, ∀ δ η, P δ η → ∃ δ1, asg t x δ = some δ1 ∧ ∃ δ2 η2, (b δ1 η = .nx δ2 η2 ∨ b δ1 η = .ct δ2 η2) ∧ P δ2 η2) → ∃ δ' η', loopF t b ds δ η = .nx δ' η' ∧ P δ' η'
  | [], δ, η, h, _ => ⟨δ, η, rfl, h⟩
  | x :: r, δ, η, h, s => by
    obtain ⟨δ1, e1, δ2, η2, e2, h2⟩ := s x (List.mem_cons_self ..) δ η h
    obtain ⟨δ', η', e3, h3⟩ := loop_inv2 P h2 fun y hy => s y (List.mem_cons_of_mem _ hy)
    refine ⟨δ', η', ?_, h3⟩
    rw [loopF, e1]
    rcases e2 with e2 | e2
    · dsimp only; rw [e2]; exact e3
    · dsimp only; rw [e2]; exact e3
theorem of_ok {η : List O} {n : Nat} {o : O} {l : List D} (ho : η[n]? = some o) (hf : Feed o) (h0 : 0 < l.length) (h1 : l.length < 1073741824) :
    ∃ d o', m_law_of [.obj n, .lst l] η = .ok d (η.set n o') ∧ Feed o' ∧ d ∈ l := by
  obtain ⟨r, o', e, f, r0, r1⟩ := pick_ok (m := l.length) ho hf (by omega) (by omega)
  have r2 := atI_of r0 r1
  refine ⟨_, o', run_rt2 rfl ?_, f, List.getElem_mem (h := by omega) (n := r.toNat)⟩
  unfold b_law_of
  simp [e, r2]
theorem ofS_ok {η : List O} {n : Nat} {o : O} {z : Str} (ho : η[n]? = some o) (hf : Feed o) (h0 : 0 < z.length) (h1 : z.length ≤ sizeLine) :
    ∃ c o', m_law_of [.obj n, .str z] η = .ok (.str ⟨#[c]⟩) (η.set n o') ∧ Feed o' ∧ c ∈ z.cps.toList := by
  have h2 : z.length ≤ 16777216 := h1
  obtain ⟨r, o', e, f, r0, r1⟩ := pick_ok (m := z.length) ho hf (by omega) (by omega)
  have r2 := atI_of (xs := z.cps.toList) r0 (by simpa [Str.length] using r1)
  refine ⟨_, o', run_rt2 rfl ?_, f, List.getElem_mem (h := by rw [Array.length_toList]; show r.toNat < z.length; omega) (n := r.toNat)⟩
  unfold b_law_of
  simp [e, h1, ixD, r2]
theorem cut_le {ns : List Int} : ns.length ≤ 63 → cutD (ns.map D.int) none (some 63) = ns.map D.int := fun h => by
  unfold cutD
  have e1 : HT.sIx (ns.map D.int).length 0 none = 0 := rfl
  have e2 : HT.sIx (ns.map D.int).length (ns.map D.int).length (some 63) = ns.length := by
    simp [HT.sIx]; omega
  rw [e1, e2]
  have : List.take ns.length (ns.map D.int) = ns.map D.int := List.take_of_length_le (by simp)
  simp [this]
theorem feed_ok {η : List O} {ns : List Int} (h : ns.length ≤ 63) : ∃ o, m_law_feed [.lst (ns.map .int)] η = .ok (.obj η.length) (η ++ [o]) ∧ Feed o := by
  have hl : ∃ δ' η', loopF (.nm 2) (sSet 1 (fOp modD (fCall1 intC (fOp addD (fOp addD (fOp mulD (fV 1) (fC (.int 52361))) (fOp modD (fCall1 intC (fV 2)) (fC (.int 2147483477)))) (fC (.int 41)))) (fC (.int 2147483563)))) (ns.map .int) [some (.val (.lst (ns.map .int))), some (.val (.int 4928)), none] η = .nx δ' η' ∧ ∃ (s : Int) (x : Option L), η' = η ∧ δ' = [some (.val (.lst (ns.map .int))), some (.val (.int s)), x] := by
    refine loop_inv2 (P := fun δ' η' => ∃ (s : Int) (x : Option L), η' = η ∧ δ' = [some (.val (.lst (ns.map .int))), some (.val (.int s)), x]) ⟨_, _, rfl, rfl⟩ fun x hx δ η' ⟨s, y, e1, e2⟩ => ?_
    obtain ⟨v, _, rfl⟩ := List.mem_map.mp hx
    subst e1 e2
    have h4 : ∀ x : Int, cmulB x 52361 = true := fun x => by simp [cmulB]
    refine ⟨_, asg_nm, ?_⟩
    exact ⟨[_, some (.val (.int ((s * 52361 + v % 2147483477 + 41) % 2147483563))), some (.val (.int v))], η', .inl (by simp [h4]), _, _, rfl, rfl⟩
  obtain ⟨δ', η', e, s, x, rfl, rfl⟩ := hl
  refine ⟨.lst [.lst (ns.map .int), .int 0, .int 0, .int s, .int 0], run_rt2 rfl ?_, ⟨ns, 0, 0, s, 0, by omega, rfl⟩⟩
  unfold b_law_feed
  simp only [List.map_cons, List.map_nil, List.cons_append, List.nil_append]
  simp [cut_le h]
  simp [e, cut_le h, sizeLine_eq]
mutual
def samB : Nat → D → Bool
  | 0, _ => false
  | n + 1, .lst l => samL n l
  | n + 1, .tup l => samL n l
  | _ + 1, .non => true
  | _ + 1, .bl _ => true
  | _ + 1, .int _ => true
  | _ + 1, .str _ => true
  | _ + 1, _ => false
def samL : Nat → List D → Bool
  | _, [] => true
  | n, d :: l => samB n d && samL n l
end
theorem samL_mem : ∀ {n : Nat} {l : List D}, samL n l = true → ∀ d ∈ l, samB n d = true
  | n, e :: l, h, d, hd => by
    rw [samL, Bool.and_eq_true] at h
    rcases List.mem_cons.mp hd with rfl | hd
    · exact h.1
    · exact samL_mem h.2 d hd
theorem blsOf_rep : ∀ (n : Nat), blsOf (List.replicate n (.bl true)) = some (List.replicate n true)
  | 0 => rfl
  | n + 1 => by rw [List.replicate_succ, blsOf, blsOf_rep n]; rfl
theorem same_lists {n : Nat} {η : List O} : ∀ {l : List D} {δ : En}, 4 ≤ δ.length → (∀ d ∈ l, m_law_same n [d, d] η = .ok (.bl true) η) → compF (.tp [.nm 2, .nm 3]) fYes (fCall 2 (m_law_same n) (fCons (fV 2) (fCons (fV 3) fNil))) δ (zipD l l) η = .ok (List.replicate l.length (.bl true)) η
  | [], _, _, _ => rfl
  | d :: l, δ, hδ, h => by
    have ih := same_lists (l := l) hδ fun e he => h e (List.mem_cons_of_mem _ he)
    have e : zipD (d :: l) (d :: l) = .tup [d, d] :: zipD l l := rfl
    rw [e, compF]
    have g2 : ((δ.set 2 (some (.val d))).set 3 (some (.val d)))[2]? = some (some (.val d)) := by
      rw [List.getElem?_set_ne (by decide), List.getElem?_set_self (by omega)]
    have g3 : ((δ.set 2 (some (.val d))).set 3 (some (.val d)))[3]? = some (some (.val d)) := by
      rw [List.getElem?_set_self (by rw [List.length_set]; omega)]
    simp [g2, g3, h d (List.mem_cons_self ..), ih, List.replicate_succ]
theorem same_ok : ∀ {n : Nat} {d : D} {η : List O}, samB n d = true → m_law_same n [d, d] η = .ok (.bl true) η
  | 0, d, η, h => by simp [samB] at h
  | n + 1, d, η, h => by
    have hl : ∀ u ∈ ["list", "tuple", "str", "bool", "int"], isD u d = some (.bl (isTy u d)) := fun u hu => isD_of hu (by cases d <;> first | (simp [samB] at h; done) | simp [D.ty])
    have hl2 : isD2 "list" "tuple" d = some (.bl (isTy "list" d || isTy "tuple" d)) := isD2_of (by decide) (by decide) (by cases d <;> first | (simp [samB] at h; done) | simp [D.ty])
    have i1 := hl "list" (by decide)
    have i2 := hl "tuple" (by decide)
    have i3 := hl "str" (by decide)
    have i4 := hl "bool" (by decide)
    rw [m_law_same]
    refine run_rt2 rfl ?_
    cases d with
    | lst l =>
      have q := same_lists (n := n) (η := η) (l := l) (δ := [some (.val (.lst l)), some (.val (.lst l)), none, none]) (Nat.le_refl 4) fun e he => same_ok (samL_mem (by simpa [samB] using h) e he)
      simp [i1, i2, hl2, isTy, D.ty, wipeD, q, allC, blsOf_rep]
    | tup l =>
      have q := same_lists (n := n) (η := η) (l := l) (δ := [some (.val (.tup l)), some (.val (.tup l)), none, none]) (Nat.le_refl 4) fun e he => same_ok (samL_mem (by simpa [samB] using h) e he)
      simp [i1, i2, hl2, isTy, D.ty, wipeD, q, allC, blsOf_rep]
    | non => simp [i1, i2, i3, i4, hl2, isTy, D.ty]
    | bl b => simp [i1, i2, i3, i4, hl2, isTy, D.ty]
    | int b => simp [i1, i2, i3, i4, hl2, isTy, D.ty]
    | str b => simp [i1, i2, i3, i4, hl2, isTy, D.ty]
    | _ => simp [samB] at h
end DL
namespace DL
open PySem L2
/-! ### texts -/
abbrev one (c : Nat) : D := .str ⟨#[c]⟩
theorem strsOf_ones : ∀ cs : List Nat, strsOf (cs.map one) = some ((cs.map fun c => [c]).map SX.S)
  | [] => rfl
  | c :: cs => by rw [List.map_cons, strsOf, strsOf_ones cs]; rfl
theorem joinL_ones : ∀ cs : List Nat, TL.joinL [] (cs.map fun c => [c]) = cs
  | [] => rfl
  | [c] => rfl
  | c :: d :: cs => by
    have := joinL_ones (d :: cs)
    rw [List.map_cons] at this
    rw [List.map_cons, List.map_cons, TL.joinL, this]
    rfl
theorem sum_ones : ∀ cs : List Nat, ((cs.map fun c => [c]).map (·.length)).sum = cs.length
  | [] => rfl
  | c :: cs => by have := sum_ones cs; simp only [List.map_cons, List.sum_cons, List.length_cons, this] ; simp; omega
theorem joinS_ones {cs : List Nat} (h : cs.length ≤ 16777216) : joinS "" (.lst (cs.map one)) = some (.str (SX.S cs)) := by
  unfold joinS
  dsimp only
  rw [strsOf_ones]
  dsimp only
  have e : ("" : Str) = SX.S [] := rfl
  rw [SX.lens, sum_ones]
  have e2 : ("" : Str).length = 0 := rfl
  rw [e2, Nat.mul_zero, Nat.add_zero, if_pos h, e, SX.join_S, joinL_ones]
theorem ones_of {l : List D} {p : Nat → Prop} (h : ∀ d ∈ l, ∃ c, p c ∧ d = one c) : ∃ cs : List Nat, l = cs.map one ∧ ∀ c ∈ cs, p c := by
  induction l with
  | nil => exact ⟨[], rfl, by simp⟩
  | cons d l ih =>
    obtain ⟨cs, rfl, q⟩ := ih fun e he => h e (List.mem_cons_of_mem _ he)
    obtain ⟨c, hc, rfl⟩ := h d (List.mem_cons_self ..)
    refine ⟨c :: cs, rfl, fun x hx => ?_⟩
    rcases List.mem_cons.mp hx with rfl | hx
    · exact hc
    · exact q x hx
theorem cut_lo {z : Str} {k : Int} (h : 0 ≤ k) (h2 : k ≤ z.length) : cutS z none (some k) = SX.S (z.cps.toList.take k.toNat) := by
  unfold cutS
  have e1 : HT.sIx z.length 0 none = 0 := rfl
  have e2 : HT.sIx z.length z.length (some k) = k.toNat := by
    have : ¬ k < 0 := by omega
    simp [HT.sIx, this]; omega
  rw [e1, e2]
  rfl
theorem cut_hi {z : Str} {k : Int} (h : 0 ≤ k) (h2 : k ≤ z.length) : cutS z (some k) none = SX.S (z.cps.toList.drop k.toNat) := by
  unfold cutS
  have e1 : HT.sIx z.length z.length none = z.length := rfl
  have e2 : HT.sIx z.length 0 (some k) = k.toNat := by
    have : ¬ k < 0 := by omega
    simp [HT.sIx, this]; omega
  rw [e1, e2]
  have : List.take (z.length - k.toNat) (z.cps.toList.drop k.toNat) = z.cps.toList.drop k.toNat := List.take_of_length_le (by simp [Str.length])
  rw [this]
/-! ### comprehensions that pick -/
theorem comp_st2 {t : Tg} {ft : F Bool} {fe : F D} {δw : En} (P : List O → Prop) (Q : D → Prop) : ∀ {ds : List D} {η : List O}, P η → (∀ x ∈ ds, ∀ η, P η → ∃ δ1, asg t x δw = some δ1 ∧ ft δ1 η = .ok true η ∧ ∃ y η', fe δ1 η = .ok y η' ∧ P η' ∧ Q y) →
    ∃ ys η', compF t ft fe δw ds η = .ok ys η' ∧ P η' ∧ ys.length = ds.length ∧ ∀ y ∈ ys, Q y
  | [], η, h, _ => ⟨[], η, rfl, h, rfl, by simp⟩
  | x :: r, η, h, hs => by
    obtain ⟨δ1, e1, e2, y, η1, e3, h1, q1⟩ := hs x (List.mem_cons_self ..) η h
    obtain ⟨ys, η2, e4, h2, l2, q2⟩ := comp_st2 P Q (ds := r) h1 fun z hz => hs z (List.mem_cons_of_mem _ hz)
    refine ⟨y :: ys, η2, ?_, h2, by simp [l2], fun a ha => ?_⟩
    · rw [compF, e1]
      simp only [e2, e3, e4, nox_ok, bind_ok, if_true]
    · rcases List.mem_cons.mp ha with rfl | ha
      · exact q1
      · exact q2 a ha
/-! ### the feed behind some first objects -/
theorem get_fp {fp r : List O} {o : O} : (fp ++ o :: r)[fp.length]? = some o := by simp
theorem set_fp {fp r : List O} {o o' : O} : (fp ++ o :: r).set fp.length o' = fp ++ o' :: r := by simp
theorem pick0 {fp r : List O} {o : O} (hf : Feed o) (m : Int) (h0 : 0 < m) (h1 : m < 1073741824) : ∃ k o', m_law_pick [.obj fp.length, .int m] (fp ++ o :: r) = .ok (.int k) (fp ++ o' :: r) ∧ Feed o' ∧ 0 ≤ k ∧ k < m := by
  obtain ⟨k, o', e, f⟩ := pick_ok (η := fp ++ o :: r) (n := fp.length) get_fp hf h0 h1
  rw [set_fp] at e
  exact ⟨k, o', e, f⟩
theorem of0 {fp r : List O} {o : O} (hf : Feed o) (l : List D) (h0 : 0 < l.length) (h1 : l.length < 1073741824) : ∃ d o', m_law_of [.obj fp.length, .lst l] (fp ++ o :: r) = .ok d (fp ++ o' :: r) ∧ Feed o' ∧ d ∈ l := by
  obtain ⟨k, o', e, f⟩ := of_ok (η := fp ++ o :: r) (n := fp.length) get_fp hf h0 h1
  rw [set_fp] at e
  exact ⟨k, o', e, f⟩
theorem ofS0 {fp r : List O} {o : O} (hf : Feed o) (z : Str) (h0 : 0 < z.length) (h1 : z.length ≤ sizeLine) : ∃ c o', m_law_of [.obj fp.length, .str z] (fp ++ o :: r) = .ok (.str ⟨#[c]⟩) (fp ++ o' :: r) ∧ Feed o' ∧ c ∈ z.cps.toList := by
  obtain ⟨k, o', e, f⟩ := ofS_ok (η := fp ++ o :: r) (n := fp.length) get_fp hf h0 h1
  rw [set_fp] at e
  exact ⟨k, o', e, f⟩
/-! ### names -/
def lowB (c : Nat) : Bool := !(Builtin.Str.occurrences "abcdefghijklmnopqrstuvwxyz" ⟨#[c]⟩ 0 26 1).isEmpty
def nameB (z : Str) : Bool := decide (1 ≤ z.length) && decide (z.length ≤ 8) && z.cps.toList.all lowB
theorem blsOf_map {α : Type} (f : α → Bool) : ∀ l : List α, blsOf (l.map fun x => .bl (f x)) = some (l.map f)
  | [] => rfl
  | x :: l => by rw [List.map_cons, blsOf, blsOf_map f l]; rfl
theorem low_in : ∀ c ∈ ("abcdefghijklmnopqrstuvwxyz" : Str).cps.toList, lowB c = true := by decide +kernel
end DL
namespace DL
open PySem L2
def b_law_mixed : S := (sSeq (sOwn 2 (fLstN fNil))
    (sSeq (sFor (fiA (fV 1)) (.nm 3) (sMut 2 muIns (fCons (fCall 2 m_law_pick (fCons (fV 0) (fCons (fOp addD (fCall1 lenD (fVo 2)) (fC (.int 1))) fNil))) (fCons (fV 3) fNil))))
    (sFz 2 (sRet (fV 2)))))
def m_law_mixed : DF := runD 4 b_law_mixed
def b_law_names : S := (sSeq (sSet 2 (fSl (fCall 2 m_law_mixed (fCons (fV 0) (fCons (fFrz (fLc [5] (fiA (fC (.str "abcdefghijklmnopqrstuvwxyz"))) (.nm 5) fYes (fV 5))) fNil))) fNoP (fPt (fV 1))))
    (sSeq (sSet 3 (fStrM joinS (fC (.str "")) (fFrz (fLc [6] (fiR1 (fCall 2 m_law_pick (fCons (fV 0) (fCons (fC (.int 8)) fNil)))) (.nm 6) fYes (fCall 2 m_law_of (fCons (fV 0) (fCons (fC (.str "abcdefghijklmnopqrstuvwxyz")) fNil)))))))
    (sSeq (sSet 4 (fCall 2 m_law_pick (fCons (fV 0) (fCons (fOp addD (fCall1 lenD (fV 3)) (fC (.int 1))) fNil))))
    (sRet (fFrz (fLc [5] (fiA (fV 2)) (.nm 5) fYes (fOp addD (fOp addD (fSl (fV 3) fNoP (fPt (fV 4))) (fV 5)) (fSl (fV 3) (fPt (fV 4)) fNoP))))))))
def m_law_names : DF := runD 7 b_law_names
def b_Book_sort_names : S := (sRet (fFrz (fLc [1, 2] (fiA (fFld 0 ["sort_rows", "word_rows", "own_memory"] 0 (fV 0))) (.tp [(.nm 1), (.nm 2)]) fYes (fV 1))))
def m_Book_sort_names : DF := runD 3 b_Book_sort_names
def b_Book_word_row : S := (sSeq (sFor (fiA (fFld 0 ["sort_rows", "word_rows", "own_memory"] 1 (fV 0))) (.nm 2) (sIf (toB (fOp eqD (fOp ixD (fV 2) (fC (.int 0))) (fV 1))) (sRet (fV 2)) SR.nx))
    (sRaise1 41 "name" "UnknownWord" (fV 1)))
def m_Book_word_row : DF := runD 3 b_Book_word_row
def b_is_thing : S := (sSeq (sAsg (fV 1) (.tp [(.nm 2), (.nm 3)]))
    (sRet (fAnd (fOp inD (fV 2) (fMeth 0 ["sort_rows", "word_rows", "own_memory"] 1 0 1 m_Book_sort_names [0] [] (fV 0) fNil fNil)) (fOp geD (fV 3) (fC (.int 0))))))
def m_is_thing : DF := runD 4 b_is_thing
end DL
namespace DL
open PySem L2
/-! ### combinators of the class layer, applied -/
section
variable {δ : En} {η : List O} {f fa fb fo : F D} {fs fk fr : F (List D)} {a b : S} {i n c : Nat} {d : D} {df : DF} {NS NS' : List Str} {ix : List Nat} {dv : List D} {mu : List D → List D → Option (List D)}
@[simp] theorem insD_a {m : Nat} : insD η c NS (.obj m) = (match η[m]? with | some (.ins c' ns l) => if c' = c ∧ ns = NS then some (m, l) else none | _ => none) := rfl
@[simp] theorem insC_a {m : Nat} : insC η c (.obj m) = (match η[m]? with | some (.ins c' _ _) => decide (c' = c) | _ => false) := rfl
@[simp] theorem fFld_a : fFld c NS i fo δ η = (fo δ η).bind fun d η => (match insD η c NS d with | some (_, l) => (match l[i]? with | some x => .ok x η | none => .bad) | none => .bad) := rfl
@[simp] theorem sFldN_a : sFldN c NS NS' f fo δ η = (f δ η).toS δ fun d η => (fo δ η).toS δ fun o η => (match insD η c NS o with | some (n, l) => .nx δ (η.set n (.ins c NS' (l ++ [d]))) | none => .bad) := rfl
@[simp] theorem sFldO_a : sFldO c NS i f fo δ η = (f δ η).toS δ fun d η => (fo δ η).toS δ fun o η => (match insD η c NS o with | some (n, l) => .nx δ (η.set n (.ins c NS (l.set i d))) | none => .bad) := rfl
@[simp] theorem sFldA_a : sFldA c NS i fo f δ η = (fo δ η).toS δ fun o η => (match insD η c NS o with | some (_, l) => (match l[i]? with | some (.int x) => (f δ η).toS δ fun d η => (match insD η c NS o, d with | some (n, l), .int y => .nx δ (η.set n (.ins c NS (l.set i (.int (x + y))))) | _, _ => .bad) | _ => .bad) | none => .bad) := rfl
@[simp] theorem argK_a {np nk : Nat} {ds es : List D} : argK np nk n df ix dv ds es η = if ds.length = np ∧ es.length = nk then (arg n df (pick ix (ds ++ es ++ dv)) η).nox else .bad := rfl
@[simp] theorem fMeth_a {np nk : Nat} : fMeth c NS np nk n df ix dv fo fs fk δ η = (fo δ η).bind fun d η => (match insD η c NS d with | some _ => (fs δ η).bind fun ds η => (fk δ η).bind fun es η => argK np nk n df ix dv (d :: ds) es η | none => .bad) := rfl
@[simp] theorem fNewI_a {np nk : Nat} : fNewI c np nk n df ix dv fs fk δ η = (fs δ η).bind fun ds η => (fk δ η).bind fun es η' => (argK np nk n df ix dv (.obj η'.length :: ds) es (η' ++ [.ins c [] []])).bind fun z η2 => (match z with | .non => .ok (.obj η'.length) η2 | _ => .bad) := rfl
@[simp] theorem argKX_a {np nk : Nat} {ds es : List D} : argKX np nk n df ix dv ds es η = if ds.length = np ∧ es.length = nk then arg n df (pick ix (ds ++ es ++ dv)) η else .bad := rfl
@[simp] theorem fMethX_a {np nk : Nat} : fMethX c NS np nk n df ix dv fo fs fk δ η = (fo δ η).bind fun d η => (match insD η c NS d with | some _ => (fs δ η).bind fun ds η => (fk δ η).bind fun es η => argKX np nk n df ix dv (d :: ds) es η | none => .bad) := rfl
@[simp] theorem fNewIX_a {np nk : Nat} : fNewIX c np nk n df ix dv fs fk δ η = (fs δ η).bind fun ds η => (fk δ η).bind fun es η' => (argKX np nk n df ix dv (.obj η'.length :: ds) es (η' ++ [.ins c [] []])).bind fun z η2 => (match z with | .non => .ok (.obj η'.length) η2 | _ => .bad) := rfl
@[simp] theorem fCallX_a {m : DF} : fCallX n m fs δ η = (fs δ η).bind fun ds η => arg n m ds η := rfl
@[simp] theorem fCallKX_a {np nk : Nat} {m : DF} : fCallKX np nk n m ix fs fk δ η = (fs δ η).bind fun ds η => (fk δ η).bind fun es η => if ds.length = np ∧ es.length = nk then arg n m (pick ix (ds ++ es)) η else .bad := rfl
@[simp] theorem sRaise1_a {x g : Str} : sRaise1 c g x f δ η = (f δ η).toS δ fun d η => .exc c [g, "code"] [d, .str x] δ η := rfl
@[simp] theorem sRaise0_a {x : Str} : sRaise0 c x δ η = .exc c ["code"] [.str x] δ η := rfl
@[simp] theorem fProp_a : fProp c n df fo δ η = (fo δ η).bind fun d η => if insC η c d = true then (arg n df [d] η).nox else .bad := rfl
@[simp] theorem fInM_a {neg : Bool} : fInM c n df neg fa fb δ η = (fa δ η).bind fun d η => (fb δ η).bind fun o η => if insC η c o = true then ((arg n df [o, d] η).nox).bind fun z η => (match z with | .bl b => .ok (.bl (neg != b)) η | _ => .bad) else .bad := rfl
@[simp] theorem fStar_a : fStar fa fr δ η = (fa δ η).bind fun d η => (match d with | .lst l => (fr δ η).bind fun ds η => .ok (l ++ ds) η | .tup l => (fr δ η).bind fun ds η => .ok (l ++ ds) η | _ => .bad) := rfl
@[simp] theorem sMut_a : sMut i mu fs δ η = (match δ[i]? with | some (some (.own l)) => (fs δ η).toS δ fun ds η => (match mu l ds with | some l2 => .nx (δ.set i (some (.own l2))) η | none => .bad) | _ => .bad) := rfl
@[simp] theorem sMutO_a : sMutO mu fo fs δ η = (fo δ η).toS δ fun d η => (match d with | .obj n => (match η[n]? with | some (.lst _) => (fs δ η).toS δ fun ds η => (match η[n]? with | some (.lst l) => (match mu l ds with | some l2 => .nx δ (η.set n (.lst l2)) | none => .bad) | _ => .bad) | _ => .bad) | _ => .bad) := rfl
@[simp] theorem sParN_a {j : Nat} : sParN i j fa fs δ η = (fa δ η).toS δ fun d η => (fs δ η).toS δ fun l η => .nx ((δ.set i (some (.val d))).set j (some (.own l))) η := rfl
@[simp] theorem sFz_a : sFz i a δ η = (match δ[i]? with | some (some (.own l)) => a (δ.set i (some (.val (.lst l)))) η | _ => a δ η) := rfl
@[simp] theorem fDr_a : fDr fa δ η = (fa δ η).bind fun d η => (match d with | .obj n => (match η[n]? with | some (.lst l) => .ok (.lst l) η | _ => .ok d η) | _ => .ok d η) := rfl
@[simp] theorem fLenSet_a : fLenSet fa δ η = (fa δ η).bind fun d η => (match d with | .lst l => (match strsOf l with | some xs => if xs.length ≤ 1000 then .ok (.int (cnt xs xs.length : Nat)) η else .bad | none => .bad) | .tup l => (match strsOf l with | some xs => if xs.length ≤ 1000 then .ok (.int (cnt xs xs.length : Nat)) η else .bad | none => .bad) | _ => .bad) := rfl
@[simp] theorem fBad_a : fBad δ η = .bad := rfl
@[simp] theorem sBad_a : sBad δ η = .bad := rfl
@[simp] theorem muApp_a {l : List D} : muApp l [d] = if l.length < sizeLine then some (l ++ [d]) else none := rfl
@[simp] theorem muClr_a {l : List D} : muClr l [] = some [] := rfl
@[simp] theorem muIns_a {l : List D} {i : Int} : muIns l [.int i, d] = if l.length < sizeLine ∧ 0 ≤ i ∧ i < 2 ^ 63 then some (l.take i.toNat ++ [d] ++ l.drop i.toNat) else none := rfl
@[simp] theorem tupC_l {l : List D} : tupC (.lst l) = some (.tup l) := rfl
end
@[simp] theorem pick_nil {α : Type} {l : List α} : pick [] l = [] := rfl
@[simp] theorem pick_cons {α : Type} {l : List α} {i : Nat} {ix : List Nat} : pick (i :: ix) l = (match l[i]? with | some x => x :: pick ix l | none => pick ix l) := by
  unfold pick
  rw [List.filterMap_cons]
  cases l[i]? <;> rfl
/-! ### the helpers of the laws: a mixed list, names -/
theorem mixed_ok {fp r : List O} {o : O} {l : List D} (hf : Feed o) (hl : l.length ≤ 1000) : ∃ l2 o', m_law_mixed [.obj fp.length, .lst l] (fp ++ o :: r) = .ok (.lst l2) (fp ++ o' :: r) ∧ Feed o' ∧ l2.Perm l := by
  have hsz : ∀ n : Nat, n ≤ 1000 → n < sizeLine := fun n h => by rw [sizeLine_eq]; omega
  generalize hb : (sMut 2 muIns (fCons (fCall 2 m_law_pick (fCons (fV 0) (fCons (fOp addD (fCall1 lenD (fVo 2)) (fC (.int 1))) fNil))) (fCons (fV 3) fNil))) = b
  obtain ⟨δ', η', e, o', acc, y, rfl, hf', rfl, hp⟩ := loop_inv (t := .nm 3) (b := b) (P := fun ds δ η => ∃ (o : O) (acc : List D) (y : Option L), η = fp ++ o :: r ∧ Feed o ∧ δ = [some (.val (.obj fp.length)), some (.val (.lst l)), some (.own acc), y] ∧ (acc ++ ds).Perm l) (ds := l) (δ := [some (.val (.obj fp.length)), some (.val (.lst l)), some (.own []), none]) (η := fp ++ o :: r) ⟨o, [], _, rfl, hf, rfl, List.Perm.refl _⟩ fun x ds δ η ⟨o, acc, y, h1, h2, h3, h4⟩ => by
    subst h1 h3 hb
    have hlen := h4.length_eq
    rw [List.length_append, List.length_cons] at hlen
    obtain ⟨k, o2, e2, f2, k0, k1⟩ := pick0 (fp := fp) (r := r) h2 (acc.length + 1) (by omega) (by omega)
    refine ⟨_, asg_nm, [some (.val (.obj fp.length)), some (.val (.lst l)), some (.own (acc.take k.toNat ++ [x] ++ acc.drop k.toNat)), some (.val x)], fp ++ o2 :: r, .inl ?_, o2, _, _, rfl, f2, rfl, ?_⟩
    · have h63 : k < 9223372036854775808 := by omega
      simp [e2, hsz acc.length (by omega), k0, h63]
    · refine List.Perm.trans ?_ h4
      have h5 : (acc.take k.toNat ++ [x] ++ acc.drop k.toNat).Perm (x :: acc) := by
        have := List.perm_middle (a := x) (l₁ := acc.take k.toNat) (l₂ := acc.drop k.toNat)
        rw [List.take_append_drop] at this
        simpa using this
      have h6 := h5.append_right ds
      refine h6.trans ?_
      exact (List.perm_middle (a := x) (l₁ := acc) (l₂ := ds)).symm
  refine ⟨acc, o', run_rt2 rfl ?_, hf', by simpa using hp⟩
  unfold b_law_mixed
  rw [hb]
  have z : (0 : Nat) ≤ sizeLine := Nat.zero_le _
  simp [e, z]
end DL
namespace DL
open PySem L2
abbrev az : Str := "abcdefghijklmnopqrstuvwxyz"
theorem az_nodup : az.cps.toList.Nodup := by decide +kernel
theorem az_len : az.cps.toList.length = 26 := by decide +kernel
theorem one_inj {c d : Nat} (h : one c = one d) : c = d := by
  have h1 : (⟨#[c]⟩ : Str) = ⟨#[d]⟩ := D.str.inj h
  have h2 : #[c] = #[d] := congrArg Str.cps h1
  simpa using h2
theorem cut_take {l : List D} {m : Nat} (h : m ≤ l.length) : cutD l none (some (m : Int)) = l.take m := by
  unfold cutD
  have e1 : HT.sIx l.length 0 none = 0 := rfl
  have e2 : HT.sIx l.length l.length (some (m : Int)) = m := by
    have : ¬ (m : Int) < 0 := by omega
    simp [HT.sIx, this]; omega
  rw [e1, e2]
  simp
/-- a name made of a stem and one letter at a spot -/
def mkName (a b : List Nat) (c : Nat) : Str := SX.S ((a ++ [c]) ++ b)
theorem mkName_inj {a b : List Nat} {c d : Nat} (h : mkName a b c = mkName a b d) : c = d := by
  have := SX.S_inj h
  have h2 := List.append_cancel_right this
  have h3 := List.append_cancel_left h2
  simpa using h3
structure Names (ns : List Str) : Prop where
  nd : ns.Nodup
  nm : ∀ z ∈ ns, nameB z = true ∧ z.length ≤ 8
theorem drawL {δ : En} {fp r : List O} {o : O} {i : Nat} {m : Int} (hf : Feed o) (h0 : δ[0]? = some (some (.val (.obj fp.length)))) (hm : 0 < m) (hm2 : m ≤ 1000) (hi : 0 < i) :
    ∃ cs o', (fStrM joinS (fC (.str "")) (fFrz (fLc [i] (fiR1 (fCall 2 m_law_pick (fCons (fV 0) (fCons (fC (.int m)) fNil)))) (.nm i) fYes (fCall 2 m_law_of (fCons (fV 0) (fCons (fC (.str "abcdefghijklmnopqrstuvwxyz")) fNil)))))) δ (fp ++ o :: r) = .ok (.str (SX.S cs)) (fp ++ o' :: r) ∧ Feed o' ∧ (cs.length : Int) < m ∧ cs.all lowB = true := by
  obtain ⟨k, o1, e1, f1, k0, k1⟩ := pick0 (fp := fp) (r := r) hf m hm (by omega)
  have g : ∀ x, ((wipeD δ [i]).set i (some (L.val x)))[0]? = some (some (.val (.obj fp.length))) := fun x => by
    have hne : ¬ i = 0 := by omega
    simp [wipeD, h0, List.getElem?_set, hne]
  obtain ⟨ys, η', e2, ⟨o2, rfl, f2⟩, hl, hq⟩ := comp_st2 (t := .nm i) (ft := fYes) (fe := fCall 2 m_law_of (fCons (fV 0) (fCons (fC (.str "abcdefghijklmnopqrstuvwxyz")) fNil))) (δw := wipeD δ [i]) (fun η => ∃ o, η = fp ++ o :: r ∧ Feed o) (fun d => ∃ c, c ∈ ("abcdefghijklmnopqrstuvwxyz" : Str).cps.toList ∧ d = one c) (ds := rngD 0 k.toNat) ⟨o1, rfl, f1⟩ fun x _ η ⟨o, e, f⟩ => by
    subst e
    obtain ⟨c, o', e3, f3, hc⟩ := ofS0 (fp := fp) (r := r) f "abcdefghijklmnopqrstuvwxyz" (by decide) (by decide)
    refine ⟨_, asg_nm, rfl, one c, fp ++ o' :: r, ?_, ⟨o', rfl, f3⟩, c, hc, rfl⟩
    simp [g x, e3]
  obtain ⟨cs, rfl, hcs⟩ := ones_of hq
  have hlen : (cs.length : Int) < m := by
    have := hl
    simp [rngD] at this
    omega
  refine ⟨cs, o2, ?_, f2, hlen, List.all_eq_true.mpr fun c hc => low_in c (hcs c hc)⟩
  have k2 : k ≤ 16777216 ∧ -16777216 ≤ k := by omega
  simp [h0, e1, e2, k2, joinS_ones (show cs.length ≤ 16777216 by omega)]
theorem names_ok {fp r : List O} {o : O} (hf : Feed o) {m : Nat} (hm : m ≤ 26) : ∃ ns o', m_law_names [.obj fp.length, .int m] (fp ++ o :: r) = .ok (.lst (ns.map .str)) (fp ++ o' :: r) ∧ Feed o' ∧ ns.length = m ∧ Names ns := by
  have zz : az.length ≤ sizeLine := by decide
  -- the letters
  have h1 : ∀ (δ : En) (η : List O), 5 < δ.length → compF (.nm 5) fYes (fV 5) δ (signsD az) η = .ok (az.cps.toList.map one) η := fun δ η h => by
    have := comp_map (t := .nm 5) (ft := fYes) (fe := fV 5) (δw := δ) (η := η) (g := fun d => d) (ds := signsD az) fun x hx => ⟨_, asg_nm, rfl, by simp [h]⟩
    rw [this, List.map_id']
    rfl
  obtain ⟨l2, o1, e1, f1, hp⟩ := mixed_ok (fp := fp) (r := r) (l := az.cps.toList.map one) hf (by rw [List.length_map, az_len]; omega)
  obtain ⟨cs2, rfl, hc2⟩ := ones_of (l := l2) (p := fun c => c ∈ az.cps.toList) fun d hd => by
    obtain ⟨c, hc, rfl⟩ := List.mem_map.mp (hp.mem_iff.mp hd)
    exact ⟨c, hc, rfl⟩
  have nd2 : cs2.Nodup := by
    have h := (hp.nodup_iff).mpr (List.Pairwise.map one (fun a b hab q => hab (one_inj q)) az_nodup)
    exact (List.pairwise_map.mp h).imp fun hab q => hab (by rw [q])
  have len2 : cs2.length = 26 := by
    have := hp.length_eq
    rw [List.length_map, List.length_map, az_len] at this
    exact this
  obtain ⟨st, o2, e2, f2, hs, hlow⟩ := drawL (fp := fp) (r := r) (i := 6) (m := 8) (δ := [some (.val (.obj fp.length)), some (.val (.int m)), some (.val (.lst ((cs2.take m).map one))), none, none, none, none]) f1 rfl (by decide) (by decide) (by decide)
  obtain ⟨k, o3, e3, f3, k0, k1⟩ := pick0 (fp := fp) (r := r) f2 (st.length + 1) (by omega) (by omega)
  have z1 : (SX.S st).length = st.length := SX.S_len st
  have z2 : st.length ≤ sizeLine := by rw [sizeLine_eq]; omega
  have c1 := cut_lo (z := SX.S st) k0 (by omega)
  have c2 := cut_hi (z := SX.S st) k0 (by omega)
  have e4 : (SX.S st).cps.toList = st := rfl
  rw [e4] at c1 c2
  have h2 : ∀ (δ : En) (η : List O), δ[3]? = some (some (.val (.str (SX.S st)))) → δ[4]? = some (some (.val (.int k))) → 5 < δ.length → compF (.nm 5) fYes (fOp addD (fOp addD (fSl (fV 3) fNoP (fPt (fV 4))) (fV 5)) (fSl (fV 3) (fPt (fV 4)) fNoP)) δ ((cs2.take m).map one) η = .ok (((cs2.take m).map (mkName (st.take k.toNat) (st.drop k.toNat))).map .str) η := fun δ η q3 q4 q5 => by
    have := comp_map (t := .nm 5) (ft := fYes) (fe := fOp addD (fOp addD (fSl (fV 3) fNoP (fPt (fV 4))) (fV 5)) (fSl (fV 3) (fPt (fV 4)) fNoP)) (δw := δ) (η := η) (g := fun d => match d with | .str y => .str (SX.S (st.take k.toNat) ++ y ++ SX.S (st.drop k.toNat)) | d => d) (ds := (cs2.take m).map one) fun x hx => by
      obtain ⟨c, _, rfl⟩ := List.mem_map.mp hx
      refine ⟨_, asg_nm, rfl, ?_⟩
      have l1 : (SX.S (st.take k.toNat)).length + (⟨#[c]⟩ : Str).length ≤ sizeLine := by rw [SX.S_len, sizeLine_eq]; simp [Str.length]; omega
      have l2 : (SX.S (st.take k.toNat) ++ (⟨#[c]⟩ : Str)).length + (SX.S (st.drop k.toNat)).length ≤ sizeLine := by
        rw [show SX.S (st.take k.toNat) ++ (⟨#[c]⟩ : Str) = SX.S (st.take k.toNat ++ [c]) from SX.S_cat _ _, SX.S_len, SX.S_len, sizeLine_eq]; simp; omega
      generalize SX.S (st.take k.toNat) = za at *
      generalize SX.S (st.drop k.toNat) = zb at *
      simp [q3, q4, q5, z1, z2, c1, c2, l1, l2]
    rw [this, List.map_map, List.map_map]
    congr 1
    refine List.map_congr_left fun c _ => ?_
    show D.str (SX.S (st.take k.toNat) ++ SX.S [c] ++ SX.S (st.drop k.toNat)) = _
    rw [SX.S_cat, SX.S_cat]; rfl
  refine ⟨(cs2.take m).map (mkName (st.take k.toNat) (st.drop k.toNat)), o3, run_rt2 (δ := [some (.val (.obj fp.length)), some (.val (.int m)), none, none, none, none, none]) rfl ?_, f3, by simp [len2, hm], ⟨?_, ?_⟩⟩
  · unfold b_law_names
    have hcut : cutD (cs2.map one) none (some (m : Int)) = (cs2.take m).map one := by rw [cut_take (by simp [len2, hm]), List.map_take]
    have h1' := h1 (wipeD [some (.val (.obj fp.length)), some (.val (.int m)), none, none, none, none, none] [5]) (fp ++ o :: r) (by show 5 < 7; decide)
    have h2' := h2 (wipeD [some (.val (.obj fp.length)), some (.val (.int m)), some (.val (.lst ((cs2.take m).map one))), some (.val (.str (SX.S st))), some (.val (.int k)), none, none] [5]) (fp ++ o3 :: r) rfl rfl (by show 5 < 7; decide)
    generalize hg : cs2.take m = cs3 at *
    have zz' : (Str.length "abcdefghijklmnopqrstuvwxyz") ≤ sizeLine := zz
    simp only [az] at h1' e1
    simp only [sSeq_a, sSet_a, fSl_a, fCall_a, fCons_a, fV_a, List.getElem?_cons_zero, List.getElem?_cons_succ, bind_ok, fFrz_a, fLc_a, fiA_a, fC_a, walkD_s, if_pos zz', lift_some, fNil_a, if_true, h1', arg_a, List.length_cons, List.length_nil, e1, nox_ok, fNoP_a, fPt_a, slD_l, hcut, toS_ok, seq_nx, List.set_cons_succ, List.set_cons_zero, e2, sRet_a]
    simp [e2, e3, z1, z2, h2']
  · exact List.Pairwise.map _ (fun a b hab q => hab (mkName_inj q)) (nd2.sublist (List.take_sublist _ _))
  · intro z hz
    obtain ⟨c, hc, rfl⟩ := List.mem_map.mp hz
    have hcl : lowB c = true := low_in c (hc2 c (List.mem_of_mem_take hc))
    have hl : (mkName (st.take k.toNat) (st.drop k.toNat) c).length = st.length + 1 := by
      unfold mkName; rw [SX.S_len]; simp; omega
    have ha : ((st.take k.toNat ++ [c]) ++ st.drop k.toNat).all lowB = true := by
      rw [List.all_append, List.all_append]
      have h3 : (st.take k.toNat).all lowB = true := List.all_eq_true.mpr fun x hx => List.all_eq_true.mp hlow x (List.mem_of_mem_take hx)
      have h4 : (st.drop k.toNat).all lowB = true := List.all_eq_true.mpr fun x hx => List.all_eq_true.mp hlow x (List.mem_of_mem_drop hx)
      simp only [h3, h4, List.all_cons, List.all_nil, hcl, Bool.and_self]
    refine ⟨?_, by omega⟩
    unfold nameB
    rw [hl]
    have : (mkName (st.take k.toNat) (st.drop k.toNat) c).cps.toList = (st.take k.toNat ++ [c]) ++ st.drop k.toNat := rfl
    rw [this, ha]
    simp; omega
end DL
namespace DL
open PySem L2
theorem pure_strs : ∀ zs : List Str, pureDs 20 (zs.map .str) = true
  | [] => rfl
  | z :: zs => by rw [List.map_cons, pureDs, pure_strs zs]; rfl
theorem inL_strs (z : Str) : ∀ zs : List Str, inL (.str z) (zs.map .str) = decide (z ∈ zs)
  | [] => rfl
  | y :: zs => by
    have ih : (zs.map D.str).any (fun y => eqvD y (.str z)) = decide (z ∈ zs) := inL_strs z zs
    show (eqvD (.str y) (.str z) || (zs.map D.str).any (fun y => eqvD y (.str z))) = decide (z ∈ y :: zs)
    rw [ih, eqv_ss]
    by_cases q : y = z
    · subst q
      rw [decide_eq_true (rfl : y = y), decide_eq_true (List.mem_cons_self : y ∈ y :: zs)]; rfl
    · rw [decide_eq_false q, Bool.false_or]
      refine decide_eq_decide.mpr ⟨fun h => List.mem_cons_of_mem _ h, fun h => ?_⟩
      rcases List.mem_cons.mp h with e | h
      · exact absurd e.symm q
      · exact h
@[simp] theorem inD_ls {z : Str} {zs : List Str} : inD (.str z) (.lst (zs.map .str)) = some (.bl (decide (z ∈ zs))) := by
  unfold inD; dsimp only; rw [inL_strs, if_pos ⟨rfl, pure_strs zs⟩]
@[simp] theorem inD_ts {z : Str} {zs : List Str} : inD (.str z) (.tup (zs.map .str)) = some (.bl (decide (z ∈ zs))) := by
  unfold inD; dsimp only; rw [inL_strs, if_pos ⟨rfl, pure_strs zs⟩]
theorem strsOf_map : ∀ zs : List Str, strsOf (zs.map .str) = some zs
  | [] => rfl
  | z :: zs => by rw [List.map_cons, strsOf, strsOf_map zs]; rfl
/-- a row of a book -/
structure Row where
  n : Str
  st : List Str
  p : Int
def Row.d (r : Row) : D := .tup [.str r.n, .tup (r.st.map .str), .int r.p]
def kd2 (k : Str × Int) : D := .tup [.str k.1, .int k.2]
structure RowOk (names earlier : List Str) (r : Row) : Prop where
  nm : nameB r.n = true ∧ r.n.length ≤ 8
  new : r.n ∉ earlier
  p0 : 0 ≤ r.p
  p1 : r.p ≤ 99
  ne : r.st ≠ []
  mem : ∀ s ∈ r.st, s ∈ names
  nd : r.st.Nodup
  few : r.st.length ≤ 100
theorem get_last {η : List O} {x : O} : (η ++ [x])[η.length]? = some x := by simp
theorem set_last {η : List O} {x y : O} : (η ++ [x]).set η.length y = η ++ [y] := by simp
abbrev NSB : List Str := ["sort_rows", "word_rows", "own_memory"]
structure KindsOk (ks : List (Str × Int)) : Prop where
  l0 : 1 ≤ ks.length
  l1 : ks.length ≤ 4
  nd : (ks.map (·.1)).Nodup
  ok : ∀ k ∈ ks, nameB k.1 = true ∧ k.1.length ≤ 8 ∧ 0 ≤ k.2 ∧ k.2 ≤ 99
structure RowsOk (names : List Str) (rs : List Row) : Prop where
  l1 : rs.length ≤ 4
  nd : (rs.map (·.n)).Nodup
  ok : ∀ r ∈ rs, RowOk names [] r
inductive MemOk : D → Prop
  | non : MemOk .non
  | int {m : Int} : 1 ≤ m → m ≤ 4 → MemOk (.int m)
/-- the stands in the sorts' order -/
def Row.fit (names : List Str) (r : Row) : Row := ⟨r.n, names.filter fun s => decide (s ∈ r.st), r.p⟩
end DL
namespace DL
open PySem L2
section
variable {η : List O} {n : Nat} {ks : List (Str × Int)} {rs : List Row} {m : D}
end
end DL
namespace DL
open PySem L2
/-! ### equality of small values -/
mutual
theorem eqv_refl : ∀ (n : Nat) (d : D), pureD n d = true → eqvD d d = true
  | _, .non, _ => rfl
  | _, .bl b, _ => by rw [eqv_bb]; simp
  | _, .int b, _ => by rw [eqv_ii]; simp
  | _, .str b, _ => by rw [eqv_ss]; simp
  | 0, .tup l, h => by simp [pureD] at h
  | 0, .lst l, h => by simp [pureD] at h
  | n + 1, .tup l, h => by
    show PyData.eqv (.tuple (toPys l)) (.tuple (toPys l)) = true
    rw [PyData.eqv]; exact eqvs_refl n l h
  | n + 1, .lst l, h => by
    show PyData.eqv (.list (toPys l)) (.list (toPys l)) = true
    rw [PyData.eqv]; exact eqvs_refl n l h
  | n, .ins _ _ _, h => by cases n <;> simp [pureD] at h
  | n, .obj _, h => by cases n <;> simp [pureD] at h
theorem eqvs_refl : ∀ (n : Nat) (l : List D), pureDs n l = true → PyData.eqvAll (toPys l) (toPys l) = true
  | _, [], _ => rfl
  | n, d :: l, h => by
    rw [pureDs, Bool.and_eq_true] at h
    show PyData.eqvAll (toPy d :: toPys l) (toPy d :: toPys l) = true
    rw [PyData.eqvAll, Bool.and_eq_true]
    exact ⟨eqv_refl n d h.1, eqvs_refl n l h.2⟩
end
theorem eqD_self {d : D} (h : okq d = true) : eqD d d = some (.bl true) := by
  unfold eqD; rw [if_pos ⟨h, h⟩, eqv_refl 20 d h]
/-! ### the small methods of a book -/
section
variable {η : List O} {b : Nat} {ks : List (Str × Int)} {rs : List Row} {m : D}
theorem sort_names_ok {l1 : D} (hb : η[b]? = some (.ins 0 NSB [.lst (ks.map kd2), l1, m])) : m_Book_sort_names [.obj b] η = .ok (.lst ((ks.map (·.1)).map .str)) η := by
  have hc : ∀ δ : En, 2 < δ.length → compF (.tp [(.nm 1), (.nm 2)]) fYes (fV 1) δ (ks.map kd2) η = .ok ((ks.map (·.1)).map .str) η := fun δ hδ => by
    have := comp_map (t := .tp [(.nm 1), (.nm 2)]) (ft := fYes) (fe := fV 1) (δw := δ) (η := η) (g := fun d => match d with | .tup (x :: _) => x | d => d) (ds := ks.map kd2) fun x hx => by
      obtain ⟨k, _, rfl⟩ := List.mem_map.mp hx
      have h1 : 1 < δ.length := by omega
      exact ⟨_, rfl, rfl, by simp [h1, hδ, kd2]⟩
    rw [this, List.map_map, List.map_map]
    rfl
  refine run_rt2 (δ := [some (.val (.obj b)), none, none]) rfl ?_
  unfold b_Book_sort_names
  simp [-List.map_map, hb, hc _ (show 2 < (wipeD [some (L.val (.obj b)), none, none] [1, 2]).length by show 2 < 3; decide)]
/-- the row of a word -/
theorem word_row_find {l0 : D} {z : Str} {r : Row} (hb : η[b]? = some (.ins 0 NSB [l0, .lst (rs.map Row.d), m])) (hf : rs.find? (fun r => decide (r.n = z)) = some r) : m_Book_word_row [.obj b, .str z] η = .ok r.d η := by
  have hl : ∀ (rs : List Row) (y : Option L), rs.find? (fun r => decide (r.n = z)) = some r → loopF (.nm 2) (sIf (toB (fOp eqD (fOp ixD (fV 2) (fC (.int 0))) (fV 1))) (sRet (fV 2)) SR.nx) (rs.map Row.d) [some (.val (.obj b)), some (.val (.str z)), y] η = .rt r.d η := fun rs => by
    induction rs with
    | nil => intro y h; cases h
    | cons q rs ih =>
      intro y h
      have hix : ixD q.d (.int 0) = some (.str q.n) := rfl
      rw [List.map_cons, loopF]
      by_cases e : q.n = z
      · rw [List.find?_cons_of_pos (by simpa using e)] at h
        cases h
        simp [hix, e]
        rfl
      · rw [List.find?_cons_of_neg (by simpa using e)] at h
        simp [hix, e]
        exact ih _ h
  refine run_rt2 (δ := [some (.val (.obj b)), some (.val (.str z)), none]) rfl ?_
  unfold b_Book_word_row
  simp [hb, hl rs none hf]
end
end DL
namespace DL
open PySem L2
/-! ### what hearers do -/
abbrev Thing := Str × Int
def takenL (st : List Str) (k : List (Thing × Int)) : Option Thing := (k.find? fun p => decide (p.1.1 ∈ st)).map (·.1)
def movedL (k : List (Thing × Int)) (t : Thing) : List (Thing × Int) := (t, 0) :: k.filter fun p => decide (p.1 ≠ t)
section
variable {η : List O} {b : Nat} {ks : List (Str × Int)} {rs : List Row} {m : D}
/-! ### utterances -/
inductive Item (rs : List Row) where
  | word (r : Row) (z : Str) (h : rs.find? (fun r => decide (r.n = z)) = some r)
  | thing (t : Thing)
def Item.d {rs : List Row} : Item rs → D
  | .word _ z _ => .str z
  | .thing t => kd2 t
def Item.ok {rs : List Row} (ks : List (Str × Int)) : Item rs → Prop
  | .word _ _ _ => True
  | .thing t => t.1 ∈ ks.map (·.1) ∧ 0 ≤ t.2
theorem is_thing_ok (hb : η[b]? = some (.ins 0 NSB [.lst (ks.map kd2), .lst (rs.map Row.d), m])) {t : Thing} (h : t.1 ∈ ks.map (·.1)) (h2 : 0 ≤ t.2) : m_is_thing [.obj b, kd2 t] η = .ok (.bl true) η := by
  have hs := sort_names_ok hb
  refine run_rt2 (δ := [some (.val (.obj b)), some (.val (kd2 t)), none, none]) rfl ?_
  unfold b_is_thing
  generalize hn : ks.map (·.1) = ns at hs h
  simp [kd2, hb, hs, h, h2]
/-! ### one utterance heard -/
def heardL {rs : List Row} : List (Item rs) → List (Thing × Int) → List (Thing × Int) × List (Option Thing)
  | [], k => (k, [])
  | .word r _ _ :: l, k => match takenL r.st k with
    | none => ((heardL l k).1, none :: (heardL l k).2)
    | some t => ((heardL l (movedL k t)).1, some t :: (heardL l (movedL k t)).2)
  | .thing t :: l, k => ((heardL l (movedL k t)).1, some t :: (heardL l (movedL k t)).2)
end
end DL
namespace DL
open PySem L2
section
variable {η : List O} {b h p : Nat} {ks : List (Str × Int)} {rs : List Row} {m : D}
end
end DL
namespace DL
open PySem L2
section
variable {η : List O} {b h p : Nat} {ks : List (Str × Int)} {rs : List Row} {m : D}
end
end DL
namespace DL
open PySem L2
end DL
namespace DL
open PySem L2
@[simp] theorem sParNV_a {δ : En} {η : List O} {i j : Nat} {fs : F (List D)} {fa : F D} : sParNV i j fs fa δ η = (fs δ η).toS δ fun l η => (fa δ η).toS δ fun d η => .nx ((δ.set i (some (.own l))).set j (some (.val d))) η := rfl
@[simp] theorem sPar3_a {δ : En} {η : List O} {i j l : Nat} {fa fb fc : F D} : sPar3 i j l fa fb fc δ η = (fa δ η).toS δ fun d η => (fb δ η).toS δ fun e η => (fc δ η).toS δ fun g η => .nx (((δ.set i (some (.val d))).set j (some (.val e))).set l (some (.val g))) η := rfl
/-- related, one by one -/
inductive P2 {α β : Type} (Q : α → β → Prop) : List α → List β → Prop
  | nil : P2 Q [] []
  | cons {a : α} {b : β} {l : List α} {m : List β} : Q a b → P2 Q l m → P2 Q (a :: l) (b :: m)
structure BookDrawn (ks : List (Str × Int)) (rs : List Row) (m : D) : Prop where
  k : KindsOk ks
  k3 : ks.length ≤ 3
  r : RowsOk (ks.map (·.1)) rs
  m : MemOk m
  fit : rs.map (Row.fit (ks.map (·.1))) = rs
end DL
namespace DL
open PySem L2
section
variable {η : List O} {ks : List (Str × Int)} {rs : List Row} {m : D}
end
end DL
namespace DL
open PySem L2
section
variable {ks : List (Str × Int)} {rs : List Row} {m : D}
def lineD (l : List Thing) : D := .lst (l.map kd2)
def GoodL (ks : List (Str × Int)) (most : Nat) (l : List Thing) : Prop := l.length ≤ most ∧ ∀ t ∈ l, t.1 ∈ ks.map (·.1) ∧ 0 ≤ t.2
/-! ### words that change no list -/
def frontL : List Thing → List (Thing × Int) → List (Thing × Int)
  | [], k => k
  | t :: ts, k => frontL ts (movedL k t)
/-- items that name the things, one by one -/
inductive For (rs : List Row) : List (Thing × Int) → List (Item rs) → List Thing → Prop
  | nil {k : List (Thing × Int)} : For rs k [] []
  | word {k : List (Thing × Int)} {l : List (Item rs)} {ts : List Thing} {t : Thing} {r : Row} {z : Str} {h : rs.find? (fun r => decide (r.n = z)) = some r} : takenL r.st k = some t → For rs (movedL k t) l ts → For rs k (.word r z h :: l) (t :: ts)
  | thing {k : List (Thing × Int)} {l : List (Item rs)} {ts : List Thing} {t : Thing} : For rs (movedL k t) l ts → For rs k (.thing t :: l) (t :: ts)
theorem For.heard {k : List (Thing × Int)} {l : List (Item rs)} {ts : List Thing} (h : For rs k l ts) : heardL l k = (frontL ts k, ts.map some) := by
  induction h with
  | nil => rfl
  | word e _ ih => first | (rw [heardL, e, ih]; rfl) | (rw [heardL, e]; dsimp only; rw [ih]; rfl)
  | thing _ ih => first | (rw [heardL, ih]; rfl) | (rw [heardL]; dsimp only; rw [ih]; rfl)
theorem For.len {k : List (Thing × Int)} {l : List (Item rs)} {ts : List Thing} (h : For rs k l ts) : l.length = ts.length := by
  induction h with
  | nil => rfl
  | word _ _ ih => rw [List.length_cons, List.length_cons, ih]
  | thing _ ih => rw [List.length_cons, List.length_cons, ih]
theorem For.self : ∀ (ts : List Thing) (k : List (Thing × Int)), For rs k (ts.map Item.thing) ts
  | [], _ => .nil
  | _ :: ts, _ => .thing (For.self ts _)
end
end DL
namespace DL
open PySem L2
end DL
namespace DL
open PySem L2
/-! ### numbers as text -/
section
variable {δ : En} {η : List O} {fa : F D} {c n : Nat} {df : DF} {f : F D} {fs : List (F D)} {acc : Str} {i : Int} {z : Str}
@[simp] theorem jsF_nil : jsF [] acc δ η = .ok (.str acc) η := rfl
@[simp] theorem jsF_cons : jsF (f :: fs) acc δ η = (f δ η).bind fun d η => match d with
    | .str y => if (acc ++ y).length ≤ sizeLine then jsF fs (acc ++ y) δ η else .bad
    | _ => .bad := rfl
@[simp] theorem fmtD_i : fmtD (.int i) = intTx i := rfl
@[simp] theorem strC_i : strC (.int i) = intTx i := rfl
@[simp] theorem fmtD_s : fmtD (.str z) = if z.length ≤ sizeLine then some (.str z) else none := rfl
@[simp] theorem fLenM_a : fLenM c n df fa δ η = (fa δ η).bind fun o η => if insC η c o = true then ((arg n df [o] η).nox).bind fun z η => (match z with | .int i => if 0 ≤ i ∧ i < 2 ^ 63 then .ok (.int i) η else .bad | _ => .bad) else .bad := rfl
@[simp] theorem fReprM_a : fReprM c n df fa δ η = (fa δ η).bind fun o η => if insC η c o = true then ((arg n df [o] η).nox).bind fun z η => (match z with | .str i => .ok (.str i) η | _ => .bad) else .bad := rfl
end
theorem run_ex2 {n : Nat} {b : S} {ds : List D} {η : List O} {c : Nat} {xs : List Str} {l : List D} {δ δ' : En} {η' : List O} (hδ : ds.map (fun d => some (.val d)) ++ List.replicate (n - ds.length) none = δ) (h : b δ η = .exc c xs l δ' η') : runD n b ds η = .exc c xs l η' := by
  subst hδ; unfold runD; rw [h]
/-! ### items that are refused -/
inductive Bad (ks : List (Str × Int)) (rs : List Row) : D → Prop
  | word {z : Str} (h : z ∉ rs.map (·.n)) : Bad ks rs (.str z)
  | thing {t : Thing} (h : t.1 ∈ ks.map (·.1) → t.2 < 0) : Bad ks rs (kd2 t)
section
variable {η : List O} {b h p : Nat} {ks : List (Str × Int)} {rs : List Row} {m : D}
theorem is_thing_no (hb : η[b]? = some (.ins 0 NSB [.lst (ks.map kd2), .lst (rs.map Row.d), m])) {t : Thing} (h : t.1 ∈ ks.map (·.1) → t.2 < 0) : m_is_thing [.obj b, kd2 t] η = .ok (.bl false) η := by
  have hs := sort_names_ok hb
  refine run_rt2 (δ := [some (.val (.obj b)), some (.val (kd2 t)), none, none]) rfl ?_
  unfold b_is_thing
  generalize hn : ks.map (·.1) = ns at hs h
  by_cases e : t.1 ∈ ns
  · have e2 : ¬ 0 ≤ t.2 := by have := h e; omega
    simp [kd2, hb, hs, e, e2]
  · simp [kd2, hb, hs, e]
/-! ### why, of these -/
@[simp] theorem fWhy_a {i : Nat} {q : Str} {cs : List Nat} {fld : DF} {f : F D} {δ : En} {η : List O} : fWhy i q cs fld f δ η = if isTbl η i q = true then whyM cs fld (f δ η) else .bad := rfl
end
end DL
namespace DL
open PySem L2
theorem find_of {rs : List Row} {z : Str} (h : z ∈ rs.map (·.n)) : ∃ r0, rs.find? (fun q => decide (q.n = z)) = some r0 := by
  obtain ⟨q, hq, rfl⟩ := List.mem_map.mp h
  cases e : rs.find? (fun q' => decide (q'.n = q.n)) with
  | some r0 => exact ⟨r0, rfl⟩
  | none => exact absurd (List.find?_eq_none.mp e q hq) (by simp)
section
variable {η : List O} {b h p : Nat} {ks : List (Str × Int)} {rs : List Row} {m : D}
/-! ### drawn items -/
/-! ### what the law makes of an utterance -/
/-! ### the hearer is as the law says -/
end
end DL
/-! xs * n for any list that is read -/
namespace PySem
open Sem (wp)
open Builtin
open PySem.AutoSeq1 (wpAny_loadPart')
theorem list_mulW (l : Addr) (items : Array Value) (n : Nat) (x : Int) (u : Tok) (dd : Option Addr) (sl : Array (Option Value)) (hc0 : ¬(!Builtin.List.listFitsIndex x) = true) (hc1 : ¬items.size * x.toNat > (2 ^ 63 - 1) / 8) (hc2 : ¬Builtin.List.listTooLong (items.size * x.toNat) = true) :
    Meets (Builtin.«list.__mul__» ⟨[.ref l, .int x u], []⟩) (fun _ R s => s.heap.get? l = some { cls := .type "list", dict := dd, data := .seq items n, slots := sl } ∧ R (.ok (.ret (Value.ref s.heap.objs.size))) { s with heap := s.heap.push { cls := Value.type "list", data := Data.seq (List.foldl (fun x1 x2 => x1 ++ x2) #[] (List.replicate (if items.isEmpty = true then 0 else x.toNat) items)) } }) :=
  .of_wp fun prog w A R s h => by
    obtain ⟨hp, g, d, tk, os⟩ := s; obtain ⟨hl, h⟩ := h
    have hsz := AutoListH.joined_fits hc2
    wp_walk using wpAny_loadPart' hl; refine wpAny_ite_false (decide_eq_false (Nat.not_lt.mpr hsz)) ?_; wp_walk using wpAny_loadPart' hl; exact ⟨_, rfl, h⟩
theorem int_rmulW (a : Int) (t : Tok) (l : Addr) (items : Array Value) (n : Nat) (dd : Option Addr) (sl : Array (Option Value)) :
    Meets (Builtin.«int.__rmul__» ⟨[.int a t, .ref l], []⟩) (fun _ R s => s.heap.get? l = some { cls := .type "list", dict := dd, data := .seq items n, slots := sl } ∧ R (.ok (.ret Value.notImplemented)) s) :=
  .of_wp fun prog w A R s h => by obtain ⟨hp, g, d, tk, os⟩ := s; obtain ⟨hl, h⟩ := h; wp_walk using wpAny_loadPart' hl; exact ⟨_, rfl, h⟩
end PySem
namespace L2
open PySem PySem.Spec PyProof.Rows PySem.SeqAt
section
variable {X : Cx}
def rRepL (K : PySem.W.Frag) : R2 := fun x y H Q => ∃ l k xs, x = .ref l ∧ y = .int k ∧ SqL K H l xs ∧ -(2 ^ 63) ≤ k ∧ k < 2 ^ 63 ∧ xs.length * k.toNat ≤ sizeLine ∧
  ∀ p, H p = none → Q (.ref p) (upd H p (.lst (List.replicate k.toNat xs).flatten))
theorem op_repL : OpR X (binaryOp .Mult) (rRepL X.K) := by
  intro pins s σ H x y v u Q I rx ry h
  obtain ⟨l, k, xs, rfl, rfl, hH, h1, h2, hz, q⟩ := h
  cases rx
  obtain ⟨t, rfl⟩ := ry
  obtain ⟨its, r, ⟨⟨_, dd, _, sl⟩, n, e, rfl, rfl, rfl⟩, _⟩ := I.list hH
  have hl := r.length
  have hlen : its.toArray.size * k.toNat ≤ sizeLine := by rw [List.size_toArray, ← hl]; exact hz
  have hcap : ¬ its.toArray.size * k.toNat > (2 ^ 63 - 1) / 8 := by
    have : (sizeLine : Nat) ≤ (2 ^ 63 - 1) / 8 := by decide
    omega
  have hfit : ¬ (!Builtin.List.listFitsIndex k) = true := by
    rw [fitsIndex_both h1 h2]
    exact Bool.false_ne_true
  have hlong : ¬ Builtin.List.listTooLong (its.toArray.size * k.toNat) = true := by
    rw [notLongL hlen]
    exact Bool.false_ne_true
  have hnew : List.foldl (fun x1 x2 => x1 ++ x2) #[] (List.replicate (if its.toArray.isEmpty = true then 0 else k.toNat) its.toArray) = (List.replicate k.toNat its).flatten.toArray := by
    have f0 : ∀ m : Nat, List.foldl (fun x1 x2 => x1 ++ x2) #[] (List.replicate m its.toArray) = (List.replicate m its).flatten.toArray := fun m => by
      have := foldl_rep its m []
      rw [List.nil_append] at this
      exact this
    rw [f0]
    cases its with
    | nil => simp
    | cons a r' => rw [if_neg (by simp)]
  refine wpAny_binaryOp_repeat_ref (T := "list") (U := "int") (by decide) ⟨_, e, rfl⟩ (fun s' => typeIs_int s' k t) noFill_list_mul F.fills_int_mul F.slot_int_rmul repeat_list F.slot_int_index.lookup
    (call_meets F.slot_int_rmul (typeIs_int s k t) F.entry_int_rmul (F.args_int_rmul_2 _ _) (int_rmulW k t l its.toArray n _ _)
      ⟨e, rfl, ⟨_, e, rfl⟩, call_meets F.slot_list_mul ⟨_, e, rfl⟩ F.entry_list_mul (F.args_list_mul_2 _ _) (list_mulW l its.toArray n k t _ _ hfit hcap hlong) ⟨e, ?_⟩⟩)
  rw [hnew]
  exact ⟨.ref _, _, I.lnew (t' := s.toks) (r.rep k.toNat) (by rw [PyProof.Rows.lm_len_rep_flat, Nat.mul_comm]; exact hz), rfl, q _ I.fresh⟩
end
end L2
namespace DL
open PySem L2
section
variable {X : Cx} {C : Ct}
def mulLD : D → D → Option D
  | .lst l, .int k => if repB l.length k = true then some (.lst (List.replicate k.toNat l).flatten) else none
  | _, _ => none
theorem o_mulL (hK : X.K = C.K) : OpR X (binaryOp .Mult) (rD C mulLD) := opD op_repL fun x y H Q ⟨G, η, d, e, hr, h1, h2, q⟩ => by
  unfold mulLD at q
  split at q
  · split at q
    · rename_i l k hk
      obtain ⟨k1, k2, k3⟩ := repB_of hk
      obtain ⟨a, vs, e1, s1, r1⟩ := h1.lst
      rw [← hK] at s1
      exact ⟨a, k, vs, e1, h2.int, s1, k1, k2, by rw [← r1.length]; exact k3, fun p hp => q.lst hr hp (by rw [rep_len]; exact k3) (rps_rep r1 k.toNat)⟩
    · exact q.elim
  · exact q.elim
end
end DL
/-! a, b, c = [..], e, e2: own lists among three -/
namespace DL
open PySem L2
section
variable {X : Cx} {C : Ct} {W : WX} {pos p2 : Pos} {fe fa fb fc fo : F D} {fs fn fm : F (List D)}
def sPar3N (i j l : Nat) (fn : F (List D)) (fb fc : F D) : S := fun δ η => (fn δ η).toS δ fun d η => (fb δ η).toS δ fun e η => (fc δ η).toS δ fun g η => .nx (((δ.set i (some (.own d))).set j (some (.val e))).set l (some (.val g))) η
def sPar3NN (i j l : Nat) (fn fm : F (List D)) (fc : F D) : S := fun δ η => (fn δ η).toS δ fun d η => (fm δ η).toS δ fun e η => (fc δ η).toS δ fun g η => .nx (((δ.set i (some (.own d))).set j (some (.own e))).set l (some (.val g))) η
end
end DL
namespace DL
open PySem L2
section
variable {δ : En} {η : List O} {fa fb fc fe : F D} {fn fm fs : F (List D)} {i j l : Nat}
@[simp] theorem addD_tt {i j : List D} : addD (.tup i) (.tup j) = if i.length + j.length ≤ sizeLine then some (.tup (i ++ j)) else none := rfl
@[simp] theorem slD_t {l : List D} {lo hi : Option Int} : slD (.tup l) lo hi = some (.tup (cutD l lo hi)) := rfl
@[simp] theorem fRev_a : fRev fa δ η = (fa δ η).bind fun d η => lift (revD d) η := rfl
@[simp] theorem revD_l {l : List D} : revD (.lst l) = some (.lst l.reverse) := rfl
@[simp] theorem revD_t {l : List D} : revD (.tup l) = some (.tup l.reverse) := rfl
@[simp] theorem mulLD_l {l : List D} {k : Int} : mulLD (.lst l) (.int k) = if repB l.length k = true then some (.lst (List.replicate k.toNat l).flatten) else none := rfl
@[simp] theorem sSetI_a : sSetI i fe fb δ η = (fe δ η).toS δ fun d η => match δ[i]? with
  | some (some (.own l)) => (fb δ η).toS δ fun k η => match k with
    | .int j => match ixN l.length j with
      | some n => .nx (δ.set i (some (.own (l.set n d)))) η
      | none => .bad
    | _ => .bad
  | _ => .bad := rfl
@[simp] theorem sPar3N_a : sPar3N i j l fn fb fc δ η = (fn δ η).toS δ fun d η => (fb δ η).toS δ fun e η => (fc δ η).toS δ fun g η => .nx (((δ.set i (some (.own d))).set j (some (.val e))).set l (some (.val g))) η := rfl
@[simp] theorem sPar3NN_a : sPar3NN i j l fn fm fc δ η = (fn δ η).toS δ fun d η => (fm δ η).toS δ fun e η => (fc δ η).toS δ fun g η => .nx (((δ.set i (some (.own d))).set j (some (.own e))).set l (some (.val g))) η := rfl
end
end DL
namespace DL
open PySem L2
def b_is_ascending : S := (sRet (fCall1 allC (fFrz (fLc [1, 2] (fiZ (fV 0) (fSl (fV 0) (fPt (fC (.int 1))) fNoP)) (.tp [(.nm 1), (.nm 2)]) fYes (fOp ltD (fV 1) (fV 2))))))
def m_is_ascending : DF := runD 3 b_is_ascending
def b_Policy_starts : S := (sRet (fFrz (fListN (fFld 2 ["state_rows", "start_row"] 1 (fV 0)))))
def m_Policy_starts : DF := runD 1 b_Policy_starts
def b_Policy___len__ : S := (sRet (fCall1 lenD (fFld 2 ["state_rows", "start_row"] 0 (fV 0))))
def m_Policy___len__ : DF := runD 1 b_Policy___len__
end DL
namespace DL
open PySem L2
/-! ### ints in lists and tuples; equality of them -/
theorem pure_ints (n : Nat) : ∀ zs : List Int, pureDs n (zs.map .int) = true
  | [] => rfl
  | z :: zs => by rw [List.map_cons, pureDs, pure_ints n zs]; cases n <;> rfl
theorem inL_ints (z : Int) : ∀ zs : List Int, inL (.int z) (zs.map .int) = decide (z ∈ zs)
  | [] => rfl
  | y :: zs => by
    have ih : (zs.map D.int).any (fun y => eqvD y (.int z)) = decide (z ∈ zs) := inL_ints z zs
    show (eqvD (.int y) (.int z) || (zs.map D.int).any (fun y => eqvD y (.int z))) = decide (z ∈ y :: zs)
    rw [ih, eqv_ii]
    by_cases q : y = z
    · subst q
      rw [decide_eq_true (rfl : y = y), decide_eq_true (List.mem_cons_self : y ∈ y :: zs)]; rfl
    · rw [decide_eq_false q, Bool.false_or]
      refine decide_eq_decide.mpr ⟨fun h => List.mem_cons_of_mem _ h, fun h => ?_⟩
      rcases List.mem_cons.mp h with e | h
      · exact absurd e.symm q
      · exact h
theorem inD_li {z : Int} {zs : List Int} : inD (.int z) (.lst (zs.map .int)) = some (.bl (decide (z ∈ zs))) := by
  unfold inD; dsimp only; rw [inL_ints, if_pos ⟨rfl, pure_ints 20 zs⟩]
theorem inD_ti {z : Int} {zs : List Int} : inD (.int z) (.tup (zs.map .int)) = some (.bl (decide (z ∈ zs))) := by
  unfold inD; dsimp only; rw [inL_ints, if_pos ⟨rfl, pure_ints 20 zs⟩]
theorem notInD_li {z : Int} {zs : List Int} : notInD (.int z) (.lst (zs.map .int)) = some (.bl (!decide (z ∈ zs))) := by unfold notInD; rw [inD_li]; rfl
theorem notInD_ti {z : Int} {zs : List Int} : notInD (.int z) (.tup (zs.map .int)) = some (.bl (!decide (z ∈ zs))) := by unfold notInD; rw [inD_ti]; rfl
theorem neD_nilG {l : List D} (h : pureDs 19 l = true) : neD (.lst l) (.lst []) = some (.bl (!l.isEmpty)) := by
  unfold neD
  rw [if_pos ⟨h, rfl⟩]
  cases l with
  | nil => rfl
  | cons z zs =>
    have : eqvD (.lst (z :: zs)) (.lst []) = false := by
      show PyData.eqv (.list (toPy z :: toPys zs)) (.list []) = false
      rw [PyData.eqv, PyData.eqvAll]
      all_goals (intros; simp_all)
    rw [this]; rfl
theorem cut_drop {l : List D} {m : Nat} (h : m ≤ l.length) : cutD l (some (m : Int)) none = l.drop m := by
  unfold cutD
  have e1 : HT.sIx l.length l.length none = l.length := rfl
  have e2 : HT.sIx l.length 0 (some (m : Int)) = m := by
    have : ¬ (m : Int) < 0 := by omega
    simp [HT.sIx, this]; omega
  rw [e1, e2]
  exact List.take_of_length_le (by rw [List.length_drop]; exact Nat.le_refl _)
@[simp] theorem fSortSet_t {fa : F D} {δ : En} {η : List O} : fSortSet fa δ η = (fa δ η).bind fun d η => match d with
  | .lst l => (match numsOf l with
    | some ns => if ns.length < 64 ∧ (sortU ns).length ≤ sizeLine then .ok ((sortU ns).map .int) η else .bad
    | none => .bad)
  | .tup l => (match numsOf l with
    | some ns => if ns.length < 64 ∧ (sortU ns).length ≤ sizeLine then .ok ((sortU ns).map .int) η else .bad
    | none => .bad)
  | _ => .bad := rfl
/-! ### ascending -/
def ascB : List Int → Bool
  | [] => true
  | [_] => true
  | x :: y :: l => decide (x < y) && ascB (y :: l)
/-! ### a policy's parts -/
abbrev PRow := Int × List Int
inductive PErr
  | cnt (s : Str) | state (k : Nat) | start (i : Int)
def stateB (r : PRow) (n : Nat) : Bool := decide (r.1 ∈ [(0:Int), 1]) && (decide (1 ≤ r.2.length) && decide (r.2.length ≤ 6)) && (ascB r.2 && r.2.all fun x => decide (0 ≤ x) && decide (x < n))
def startB (n : Nat) (p : Option Int) (x : Int) : Bool := (decide (0 ≤ x) && decide (x < n)) && (match p with | none => true | some y => decide (y < x))
def badStart (n : Nat) : Option Int → List Int → Option Int
  | _, [] => none
  | p, x :: l => if startB n p x = true then badStart n (some x) l else some x
section
variable {η : List O}
theorem all_bls (l : List Bool) : allC (.lst (l.map .bl)) = some (.bl (l.all fun b => b)) := by
  have := blsOf_map (fun b : Bool => b) l
  rw [List.map_id'] at this
  show (blsOf _).map _ = _
  rw [this]; rfl
end
end DL
namespace DL
open PySem L2
/-- the place before, as a list's last item -/
inductive Prev : List Int → Option Int → Prop
  | nil : Prev [] none
  | snoc {q : List Int} {p : Int} : Prev (q ++ [p]) (some p)
section
variable {η : List O}
end
end DL
namespace DL
open PySem L2
def StOk (n : Nat) (st : List Int) : Prop := st ≠ [] ∧ badStart n none st = none
end DL
namespace DL
open PySem L2
/-! ### Book.__init__ at any sorts, rows and memory -/
inductive MemAny : D → Prop
  | non : MemAny .non
  | int {m : Int} : MemAny (.int m)
inductive BErr
  | cnt (s : Str) | sort (k : Nat) | word (k : Nat) | mem (m : D)
section
variable {η : List O}
end
end DL
namespace DL
open PySem L2
/-! ### what a book that is let has -/
section
variable {η : List O}
end
end DL
namespace DLW
open PySem PySem.W PyProof.Rows
section
variable {prog : Program} {w : World} {A : Around} {E : Value → Shared → Prop} {s : Shared} {K : PySem.W.Frag} {x C L f : Addr} {h₀ : Heap} {m : Str → Option Value} {ox : Obj} {od : Option Obj} {b : Value}
end
end DLW
namespace DLW
open PySem PySem.W PyProof.Rows
section
variable {prog : Program} {w : World} {A : Around} {E : Value → Shared → Prop} {s : Shared} {K : PySem.W.Frag} {x C L f : Addr} {h₀ : Heap} {m : Str → Option Value} {ox : Obj} {od : Option Obj} {b : Value}
end
end DLW
namespace DL
open PySem L2
section
variable {X : Cx} {C : Ct} {W : WX} {pos p2 p : Pos} {e a b : Expr} {es : List Expr} {fe fa fb fo : F D} {fs fn fk : F (List D)} {E : XK}
variable {P : Program} {k n : Nat} {g A : Addr} {fd : FuncData} {ps ks : List Str} {df : DF} {x : Str}
/-! ### o != q, both of one class of the text's own that has __eq__ alone -/
/-! ### o + e, o - e by an own method, e of a built-in type or of the same class -/
def okT (T : List String) (o : D) : Bool := match tyN o with
  | some t => T.contains t
  | none => false
def fBinMX (c n : Nat) (df : DF) (T : List String) (fa fb : F D) : F D := fun δ η => (fa δ η).bind fun d η => (fb δ η).bind fun o η => if insC η c d = true ∧ okT T o = true then arg n df [d, o] η else .bad
def fBinM (c n : Nat) (df : DF) (T : List String) (fa fb : F D) : F D := fun δ η => (fa δ η).bind fun d η => (fb δ η).bind fun o η => if insC η c d = true ∧ okT T o = true then (arg n df [d, o] η).nox else .bad
@[simp] theorem fBinMX_a {c n : Nat} {df : DF} {T : List String} {fa fb : F D} {δ : En} {η : List O} : fBinMX c n df T fa fb δ η = (fa δ η).bind fun d η => (fb δ η).bind fun o η => if insC η c d = true ∧ okT T o = true then arg n df [d, o] η else .bad := rfl
@[simp] theorem fBinM_a {c n : Nat} {df : DF} {T : List String} {fa fb : F D} {δ : En} {η : List O} : fBinM c n df T fa fb δ η = (fa δ η).bind fun d η => (fb δ η).bind fun o η => if insC η c d = true ∧ okT T o = true then (arg n df [d, o] η).nox else .bad := rfl
end
end DL
namespace DL
open PySem L2
@[simp] theorem fEqM_a {c n : Nat} {df : DF} {fa fb : F D} {δ : En} {η : List O} : fEqM c n df fa fb δ η = (fa δ η).bind fun d η => (fb δ η).bind fun o η => if insC η c d = true ∧ insC η c o = true then ((arg n df [d, o] η).nox).bind fun z η => (match z with | .bl b => .ok (.bl b) η | _ => .bad) else .bad := rfl
end DL
namespace DL
open PySem L2
/-! ### equality of data without bools is equality -/
mutual
def datD : D → Bool
  | .non => true
  | .int _ => true
  | .str _ => true
  | .lst l => datDs l
  | .tup l => datDs l
  | _ => false
def datDs : List D → Bool
  | [] => true
  | d :: l => datD d && datDs l
end
mutual
theorem eqv_dat : ∀ d e : D, datD d = true → datD e = true → (PyData.eqv (toPy d) (toPy e) = true ↔ d = e)
  | d, e, hd, he => by
    cases d <;> first | (exfalso; simp [datD] at hd; done) | skip
    all_goals (cases e <;> first | (exfalso; simp [datD] at he; done) | skip)
    all_goals first
      | (simp only [toPy, PyData.eqv, D.int.injEq, D.str.injEq, beq_iff_eq]; done)
      | (simp only [toPy, PyData.eqv]; simp; done)
      | skip
    · rename_i l m
      rw [datD] at hd he
      rw [toPy, toPy, PyData.eqv, eqvs_dat l m hd he]; simp
    · rename_i l m
      rw [datD] at hd he
      rw [toPy, toPy, PyData.eqv, eqvs_dat l m hd he]; simp
theorem eqvs_dat : ∀ l m : List D, datDs l = true → datDs m = true → (PyData.eqvAll (toPys l) (toPys m) = true ↔ l = m)
  | [], [], _, _ => by simp [toPys, PyData.eqvAll]
  | [], _ :: _, _, _ => by simp [toPys, PyData.eqvAll]
  | _ :: _, [], _, _ => by simp [toPys, PyData.eqvAll]
  | d :: l, e :: m, hd, he => by
    rw [datDs, Bool.and_eq_true] at hd he
    rw [toPys, toPys, PyData.eqvAll, Bool.and_eq_true, eqv_dat d e hd.1 he.1, eqvs_dat l m hd.2 he.2]
    simp
end
open Classical in
theorem eqvD_dat {d e : D} (hd : datD d = true) (he : datD e = true) : eqvD d e = decide (d = e) := by
  have h := eqv_dat d e hd he
  unfold eqvD
  by_cases z : d = e
  · rw [h.mpr z]; simp [z]
  · have : ¬ PyData.eqv (toPy d) (toPy e) = true := fun q => z (h.mp q)
    simp [z, this]
open Classical in
theorem eqD_dat {d e : D} (hd : datD d = true) (he : datD e = true) (pd : okq d = true) (pe : okq e = true) : eqD d e = some (.bl (decide (d = e))) := by
  unfold eqD; rw [if_pos ⟨pd, pe⟩, eqvD_dat hd he]
open Classical in
theorem neD_dat {d e : D} (hd : datD d = true) (he : datD e = true) (pd : okq d = true) (pe : okq e = true) : neD d e = some (.bl (!decide (d = e))) := by
  unfold neD; rw [if_pos ⟨pd, pe⟩, eqvD_dat hd he]
theorem pureDs_iff {n : Nat} {l : List D} : pureDs n l = true ↔ ∀ d ∈ l, pureD n d = true := by
  induction l with
  | nil => simp [pureDs]
  | cons d l ih => rw [pureDs, Bool.and_eq_true, ih]; simp
theorem pureDs_map {α : Type} {n : Nat} {f : α → D} {l : List α} (h : ∀ x ∈ l, pureD n (f x) = true) : pureDs n (l.map f) = true := pureDs_iff.mpr fun d hd => by
  obtain ⟨x, hx, rfl⟩ := List.mem_map.mp hd
  exact h x hx
theorem dat_kd2 (k : Str × Int) : datD (kd2 k) = true := rfl
end DL
namespace DL
open PySem L2
end DL
namespace DL
open PySem L2
section
variable {η : List O} {a b : Nat}
structure OkD (x : D) : Prop where
  d : datD x = true
  p : okq x = true
end
/-! ### loops -/
theorem at_map {α : Type} {f : α → D} {l : List α} {k : Nat} {x : α} (h : l[k]? = some x) : L2.atI (l.map f) (k : Int) = some (f x) := by
  obtain ⟨h1, h2⟩ := List.getElem?_eq_some_iff.mp h
  rw [atI_of (Int.natCast_nonneg k) (by rw [List.length_map]; omega)]
  simp [h2]
theorem cut_to {l : List D} {k : Nat} (h : k ≤ l.length) : cutD l none (some (k : Int)) = l.take k := cut_take h
theorem cut_from {l : List D} {k : Nat} (h : k + 1 ≤ l.length) : cutD l (some ((k : Int) + 1)) none = l.drop (k + 1) := by
  have := cut_drop (l := l) (m := k + 1) h
  rw [← this]; rfl
theorem sz (n : Nat) (h : n ≤ 1000) : n ≤ sizeLine := by rw [sizeLine_eq]; omega
end DL
namespace PySem.SeqAt
open AutoSeq1 (wpAny_loadPart')
open MeetsSeq MeetsSeq2 MeetsSeq3 SeqRoads2
/-- tuples compared pair by pair, a comparison may change the state -/
def TChain (M : Model) (A : Around) (E : Value → Shared → Prop) (R : Bool → Shared → Prop) (fin : Bool) : List (Value × Value) → Shared → Prop
  | [], s => R fin s
  | p :: r, s => wpAny M A (eqBool p.1 p.2) (fun b s' => if b = true then TChain M A E R fin r s' else R false s') E s
section
variable {prog : Program} {w : World}
theorem TChain.mono {M : Model} {A : Around} {E : Value → Shared → Prop} {R R' : Bool → Shared → Prop} {fin : Bool} (h : ∀ c s, R c s → R' c s) : ∀ {zs : List (Value × Value)} {s : Shared}, TChain M A E R fin zs s → TChain M A E R' fin zs s
  | [], s, q => h _ _ q
  | p :: r, s, q => wpAny_mono q (fun b s' z => by
      cases b with
      | true => rw [if_pos rfl] at z ⊢; exact TChain.mono h z
      | false => rw [if_neg Bool.false_ne_true] at z ⊢; exact h _ _ z) fun _ _ e => e
end
end PySem.SeqAt
namespace DL
open PySem L2
/-- d == e for two pairs whose second items may be objects of one own class -/
def cmpT2 (c n : Nat) (df : DF) (d e : D) (η : List O) : R Bool := match d, e with
  | .tup [a1, a2], .tup [b1, b2] => if okq a1 = true ∧ okq b1 = true then
      if eqvD a1 b1 = true then
        if okq a2 = true ∧ okq b2 = true then .ok (eqvD a2 b2) η else match a2, b2 with
          | .obj i, .obj j => if i ≠ j ∧ insC η c (.obj i) = true ∧ insC η c (.obj j) = true then ((arg n df [.obj i, .obj j] η).nox).bind fun z η => (match z with | .bl b => .ok b η | _ => .bad) else .bad
          | _, _ => .bad
      else .ok false η
    else .bad
  | _, _ => .bad
def fCmpT (c n : Nat) (df : DF) (neg : Bool) (fa fb : F D) : F D := fun δ η => (fa δ η).bind fun d η => (fb δ η).bind fun e η => (cmpT2 c n df d e η).bind fun b η => .ok (.bl (neg != b)) η
@[simp] theorem fCmpT_a {c n : Nat} {df : DF} {neg : Bool} {fa fb : F D} {δ : En} {η : List O} : fCmpT c n df neg fa fb δ η = (fa δ η).bind fun d η => (fb δ η).bind fun e η => (cmpT2 c n df d e η).bind fun b η => .ok (.bl (neg != b)) η := rfl
section
variable {X : Cx} {C : Ct} {W : WX} {pos p2 p : Pos} {e a b : Expr} {es : List Expr} {fe fa fb fo : F D} {fs fn fk : F (List D)} {E : XK}
variable {P : Program} {k n : Nat} {g A : Addr} {fd : FuncData} {ps ks : List Str} {df : DF} {x : Str}
end
end DL
namespace DL
open PySem L2
def b_Book_words : S := (sRet (fFrz (fListN (fFld 0 ["sort_rows", "word_rows", "own_memory"] 1 (fV 0)))))
def m_Book_words : DF := runD 1 b_Book_words
end DL
namespace DL
open PySem L2
section
variable {η : List O} {a : Nat} {ks : List (Str × Int)} {rs : List Row} {m m' : D}
end
end DL
namespace DL
open PySem L2
theorem MemOk.any {m : D} (h : MemOk m) : MemAny m := by cases h <;> constructor
section
variable {ks : List (Str × Int)} {rs : List Row} {m : D}
end
mutual
theorem sam_of : ∀ (n : Nat) (d : D), pureD n d = true → samB (n + 1) d = true
  | _, .non, _ => rfl
  | _, .bl _, _ => rfl
  | _, .int _, _ => rfl
  | _, .str _, _ => rfl
  | 0, .lst _, h => by simp [pureD] at h
  | 0, .tup _, h => by simp [pureD] at h
  | n + 1, .lst l, h => by rw [pureD] at h; rw [samB]; exact sams_of n l h
  | n + 1, .tup l, h => by rw [pureD] at h; rw [samB]; exact sams_of n l h
  | n, .ins _ _ _, h => by cases n <;> simp [pureD] at h
  | n, .obj _, h => by cases n <;> simp [pureD] at h
  | n, .exn _ _ _, h => by cases n <;> simp [pureD] at h
  | n, .cls _, h => by cases n <;> simp [pureD] at h
theorem sams_of : ∀ (n : Nat) (l : List D), pureDs n l = true → samL (n + 1) l = true
  | _, [], _ => rfl
  | n, d :: l, h => by
    rw [pureDs, Bool.and_eq_true] at h
    rw [samL, sam_of n d h.1, sams_of n l h.2]; rfl
end
end DL
namespace DL
open PySem PySem.Spec PyProof.Rows L2
/-! ### a def with a star parameter, called without keywords -/
section
variable {P : Program} {w : World} {K : PySem.W.Frag} {mg : Str → Option Value} {base : Heap} {C : Ct}
end
section
variable {X : Cx} {C : Ct} {W : WX} {pos p2 p : Pos} {e a b : Expr} {es : List Expr} {fe fa fb fo : F D} {fs fn fk : F (List D)} {E : XK}
variable {P : Program} {k n np : Nat} {g A f : Addr} {fd : FuncData} {ps ks : List Str} {df : DF} {x : Str} {c : Nat}
def mkR (c np : Nat) (df : DF) (ds : List D) (η : List O) : R D := if np ≤ ds.length + 1 ∧ ds.length < sizeLine then (df ((.obj η.length :: ds).take np ++ [.tup ((.obj η.length :: ds).drop np)]) (η ++ [.ins c [] []])).bind fun z η2 => (match z with
  | .non => .ok (.obj η.length) η2
  | _ => .bad) else .bad
def fNewRX (c np : Nat) (df : DF) (fs : F (List D)) : F D := fun δ η => (fs δ η).bind fun ds η => mkR c np df ds η
def fNewR (c np : Nat) (df : DF) (fs : F (List D)) : F D := fun δ η => (fs δ η).bind fun ds η => (mkR c np df ds η).nox
@[simp] theorem fNewRX_a {δ : En} {η : List O} : fNewRX c np df fs δ η = (fs δ η).bind fun ds η => mkR c np df ds η := rfl
@[simp] theorem fNewR_a {δ : En} {η : List O} : fNewR c np df fs δ η = (fs δ η).bind fun ds η => (mkR c np df ds η).nox := rfl
variable (hg : Gl X x := by rfl)
end
end DL
/-! a comprehension's loop at any depth, told once; a set of ints made by two fors -/
namespace CG
open PySem PySem.Spec PyProof.Rows L2
/-- a wish that nothing is raised -/
abbrev NE : Value → Shared → Prop := fun _ _ => False
abbrev tests (ifs : List Expr) (env : Env) : Sem Bool := forIn ifs true fun c r => if r = true then do let ok ← isTrue c env (eval c env); pure (ForInStep.yield ok) else pure (ForInStep.yield r)
section
variable {P : Program} {w : World} {A : Around} {R : Result → Shared → Prop} {s : Shared} {elt t : Expr} {gs : List Comprehension} {scope : Scope} {pos : Pos} {d : Nat} {it acc : Value} {env : Env} {i : Pos} {ifs : List Expr} {emit : Sem PySem.Fin}
def Turns (e t : Expr) (d : Nat) (it acc : Value) (env : Env) (i : Pos) (ifs : List Expr) (emit : Sem PySem.Fin) : Prop := compTurn e d it acc env = (do
  standAt i
  match ← pyNext it with
  | none => pure (.done .next)
  | some v =>
    letOwnedTupleGo t it v
    assign t env v
    let mut ok := true
    for c in ifs do
      if ok then ok ← isTrue c env (eval c env)
    if ok then emit else again (.compLoop e d it acc env))
/-- one depth's loop by an invariant -/
theorem loop_any (hT : Turns (.SetComp elt gs scope pos) t d it acc env i ifs emit) (I : Nat → Shared → Prop)
    (step : ∀ n s, I n s → wpAny (model P w) A (pyNext it) (fun r s1 => match r with
      | none => R (.ok .next) s1
      | some v => wpAny (model P w) A (letOwnedTupleGo t it v) (fun _ s2 => wpAny (model P w) A (assign t env v) (fun _ s3 => wpAny (model P w) A (tests ifs env) (fun ok s4 =>
          if ok = true then wpAny (model P w) A emit (fun f s5 => f = .again (.compLoop (.SetComp elt gs scope pos) d it acc env) ∧ ∃ m, m < n ∧ I m s5) NE s4 else ∃ m, m < n ∧ I m s4) NE s3) NE s2) NE s1) NE s) (n : Nat) (h : I n s) :
    codeAny (model P w) A (.compLoop (.SetComp elt gs scope pos) d it acc env) R s := by
  refine codeAny_loop rfl I (fun n s hI => ?_) n h
  show wpAny _ A ((compTurn (.SetComp elt gs scope pos) d it acc env).onRaise (fun x => do noteFrame x env; theTreesLotGoes x)) _ _ s
  refine wpAny_noted ?_
  rw [hT]
  refine wpAny_bind (wpAny_standAt (wpAny_bind (wpAny_mono (step n s hI) (fun r s1 h1 => ?_) fun _ _ z => z.elim)))
  match r, h1 with
  | none, h1 => exact wpAny_pure h1
  | some v, h1 =>
    refine wpAny_bind (wpAny_mono h1 (fun _ s2 h2 => wpAny_bind (wpAny_mono h2 (fun _ s3 h3 => wpAny_bind (wpAny_mono h3 (fun ok s4 h4 => ?_) fun _ _ z => z.elim)) fun _ _ z => z.elim)) fun _ _ z => z.elim)
    cases ok with
    | false => exact wpAny_pure ⟨rfl, h4⟩
    | true => exact wpAny_mono h4 (fun f s5 ⟨e, h5⟩ => by subst e; exact ⟨rfl, h5⟩) fun _ _ z => z.elim
end
section
variable {Y : Cx} {R : Result → Shared → Prop} {elt tg : Expr} {gs : List Comprehension} {scope : Scope} {pos i : Pos} {d : Nat} {acc : Value} {ifs : List Expr} {emit : Sem PySem.Fin} {J : It} {fp : List Addr} {it : Addr} {tn : Nat → Heap → Prop} {g : TG} {tt : TT} {p0 : List (Addr × Obj)} {σw : L2.St} {vs : List Nat}
/-- one depth's walk: the data's turns give the loop -/
theorem walk (hT : Turns (.SetComp elt gs scope pos) tg d (.ref it) acc Y.env i ifs emit) (hc : Y.calm = true) (hE : ∀ e s, Y.xe e s → False) (T : Turn Y.prog Y.w Y.K tg J fp it tn) (pg : PG Y tg g) (pt : PTs Y ifs tt)
    (static : ∀ H : Hp, (∀ b ∈ fp, H b = none) → ∀ b ∈ fp, FpOk Y p0 H b) (BT : L2.St → Hp → (Hp → Prop) → Prop)
    (hb : ∀ (pins : List (Addr × Obj)) (s : Shared) (σ : L2.St) (H : Hp) (Nx : Hp → Prop), Inv Y pins σ H s → BT σ H Nx → wpAny (model Y.prog Y.w) Y.A emit (fun f s' => f = .again (.compLoop (.SetComp elt gs scope pos) d (.ref it) acc Y.env) ∧ ∃ H', Inv Y pins (wipe σ vs) H' s' ∧ Nx H') NE s)
    (W : Nat → Nat → Hp → Prop) (Done : Hp → Prop)
    (turn : ∀ i m H, W i m H → (J.stop i H ∧ Done H) ∨ (J.go i H ∧ ∃ Nx : Hp → Prop, (∀ H', Nx H' → ∃ m', m' < m ∧ W (i + 1) m' H') ∧ ∀ x H', J.yld i H x H' → g x σw H' fun σ2 H2 => wipe σ2 vs = σw ∧ tt σ2 H2 fun b H3 => if b = true then BT σ2 H3 Nx else Nx H3))
    (fin : ∀ H s, Inv Y p0 σw H s → Done H → R (.ok .next) s) {s : Shared} {H : Hp} {m : Nat} (I0 : Inv Y p0 σw H s) (t0 : tn 0 s.heap) (f0 : ∀ b ∈ fp, H b = none) (w0 : W 0 m H) :
    codeAny (model Y.prog Y.w) Y.A (.compLoop (.SetComp elt gs scope pos) d (.ref it) acc Y.env) R s := by
  refine loop_any hT (fun n s' => ∃ i H', Inv Y p0 σw H' s' ∧ tn i s'.heap ∧ (∀ b ∈ fp, H' b = none) ∧ W i n H') ?_ m ⟨0, H, I0, t0, f0, w0⟩
  rintro n s1 ⟨k, H1, I1, t1, f1, w1⟩
  rcases turn k n H1 w1 with ⟨stop, dn⟩ | ⟨go, Nx, hNx, step⟩
  · refine wpAny_mono (T.done Y rfl rfl rfl hc k p0 s1 σw H1 NE I1 (static H1 f1) t1 stop) (fun r s2 z => ?_) fun _ _ z => z
    obtain ⟨rfl, I2⟩ := z
    exact fin H1 s2 I2 dn
  · refine wpAny_mono (T.item Y rfl rfl rfl hc k p0 s1 σw H1 NE I1 (static H1 f1) t1 go) (fun r s2 z => ?_) fun _ _ z => z
    obtain ⟨u, rfl, z⟩ := z
    refine wpAny_mono z (fun _ s3 z => ?_) fun _ _ z => z
    obtain ⟨x, H3, I3, r3, y3, t3, f3⟩ := z
    have I3' := I3.pinned (static H3 f3) (T.obj _ _ t3)
    -- the turn ends in the block's slots
    have close : ∀ {s' : Shared} {H' : Hp}, Inv Y (p0 ++ pinsAt fp s3.heap) σw H' s' → Nx H' → ∃ m, m < n ∧ ∃ i H', Inv Y p0 σw H' s' ∧ tn i s'.heap ∧ (∀ b ∈ fp, H' b = none) ∧ W i m H' := fun {s' H'} I' nx => by
      obtain ⟨m', hm, w'⟩ := hNx H' nx
      have at' : ∀ b ∈ fp, ∀ o, s3.heap.get? b = some o → s'.heap.get? b = some o ∧ H' b = none := fun b hb o e => by
        have q := I'.pin (b, o) (List.mem_append_right _ (List.mem_append_right _ (mem_pinsAt hb e)))
        exact ⟨q.1, q.2.1⟩
      refine ⟨m', hm, k + 1, H', I'.unpinned, T.keep _ _ _ t3 fun b hb o e => (at' b hb o e).1, fun b hb => ?_, w'⟩
      obtain ⟨o, e, _⟩ := T.obj _ _ t3 b hb
      exact (at' b hb o e).2
    refine wpAny_mono (pg.run _ s3 σw H3 x u _ I3' r3 (step x H3 y3)) (fun _ s4 z => ?_) fun _ _ z => (hE _ _ z).elim
    obtain ⟨σ4, H4, I4, hw, q4⟩ := z
    have weak : ∀ {s' : Shared} {H' : Hp}, Inv Y (p0 ++ pinsAt fp s3.heap) σ4 H' s' → Inv Y (p0 ++ pinsAt fp s3.heap) (wipe σ4 vs) H' s' := fun I' => I'.weak (wipe_length _ _) fun j v e => (wipe_some e).1
    refine wpAny_mono (pt.run _ s4 σ4 H4 _ I4 q4) (fun b s5 z => ?_) fun _ _ z => (by first | exact z.elim | exact (hE _ _ z).elim)
    obtain ⟨H5, I5, q5⟩ := z
    cases b with
    | false =>
      simp only [Bool.false_eq_true, if_false] at q5 ⊢
      have := weak I5
      rw [hw] at this
      exact close this q5
    | true =>
      simp only [if_true] at q5 ⊢
      refine wpAny_mono (hb _ s5 σ4 H5 Nx I5 q5) (fun _ s6 z => ?_) fun _ _ z => z
      obtain ⟨rfl, H6, I6, nx⟩ := z
      rw [hw] at I6
      exact ⟨rfl, close I6 nx⟩
end
/-! ### two fors -/
section
variable {Y : Cx} {elt tg iter tg1 iter1 : Expr} {ifs ifs1 : List Expr} {scope : Scope} {pos : Pos} {D : Addr} {wi1 : TI} {g1 : TG} {tt1 : TT} {te : TE} {vs vs1 : List Nat}
end
section
variable {X : Cx}
end
end CG
namespace DL
open PySem L2
open PyProof.Rows (envOfC)
section
/-- the second for's list, turn by turn -/
def compF2 (t : Tg) (ft : F Bool) (fi1 : F (List D)) (t1 : Tg) (ft1 : F Bool) (fe : F D) (vs1 : List Nat) (δw : En) : List D → List O → R (List D)
  | [], η => .ok [] η
  | x :: r, η => match asg t x δw with
    | none => .bad
    | some δ1 => (ft δ1 η).nox.bind fun b η => if b = true then (fi1 δ1 η).nox.bind fun es η => (compF t1 ft1 fe (wipeD δ1 vs1) es η).nox.bind fun l η => (compF2 t ft fi1 t1 ft1 fe vs1 δw r η).bind fun ys η => .ok (l ++ ys) η
      else compF2 t ft fi1 t1 ft1 fe vs1 δw r η
def fC2 (k : List D → List O → R (List D)) (vs vs1 : List Nat) (fi : F (List D)) (t : Tg) (ft : F Bool) (fi1 : F (List D)) (t1 : Tg) (ft1 : F Bool) (fe : F D) : F (List D) :=
  fun δ η => (fi δ η).bind fun ds η => (compF2 t ft fi1 t1 ft1 fe vs1 (wipeD δ vs) ds η).nox.bind k
/-- what is at P while a list is gathered there -/
structure AccK (C : Ct) (P : Addr) (o0 : HO) (addP : V → Hp → (Hp → Prop) → Prop) (A : Gh → Hp → List D → Prop) (OK : List D → Prop) (k : List D → List O → R (List D)) : Prop where
  init : ∀ {G : Gh} {H : Hp}, A G (upd H P o0) []
  keep : ∀ {G G' : Gh} {H H' : Hp} {acc : List D}, A G H acc → Stab G H G' H' → H' P = H P → A G' H' acc
  there : ∀ {G : Gh} {H : Hp} {acc : List D}, A G H acc → ∃ o, H P = some o
  pre : ∀ {a b : List D}, OK (a ++ b) → OK a
  ask : ∀ {l : List D} {η : List O}, OK l ∨ k l η = .bad
  add : ∀ {G : Gh} {H : Hp} {acc : List D} {d : D} {v : V} {N : Hp → Prop}, A G H acc → Rp C G H d v → G.M P → OK (acc ++ [d]) → (∀ o, A G (upd H P o) (acc ++ [d]) → N (upd H P o)) → addP v H N
mutual
theorem asg_owns : ∀ (t : Tg) {d : D} {δ δ' : En}, asg t d δ = some δ' → ∀ {i : Nat} {l : L}, δ'[i]? = some (some l) → l.owns = true → i ∉ t.sl ∧ δ[i]? = some (some l)
  | .nm i, d, δ, δ', h, j, l, hj, ho => by
    rw [asg] at h
    cases h
    rcases getSet hj with ⟨_, z⟩ | ⟨z1, z2⟩
    · cases z; cases ho
    · exact ⟨by simpa [Tg.sl] using z1, z2⟩
  | .tp ts, d, δ, δ', h, j, l, hj, ho => by
    cases d with
    | tup ds => rw [asg] at h; rw [Tg.sl]; exact asgs_owns ts h hj ho
    | _ => simp [asg] at h
theorem asgs_owns : ∀ (ts : List Tg) {ds : List D} {δ δ' : En}, asgs ts ds δ = some δ' → ∀ {i : Nat} {l : L}, δ'[i]? = some (some l) → l.owns = true → i ∉ Tg.sls ts ∧ δ[i]? = some (some l)
  | [], ds, δ, δ', h, j, l, hj, ho => by
    cases ds with
    | nil => rw [asgs] at h; cases h; exact ⟨by simp [Tg.sls], hj⟩
    | cons d ds => simp [asgs] at h
  | t :: ts, ds, δ, δ', h, j, l, hj, ho => by
    cases ds with
    | nil => simp [asgs] at h
    | cons d ds =>
      rw [asgs] at h
      cases q : asg t d δ with
      | none => rw [q] at h; cases h
      | some δ1 =>
        rw [q] at h
        obtain ⟨n1, e1⟩ := asgs_owns ts h hj ho
        obtain ⟨n2, e2⟩ := asg_owns t q e1 ho
        exact ⟨by rw [Tg.sls]; simp [n1, n2], e2⟩
end
variable {X : Cx} {C : Ct} {W : WX}
/-! ### lists and sets -/
def kLst : List D → List O → R (List D) := fun l η => if l.length ≤ sizeLine then .ok l η else .bad
def kSet : List D → List O → R (List D) := fun l η => match numsOf l with
  | some ns => if (sortU ns).length < 64 then .ok ((sortU ns).map .int) η else .bad
  | none => .bad
variable {elt tg iter tg1 iter1 : Expr} {ifs ifs1 : List Expr} {scope : Scope} {pos p2 p3 p4 q4 spos py : Pos} {fi fi1 : F (List D)} {t t1 : Tg} {ft ft1 : F Bool} {felt : F D}
/-- a new list is handed back; name i stood for its set -/
def sRetI (i : Nat) (f : F (List D)) : S := fun δ η => if i < δ.length then sRet (fFrz f) δ η else .bad
end
end DL
namespace DL
open PySem PySem.Spec PyProof.Rows L2
section
variable {X : Cx} {C : Ct} {W : WX} {e a : Expr} {fa : F D} {ta : TE} {p p2 q pos : Pos}
def fSortSetW (fa : F D) : F (List D) := fun δ η => (fa δ η).bind fun d η => match d with
  | .lst l => match numsOf l with
    | some ns => if (ns.length < 4000 ∧ (sortU ns).length < 64) ∧ (sortU ns).length ≤ sizeLine then .ok ((sortU ns).map .int) η else .bad
    | none => .bad
  | .tup l => match numsOf l with
    | some ns => if (ns.length < 4000 ∧ (sortU ns).length < 64) ∧ (sortU ns).length ≤ sizeLine then .ok ((sortU ns).map .int) η else .bad
    | none => .bad
  | _ => .bad
end
end DL
namespace DL
open PySem L2
section
variable {X : Cx} {C : Ct} {W : WX} {a b c e : Expr} {fa fb fc fe : F D} {tg : Expr} {p pos : Pos}
/-- range(a, b) -/
def fiR2 (fa fb : F D) : F (List D) := fun δ η => (fa δ η).bind fun x η => (fb δ η).bind fun y η => match x, y with
  | .int i, .int j => if (-16777216 ≤ i ∧ i ≤ 16777216) ∧ (-16777216 ≤ j ∧ j ≤ 16777216) ∧ j - i ≤ 16777216 then .ok (rngD i (j - i).toNat) η else .bad
  | _, _ => .bad
/-- range(a, b, -1) -/
def rngC (lo c : Int) (n : Nat) : List D := (List.range n).map fun (k : Nat) => D.int (lo + (k : Int) * c)
def fiR3 (fa fb fc : F D) : F (List D) := fun δ η => (fa δ η).bind fun x η => (fb δ η).bind fun y η => (fc δ η).bind fun z η => match x, y, z with
  | .int i, .int j, .int k => if (-16777216 ≤ i ∧ i ≤ 16777216) ∧ (-16777216 ≤ j ∧ j ≤ 16777216) ∧ i - j ≤ 16777216 ∧ k = -1 then .ok (rngC i (-1) (i - j).toNat) η else .bad
  | _, _, _ => .bad
/-! ### a module's tuple -/
/-! ### an own list goes out as an object of the store -/
def sRetOO (i : Nat) : S := fun δ η => match δ[i]? with
  | some (some (.own l)) => .rt (.obj η.length) (η ++ [.lst l])
  | _ => .bad
end
end DL
namespace DL
open PySem L2
def b_Policy_state_row : S := (sSeq (sIf (fNotB (toB (fCh leD ltD (fC (.int 0)) (fV 1) (fCall1 lenD (fFld 2 ["state_rows", "start_row"] 0 (fV 0)))))) (sRaise1 42 "state" "UnknownState" (fV 1)) SR.nx)
    (sRet (fOp ixD (fFld 2 ["state_rows", "start_row"] 0 (fV 0)) (fV 1))))
def m_Policy_state_row : DF := runD 2 b_Policy_state_row
def b_Policy_is_present : S := (sRet (fOp eqD (fOp ixD (fMethX 2 ["state_rows", "start_row"] 2 0 2 m_Policy_state_row [0, 1] [] (fV 0) (fCons (fV 1) fNil) fNil) (fC (.int 0))) (fC (.int 1))))
def m_Policy_is_present : DF := runD 2 b_Policy_is_present
def b_Policy_nexts : S := (sRet (fOp ixD (fMethX 2 ["state_rows", "start_row"] 2 0 2 m_Policy_state_row [0, 1] [] (fV 0) (fCons (fV 1) fNil) fNil) (fC (.int 1))))
def m_Policy_nexts : DF := runD 2 b_Policy_nexts
end DL
/-! paths in layers: the first one in order is the greedy one (no program in sight) -/
namespace PL
def dfs (E : Int → Bool) : List (Int → List Int) → Int → List (List Int)
  | [], s => if E s = true then [[s]] else []
  | f :: fs, s => ((f s).flatMap (dfs E fs)).map (s :: ·)
def alive (E : Int → Bool) (fs : List (Int → List Int)) (s : Int) : Bool := !(dfs E fs s).isEmpty
def go : List (Int → List Int) → List (List Int) → Int → List Int
  | f :: fs, w :: W, s => s :: (match (f s).filter (fun t => decide (t ∈ w)) with
    | t :: _ => go fs W t
    | [] => [])
  | _, _, s => [s]
/-- w holds just the live ones of those that are reached -/
def Good (E : Int → Bool) : List Int → List (Int → List Int) → List (List Int) → Prop
  | _, [], [] => True
  | F, f :: fs, w :: W => (∀ s ∈ F, ∀ t ∈ f s, (t ∈ w ↔ alive E fs t = true)) ∧ Good E (F.flatMap f) fs W
  | _, _, _ => False
theorem Good.sub {E : Int → Bool} : ∀ {fs : List (Int → List Int)} {W : List (List Int)} {F F' : List Int}, Good E F fs W → (∀ s ∈ F', s ∈ F) → Good E F' fs W
  | [], [], _, _, _, _ => trivial
  | f :: fs, w :: W, F, F', h, k => ⟨fun s hs => h.1 s (k s hs), h.2.sub fun t ht => by
    obtain ⟨s, hs, e⟩ := List.mem_flatMap.mp ht
    exact List.mem_flatMap.mpr ⟨s, k s hs, e⟩⟩
  | [], _ :: _, _, _, h, _ => h.elim
  | _ :: _, [], _, _, h, _ => h.elim
/-! ### all paths, one longer each time -/
def ext (nx : Int → List Int) (q : List Int) : List (List Int) := (nx (q.getLastD 0)).map fun t => q ++ [t]
def extN (nx : Int → List Int) : Nat → List (List Int) → List (List Int)
  | 0, l => l
  | n + 1, l => extN nx n (l.flatMap (ext nx))
def paths (nx : Int → List Int) (st : List Int) (n : Nat) : List (List Int) := extN nx n (st.map fun s => [s])
def tt (_ : Int) : Bool := true
/-! ### layers forward, live ones backward -/
/-- the steps that the program walks, and those that are meant -/
def Rel : List (Int → List Int) → List (Int → List Int) → List (List Int) → Prop
  | [], [], [_] => True
  | g :: gs, f :: fs, _ :: l :: r => (∀ s, ∃ b : Int → Bool, f s = (g s).filter b ∧ ∀ t ∈ g s, t ∈ l → b t = true) ∧ Rel gs fs (l :: r)
  | _, _, _ => False
end PL
namespace DL
open PySem L2 PL
section
variable {δ : En} {η : List O}
@[simp] theorem fC2_a {k : List D → List O → R (List D)} {vs vs1 : List Nat} {fi fi1 : F (List D)} {t t1 : Tg} {ft ft1 : F Bool} {fe : F D} : fC2 k vs vs1 fi t ft fi1 t1 ft1 fe δ η = (fi δ η).bind fun ds η => (compF2 t ft fi1 t1 ft1 fe vs1 (wipeD δ vs) ds η).nox.bind k := rfl
@[simp] theorem fiR2_a {fa fb : F D} : fiR2 fa fb δ η = (fa δ η).bind fun x η => (fb δ η).bind fun y η => (match x, y with
  | .int i, .int j => if (-16777216 ≤ i ∧ i ≤ 16777216) ∧ (-16777216 ≤ j ∧ j ≤ 16777216) ∧ j - i ≤ 16777216 then .ok (rngD i (j - i).toNat) η else .bad
  | _, _ => .bad) := rfl
@[simp] theorem fiR3_a {fa fb fc : F D} : fiR3 fa fb fc δ η = (fa δ η).bind fun x η => (fb δ η).bind fun y η => (fc δ η).bind fun z η => (match x, y, z with
  | .int i, .int j, .int k => if (-16777216 ≤ i ∧ i ≤ 16777216) ∧ (-16777216 ≤ j ∧ j ≤ 16777216) ∧ i - j ≤ 16777216 ∧ k = -1 then .ok (rngC i (-1) (i - j).toNat) η else .bad
  | _, _, _ => .bad) := rfl
@[simp] theorem sRetI_a {i : Nat} {f : F (List D)} : sRetI i f δ η = if i < δ.length then sRet (fFrz f) δ η else .bad := rfl
@[simp] theorem sRetOO_a {i : Nat} : sRetOO i δ η = (match δ[i]? with | some (some (.own l)) => .rt (.obj η.length) (η ++ [.lst l]) | _ => .bad) := rfl
theorem comp_enc {α β : Type} {t : Tg} {ft : F Bool} {fe : F D} {δw : En} {η : List O} (enc : α → D) (p : α → Bool) (g : α → β) (dec : β → D) : ∀ {xs : List α}, (∀ x ∈ xs, ∃ δ1, asg t (enc x) δw = some δ1 ∧ ft δ1 η = .ok (p x) η ∧ (p x = true → fe δ1 η = .ok (dec (g x)) η)) → compF t ft fe δw (xs.map enc) η = .ok (((xs.filter p).map g).map dec) η
  | [], _ => rfl
  | x :: r, h => by
    obtain ⟨δ1, e1, e2, e3⟩ := h x (List.mem_cons_self ..)
    have ih := comp_enc enc p g dec (xs := r) fun y hy => h y (List.mem_cons_of_mem _ hy)
    rw [List.map_cons, compF, e1]
    cases hp : p x with
    | true => simp only [e2, e3 hp, hp, nox_ok, bind_ok, if_true, ih, List.filter_cons_of_pos hp, List.map_cons]
    | false => simp only [e2, hp, nox_ok, bind_ok, Bool.false_eq_true, if_false, ih, List.filter_cons_of_neg (by simp [hp] : ¬ p x = true)]
theorem comp2_enc {α β : Type} {t t1 : Tg} {ft ft1 : F Bool} {fi1 : F (List D)} {fe : F D} {vs1 : List Nat} {δw : En} {η : List O} (enc : α → D) (p : α → Bool) (g : α → List β) (dec : β → D) : ∀ {xs : List α}, (∀ x ∈ xs, ∃ δ1, asg t (enc x) δw = some δ1 ∧ ft δ1 η = .ok (p x) η ∧ (p x = true → ∃ es, fi1 δ1 η = .ok es η ∧ compF t1 ft1 fe (wipeD δ1 vs1) es η = .ok ((g x).map dec) η)) →
    compF2 t ft fi1 t1 ft1 fe vs1 δw (xs.map enc) η = .ok (((xs.filter p).flatMap g).map dec) η
  | [], _ => rfl
  | x :: r, h => by
    obtain ⟨δ1, e1, e2, e3⟩ := h x (List.mem_cons_self ..)
    have ih := comp2_enc enc p g dec (xs := r) fun y hy => h y (List.mem_cons_of_mem _ hy)
    rw [List.map_cons, compF2, e1]
    cases hp : p x with
    | true =>
      obtain ⟨es, e4, e5⟩ := e3 hp
      simp only [e2, e4, e5, hp, nox_ok, bind_ok, if_true, ih, List.filter_cons_of_pos hp, List.flatMap_cons, List.map_append]
    | false => simp only [e2, hp, nox_ok, bind_ok, Bool.false_eq_true, if_false, ih, List.filter_cons_of_neg (by simp [hp] : ¬ p x = true)]
theorem at_last {α : Type} {l : List α} {x : α} : L2.atI (l ++ [x]) (-1) = some x := by
  have e : ixN (l ++ [x]).length (-1) = some l.length := by
    unfold ixN
    rw [List.length_append, List.length_singleton]
    simp
    omega
  unfold L2.atI
  rw [e]
  simp
theorem any_bls (l : List Bool) : anyC (.lst (l.map .bl)) = some (.bl (l.any fun b => b)) := by
  have := blsOf_map (fun b : Bool => b) l
  rw [List.map_id'] at this
  show (blsOf _).map _ = _
  rw [this]; rfl
end
section
variable {η : List O} {n : Nat} {rows : List PRow} {st : List Int}
abbrev Vs (rows : List PRow) (ss : List Int) : Prop := ∀ s ∈ ss, 0 ≤ s ∧ s < rows.length
/-- a right policy -/
structure Pol (rows : List PRow) (st : List Int) : Prop where
  one : 1 ≤ rows.length
  few : rows.length ≤ 8
  ok : ∀ q ∈ rows, stateB q rows.length = true
  st : StOk rows.length st
/-! ### the path -/
end
end DL
namespace DL
open PySem L2 PL
section
variable {η : List O} {rows : List PRow} {st : List Int}
/-- what a path is made of -/
structure PathOk (rows : List PRow) (q : List Int) (n : Nat) : Prop where
  len : q.length = n + 1
  vs : Vs rows q
theorem PathOk.last {q : List Int} {n : Nat} (h : PathOk rows q n) : 0 ≤ q.getLastD 0 ∧ q.getLastD 0 < rows.length := by
  have hne : q ≠ [] := fun e => by have := h.len; rw [e] at this; cases this
  have e : q.getLastD 0 = q.getLast hne := by
    cases q with
    | nil => exact (hne rfl).elim
    | cons a l => rw [List.getLastD_eq_getLast?, List.getLast?_eq_getLast hne]; rfl
  rw [e]
  exact h.vs _ (List.getLast_mem hne)
/-! ### the two agree -/
end
end DL
namespace DL
open PySem PySem.Spec L2
section
variable {X : Cx} {C : Ct} {W : WX} {E : XK} {pos p apos : Pos} {e : Expr} {es : List Expr} {x m : Str} {i : Nat}
variable {k n np nk : Nat} {f g A : Addr} {fd : FuncData} {ps ks : List Str} {df : DF} {ix : List Nat} {kws : List Keyword} {dv : List D} {fs fk : F (List D)}
/-! ### a class by its name; cls(..) -/
def fLocC (i c : Nat) (f : F D) : F D := fun δ η => match δ[i]? with
  | some (some (.val (.cls c'))) => if c' = c then f δ η else .bad
  | _ => .bad
/-! ### C.m(..), m a classmethod -/
def fCM (c n : Nat) (df : DF) (fs : F (List D)) : F D := fun δ η => (fs δ η).bind fun ds η => (arg n df (.cls c :: ds) η).nox
def fCMX (c n : Nat) (df : DF) (fs : F (List D)) : F D := fun δ η => (fs δ η).bind fun ds η => arg n df (.cls c :: ds) η
end
section
variable {δ : En} {η : List O}
@[simp] theorem fLocC_a {i c : Nat} {f : F D} : fLocC i c f δ η = (match δ[i]? with | some (some (.val (.cls c'))) => if c' = c then f δ η else .bad | _ => .bad) := rfl
@[simp] theorem fCM_a {c n : Nat} {df : DF} {fs : F (List D)} : fCM c n df fs δ η = (fs δ η).bind fun ds η => (arg n df (.cls c :: ds) η).nox := rfl
@[simp] theorem fCMX_a {c n : Nat} {df : DF} {fs : F (List D)} : fCMX c n df fs δ η = (fs δ η).bind fun ds η => arg n df (.cls c :: ds) η := rfl
end
end DL
namespace DL
open PySem L2
def b_check_sight : S := (sIf (toB (fOp notInD (fV 0) (fC (.tup [.str "unseen", .str "bell", .str "stands"])))) (sRaise1 30 "given" "InvalidSight" (fV 0)) SR.nx)
def m_check_sight : DF := runD 1 b_check_sight
def b_is_observation : S := (sSeq (sIf (toB (fOp eqD (fV 1) (fC (.str "unseen")))) (sRet (fOp isN (fV 2) (fC .non))) SR.nx)
    (sSeq (sIf (toB (fOp eqD (fV 1) (fC (.str "bell")))) (sRet (fAnd (fCall1 (isD "int") (fV 2)) (fOp inD (fV 2) (fTup (fCons (fC (.int 0)) (fCons (fC (.int 1)) fNil)))))) SR.nx)
    (sSeq (sIf (fOrB (fNotB (fTru (fCall1 (isD "tuple") (fV 2)))) (fNotB (fTru (fCall1 allC (fFrz (fLc [3] (fiA (fV 2)) (.nm 3) fYes (fCh leD ltD (fC (.int 0)) (fV 3) (fLenM 2 1 m_Policy___len__ (fV 0))))))))) (sRet (fC (.bl false))) SR.nx)
    (sRet (fAnd (fCall 1 m_is_ascending (fCons (fV 2) fNil)) (fCall1 allC (fFrz (fLc [3] (fiA (fV 2)) (.nm 3) fYes (fMeth 2 ["state_rows", "start_row"] 2 0 2 m_Policy_is_present [0, 1] [] (fV 0) (fCons (fV 3) fNil) fNil)))))))))
def m_is_observation : DF := runD 4 b_is_observation
def b_check_seen : S := (sSeq (sDrop (fCallX 1 m_check_sight (fCons (fV 1) fNil)))
    (sFor (fiE (fV 2)) (.tp [(.nm 3), (.nm 4)]) (sIf (fNotB (fTru (fCall 3 m_is_observation (fCons (fV 0) (fCons (fV 1) (fCons (fV 4) fNil)))))) (sRaise1 31 "at" "InvalidSeen" (fV 3)) SR.nx)))
def m_check_seen : DF := runD 5 b_check_seen
def b_may_step : S := (sSeq (sIf (fOrB (toB (fOp eqD (fV 1) (fC (.str "unseen")))) (fNotB (fTru (fMethX 2 ["state_rows", "start_row"] 2 0 2 m_Policy_is_present [0, 1] [] (fV 0) (fCons (fV 4) fNil) fNil)))) (sRet (fC (.bl true))) SR.nx)
    (sSeq (sIf (toB (fOp eqD (fV 1) (fC (.str "stands")))) (sRet (fOp inD (fV 4) (fV 2))) SR.nx)
    (sRet (fOr (fOp eqD (fV 2) (fC (.int 1))) (fAnd (fOp notN (fV 3) (fC .non)) (fMethX 2 ["state_rows", "start_row"] 2 0 2 m_Policy_is_present [0, 1] [] (fV 0) (fCons (fV 3) fNil) fNil))))))
def m_may_step : DF := runD 5 b_may_step
def b_first_fitting : S := (sRet (fFrz (fLc [3] (fiA (fMeth 2 ["state_rows", "start_row"] 1 0 1 m_Policy_starts [0] [] (fV 0) fNil fNil)) (.nm 3) (fTru (fCall 5 m_may_step (fCons (fV 0) (fCons (fV 1) (fCons (fV 2) (fCons (fC .non) (fCons (fV 3) fNil))))))) (fV 3))))
def m_first_fitting : DF := runD 4 b_first_fitting
def b_later_fitting : S := (sRet (fFrz (fLc [4] (fiA (fMethX 2 ["state_rows", "start_row"] 2 0 2 m_Policy_nexts [0, 1] [] (fV 0) (fCons (fV 3) fNil) fNil)) (.nm 4) (fTru (fCall 5 m_may_step (fCons (fV 0) (fCons (fV 1) (fCons (fV 2) (fCons (fV 3) (fCons (fV 4) fNil))))))) (fV 4))))
def m_later_fitting : DF := runD 5 b_later_fitting
def b_fitting_layers : S := (sSeq (sOwn 3 (fLstN fNil))
    (sSeq (sFor (fiE (fV 2)) (.tp [(.nm 4), (.nm 5)]) (sIf (toB (fOp eqD (fV 4) (fC (.int 0)))) (sMut 3 muApp (fCons (fCall 3 m_first_fitting (fCons (fV 0) (fCons (fV 1) (fCons (fV 5) fNil)))) fNil)) (sMut 3 muApp (fCons (fFrz (fC2 kSet [6, 7] [7] (fiA (fOp ixD (fVo 3) (fNeg (fC (.int 1))))) (.nm 6) fYes (fiA (fCall 4 m_later_fitting (fCons (fV 0) (fCons (fV 1) (fCons (fV 5) (fCons (fV 6) fNil)))))) (.nm 7) fYes (fV 7))) fNil))))
    (sFz 3 (sRet (fV 3)))))
def m_fitting_layers : DF := runD 8 b_fitting_layers
end DL
/-! the first path that ends in a given state -/
namespace PL
end PL
namespace DL
open PySem L2 PL
inductive Eye where
  | un | be | st
  deriving DecidableEq
def Eye.s : Eye → Str
  | .un => "unseen"
  | .be => "bell"
  | .st => "stands"
inductive Ob where
  | non | bell (b : Int) | st (l : List Int)
section
variable {η : List O} {n : Nat} {rows : List PRow} {st : List Int} {e : Eye} {o : Ob}
end
abbrev FP1 : S := (sDrop (fCallX 3 m_check_seen (fCons (fV 0) (fCons (fV 1) (fCons (fV 2) fNil)))))
abbrev FP2t1 : S := (sRaise1 42 "state" "UnknownState" (fV 3))
abbrev FP2t : S := FP2t1
abbrev FP2 : S := (sIf (fNotB (toB (fCh leD ltD (fC (.int 0)) (fV 3) (fLenM 2 1 m_Policy___len__ (fV 0))))) FP2t SR.nx)
abbrev FP3 : S := (sParN 4 5 (fCall 3 m_fitting_layers (fCons (fV 0) (fCons (fV 1) (fCons (fV 2) fNil)))) (fLstN fNil))
abbrev FP4 : S := (sOwn 6 (fLstN (fCons (fFrz (fLstN (fCons (fV 3) fNil))) fNil)))
abbrev FP5b1 : S := (sMut 6 muIns (fCons (fC (.int 0)) (fCons (fFrz (fLc [8] (fiA (fOp ixD (fV 4) (fOp subD (fV 7) (fC (.int 1))))) (.nm 8) (fTru (fCall1 anyC (fFrz (fLc [9] (fiA (fCall 4 m_later_fitting (fCons (fV 0) (fCons (fV 1) (fCons (fOp ixD (fV 2) (fV 7)) (fCons (fV 8) fNil)))))) (.nm 9) fYes (fOp inD (fV 9) (fOp ixD (fVo 6) (fC (.int 0)))))))) (fV 8))) fNil)))
abbrev FP5b : S := FP5b1
abbrev FP5 : S := (sFor (fiR3 (fOp subD (fCall1 lenD (fV 4)) (fC (.int 1))) (fC (.int 0)) (fNeg (fC (.int 1)))) (.nm 7) FP5b)
abbrev FP6t1 : S := (sRet (fC .non))
abbrev FP6t : S := FP6t1
abbrev FP6 : S := (sIf (fOrB (toB (fOp eqD (fV 4) (fFrz (fLstN fNil)))) (toB (fOp notInD (fV 3) (fOp ixD (fV 4) (fNeg (fC (.int 1))))))) FP6t SR.nx)
abbrev FP7 : S := (sMut 5 muApp (fCons (fIf (toB (fOp gtD (fCall1 lenD (fV 4)) (fC (.int 1)))) (fOp ixD (fOp ixD (fVo 6) (fC (.int 0))) (fC (.int 0))) (fV 3)) fNil))
abbrev FP8b1 : S := (sMut 5 muApp (fCons (fOp ixD (fFrz (fLc [9] (fiA (fCallX 4 m_later_fitting (fCons (fV 0) (fCons (fV 1) (fCons (fOp ixD (fV 2) (fV 7)) (fCons (fOp ixD (fVo 5) (fNeg (fC (.int 1)))) fNil)))))) (.nm 9) (toB (fOp inD (fV 9) (fOp ixD (fVo 6) (fV 7)))) (fV 9))) (fC (.int 0))) fNil))
abbrev FP8b : S := FP8b1
abbrev FP8 : S := (sFor (fiR2 (fC (.int 1)) (fCall1 lenD (fV 4))) (.nm 7) FP8b)
abbrev FP9z1 : S := (sRet (fV 5))
abbrev FP9z : S := FP9z1
abbrev FP9 : S := (sFz 5 FP9z)
abbrev FP : S := (sSeq FP1 (sSeq FP2 (sSeq FP3 (sSeq FP4 (sSeq FP5 (sSeq FP6 (sSeq FP7 (sSeq FP8 FP9))))))))
section
variable {η : List O} {n : Nat} {rows : List PRow} {st : List Int} {e : Eye} {o : Ob}
end
end DL
namespace DL
open PySem L2 PL
section
variable {η : List O} {n : Nat} {rows : List PRow} {st : List Int} {e : Eye} {os : List Ob} {goal : Int} {Ls : List (List Int)}
variable {x0 x1 x2 x3 x4 x5 x6 x7 x8 x9 : Option L}
end
end DL
namespace DL
open PySem L2 PL
section
variable {η : List O} {n : Nat} {rows : List PRow} {st : List Int} {e : Eye} {os : List Ob} {o : Ob} {q : List Int}
end
section
variable {fp r : List O} {o : O} {rows : List PRow} {st : List Int} {e : Eye}
theorem x1 {η : List O} {m : Nat} {a b c : Option L} (z1 : (1 : Nat) ≤ sizeLine) : (fFrz (fLstN (fCons (fC .non) fNil))) [a, b, c, some (.val (.int m)), none, none, none] η = .ok (.lst [.non]) η := by
  simp [z1]
theorem x2 {η : List O} {m : Nat} {a b c : Option L} : (fV 3) [a, b, c, some (.val (.int m)), none, none, none] η = .ok (.int m) η := by simp
theorem x3 {η : List O} {m : Nat} {Y : D} {fa fb : F D} {δ : En} (h1 : fa δ η = .ok (.lst [.non]) η) (h2 : fb δ η = .ok (.int m) η) (hmul : mulLD (.lst [.non]) (.int m) = some Y) : (fOp mulLD fa fb) δ η = .ok Y η := by
  rw [fOp_a, h1, bind_ok, h2, bind_ok, hmul, lift_some]
theorem rep_ok (m : Nat) (h : m ≤ 1000) : repB 1 (m : Int) = true := by
  unfold repB
  rw [Bool.and_eq_true, Bool.and_eq_true]
  exact ⟨⟨decide_eq_true (by omega), decide_eq_true (by omega)⟩, decide_eq_true (by rw [sizeLine_eq]; omega)⟩
end
end DL
/-! zip of three lists -/
namespace Z3
open PySem PySem.Spec
section
abbrev IsTri (h : Heap) (T : Addr) (a b c : Value) : Prop := h.get? T = some { cls := .type "tuple", data := .seq #[a, b, c] }
/-- the zip at z draws from three lists -/
structure Drawn (h : Heap) (z TI TO i1 i2 i3 l1 l2 l3 : Addr) (k : Nat) (f0 : Value) : Prop where
  zip : IsZip h z TI TO f0
  ti : IsTri h TI (.ref i1) (.ref i2) (.ref i3)
  to_ : ∃ a b c, IsTri h TO a b c
  d1 : h.IsListIter i1 l1 k
  d2 : h.IsListIter i2 l2 k
  d3 : h.IsListIter i3 l3 k
structure Apart (z TI TO i1 i2 i3 l1 l2 l3 : Addr) : Prop where
  nd : [z, TI, TO, i1, i2, i3].Nodup
  n1 : l1 ∉ [z, TO, i1, i2, i3]
  n2 : l2 ∉ [z, TO, i1, i2, i3]
  n3 : l3 ∉ [z, TO, i1, i2, i3]
variable {prog : Program} {w : World} {A : Around} {E : Value → Shared → Prop} {s : Shared}
theorem upd_tri {T : Addr} {a b c x : Value} {k : Nat} {Q : Unit → Shared → Prop} (hT : IsTri s.heap T a b c)
    (h : ∀ h', h'.get? T = some { cls := .type "tuple", data := .seq ((#[a, b, c] : Array Value).setIfInBounds k x) } → Heap.SameBut T s.heap h' → Q () { s with heap := h' }) :
    wpAny (model prog w) A (updateSeq T (·.setIfInBounds k x)) Q E s := by
  refine wpAny_updateSeq hT rfl (h _ ?_ (Heap.SameBut.update ..))
  rw [Heap.get?_update_self _ hT rfl]
  simp [Obj.mapSeq]
set_option maxHeartbeats 1000000 in
theorem item {z TI TO i1 i2 i3 l1 l2 l3 : Addr} {k : Nat} {xs ys zs : Array Value} {x y v : Value} {Q : Value → Shared → Prop} (D : Apart z TI TO i1 i2 i3 l1 l2 l3) (st : Drawn s.heap z TI TO i1 i2 i3 l1 l2 l3 k .none)
    (hl1 : s.heap.IsList l1 xs) (hl2 : s.heap.IsList l2 ys) (hl3 : s.heap.IsList l3 zs) (hx : xs[k]? = some x) (hy : ys[k]? = some y) (hv : zs[k]? = some v)
    (hQ : ∀ h', Drawn h' z TI TO i1 i2 i3 l1 l2 l3 (k + 1) (rawInt s.heap.objs.size) → IsTri h' s.heap.objs.size x y v → h'.objs.size = s.heap.objs.size + 1 →
      (∀ c o, c ∉ [z, TO, i1, i2, i3] → s.heap.get? c = some o → h'.get? c = some o) → Q (.ref s.heap.objs.size) { s with heap := h' }) :
    wpAny (model prog w) A (Builtin.«zip.__next__» ⟨[.ref z], []⟩) (fun fin s' => ∃ v, fin = .done (.ret v) ∧ Q v s') E s := by
  obtain ⟨hz, hTI, ⟨a, b, c, hTO⟩, h1, h2, h3⟩ := st
  obtain ⟨nd, n1, n2, n3⟩ := D
  simp only [List.nodup_cons, List.mem_cons, List.not_mem_nil, or_false, not_or, not_false_eq_true, List.nodup_nil, and_true] at nd n1 n2 n3
  obtain ⟨⟨zTI, zTO, z1, z2, z3⟩, ⟨TITO, TI1, TI2, TI3⟩, ⟨TO1, TO2, TO3⟩, ⟨a12, a13⟩, a23⟩ := nd
  obtain ⟨p1, p2, p3, p4, p5⟩ := n1
  obtain ⟨q1, q2, q3, q4, q5⟩ := n2
  obtain ⟨r1, r2, r3, r4, r5⟩ := n3
  show wpAny _ _ (field (.ref z) 2 >>= _) _ _ _
  refine wpAny_bind (wpAny_field hz rfl (x := .bool false) rfl ?_)
  show wpAny _ _ (field (.ref z) 3 >>= _) _ _ _
  refine wpAny_bind (wpAny_field hz rfl (x := .ref TI) rfl ?_)
  refine wpAny_bind (wpAny_seqItems hTI rfl ?_)
  show wpAny _ _ (Builtin.SmallTypes.ownedTupleIsFree (.ref z) >>= _) _ _ _
  refine wpAny_bind ?_
  unfold Builtin.SmallTypes.ownedTupleIsFree
  refine wpAny_bind (wpAny_field hz rfl (x := .none) rfl (wpAny_pure ?_))
  simp only [if_true]
  refine wpAny_bind (wpAny_rule ?_)
  refine wpAny_bind (wpAny_field hz rfl (x := .ref TO) rfl ?_)
  refine wpAny_bind (wpAny_setField_rec hz (by simp) fun g1 hz1 s1 => ?_)
  replace hz1 : IsZip g1 z TI TO .ellipsis := hz1
  refine wpAny_bind ?_
  simp only [List.zipIdx_cons, List.zipIdx_nil, List.forIn_cons, List.forIn_nil]
  -- the first
  refine wpAny_bind (wpAny_bind (wpAny_onRaise ?_))
  show wpAny _ _ (Builtin.SmallTypes.nextOf (.ref i1) >>= _) _ _ _
  refine wpAny_bind (wpAny_nextOf_list_item (h1.extBut s1.extBut (Ne.symm z1)) (hl1.extBut s1.extBut p1) hx fun g2 h1b s2 => wpAny_pure ?_)
  have k2 : ∀ c o, c ≠ z → c ≠ i1 → s.heap.get? c = some o → g2.get? c = some o := fun c o c1 c2 e => s2.extBut _ _ c2 (s1.extBut _ _ c1 e)
  have hTO2 : IsTri g2 TO a b c := k2 _ _ (Ne.symm zTO) TO1 hTO
  refine wpAny_bind (wpAny_seqItems hTO2 rfl ?_)
  refine wpAny_bind (upd_tri hTO2 fun g3 hTO3 s3 => ?_)
  replace hTO3 : IsTri g3 TO x b c := hTO3
  refine wpAny_bind (wpAny_letGo (wpAny_pure ?_))
  have k3 : ∀ c o, c ≠ z → c ≠ i1 → c ≠ TO → s.heap.get? c = some o → g3.get? c = some o := fun c o c1 c2 c3 e => s3.extBut _ _ c3 (k2 c o c1 c2 e)
  -- the second
  refine wpAny_bind (wpAny_bind (wpAny_onRaise ?_))
  show wpAny _ _ (Builtin.SmallTypes.nextOf (.ref i2) >>= _) _ _ _
  refine wpAny_bind (wpAny_nextOf_list_item (h2.at fun o e => k3 _ o (Ne.symm z2) (Ne.symm a12) (Ne.symm TO2) e) (hl2.at fun o e => k3 _ o q1 q3 q2 e) hy fun g4 h2b s4 => wpAny_pure ?_)
  have hTO4 : IsTri g4 TO x b c := s4.extBut _ _ TO2 hTO3
  refine wpAny_bind (wpAny_seqItems hTO4 rfl ?_)
  refine wpAny_bind (upd_tri hTO4 fun g5 hTO5 s5 => ?_)
  replace hTO5 : IsTri g5 TO x y c := hTO5
  refine wpAny_bind (wpAny_letGo (wpAny_pure ?_))
  have k5 : ∀ c o, c ≠ z → c ≠ i1 → c ≠ TO → c ≠ i2 → s.heap.get? c = some o → g5.get? c = some o := fun c o c1 c2 c3 c4 e => s5.extBut _ _ c3 (s4.extBut _ _ c4 (k3 c o c1 c2 c3 e))
  -- the third
  refine wpAny_bind (wpAny_bind (wpAny_onRaise ?_))
  show wpAny _ _ (Builtin.SmallTypes.nextOf (.ref i3) >>= _) _ _ _
  refine wpAny_bind (wpAny_nextOf_list_item (h3.at fun o e => k5 _ o (Ne.symm z3) (Ne.symm a13) (Ne.symm TO3) (Ne.symm a23) e) (hl3.at fun o e => k5 _ o r1 r3 r2 r4 e) hv fun g6 h3b s6 => wpAny_pure ?_)
  have hTO6 : IsTri g6 TO x y c := s6.extBut _ _ TO3 hTO5
  refine wpAny_bind (wpAny_seqItems hTO6 rfl ?_)
  refine wpAny_bind (upd_tri hTO6 fun g7 hTO7 s7 => ?_)
  replace hTO7 : IsTri g7 TO x y v := hTO7
  refine wpAny_bind (wpAny_letGo (wpAny_pure (wpAny_pure ?_)))
  have k7 : ∀ c o, c ∉ [z, TO, i1, i2, i3] → s.heap.get? c = some o → g7.get? c = some o := fun c o hc e => by
    simp only [List.mem_cons, List.not_mem_nil, or_false, not_or] at hc
    obtain ⟨c1, c2, c3, c4, c5⟩ := hc
    exact s7.extBut _ _ c2 (s6.extBut _ _ c5 (k5 c o c1 c3 c2 c4 e))
  refine wpAny_bind (wpAny_seqItems hTO7 rfl ?_)
  refine wpAny_bind (wpAny_newTuple ?_)
  have hsz : g7.objs.size = s.heap.objs.size := by rw [s7.1, s6.1, s5.1, s4.1, s3.1, s2.1, s1.1]
  have hz7 : IsZip g7 z TI TO .ellipsis := s7.extBut _ _ zTO (s6.extBut _ _ z3 (s5.extBut _ _ zTO (s4.extBut _ _ z2 (s3.extBut _ _ zTO (s2.extBut _ _ z1 hz1)))))
  have h17 : g7.IsListIter i1 l1 (k + 1) := h1b.at fun o e => s7.extBut _ _ (Ne.symm TO1) (s6.extBut _ _ a13 (s5.extBut _ _ (Ne.symm TO1) (s4.extBut _ _ a12 (s3.extBut _ _ (Ne.symm TO1) e))))
  have h27 : g7.IsListIter i2 l2 (k + 1) := h2b.at fun o e => s7.extBut _ _ (Ne.symm TO2) (s6.extBut _ _ a23 (s5.extBut _ _ (Ne.symm TO2) e))
  have h37 : g7.IsListIter i3 l3 (k + 1) := h3b.at fun o e => s7.extBut _ _ (Ne.symm TO3) e
  have hTI7 : IsTri g7 TI (.ref i1) (.ref i2) (.ref i3) := k7 _ _ (by simp [Ne.symm zTI, TITO, TI1, TI2, TI3]) hTI
  have hzlt : z < g7.objs.size := Heap.lt_size hz7
  show wpAny _ _ (Builtin.SmallTypes.ownedTupleHandOut (.ref z) (.ref g7.objs.size) >>= _) _ _ _
  refine wpAny_bind ?_
  unfold Builtin.SmallTypes.ownedTupleHandOut
  have hz8 : IsZip (g7.push { cls := .type "tuple", data := .seq #[x, y, v] }) z TI TO .ellipsis := Heap.get?_push_of_some _ hz7
  refine wpAny_bind (wpAny_setField_rec hz8 (by simp) fun g9 hz9 s9 => ?_)
  replace hz9 : IsZip g9 z TI TO (rawInt g7.objs.size) := hz9
  refine wpAny_setField_rec hz9 (by simp) fun g10 hz10 s10 => ?_
  replace hz10 : IsZip g10 z TI TO (rawInt g7.objs.size) := hz10
  have up : ∀ c o, c ≠ z → g7.get? c = some o → g10.get? c = some o := fun c o c1 e => s10.extBut _ _ c1 (s9.extBut _ _ c1 (Heap.get?_push_of_some _ e))
  have hT10 : IsTri g10 g7.objs.size x y v := s10.extBut _ _ (Nat.ne_of_gt hzlt) (s9.extBut _ _ (Nat.ne_of_gt hzlt) (Heap.get?_push_size _ rfl))
  have h10 : g10.objs.size = g7.objs.size + 1 := by rw [s10.1, s9.1, Heap.size_push]
  rw [hsz] at hz10 hT10 h10
  refine wpAny_pure ⟨_, rfl, ?_⟩
  show Q (.ref g7.objs.size) _
  rw [hsz]
  exact hQ g10 ⟨hz10, up _ _ (Ne.symm zTI) hTI7, ⟨_, _, _, up _ _ (Ne.symm zTO) hTO7⟩, h17.at fun o e => up _ o (Ne.symm z1) e, h27.at fun o e => up _ o (Ne.symm z2) e, h37.at fun o e => up _ o (Ne.symm z3) e⟩ hT10 h10
    fun c o hc e => up c o (by simp only [List.mem_cons, not_or] at hc; exact hc.1) (k7 c o hc e)
/-! ### the zip is made -/
abbrev itO (l : Addr) : Obj := { cls := .type "list_iterator", data := .fields #[.ref l, .int 0 0] }
abbrev m1 (h : Heap) (l1 : Addr) : Heap := h.push (itO l1)
abbrev m2 (h : Heap) (l1 l2 : Addr) : Heap := (m1 h l1).push (itO l2)
end
end Z3
namespace Z3
open PySem PySem.Spec PyProof.Rows L2
end Z3
namespace DL
open PySem L2
section
variable {X : Cx} {C : Ct} {W : WX} {a b c : Expr} {fa fb fc : F D} {p pos tpos : Pos} {elts : List Expr} {kk : Nat}
/-- zip of three lists -/
def zip3D (l m k : List D) : List D := (l.zip (m.zip k)).map fun p => .tup [p.1, p.2.1, p.2.2]
def fiZ3 (fa fb fc : F D) : F (List D) := fun δ η => (fa δ η).bind fun d η => (fb δ η).bind fun e η => (fc δ η).bind fun g η => match d, e, g with
  | .lst l, .lst m, .lst k => .ok (zip3D l m k) η
  | _, _, _ => .bad
end
section
variable {δ : En} {η : List O}
@[simp] theorem fiZ3_a {fa fb fc : F D} : fiZ3 fa fb fc δ η = (fa δ η).bind fun d η => (fb δ η).bind fun e η => (fc δ η).bind fun g η => (match d, e, g with
  | .lst l, .lst m, .lst k => .ok (zip3D l m k) η
  | _, _, _ => .bad) := rfl
@[simp] theorem fSortSetW_t {fa : F D} : fSortSetW fa δ η = (fa δ η).bind fun d η => (match d with
  | .lst l => (match numsOf l with
    | some ns => if (ns.length < 4000 ∧ (sortU ns).length < 64) ∧ (sortU ns).length ≤ sizeLine then .ok ((sortU ns).map .int) η else .bad
    | none => .bad)
  | .tup l => (match numsOf l with
    | some ns => if (ns.length < 4000 ∧ (sortU ns).length < 64) ∧ (sortU ns).length ≤ sizeLine then .ok ((sortU ns).map .int) η else .bad
    | none => .bad)
  | _ => .bad) := rfl
end
end DL
namespace DL
open PySem L2
end DL
namespace DL
open PySem L2 PL
section
variable {η : List O} {n : Nat} {rows : List PRow} {st : List Int} {e : Eye} {os : List Ob} {q : List Int}
end
end DL
namespace DL
open PySem L2
end DL
namespace DL
open PySem L2 PL
section
variable {fp r : List O} {o : O} {n : Nat}
variable {x0 x1 x2 x3 x4 x5 x6 x7 : Option L}
end
end DL
namespace DL
open PySem L2 PL
section
variable {η : List O} {n : Nat} {rows : List PRow} {st : List Int} {e : Eye} {os : List Ob} {dq : D}
end
end DL
/-! a lambda with one parameter that stands at an int: made, handed to a def, called without arguments -/
namespace DL
open PySem PySem.Spec PyProof.Rows L2 LamX
/-- the names of a lambda whose one parameter is a -/
structure LamA (a : Str) (sc scope : Scope) : Prop where
  kind : scope.kind = .function
  co : scope.isCoroutine = false
  gen : scope.isGenerator = false
  cell : ∀ y ∈ scope.names, y.2 ≠ .cell
  loc : ∀ y ∈ scope.names, y.2 = .local → y.1 = a
  par : scope.names.lookup a = some .local
  free : ∀ y ∈ scope.names, y.2 = .free → sc.names.lookup y.1 = some .cell ∨ sc.names.lookup y.1 = some .free
section
variable {X : Cx} {pins : List (Addr × Obj)} {σ : L2.St} {H HZ : Hp} {s s1 : Shared} {a : Str} {scope : Scope}
theorem LamA.has (L : LamA a X.env.scope scope) (ok : X.Ok) : ∀ y ∈ scope.names, y.2 = .free → ∃ c, X.env.cells.lookup y.1 = some c := fun y hy e => ok.has _ (L.free y hy e)
/-- what the written part, the frames and the heap keep of the made lambda -/
structure MadeA (X : Cx) (H1 : Hp) (h : Heap) (f t c' : Addr) (q : Str) (params : Arguments) (body : Expr) (scope : Scope) (v doc pm ctv : Value) : Prop where
  fo : h.get? f = some (PySem.W.kdv_obj "<lambda>" q params (.expr body) scope (cloFrom X.env.cells scope.names []) (.ref t) doc pm c' ctv)
  to : h.get? t = some (PySem.W.kdv_tup [v])
  fn : H1 f = none
  tn : H1 t = none
  ff : f ∉ frs X.stack
  tf : t ∉ frs X.stack
  co : H1 c' = some (CodeO c' q)
end
section
variable {X : Cx} {C : Ct} {W : WX}
variable {i k : Nat} {q : Str} {cs : List Nat} {fld : DF} {fb : F D} {st : Stmt} {g c : Addr} {fdg : FuncData} {hs : List Value} {params : Arguments} {body e : Expr} {scope : Scope} {p lpos pos : Pos}
end
end DL
/-! xs.index(k), xs.count(k) of a list of ints -/
namespace DL
open PySem PySem.Spec PyProof.Rows L2
/-- a method of a list that only reads it -/
def fLm (g : List D → D → Option D) (fo fa : F D) : F D := fun δ η => (fo δ η).bind fun d η => match d with
  | .lst l => (fa δ η).bind fun e η => lift (g l e) η
  | _ => .bad
section
variable {X : Cx} {C : Ct} {W : WX} {o e : Expr} {fo fa : F D} {apos cpos : Pos}
end
end DL
/-! C.m(k = v, ..), m a classmethod -/
namespace DL
open PySem PySem.Spec PyProof.Rows L2
section
variable {X : Cx} {C : Ct} {W : WX} {E : XK} {pos p apos : Pos} {e : Expr} {es : List Expr} {x m : Str} {i : Nat}
variable {k n np nk : Nat} {f g A : Addr} {fd : FuncData} {ps ks : List Str} {df : DF} {ix : List Nat} {kws : List Keyword} {dv : List D} {fs fk : F (List D)}
def fCMK (c nk n : Nat) (df : DF) (ix : List Nat) (dv : List D) (fk : F (List D)) : F D := fun δ η => (fk δ η).bind fun es η => argK 1 nk n df ix dv [.cls c] es η
def fCMKX (c nk n : Nat) (df : DF) (ix : List Nat) (dv : List D) (fk : F (List D)) : F D := fun δ η => (fk δ η).bind fun es η => argKX 1 nk n df ix dv [.cls c] es η
end
section
variable {δ : En} {η : List O}
@[simp] theorem fCMK_a {c nk n : Nat} {df : DF} {ix : List Nat} {dv : List D} {fk : F (List D)} : fCMK c nk n df ix dv fk δ η = (fk δ η).bind fun es η => argK 1 nk n df ix dv [.cls c] es η := rfl
@[simp] theorem fCMKX_a {c nk n : Nat} {df : DF} {ix : List Nat} {dv : List D} {fk : F (List D)} : fCMKX c nk n df ix dv fk δ η = (fk δ η).bind fun es η => argKX 1 nk n df ix dv [.cls c] es η := rfl
@[simp] theorem fLm_a {g : List D → D → Option D} {fo fa : F D} : fLm g fo fa δ η = (fo δ η).bind fun d η => match d with | .lst l => (fa δ η).bind fun e η => lift (g l e) η | _ => .bad := rfl
end
end DL
/-! xs + ys: a new list, xs a list or an object of the store -/
namespace DL
open PySem PySem.Spec PyProof.Rows L2
def lsOf (η : List O) : D → Option (List D)
  | .lst l => some l
  | .obj n => match η[n]? with
    | some (.lst l) => some l
    | _ => none
  | _ => none
def fAddN (fa fb : F D) : F (List D) := fun δ η => (fa δ η).bind fun d η => (fb δ η).bind fun e η => match lsOf η d, e with
  | some l, .lst m => if (l ++ m).length ≤ sizeLine then .ok (l ++ m) η else .bad
  | _, _ => .bad
section
variable {X : Cx} {C : Ct} {W : WX} {a b : Expr} {fa fb : F D} {pos : Pos}
theorem lsOf_at {G : Gh} {H : Hp} {η : List O} {d : D} {v : V} {l : List D} (h : lsOf η d = some l) (r : Rp C G H d v) (rh : Rh C G H η) : ∃ q vs, v = .ref q ∧ SqL C.K H q vs ∧ Rps C G H l vs := by
  unfold lsOf at h
  split at h
  · cases h
    exact r.b.u.lst
  · rename_i n
    split at h
    · rename_i l' hl
      cases h
      cases r with
      | @obj _ q ho =>
        obtain ⟨m, z⟩ := rh.ob n _ _ hl ho
        cases z with
        | @lst _ vs _ ee zz rs => exact ⟨q, vs, rfl, SqL.of ee, rs⟩
    · cases h
  · cases h
end
section
variable {δ : En} {η : List O}
@[simp] theorem fAddN_a {fa fb : F D} : fAddN fa fb δ η = (fa δ η).bind fun d η => (fb δ η).bind fun e η => match lsOf η d, e with | some l, .lst m => if (l ++ m).length ≤ sizeLine then .ok (l ++ m) η else .bad | _, _ => .bad := rfl
end
end DL
namespace DL
open PySem L2
section
variable {X : Cx} {C : Ct} {W : WX} {pos apos : Pos} {e a b : Expr} {fe fa fb : F D} {f : S} {body : List Stmt} {h₀ : ExceptHandler} {hs : List ExceptHandler}
/-- the parts of a text -/
def splitS (z : Str) : D → Option (List D)
  | .str b => if (b.cps.toList ≠ [] ∧ b.cps.toList.all (· < 256) = true) ∧ z.length + 2 ≤ sizeLine then some ((TL.spl b.cps.toList 0 [] z.cps.toList).map fun l => .str (SX.S l)) else none
  | _ => none
theorem spl_mem : ∀ (S : List Nat) (k : Nat) (acc l : List Nat) (p : List Nat), p ∈ TL.spl S k acc l → ∀ c ∈ p, c ∈ acc ∨ c ∈ l
  | S, k, acc, [], p, h, c, hc => by
    have : TL.spl S k acc [] = [acc] := by cases k <;> rfl
    rw [this, List.mem_singleton] at h
    exact .inl (h ▸ hc)
  | S, 0, acc, x :: r, p, h, c, hc => by
    rw [TL.spl] at h
    split at h
    · rcases List.mem_cons.mp h with rfl | h
      · exact .inl hc
      · rcases spl_mem S _ _ r p h c hc with z | z
        · cases z
        · exact .inr (List.mem_cons_of_mem _ z)
    · rcases spl_mem S _ _ r p h c hc with z | z
      · rcases List.mem_append.mp z with z | z
        · exact .inl z
        · rw [List.mem_singleton.mp z]; exact .inr (List.mem_cons_self ..)
      · exact .inr (List.mem_cons_of_mem _ z)
  | S, k + 1, acc, x :: r, p, h, c, hc => by
    rw [TL.spl] at h
    rcases spl_mem S _ _ r p h c hc with z | z
    · exact .inl z
    · exact .inr (List.mem_cons_of_mem _ z)
theorem rps_strs {G : Gh} {H : Hp} : ∀ (l : List (List Nat)), (∀ p ∈ l, PySem.PyData.strOk (SX.S p) = true) → Rps C G H (l.map fun l => .str (SX.S l)) ((l.map SX.S).map V.str)
  | [], _ => .nil
  | x :: l, h => .cons (.str _ (h x (List.mem_cons_self ..))) (rps_strs l fun p hp => h p (List.mem_cons_of_mem _ hp))
def fStrN (g : Str → D → Option (List D)) (fa fb : F D) : F (List D) := fun δ η => (fa δ η).bind fun d η => match d with
  | .str z => (fb δ η).bind fun e η => lift (g z e) η
  | _ => .bad
theorem fn_split (ha : FE C W X a fa) (hb : FE C W X b fb) (hs : starEach [b] X.env = [(false, eval b X.env)] := by rfl) (hbase : attributeBase a "split" X.env (eval a X.env) = eval a X.env := by rfl) (hline : (apos.endLine == pos.line) = true := by rfl) :
    FN C W X (.Call (.Attribute a "split" apos) [b] [] pos) (fStrN splitS fa fb) := by
  refine PE.imp (pe_split ha hb hs hbase hline) fun σ H Q ⟨G, δ, η, at0, fin⟩ => ?_
  refine tN.bind at0 fin fun d v G1 H1 η1 a1 x1 r1 fin1 => ?_
  split at fin1
  · rename_i z
    cases r1 with
    | str z okz =>
    refine ⟨⟨z, rfl⟩, ?_⟩
    refine tN.bind a1 fin1 fun e w G2 H2 η2 a2 x2 r2 fin2 => ?_
    unfold splitS at fin2
    split at fin2
    · rename_i b
      split at fin2
      · rename_i hz
        cases r2 with
        | str b okb =>
        have es : Txt.split z b = (TL.spl b.cps.toList 0 [] z.cps.toList).map SX.S := by
          have := SX.split_S (a := z.cps.toList) (b := b.cps.toList) hz.1.1 hz.1.2
          rw [SX.S_tl, SX.S_tl] at this
          exact this
        have hl : (Txt.split z b).length ≤ sizeLine := Nat.le_trans (PyProof.Rows.split_le z b) hz.2
        refine ⟨z, b, rfl, rfl, ?_, hz.2, fun p hp => ?_⟩
        · cases hb : b.length == 0 with
          | false => rfl
          | true =>
            exfalso
            have h0 : b.length = 0 := by simpa using hb
            exact hz.1.1 (List.eq_nil_of_length_eq_zero (by simpa [Str.length] using h0))
        · rw [es]
          have hl2 : ((TL.spl b.cps.toList 0 [] z.cps.toList).map fun l => D.str (SX.S l)).length ≤ sizeLine := by
            rw [es, List.length_map] at hl
            rw [List.length_map]; exact hl
          refine FinN.of Nx.refl fin2 a2.he (rps_strs _ fun p hp => ok_list.mpr fun c hc => ?_) hl2 hp
          have hc : c ∈ p := by simpa using hc
          rcases spl_mem _ _ _ _ p hp c hc with z' | z'
          · cases z'
          · exact ok_list.mp okz c z'
      · exact fin2.elim
    · exact fin2.elim
  · exact fin1.elim
variable {fn fm : F (List D)}
/-- two lists of the frame's own -/
def sParNN (i j : Nat) (fn fm : F (List D)) : S := fun δ η => (fn δ η).toS δ fun d η => (fm δ η).toS δ fun e η => .nx ((δ.set i (some (.own d))).set j (some (.own e))) η
@[simp] theorem sParNN_a {i j : Nat} {δ : En} {η : List O} : sParNN i j fn fm δ η = (fn δ η).toS δ fun d η => (fm δ η).toS δ fun e η => .nx ((δ.set i (some (.own d))).set j (some (.own e))) η := rfl
@[simp] theorem fStrN_a {g : Str → D → Option (List D)} {δ : En} {η : List O} : fStrN g fa fb δ η = (fa δ η).bind fun d η => (match d with | .str z => (fb δ η).bind fun e η => lift (g z e) η | _ => .bad) := rfl
/-- int(x), of a text too -/
def intSC : D → Option D
  | .str z => if z.length ≤ 640 then (PySem.intText? z).map .int else none
  | d => intC d
@[simp] theorem intSC_s {z : Str} : intSC (.str z) = if z.length ≤ 640 then (PySem.intText? z).map .int else none := rfl
end
end DL
namespace DL
open PySem L2
/-- what the combinators do, in one -/
def DLS := (And.intro (And.intro (And.intro (And.intro (And.intro (And.intro (And.intro @lift_some (And.intro @bind_ok @bind_exc)) (And.intro (And.intro @toS_ok @toS_exc) (And.intro @seq_nx @seq_rt))) (And.intro (And.intro (And.intro @seq_bk @seq_ct) (And.intro @seq_exc @nox_ok)) (And.intro (And.intro @nox_bad @nox_exc) (And.intro @fV_a @fVo_a)))) (And.intro (And.intro (And.intro @fC_a (And.intro @fOp_a @toB_a)) (And.intro (And.intro @fCh_a @fTru_a) (And.intro @fAndB_a @fOrB_a))) (And.intro (And.intro (And.intro @fNotB_a @fAnd_a) (And.intro @fOr_a @fNot_a)) (And.intro (And.intro @fIf_a @fNil_a) (And.intro @fCons_a @fTup_a))))) (And.intro (And.intro (And.intro (And.intro @fLst_a (And.intro @fLstN_a @fIxO_a)) (And.intro (And.intro @fNoP_a @fPt_a) (And.intro @fSl_a @fCall1_a))) (And.intro (And.intro (And.intro @fStrM_a @fNeg_a) (And.intro @fFrz_a @fListN_a)) (And.intro (And.intro @fNewO_a @fCall_a) (And.intro @fCallK_a @fLc_a)))) (And.intro (And.intro (And.intro @fYes_a (And.intro @fiA_a @fiL_a)) (And.intro (And.intro @fiE_a @fiZ_a) (And.intro @fiR1_a @sSeq_a))) (And.intro (And.intro (And.intro @sRet_a @sRetN_a) (And.intro @sRetO_a @sIf_a)) (And.intro (And.intro @sDrop_a @sSet_a) (And.intro @sFrz_a @sOwn_a)))))) (And.intro (And.intro (And.intro (And.intro (And.intro @sApp_a (And.intro @sAsg_a @sPar_a)) (And.intro (And.intro @sFor_a @sSetO_a) (And.intro @arg_a @asg_nm))) (And.intro (And.intro (And.intro @asg_tp @asgs_nil) (And.intro @asgs_cons @addD_ii)) (And.intro (And.intro @subD_ii @mulD_ii) (And.intro @modD_ii @fdivD_ii)))) (And.intro (And.intro (And.intro @powD_ii (And.intro @ltD_ii @leD_ii)) (And.intro (And.intro @gtD_ii @geD_ii) (And.intro @addD_ss @addD_ll))) (And.intro (And.intro (And.intro @intC_i @lenD_l) (And.intro @lenD_t @lenD_s)) (And.intro (And.intro @ixD_l @ixD_t) (And.intro @walkD_l @walkD_t))))) (And.intro (And.intro (And.intro (And.intro @walkD_s (And.intro @seqOf_l @seqOf_t)) (And.intro (And.intro @lstOf_l @itemsD_l) (And.intro @itemsD_t @slD_l))) (And.intro (And.intro (And.intro @slD_s @truD_b) (And.intro @truD_i @truD_n)) (And.intro (And.intro @truD_l @truD_t) (And.intro @isN_n @notN_n)))) (And.intro (And.intro (And.intro @isNon_n (And.intro @isNon_b @isNon_i)) (And.intro (And.intro @isNon_s @isNon_l) (And.intro @isNon_t @okq_n))) (And.intro (And.intro (And.intro @okq_b @okq_i) (And.intro @okq_s @eqv_ii)) (And.intro (And.intro @eqv_bb @eqv_ss) (And.intro @eqD_ii @eqD_bb))))))) (And.intro (And.intro (And.intro (And.intro (And.intro (And.intro @eqD_ss (And.intro @neD_ii @neD_bb)) (And.intro (And.intro @neD_ss @insD_a) (And.intro @insC_a @fFld_a))) (And.intro (And.intro (And.intro @sFldN_a @sFldO_a) (And.intro @sFldA_a @argK_a)) (And.intro (And.intro @fMeth_a @fNewI_a) (And.intro @argKX_a @fMethX_a)))) (And.intro (And.intro (And.intro @fNewIX_a (And.intro @fCallX_a @fCallKX_a)) (And.intro (And.intro @sRaise1_a @sRaise0_a) (And.intro @fProp_a @fInM_a))) (And.intro (And.intro (And.intro @fStar_a @sMut_a) (And.intro @sMutO_a @sParN_a)) (And.intro (And.intro @sFz_a @fDr_a) (And.intro @fLenSet_a @fBad_a))))) (And.intro (And.intro (And.intro (And.intro @sBad_a (And.intro @muApp_a @muClr_a)) (And.intro (And.intro @muIns_a @tupC_l) (And.intro @pick_nil @pick_cons))) (And.intro (And.intro (And.intro @inD_ls @inD_ts) (And.intro @sParNV_a @sPar3_a)) (And.intro (And.intro @jsF_nil @jsF_cons) (And.intro @fmtD_i @strC_i)))) (And.intro (And.intro (And.intro @fmtD_s (And.intro @fLenM_a @fReprM_a)) (And.intro (And.intro @fWhy_a @addD_tt) (And.intro @slD_t @fRev_a))) (And.intro (And.intro (And.intro @revD_l @revD_t) (And.intro @mulLD_l @sSetI_a)) (And.intro (And.intro @sPar3N_a @sPar3NN_a) (And.intro @fSortSet_t @fBinMX_a)))))) (And.intro (And.intro (And.intro (And.intro (And.intro @fBinM_a (And.intro @fEqM_a @fCmpT_a)) (And.intro (And.intro @fNewRX_a @fNewR_a) (And.intro @fC2_a @fiR2_a))) (And.intro (And.intro (And.intro @fiR3_a @sRetI_a) (And.intro @sRetOO_a @fLocC_a)) (And.intro (And.intro @fCM_a @fCMX_a) (And.intro @fiZ3_a @fSortSetW_t)))) (And.intro (And.intro (And.intro @fCMK_a (And.intro @fCMKX_a @fLm_a)) (And.intro (And.intro @fAddN_a @sParNN_a) (And.intro @fStrN_a @intSC_s))) (And.intro (And.intro (And.intro @decide_true @decide_false) (And.intro @Bool.not_true @Bool.not_false)) (And.intro (And.intro @Bool.false_eq_true @and_self) (And.intro @and_true @true_and))))) (And.intro (And.intro (And.intro (And.intro @and_false (And.intro @false_and @or_true)) (And.intro (And.intro @true_or @or_false) (And.intro @false_or @not_true_eq_false))) (And.intro (And.intro (And.intro @not_false_eq_true @Bool.and_true) (And.intro @Bool.true_and @Bool.and_false)) (And.intro (And.intro @Bool.false_and @Bool.or_true) (And.intro @Bool.true_or @Bool.or_false)))) (And.intro (And.intro (And.intro (And.intro @Bool.false_or @eq_self.{1}) (And.intro @if_true.{1} @if_false.{1})) (And.intro (And.intro @List.length_cons.{0} @List.length_nil.{0}) (And.intro @List.length_set.{0} @List.set_cons_zero.{0}))) (And.intro (And.intro (And.intro @List.set_cons_succ.{0} @List.getElem?_cons_zero.{0}) (And.intro @List.getElem?_cons_succ.{0} @List.getElem?_set.{0})) (And.intro (And.intro @List.cons_append.{0} @List.nil_append.{0}) (And.intro @List.isEmpty_cons.{0} @List.isEmpty_nil.{0}))))))))
theorem szT {n : Nat} (h : n ≤ 1000000) : (n ≤ sizeLine) = True := by rw [sizeLine_eq]; exact eq_true (by omega)
theorem szlT {n : Nat} (h : n < 1000000) : (n < sizeLine) = True := by rw [sizeLine_eq]; exact eq_true (by omega)
/-! ### frames by what their slots hold -/
abbrev vl (d : D) : Option L := some (.val d)
abbrev ow (l : List D) : Option L := some (.own l)
/-- δ' is δ but for the slots W -/
def Kp (W : List Nat) (δ δ' : En) : Prop := δ'.length = δ.length ∧ ∀ i, i ∉ W → δ'[i]? = δ[i]?
theorem Kp.refl {W : List Nat} {δ : En} : Kp W δ δ := ⟨rfl, fun _ _ => rfl⟩
theorem Kp.st {W : List Nat} {δ δ' : En} {i : Nat} {x : Option L} (h : Kp W δ δ') (hi : i ∈ W) : Kp W δ (δ'.set i x) := by
  refine ⟨by rw [List.length_set]; exact h.1, fun j hj => ?_⟩
  rw [List.getElem?_set_ne (fun e => hj (by rw [← e]; exact hi))]
  exact h.2 j hj
theorem Kp.trans {W : List Nat} {δ δ' δ2 : En} (h : Kp W δ δ') (h2 : Kp W δ' δ2) : Kp W δ δ2 := ⟨h2.1.trans h.1, fun i hi => (h2.2 i hi).trans (h.2 i hi)⟩
theorem Kp.mono {W V : List Nat} {δ δ' : En} (h : Kp W δ δ') (s : ∀ i ∈ W, i ∈ V) : Kp V δ δ' := ⟨h.1, fun i hi => h.2 i fun z => hi (s i z)⟩
theorem Kp.tr {W V : List Nat} {δ δ' δ2 : En} (h : Kp V δ δ') (h2 : Kp W δ' δ2) (s : ∀ i ∈ W, i ∈ V) : Kp V δ δ2 := h.trans (h2.mono s)
/-- a walk whose body goes on -/
theorem loop_k {t : Tg} {b : S} (W : List Nat) (I : Nat → En → List O → Prop) : ∀ {ds : List D} {δ : En} {η : List O}, I 0 δ η →
    (∀ k x δ1 η1, ds[k]? = some x → Kp W δ δ1 → I k δ1 η1 → ∃ δ1', asg t x δ1 = some δ1' ∧ ∃ δ2 η2, (b δ1' η1 = .nx δ2 η2 ∨ b δ1' η1 = .ct δ2 η2) ∧ Kp W δ δ2 ∧ I (k + 1) δ2 η2) →
    ∃ δ' η', loopF t b ds δ η = .nx δ' η' ∧ Kp W δ δ' ∧ I ds.length δ' η' := by
  intro ds δ η h0 hs
  obtain ⟨δ', η', e, k, q1, q2, q3⟩ := loop_inv (t := t) (b := b) (P := fun r δ1 η1 => ∃ k, r = ds.drop k ∧ k ≤ ds.length ∧ Kp W δ δ1 ∧ I k δ1 η1) (ds := ds) (δ := δ) (η := η) ⟨0, rfl, Nat.zero_le _, Kp.refl, h0⟩ fun x r δ1 η1 ⟨k, q1, q0, q2, q3⟩ => by
    have hx : ds[k]? = some x := by
      have := congrArg (fun l => l[0]?) q1
      simpa using this.symm
    obtain ⟨δ1', e1, δ2, η2, e2, k2, i2⟩ := hs k x δ1 η1 hx q2 q3
    refine ⟨δ1', e1, δ2, η2, e2, k + 1, ?_, ?_, k2, i2⟩
    · have := congrArg List.tail q1
      simpa using this
    · exact (List.getElem?_eq_some_iff.mp hx).1
  have hk : k = ds.length := by
    have := congrArg List.length q1
    simp at this
    omega
  subst hk
  exact ⟨δ', η', e, q3.1, q3.2⟩
/-- a walk over encoded items -/
theorem loop_m {α : Type} {t : Tg} {b : S} {enc : α → D} {xs : List α} (W : List Nat) (I : Nat → En → List O → Prop) {δ : En} {η : List O} (h0 : I 0 δ η)
    (hs : ∀ k x δ1 η1, xs[k]? = some x → Kp W δ δ1 → I k δ1 η1 → ∃ δ1', asg t (enc x) δ1 = some δ1' ∧ ∃ δ2 η2, (b δ1' η1 = .nx δ2 η2 ∨ b δ1' η1 = .ct δ2 η2) ∧ Kp W δ δ2 ∧ I (k + 1) δ2 η2) :
    ∃ δ' η', loopF t b (xs.map enc) δ η = .nx δ' η' ∧ Kp W δ δ' ∧ I xs.length δ' η' := by
  have := loop_k (t := t) (b := b) W I (ds := xs.map enc) h0 fun k x δ1 η1 hx hk hi => by
    rw [List.getElem?_map] at hx
    cases h : xs[k]? with
    | none => rw [h] at hx; cases hx
    | some y => rw [h] at hx; cases hx; exact hs k y δ1 η1 h hk hi
  rwa [List.length_map] at this
/-- statements one by one -/
theorem sq {A B : S} {δ δ1 : En} {η η1 : List O} {r : SR} (h : A δ η = .nx δ1 η1) (h2 : B δ1 η1 = r) : (sSeq A B) δ η = r := by rw [sSeq_a, h]; exact h2
theorem sqE {A B : S} {δ δ1 : En} {η η1 : List O} {P : SR → Prop} (h : A δ η = .nx δ1 η1) (h2 : P (B δ1 η1)) : P ((sSeq A B) δ η) := by rw [sSeq_a, h]; exact h2
theorem for_of {fi : F (List D)} {t : Tg} {b : S} {δ : En} {η η1 : List O} {ds : List D} {r : SR} (h : fi δ η = .ok ds η1) (h2 : loopF t b ds δ η1 = r) : (sFor fi t b) δ η = r := by rw [sFor_a, h]; exact h2
end DL
namespace DL
open PySem L2
section
variable {X : Cx} {C : Ct} {W : WX} {pos : Pos} {tg iter : Expr} {fa : F D}
variable {a b : Expr} {fb : F D} {n : Nat} {df : DF}
theorem app_of {δ : En} {η η1 : List O} {i : Nat} {l : List D} {d : D} {fs : F (List D)} (h : δ[i]? = some (ow l)) (h2 : fs δ η = .ok [d] η1) (hz : l.length < 1000000) : sMut i muApp fs δ η = .nx (δ.set i (ow (l ++ [d]))) η1 := by
  rw [sMut_a, h]
  dsimp only
  rw [h2, toS_ok, muApp_a, if_pos (by rw [sizeLine_eq]; omega)]
theorem frz_of {δ : En} {η : List O} {i : Nat} {l : List D} {b : S} {r : SR} (h : δ[i]? = some (ow l)) (h2 : b (δ.set i (vl (.lst l))) η = r) : sFz i b δ η = r := by
  rw [sFz_a, h]; exact h2
theorem ret_of {δ : En} {η η1 : List O} {d : D} (h : fa δ η = .ok d η1) : sRet fa δ η = .rt d η1 := by rw [sRet_a, h]; rfl
theorem set_of {δ : En} {η η1 : List O} {i : Nat} {d : D} (h : fa δ η = .ok d η1) : sSet i fa δ η = .nx (δ.set i (vl d)) η1 := by rw [sSet_a, h]; rfl
theorem if_t {t : F Bool} {x y : S} {δ : En} {η η1 : List O} {r : SR} (h : t δ η = .ok true η1) (h2 : x δ η1 = r) : sIf t x y δ η = r := by rw [sIf_a, h, toS_ok, if_pos rfl]; exact h2
theorem if_f {t : F Bool} {x y : S} {δ : En} {η η1 : List O} {r : SR} (h : t δ η = .ok false η1) (h2 : y δ η1 = r) : sIf t x y δ η = r := by rw [sIf_a, h, toS_ok, if_neg (by decide)]; exact h2
theorem if_fn {t : F Bool} {x : S} {δ : En} {η η1 : List O} (h : t δ η = .ok false η1) : sIf t x SR.nx δ η = .nx δ η1 := if_f h rfl
end
end DL
namespace DL
open PySem L2
end DL
namespace DL
open PySem L2
def b_check_things : S := (sFor (fiE (fV 1)) (.tp [(.nm 2), (.nm 3)]) (sIf (fOrB (toB (fOp eqD (fV 2) (fC (.int 12)))) (fNotB (fTru (fCall 2 m_is_thing (fCons (fV 0) (fCons (fV 3) fNil)))))) (sRaise1 24 "at" "InvalidThing" (fV 2)) SR.nx))
def m_check_things : DF := runD 4 b_check_things
def b_plain_things : S := (sRet (fFrz (fLc [1, 2] (fiA (fV 0)) (.tp [(.nm 1), (.nm 2)]) fYes (fTup (fCons (fV 1) (fCons (fV 2) fNil))))))
def m_plain_things : DF := runD 3 b_plain_things
end DL
namespace DL
open PySem L2
end DL
namespace DL
open PySem L2
end DL
/-! a, b, c = e, [..], [..] -/
namespace DL
open PySem L2
section
variable {X : Cx} {C : Ct} {W : WX} {pos p2 : Pos} {fe fa fb fc fo : F D} {fs fn fm : F (List D)}
end
end DL
/-! parameters that are left to their default, None -/
namespace DL
open PySem L2
section
variable {K : PySem.W.Frag} {fd : FuncData} {ps ks : List Str} {np : Nat} {ix : List Nat} {T D : Addr} {o : Obj} {its : Array Value} {m : Nat}
end
section
variable {X : Cx} {C : Ct} {W : WX} {pos apos : Pos} {a b : Expr} {fa fb : F D}
end
end DL
namespace DL
open PySem L2
end DL
/-! ### lists of the store, read as they stand: walks, comprehensions, unpacking -/
namespace DL
open PySem L2
section
variable {C : Ct} {G G2 : Gh} {H H2 : Hp} {η η2 : List O} {d : D} {v : V} {l : List D}
/-- the items of a list, a tuple, a list of the store -/
def rdA (η : List O) : D → Option (List D)
  | .lst l => some l
  | .tup l => some l
  | .obj n => match η[n]? with
    | some (.lst l) => some l
    | _ => none
  | _ => none
def isTup : D → Bool
  | .tup _ => true
  | _ => false
theorem rd_lst (h : rdA η d = some l) (r : Rp C G H d v) (hh : Rh C G H η) (nt : isTup d = false) : ∃ a vs, v = .ref a ∧ SqL C.K H a vs ∧ Rps C G H l vs ∧ l.length ≤ sizeLine := by
  cases r with
  | lst q z r => cases h; exact ⟨_, _, rfl, q.sq, r, z⟩
  | tup q z r => cases nt
  | @obj n a ho =>
    unfold rdA at h
    dsimp only at h
    cases hn : η[n]? with
    | none => rw [hn] at h; cases h
    | some o =>
      rw [hn] at h
      cases o with
      | lst l' =>
        cases h
        obtain ⟨m, q⟩ := hh.ob n _ a hn ho
        cases q with
        | lst e z r => exact ⟨_, _, rfl, SqL.of e, r, z⟩
      | _ => cases h
  | _ => cases h
theorem rd_tup (h : rdA η d = some l) (r : Rp C G H d v) (nt : isTup d = true) : ∃ a vs, v = .ref a ∧ SqT C.K H a vs ∧ Rps C G H l vs ∧ l.length ≤ sizeLine := by
  cases r with
  | tup q z r => cases h; exact ⟨_, _, rfl, q.sq, r, z⟩
  | _ => cases nt
/-! ### targets -/
mutual
def asgR (η : List O) : Tg → D → En → Option En
  | .nm i, d, δ => some (δ.set i (some (.val d)))
  | .tp ts, d, δ => match rdA η d with
    | some l => asgsR η ts l δ
    | none => none
def asgsR (η : List O) : List Tg → List D → En → Option En
  | [], [], δ => some δ
  | t :: ts, d :: l, δ => (asgR η t d δ).bind fun δ' => asgsR η ts l δ'
  | _, _, _ => none
end
def gE (K : PySem.W.Frag) (n : Nat) (t : TGs) : TG := fun v σ H Q => gTup K n t v σ H Q ∨ gUnl K n t v σ H Q
mutual
def gVR (K : PySem.W.Frag) : Tg → TG
  | .nm i => gName i
  | .tp l => gE K l.length (gVRs K l)
def gVRs (K : PySem.W.Frag) : List Tg → TGs
  | [] => gNil
  | t :: l => gCons (gVR K t) (gVRs K l)
end
theorem asgsR_len : ∀ {ts : List Tg} {l : List D} {δ δ' : En}, asgsR η ts l δ = some δ' → l.length = ts.length
  | [], [], _, _, _ => rfl
  | [], _ :: _, _, _, h => by simp [asgsR] at h
  | _ :: _, [], _, _, h => by simp [asgsR] at h
  | t :: ts, d :: l, δ, δ', h => by
    rw [asgsR] at h
    cases q : asgR η t d δ with
    | none => rw [q] at h; cases h
    | some δ1 => rw [q] at h; rw [List.length_cons, List.length_cons, asgsR_len h]
variable {X : Cx}
mutual
theorem gVR_ok (hK : X.K = C.K) : ∀ (t : Tg) (d : D) (v : V) (G : Gh) (H : Hp) (δ δ' : En) (σ : St) (η0 η : List O) (Q : St → Hp → Prop), asgR η0 t d δ = some δ' → Rp C G H d v → Rh C G H η0 →
    (∀ σ', (∀ B, Hold C B G H δ σ η → Hold C B G H δ' σ' η) → (At C G H δ σ η → At C G H δ' σ' η) → Same' t.sl σ σ' → Q σ' H) → gVR X.K t v σ H Q
  | .nm i, d, v, G, H, δ, δ', σ, η0, η, Q, h, r, hh, q => by
    rw [asgR] at h
    cases h
    rw [gVR]
    exact q _ (fun B h => h.setVal r) (fun h => h.setVal r) ⟨by simp, fun j hj => List.getElem?_set_ne (by simpa [Tg.sl, eq_comm] using hj)⟩
  | .tp ts, d, v, G, H, δ, δ', σ, η0, η, Q, h, r, hh, q => by
    rw [asgR] at h
    cases hl : rdA η0 d with
    | none => rw [hl] at h; cases h
    | some l =>
      rw [hl] at h
      dsimp only at h
      have len := asgsR_len h
      rw [gVR]
      cases nt : isTup d with
      | true =>
        obtain ⟨a, vs, rfl, hs, hr, _⟩ := rd_tup hl r nt
        rw [← hK] at hs
        exact .inl ⟨a, vs, rfl, hs, by rw [← hr.length]; exact len, gVRs_ok hK ts l vs G H δ δ' σ η0 η Q h hr hh fun σ' h1 h2 h3 => q σ' h1 h2 (by rw [Tg.sl]; exact h3)⟩
      | false =>
        obtain ⟨a, vs, rfl, hs, hr, _⟩ := rd_lst hl r hh nt
        rw [← hK] at hs
        exact .inr ⟨a, vs, rfl, hs, by rw [← hr.length]; exact len, gVRs_ok hK ts l vs G H δ δ' σ η0 η Q h hr hh fun σ' h1 h2 h3 => q σ' h1 h2 (by rw [Tg.sl]; exact h3)⟩
theorem gVRs_ok (hK : X.K = C.K) : ∀ (ts : List Tg) (l : List D) (vs : List V) (G : Gh) (H : Hp) (δ δ' : En) (σ : St) (η0 η : List O) (Q : St → Hp → Prop), asgsR η0 ts l δ = some δ' → Rps C G H l vs → Rh C G H η0 →
    (∀ σ', (∀ B, Hold C B G H δ σ η → Hold C B G H δ' σ' η) → (At C G H δ σ η → At C G H δ' σ' η) → Same' (Tg.sls ts) σ σ' → Q σ' H) → gVRs X.K ts vs σ H Q
  | [], l, vs, G, H, δ, δ', σ, η0, η, Q, h, r, hh, q => by
    cases l with
    | nil =>
      rw [asgsR] at h
      cases h
      cases r
      rw [gVRs]
      exact ⟨rfl, q _ (fun _ h => h) (fun h => h) .refl⟩
    | cons _ _ => simp [asgsR] at h
  | t :: ts, l, vs, G, H, δ, δ', σ, η0, η, Q, h, r, hh, q => by
    cases l with
    | nil => simp [asgsR] at h
    | cons d l =>
      rw [asgsR] at h
      cases q1 : asgR η0 t d δ with
      | none => rw [q1] at h; cases h
      | some δ1 =>
        rw [q1] at h
        cases r with
        | @cons _ v _ vs r rr =>
          rw [gVRs]
          refine ⟨v, vs, rfl, ?_⟩
          refine gVR_ok hK t d v G H δ δ1 σ η0 η _ q1 r hh fun σ1 a1 b1 c1 => ?_
          refine gVRs_ok hK ts l vs G H δ1 δ' σ1 η0 η _ h rr hh fun σ2 a2 b2 c2 => ?_
          refine q σ2 (fun B z => a2 B (a1 B z)) (fun z => b2 (b1 z)) ?_
          rw [Tg.sls]
          exact (c1.mono fun i z => List.mem_append_left _ z).trans (c2.mono fun i z => List.mem_append_right _ z)
end
variable {pos : Pos}
variable {W : WX} {fe fa fb : F D} {st : Stmt}
/-! ### what is walked -/
inductive Src | one (d : D) | enm (d : D) | zip (d e : D)
def curS (η : List O) : Src → Nat → Option (Option D)
  | .one d, k => (rdA η d).map fun l => l[k]?
  | .enm d, k => (rdA η d).map fun l => (l[k]?).map fun x => .tup [.int (k : Nat), x]
  | .zip d e, k => match rdA η d, rdA η e with
    | some l, some m => some (match l[k]?, m[k]? with
      | some x, some y => some (.tup [x, y])
      | _, _ => none)
    | _, _ => none
theorem curS_one (h : rdA η d = some l) (k : Nat) : curS η (.one d) k = some (l[k]?) := by
  show (rdA η d).map _ = _
  rw [h]; rfl
theorem curS_enm (h : rdA η d = some l) (k : Nat) : curS η (.enm d) k = some ((l[k]?).map fun x => .tup [.int (k : Nat), x]) := by
  show (rdA η d).map _ = _
  rw [h]; rfl
def sizeS (η : List O) : Src → Nat
  | .one d => ((rdA η d).getD []).length
  | .enm d => ((rdA η d).getD []).length
  | .zip d _ => ((rdA η d).getD []).length
def ItL (C : Ct) (G : Gh) (H : Hp) (J : It) (src : Src) : Prop := ∀ G2 H2 η2 k, Stab G H G2 H2 → Rh C G2 H2 η2 → match curS η2 src k with
  | none => True
  | some none => J.stop k H2
  | some (some d) => J.go k H2 ∧ ∀ x H3, J.yld k H2 x H3 → (∀ a o, H2 a = some o → H3 a = some o) ∧ Rp C G2 H3 d x
def FinIL (C : Ct) (E : XK) (G : Gh) (H : Hp) (r : R Src) (K : It → Hp → Prop) : Prop := match r with
  | .ok src η' => ∀ J G' H', Nx G H G' H' → Rh C G' H' η' → sizeS η' src ≤ sizeLine → ItL C G' H' J src → K J H'
  | .exc c ns l η' => ∀ x vs G' H', Nx G H G' H' → Rh C G' H' η' → Xd G' H' x (ns.zip vs) → Rps C G' H' l vs → E (.ref (C.cl c)) (some x) H'
  | .bad => False
def tIL (C : Ct) (W : WX) (f : F Src) : TI := fun σ H R => ∃ G δ η, At C G H δ σ η ∧ FinIL C (fun c d H' => W c d σ H') G H (f δ η) R
theorem FinIL.next {E : XK} {G G' : Gh} {H H' : Hp} {r : R Src} {K : It → Hp → Prop} (h : FinIL C E G H r K) (x : Nx G H G' H') : FinIL C E G' H' r K := by
  cases r with
  | ok d η' => exact fun v G2 H2 y q1 q2 => h v G2 H2 (x.trans y) q1 q2
  | exc c ns l η' => exact fun a vs G2 H2 y q1 q2 q3 => h a vs G2 H2 (x.trans y) q1 q2 q3
  | bad => exact h
theorem tIL.bind {α β : Type} {Rel : Gh → Hp → α → β → Prop} {f : F α} {k : α → List O → R Src} {G : Gh} {δ : En} {η : List O} {σ : St} {H : Hp} {R : It → Hp → Prop} {Q : β → Hp → Prop} (a : At C G H δ σ η) (fin : FinIL C (fun c d H' => W c d σ H') G H ((f δ η).bind k) R)
    (h : ∀ x v G1 H1 η1, At C G1 H1 δ σ η1 → Nx G H G1 H1 → Rel G1 H1 x v → FinIL C (fun c d H' => W c d σ H') G1 H1 (k x η1) R → Q v H1) : tG C Rel W f σ H Q := by
  refine ⟨G, δ, η, a, ?_⟩
  cases hf : f δ η with
  | ok d η1 =>
    rw [hf] at fin
    exact fun v G1 H1 x q1 q2 => h d v G1 H1 η1 (a.next x q1) x q2 (FinIL.next (r := k d η1) fin x)
  | exc c ns l η1 => rw [hf] at fin; exact fin
  | bad => rw [hf] at fin; exact fin
/-! ### the three walks -/
variable {e a b tg : Expr}
def fsOne (fa : F D) : F Src := fun δ η => (fa δ η).bind fun d η => match rdA η d with
  | some _ => .ok (.one d) η
  | none => .bad
def fsEnm (fa : F D) : F Src := fun δ η => (fa δ η).bind fun d η => match rdA η d with
  | some _ => .ok (.enm d) η
  | none => .bad
end
end DL
/-! ### a for over what is read live, a comprehension over it -/
namespace DL
open PySem L2
section
variable {X : Cx} {C : Ct} {W : WX} {pos : Pos} {tg iter : Expr}
/-! ### comprehensions -/
def compL (t : Tg) (ft : F Bool) (fe : F D) (δw : En) (src : Src) : Nat → Nat → List O → R (List D)
  | 0, _, _ => .bad
  | f + 1, k, η => match curS η src k with
    | none => .bad
    | some none => .ok [] η
    | some (some x) => match asgR η t x δw with
      | none => .bad
      | some δ1 => (ft δ1 η).nox.bind fun b η => if b = true then (fe δ1 η).nox.bind fun y η => (compL t ft fe δw src f (k + 1) η).bind fun ys η => .ok (y :: ys) η else compL t ft fe δw src f (k + 1) η
def fLcL (vs : List Nat) (fs : F Src) (t : Tg) (ft : F Bool) (fe : F D) : F (List D) := fun δ η => (fs δ η).bind fun src η => compL t ft fe (wipeD δ vs) src (sizeS η src + 1) 0 η
variable {fe : F D}
variable {elt : Expr} {ifs : List Expr} {scope : Scope} {pos' : Pos} {fi : F Src} {t : Tg} {ft : F Bool} {felt : F D}
end
end DL
/-! ### items and slices of what may be a list of the store; what the walks and comprehensions give -/
namespace DL
open PySem L2
section
variable {C : Ct} {G : Gh} {H : Hp} {η : List O} {d : D} {v : V}
def drD (η : List O) : D → D
  | .obj n => match η[n]? with
    | some (.lst l) => .lst l
    | _ => .obj n
  | d => d
variable {X : Cx} {W : WX} {a b : Expr} {fa fb : F D} {pos p2 : Pos}
variable {lo hi : Option Expr} {fl fh : F (Option Int)}
def fSlL (fa : F D) (fl fh : F (Option Int)) : F D := fun δ η => (fa δ η).bind fun d η => (fl δ η).bind fun lo η => (fh δ η).bind fun hi η => lift (slD (drD η d) lo hi) η
end
/-! ### how they run -/
section
variable {η η1 η2 : List O} {δ : En} {fa fb : F D} {d e : D} {l m : List D} {n : Nat}
theorem rd_obj (h : η[n]? = some (.lst l)) : rdA η (.obj n) = some l := by unfold rdA; dsimp only; rw [h]
theorem rd_t : rdA η (.tup l) = some l := rfl
theorem dr_obj (h : η[n]? = some (.lst l)) : drD η (.obj n) = .lst l := by unfold drD; dsimp only; rw [h]
theorem one_of (h : fa δ η = .ok d η1) (hr : rdA η1 d = some l) : fsOne fa δ η = .ok (.one d) η1 := by
  unfold fsOne
  rw [h, bind_ok, hr]
theorem enm_of (h : fa δ η = .ok d η1) (hr : rdA η1 d = some l) : fsEnm fa δ η = .ok (.enm d) η1 := by
  unfold fsEnm
  rw [h, bind_ok, hr]
theorem size_one (hr : rdA η d = some l) : sizeS η (.one d) = l.length := by show ((rdA η d).getD []).length = _; rw [hr]; rfl
theorem size_enm (hr : rdA η d = some l) : sizeS η (.enm d) = l.length := by show ((rdA η d).getD []).length = _; rw [hr]; rfl
theorem lcL_run {vs : List Nat} {fs : F Src} {t : Tg} {ft : F Bool} {fe : F D} {src : Src} {r : R (List D)} (h : fs δ η = .ok src η1) (h2 : compL t ft fe (wipeD δ vs) src (sizeS η1 src + 1) 0 η1 = r) : fLcL vs fs t ft fe δ η = r := by
  unfold fLcL
  rw [h, bind_ok]; exact h2
end
end DL
/-! ### an own instance beside a number: ==, isinstance -/
namespace DL
open PySem L2
section
variable {X : Cx} {C : Ct} {W : WX} {pos p2 p : Pos} {e a b : Expr} {es : List Expr} {fe fa fb : F D}
variable {P : Program} {k n : Nat} {g A : Addr} {fd : FuncData} {ps ks : List Str} {df : DF} {x : Str}
end
end DL
namespace DL
open PySem L2
variable {X : Cx} {C : Ct} {W : WX} {fn : F (List D)}
end DL
namespace DL
open PySem L2
section
variable {X : Cx} {C : Ct} {W : WX} {a b : Expr} {fa fb : F D} {pos : Pos} {g : D → D → Option D} {op : CmpOp}
end
end DL
namespace DL
open PySem L2
/-! ### isinstance of what may be a list of the store -/
section
variable {X : Cx} {C : Ct} {W : WX} {e : Expr} {fe : F D} {pos : Pos}
end
end DL
namespace DL
open PySem PySem.Spec PyProof.Rows L2
/-! ### xs.pop() of a list of the store as a value; o.a, o.b, o.c = e -/
section
variable {X : Cx} {C : Ct} {W : WX} {e o : Expr} {fe fo : F D} {pos : Pos}
end
end DL
/-! ### a comprehension of two fors whose first walks what is read live (printed by mkdsa.py from DP9) -/
namespace DL
open PySem L2
open PyProof.Rows (envOfC)
section
variable {X : Cx} {C : Ct} {W : WX}
def compL2 (t : Tg) (ft : F Bool) (fi1 : F (List D)) (t1 : Tg) (ft1 : F Bool) (fe : F D) (vs1 : List Nat) (δw : En) (src : Src) : Nat → Nat → List O → R (List D)
  | 0, _, _ => .bad
  | f + 1, k, η => match curS η src k with
    | none => .bad
    | some none => .ok [] η
    | some (some x) => match asg t x δw with
      | none => .bad
      | some δ1 => (ft δ1 η).nox.bind fun b η => if b = true then (fi1 δ1 η).nox.bind fun es η => (compF t1 ft1 fe (wipeD δ1 vs1) es η).nox.bind fun l η => (compL2 t ft fi1 t1 ft1 fe vs1 δw src f (k + 1) η).bind fun ys η => .ok (l ++ ys) η
        else compL2 t ft fi1 t1 ft1 fe vs1 δw src f (k + 1) η
def fC2L (k : List D → List O → R (List D)) (vs vs1 : List Nat) (fi : F Src) (t : Tg) (ft : F Bool) (fi1 : F (List D)) (t1 : Tg) (ft1 : F Bool) (fe : F D) : F (List D) :=
  fun δ η => (fi δ η).bind fun src η => (compL2 t ft fi1 t1 ft1 fe vs1 (wipeD δ vs) src (sizeS η src + 1) 0 η).nox.bind k
variable {elt tg iter tg1 iter1 : Expr} {ifs ifs1 : List Expr} {scope : Scope} {pos p2 p3 p4 q4 spos py : Pos} {fi : F Src} {fi1 : F (List D)} {t t1 : Tg} {ft ft1 : F Bool} {felt : F D}
/-! for math -/
theorem fC2L_a {k : List D → List O → R (List D)} {vs vs1 : List Nat} {fi : F Src} {t : Tg} {ft : F Bool} {fi1 : F (List D)} {t1 : Tg} {ft1 : F Bool} {fe : F D} {δ : En} {η : List O} : fC2L k vs vs1 fi t ft fi1 t1 ft1 fe δ η = (fi δ η).bind fun src η => (compL2 t ft fi1 t1 ft1 fe vs1 (wipeD δ vs) src (sizeS η src + 1) 0 η).nox.bind k := rfl
end
end DL
namespace DL
open PySem PySem.Spec PyProof.Rows L2
/-! ### xs.index(z) of a list of texts -/
def idxS : List D → D → Option D
  | l, .str k => match strsOf l with
    | some ns => if k ∈ ns then some (.int (ns.idxOf k : Nat)) else none
    | none => none
  | _, _ => none
section
variable {X : Cx} {C : Ct} {W : WX} {o e : Expr} {fo fa : F D} {apos cpos : Pos}
theorem idxS_of {l : List Str} {z : Str} (h : z ∈ l) : idxS (l.map .str) (.str z) = some (.int (l.idxOf z : Nat)) := by
  unfold idxS
  dsimp only
  rw [strsOf_map]
  exact if_pos h
end
end DL
namespace DL
open PySem L2
def b_Guide_book : S := (sRet (fFld 3 ["own_book", "own_rows"] 0 (fV 0)))
def m_Guide_book : DF := runD 1 b_Guide_book
def b_Book_word_names : S := (sRet (fFrz (fLc [1, 2, 3] (fiA (fFld 0 ["sort_rows", "word_rows", "own_memory"] 1 (fV 0))) (.tp [(.nm 1), (.nm 2), (.nm 3)]) fYes (fV 1))))
def m_Book_word_names : DF := runD 4 b_Book_word_names
def b_Book_name_price : S := (sSeq (sFor (fiA (fFld 0 ["sort_rows", "word_rows", "own_memory"] 0 (fV 0))) (.tp [(.nm 2), (.nm 3)]) (sIf (toB (fOp eqD (fV 2) (fV 1))) (sRet (fV 3)) SR.nx))
    (sRaise1 40 "name" "UnknownSort" (fV 1)))
def m_Book_name_price : DF := runD 4 b_Book_name_price
def b_Book_can_stand : S := (sSeq (sSet 3 (fOp ixD (fMethX 0 ["sort_rows", "word_rows", "own_memory"] 2 0 2 m_Book_word_row [0, 1] [] (fV 0) (fCons (fV 1) fNil) fNil) (fC (.int 1))))
    (sSeq (sDrop (fMethX 0 ["sort_rows", "word_rows", "own_memory"] 2 0 2 m_Book_name_price [0, 1] [] (fV 0) (fCons (fV 2) fNil) fNil))
    (sRet (fOp inD (fV 2) (fV 3)))))
def m_Book_can_stand : DF := runD 4 b_Book_can_stand
def b_plain_holds : S := (sSeq (sAsg (fV 2) (.tp [(.nm 3), (.nm 4), (.nm 5), (.nm 6), (.nm 7), (.nm 8)]))
    (sSeq (sIf (toB (fOp eqD (fOp ixD (fV 0) (fC (.int 0))) (fC (.str "last")))) (sRet (fOp notInD (fV 1) (fV 7))) SR.nx)
    (sSeq (sIf (toB (fOp eqD (fOp ixD (fV 0) (fC (.int 0))) (fC (.str "told")))) (sRet (fOp leD (fV 3) (fOp ixD (fV 0) (fC (.int 1))))) SR.nx)
    (sSeq (sIf (toB (fOp eqD (fOp ixD (fV 0) (fC (.int 0))) (fC (.str "named")))) (sRet (fOp leD (fV 4) (fOp ixD (fV 0) (fC (.int 1))))) SR.nx)
    (sSeq (sIf (toB (fOp eqD (fOp ixD (fV 0) (fC (.int 0))) (fC (.str "quiet")))) (sRet (fOp gtD (fOp ixD (fV 8) (fV 1)) (fOp ixD (fV 0) (fC (.int 1))))) SR.nx)
    (sRet (fIf (toB (fOp eqD (fOp ixD (fV 0) (fC (.int 0))) (fC (.str "calm")))) (fOp eqD (fV 6) (fC (.int 1))) (fOp eqD (fV 5) (fC (.int 1))))))))))
def m_plain_holds : DF := runD 9 b_plain_holds
def b_test_holds : S := (sSeq (sIf (toB (fOp eqD (fOp ixD (fV 0) (fC (.int 0))) (fC (.str "not")))) (sRet (fNot (fCall 3 m_plain_holds (fCons (fOp ixD (fV 0) (fC (.int 1))) (fCons (fV 1) (fCons (fV 2) fNil)))))) SR.nx)
    (sRet (fCall 3 m_plain_holds (fCons (fV 0) (fCons (fV 1) (fCons (fV 2) fNil))))))
def m_test_holds : DF := runD 3 b_test_holds
def b_Guide_word_by : S := (sSeq (sIf (toB (fOp ltD (fOp ixD (fV 2) (fC (.int 0))) (fC (.int 0)))) (sRet (fC .non)) SR.nx)
    (sSeq (sSet 3 (fMeth 0 ["sort_rows", "word_rows", "own_memory"] 1 0 1 m_Book_word_names [0] [] (fFld 3 ["own_book", "own_rows"] 0 (fV 0)) fNil fNil))
    (sSeq (sFor (fiA (fFld 3 ["own_book", "own_rows"] 1 (fV 0))) (.tp [(.nm 4), (.nm 5)]) (sIf (fTru (fMethX 0 ["sort_rows", "word_rows", "own_memory"] 3 0 3 m_Book_can_stand [0, 1, 2] [] (fFld 3 ["own_book", "own_rows"] 0 (fV 0)) (fCons (fV 4) (fCons (fV 1) fNil)) fNil)) (sIf (fTru (fCall1 allC (fFrz (fLc [6] (fiA (fV 5)) (.nm 6) fYes (fCall 3 m_test_holds (fCons (fV 6) (fCons (fLm idxS (fV 3) (fV 4)) (fCons (fV 2) fNil)))))))) (sRet (fV 4)) SR.nx) SR.nx))
    (sRet (fC .non)))))
def m_Guide_word_by : DF := runD 7 b_Guide_word_by
def b_test_reach : S := (sSeq (sSet 1 (fIf (toB (fOp eqD (fOp ixD (fV 0) (fC (.int 0))) (fC (.str "not")))) (fOp ixD (fV 0) (fC (.int 1))) (fV 0)))
    (sRet (fIf (toB (fOp eqD (fCall1 lenD (fV 1)) (fC (.int 2)))) (fOp ixD (fV 1) (fC (.int 1))) (fC (.int 0)))))
def m_test_reach : DF := runD 2 b_test_reach
def b_Guide_reach : S := (sRet (fCall1 maxC (fFrz (fLstN (fCons (fC (.int 0)) (fStar (fFrz (fC2 kLst [1, 2, 3] [3] (fiA (fFld 3 ["own_book", "own_rows"] 1 (fV 0))) (.tp [(.nm 1), (.nm 2)]) fYes (fiA (fV 2)) (.nm 3) fYes (fCall 1 m_test_reach (fCons (fV 3) fNil)))) fNil))))))
def m_Guide_reach : DF := runD 4 b_Guide_reach
def b_Speaker_view_of : S := (sSeq (sPar 3 4 (fOp subD (fCall1 lenD (fDr (fFld 4 ["own_guide", "own_told", "own_rings"] 2 (fV 0)))) (fC (.int 1))) (fOp addD (fProp 3 1 m_Guide_reach (fFld 4 ["own_guide", "own_told", "own_rings"] 0 (fV 0))) (fC (.int 1))))
    (sSeq (sSet 5 (fMeth 0 ["sort_rows", "word_rows", "own_memory"] 1 0 1 m_Book_words [0] [] (fProp 3 1 m_Guide_book (fFld 4 ["own_guide", "own_told", "own_rings"] 0 (fV 0))) fNil fNil))
    (sSeq (sFrz 6 (fLcL [17] (fsOne (fV 2)) (.nm 17) (toB (fOp eqD (fOp ixD (fV 17) (fC (.int 1))) (fV 1))) (fV 17)))
    (sSeq (sOwn 7 (fLstN fNil))
    (sSeq (sFor (fiA (fV 5)) (.tp [(.nm 8), (.nm 9), (.nm 10)]) (sSeq (sFrz 11 (fLcL [17] (fsOne (fV 2)) (.nm 17) (fAndB (toB (fOp neD (fOp ixD (fV 17) (fC (.int 1))) (fV 1))) (toB (fOp inD (fOp ixD (fOp ixD (fV 17) (fC (.int 1))) (fC (.int 0))) (fV 9)))) (fOp ixD (fV 17) (fC (.int 0)))))
    (sMut 7 muApp (fCons (fIf (toB (fOp neD (fV 11) (fFrz (fLstN fNil)))) (fCall1 minC (fFrz (fLstN (fCons (fV 4) (fCons (fOp subD (fV 3) (fOp ixD (fV 11) (fNeg (fC (.int 1))))) fNil))))) (fV 4)) fNil))))
    (sSeq (sIf (toB (fOp eqD (fV 6) (fFrz (fLstN fNil)))) (sRet (fTup (fCons (fNeg (fC (.int 1))) (fCons (fNeg (fC (.int 1))) (fCons (fC (.int 0)) (fCons (fC (.int 0)) (fCons (fTup fNil) (fCons (fCall1 tupC (fVo 7)) fNil)))))))) SR.nx)
    (sSeq (sSet 12 (fCall1 maxC (fFrz (fLcL [18, 17] (fsEnm (fV 2)) (.tp [(.nm 18), (.nm 17)]) (toB (fOp eqD (fOp ixD (fV 17) (fC (.int 1))) (fV 1))) (fV 18)))))
    (sSeq (sSet 13 (fSlL (fV 2) (fPt (fOp addD (fV 12) (fC (.int 1)))) fNoP))
    (sSeq (sFrz 14 (fLc [18, 17] (fiE (fV 5)) (.tp [(.nm 18), (.nm 17)]) (fTru (fCall1 anyC (fFrz (fLc [19] (fiA (fV 13)) (.nm 19) fYes (fOp inD (fOp ixD (fOp ixD (fV 19) (fC (.int 1))) (fC (.int 0))) (fOp ixD (fV 17) (fC (.int 1)))))))) (fV 18)))
    (sSeq (sFrz 15 (fLc [17] (fiA (fV 6)) (.nm 17) (toB (fOp isN (fOp ixD (fV 17) (fC (.int 2))) (fC .non))) (fOp ixD (fV 17) (fC (.int 0)))))
    (sSeq (sSet 16 (fCall1 intC (fOp notInD (fC (.int 1)) (fSlL (fFld 4 ["own_guide", "own_told", "own_rings"] 2 (fV 0)) (fPt (fOp addD (fOp ixD (fOp ixD (fV 6) (fNeg (fC (.int 1)))) (fC (.int 0))) (fC (.int 1)))) fNoP))))
    (sRet (fTup (fCons (fCall1 minC (fFrz (fLstN (fCons (fV 4) (fCons (fOp subD (fV 3) (fOp ixD (fOp ixD (fV 6) (fNeg (fC (.int 1)))) (fC (.int 0)))) fNil))))) (fCons (fCall1 minC (fFrz (fLstN (fCons (fV 4) (fCons (fOp subD (fV 3) (fOp ixD (fV 15) (fNeg (fC (.int 1))))) fNil))))) (fCons (fCall1 intC (fOp isN (fOp ixD (fOp ixD (fV 6) (fNeg (fC (.int 1)))) (fC (.int 2))) (fC .non))) (fCons (fV 16) (fCons (fCall1 tupC (fV 14)) (fCons (fCall1 tupC (fVo 7)) fNil)))))))))))))))))))
def m_Speaker_view_of : DF := runD 20 b_Speaker_view_of
def b_Speaker_say : S := (sSeq (sDrop (fCallX 2 m_check_things (fCons (fProp 3 1 m_Guide_book (fFld 4 ["own_guide", "own_told", "own_rings"] 0 (fV 0))) (fCons (fV 1) fNil))))
    (sSeq (sIf (toB (fOp notInD (fV 2) (fTup (fCons (fC (.int 0)) (fCons (fC (.int 1)) fNil))))) (sRaise1 33 "at" "InvalidBell" (fCall1 lenD (fDr (fFld 4 ["own_guide", "own_told", "own_rings"] 2 (fV 0))))) SR.nx)
    (sSeq (sMutO muApp (fFld 4 ["own_guide", "own_told", "own_rings"] 2 (fV 0)) (fCons (fV 2) fNil))
    (sSeq (sParNV 3 4 (fLstN fNil) (fNewO (fC2L kLst [8, 9] [9] (fsOne (fFld 4 ["own_guide", "own_told", "own_rings"] 1 (fV 0))) (.nm 8) fYes (fiA (fV 8)) (.nm 9) fYes (fV 9))))
    (sSeq (sSet 5 (fCall1 lenD (fDr (fV 4))))
    (sSeq (sFor (fiA (fCall 1 m_plain_things (fCons (fV 1) fNil))) (.nm 6) (sSeq (sSet 7 (fMethX 3 ["own_book", "own_rows"] 3 0 3 m_Guide_word_by [0, 1, 2] [] (fFld 4 ["own_guide", "own_told", "own_rings"] 0 (fV 0)) (fCons (fOp ixD (fV 6) (fC (.int 0))) (fCons (fMeth 4 ["own_guide", "own_told", "own_rings"] 3 0 3 m_Speaker_view_of [0, 1, 2] [] (fV 0) (fCons (fV 6) (fCons (fV 4) fNil)) fNil) fNil)) fNil))
    (sSeq (sMut 3 muApp (fCons (fIf (toB (fOp isN (fV 7) (fC .non))) (fV 6) (fV 7)) fNil))
    (sMutO muApp (fV 4) (fCons (fTup (fCons (fOp subD (fCall1 lenD (fDr (fFld 4 ["own_guide", "own_told", "own_rings"] 2 (fV 0)))) (fC (.int 1))) (fCons (fV 6) (fCons (fV 7) fNil)))) fNil)))))
    (sFz 3 (sSeq (sMutO muApp (fFld 4 ["own_guide", "own_told", "own_rings"] 1 (fV 0)) (fCons (fSlL (fV 4) (fPt (fV 5)) fNoP) fNil))
    (sRet (fV 3))))))))))
def m_Speaker_say : DF := runD 10 b_Speaker_say
end DL
namespace DL
open PySem PySem.Spec PyProof.Rows L2
/-! ### o.a, o.b = e -/
section
variable {X : Cx} {C : Ct} {W : WX} {e o : Expr} {fe fo : F D} {pos : Pos}
end
section
variable {K : PySem.W.Frag} {fd : FuncData} {ps ks : List Str} {np : Nat} {ix : List Nat} {T D : Addr} {o : Obj} {its : Array Value} {m : Nat}
end
end DL
namespace DL
open PySem PySem.Spec PyProof.Rows L2 PySem.W
/-! ### sorted(xs) of plain data -/
section
variable {X : Cx} {C : Ct} {W : WX} {e a : Expr} {fa : F D} {ta : TE} {p p2 q pos : Pos}
end
end DL
namespace DL
open PySem PySem.Spec PyProof.Rows L2
/-! ### dict(pairs)[k], pairs with texts as keys, each key once -/
section
variable {C : Ct} {G : Gh} {H : Hp}
end
section
variable {X : Cx} {C : Ct} {W : WX} {a i : Expr} {fa fi : F D} {p p2 q pos : Pos}
end
end DL
/-! while; xs.pop(0) of an own list, taken apart; o | e of one own class; a slice as a new list -/
namespace DL
open PySem L2
section
variable {X : Cx} {C : Ct} {W : WX} {pos : Pos} {c : Expr} {body : List Stmt} {t : F Bool} {fb : S}
/-! ### t = xs.pop(0), xs an own list -/
/-! ### a slice as a new list -/
variable {a b : Expr} {fa fo : F D} {lo hi : Option Expr} {fl fh : F (Option Int)} {p2 : Pos}
/-! ### o + e by an own method, both of one own class -/
variable {fb' : F D} {k n : Nat} {g : Addr} {fd : FuncData} {ps : List Str} {df : DF} {E : XK}
end
end DL
/-! x, xs[k] = e; a, b, xs = e1, e2, [..] where inner blocks read the names -/
namespace DL
open PySem L2
section
variable {X : Cx} {C : Ct} {W : WX} {pos : Pos} {fa fb fe : F D} {fn : F (List D)}
end
end DL
set_option maxHeartbeats 2000000
/-! raise X(..) from why, in the suite of except Y as why -/
namespace HotW
open PySem PySem.Spec PyProof.Rows HotX
end HotW
/-! exceptions whose context is None: own classes raised by a def, the def's promise; the same made in an except suite -/
namespace DX
open PySem PySem.W PySem.Calls PyProof.Rows PySem.HandSPX
structure OwnMade6 (h h' : Heap) (e C d : Addr) (Pm : (Str → Option Value) → Prop) : Prop where
  keep : ∀ b o, h.get? b = some o → h'.get? b = some o
  new : h.objs.size ≤ e
  obj : ∃ oe vs, h'.get? e = some oe ∧ oe.cls = .ref C ∧ oe.dict = some d ∧ oe.data = .fields vs ∧ vs[1]? = some .none ∧ vs[2]? = some .none ∧ 4 < vs.size
  dbig : h.objs.size ≤ d
  dne : d ≠ e
  ns : ∃ m, h'.Ns1 d m ∧ Pm m
section
variable {prog : Program} {w : World} {A : Around} {s : Shared} {K : Frag} {C fI cc : Addr} {B newId initId : String} {bmB : List Value} {R : Result → Shared → Prop}
end
end DX
namespace L2
open PySem PySem.Spec PyProof.Rows DX
section
variable {X : Cx} {C fI cc : Addr} {B newId initId : String} {bmB : List Value} {k n : Nat} {x : Str} {p pos : Pos} {a : Expr} {ta : TA} {fs : List V → List (Str × V)} {pins : List (Addr × Obj)} {σ : St} {H : Hp} {s : Shared} {Q : XK}
end
end L2
namespace DL
open PySem L2
open PyProof.Rows (envOfC)
section
variable {X : Cx} {C : Ct} {W : WX} {E : XK} {pos p2 p pos2 : Pos} {e a b : Expr} {es : List Expr} {fe fa fb fo : F D} {fs fn fk : F (List D)} {x : Str}
end
section
variable {P : Program} {w : World} {K : PySem.W.Frag} {mg : Str → Option Value} {base : Heap} {C : Ct}
end
section
variable {X : Cx} {C : Ct} {W : WX} {E : XK} {pos p : Pos} {e : Expr} {es : List Expr} {fs : F (List D)} {x : Str} {k n : Nat} {f : Addr} {fd : FuncData} {ps : List Str} {df : DF}
end
end DL
set_option maxHeartbeats 2000000
/-! try: b except Y as why: raise X(e) from why -/
namespace L2H
open PySem PySem.Spec PyProof.Rows L2 HotX HotW
end L2H
namespace L2
open PySem PySem.Spec PyProof.Rows
section
variable {X : Cx} {pins : List (Addr × Obj)} {σ : St} {H : Hp} {s : Shared}
/-- the locals without a name -/
theorem Inv.gone {i : Nat} {n : Str} (I : Inv X pins σ H s) (hN : X.N.Nodup) (hi : X.N[i]? = some n) :
    ∃ m, s.heap.Ns X.env.locals m ∧ ∀ (h' : Heap) (v : Option Value) (t' : Nat), h'.Ns X.env.locals (fun x => if x = n then v else m x) → Heap.SameBut X.env.locals s.heap h' → Inv X pins (σ.set i none) H { s with heap := h', toks := t' } := by
  obtain ⟨m, hn, hlk⟩ := id I.loc
  refine ⟨m, hn, fun h' v t' hn' hs => ?_⟩
  have neL : ∀ b o, X.s_0.heap.get? b = some o → b ≠ X.env.locals := fun b o e => Nat.ne_of_lt (Nat.lt_of_lt_of_le (Heap.lt_size e) I.ok.above)
  refine ⟨I.ok, I.os, I.bare, ⟨fun b o e n hb hx => ?_, fun b o e n hb hx => ?_, I.base.free, fun b o e hx => ?_, I.base.tups, I.base.frzs, I.base.tbls⟩, ⟨_, hn', fun j y v' e1 e2 e3 => ?_⟩, fun y c e => ?_, I.free, I.freeC, fun p hp => ?_, fun b ob e => ?_, by simpa using I.len⟩
  · exact (hs.2 b (neL b o e)).trans (I.base.keep b o e n hb hx)
  · obtain ⟨sl, e1⟩ := I.base.slot b o e n hb hx
    exact ⟨sl, (hs.2 b (neL b o e)).trans e1⟩
  · obtain ⟨o', e1⟩ := I.base.there b o e hx
    exact ⟨o', (hs.2 b (neL b o e)).trans e1⟩
  · by_cases hj : j = i
    · subst hj
      by_cases hlt : j < σ.length
      · rw [List.getElem?_set_self hlt] at e2; cases e2
      · rw [List.getElem?_eq_none (by simpa using hlt)] at e2; cases e2
    · rw [List.getElem?_set_ne (Ne.symm hj)] at e2
      obtain ⟨u', r', q⟩ := hlk j y v' e1 e2 e3
      refine ⟨u', r', ?_⟩
      rcases q with ⟨k, e⟩ | ⟨k, c, e, z⟩
      · have ny : y ≠ n := fun e => hj (nodup_ix hN e1 (e ▸ hi))
        exact .inl ⟨k, (if_neg ny).trans e⟩
      · exact .inr ⟨k, c, e, z.sameBut hs (I.cne y c e)⟩
  · obtain ⟨w', z⟩ := I.cell y c e
    exact ⟨w', z.sameBut hs (I.cne y c e)⟩
  · obtain ⟨e, n, ne, nf, d⟩ := I.pin p hp
    exact ⟨(hs.2 p.1 ne).trans e, n, ne, nf, d⟩
  · refine (I.hok b ob e).stay (fun c w' hc q => (hs.2 c ?_).trans q) (fun _ q => q) fun _ _ q => q
    intro z
    subst z
    rcases hc with hc | hc
    · rw [← hc, I.free] at e; cases e
    · rw [I.free] at hc; cases hc
end
end L2
namespace L2H
open PySem PySem.Spec PyProof.Rows L2 HotX HotW
section
variable {X : Cx} {x n : Str} {c : Value} {i : Nat} {body : List Stmt} {e : Expr} {np cpos rpos pos pos' : Pos} {tb : WX → TS} {t : L2.St → Hp → XK → Prop} {Wout : WX}
end
end L2H
/-! try: b except Y as why: raise X(e) from why, over the data -/
namespace DL
open PySem PySem.Spec PyProof.Rows L2 L2H
section
variable {C : Ct} {B : Bs} {G : Gh} {H : Hp} {δ : En} {σ : L2.St} {η : List O}
end
section
variable {X : Cx} {C : Ct} {W : WX} {x1 x2 n f : Str} {i c1 c2 k : Nat} {fs1 : List Str} {body : List Stmt} {e : Expr} {np p q cpos rpos pos pos' : Pos} {fb : S} {fe : F D}
end
end DL
namespace DL
open PySem L2 PL
/-! ### plain: rows that policies with one way each allow -/
/-! the five policies -/
section
variable {bits : List Int}
/-! what they ask -/
end
end DL
namespace DL
open PySem L2 PL
section
variable {η : List O}
end
end DL
namespace DL
open PySem L2 PL
/-! ### stores: all but the feed stays, more may come -/
def FA_ (n : Nat) (η : List O) : Prop := ∃ o, η[n]? = some o ∧ Feed o
structure FSt (n : Nat) (η η' : List O) : Prop where
  feed : FA_ n η'
  keep : ∀ i x, i ≠ n → η[i]? = some x → η'[i]? = some x
  len : η.length ≤ η'.length
theorem FSt.trans {n : Nat} {a b c : List O} (h : FSt n a b) (h2 : FSt n b c) : FSt n a c := ⟨h2.feed, fun i x hi hx => h2.keep i x hi (h.keep i x hi hx), Nat.le_trans h.len h2.len⟩
theorem FSt.refl {n : Nat} {η : List O} (h : FA_ n η) : FSt n η η := ⟨h, fun _ _ _ h => h, Nat.le_refl _⟩
theorem FSt.app {n : Nat} {η : List O} (h : FA_ n η) (x : List O) : FSt n η (η ++ x) := by
  have k : ∀ (i : Nat) (o : O), η[i]? = some o → (η ++ x)[i]? = some o := fun i o e => by rw [List.getElem?_append_left (List.getElem?_eq_some_iff.mp e).1]; exact e
  obtain ⟨o, e, f⟩ := h
  exact ⟨⟨o, k _ _ e, f⟩, fun i o _ e => k i o e, by rw [List.length_append]; omega⟩
theorem FSt.ext {n : Nat} {η η' : List O} (h : FSt n η η') (x : List O) : FSt n η (η' ++ x) := h.trans (.app h.feed x)
theorem FSt.new {n : Nat} {η η' : List O} (h : FSt n η η') (x : O) : (η' ++ [x])[η'.length]? = some x := get_last
/-- a store around its feed -/
theorem FA_.split {n : Nat} {η : List O} (h : FA_ n η) : ∃ fp o r, η = fp ++ o :: r ∧ fp.length = n ∧ Feed o := by
  obtain ⟨o, e, f⟩ := h
  obtain ⟨h1, h2⟩ := List.getElem?_eq_some_iff.mp e
  refine ⟨η.take n, o, η.drop (n + 1), ?_, by rw [List.length_take]; omega, f⟩
  rw [← h2, ← List.drop_eq_getElem_cons h1, List.take_append_drop]
theorem FSt.mk' {fp r r' : List O} {o o' : O} (f : Feed o') (hr : ∀ (i : Nat) x, r[i]? = some x → r'[i]? = some x) (hl : r.length ≤ r'.length) : FSt fp.length (fp ++ o :: r) (fp ++ o' :: r') := by
  refine ⟨⟨o', get_fp, f⟩, fun i x hi hx => ?_, by simp; omega⟩
  by_cases h : i < fp.length
  · rw [List.getElem?_append_left h] at hx ⊢; exact hx
  · rw [List.getElem?_append_right (by omega)] at hx ⊢
    obtain ⟨j, hj⟩ : ∃ j, i - fp.length = j + 1 := ⟨i - fp.length - 1, by omega⟩
    rw [hj, List.getElem?_cons_succ] at hx ⊢
    exact hr j x hx
theorem FSt.mk0 {fp r : List O} {o o' : O} (f : Feed o') : FSt fp.length (fp ++ o :: r) (fp ++ o' :: r) := .mk' f (fun _ _ h => h) (Nat.le_refl _)
section
variable {n : Nat} {η : List O} {ks : List (Str × Int)} {rs : List Row} {m : D}
theorem feedF {ns : List Int} (h : ns.length ≤ 63) (η : List O) : ∃ η', m_law_feed [.lst (ns.map .int)] η = .ok (.obj η.length) η' ∧ FA_ η.length η' ∧ ∀ (i : Nat) (x : O), η[i]? = some x → η'[i]? = some x := by
  obtain ⟨o, e, f⟩ := feed_ok (η := η) h
  exact ⟨_, e, ⟨o, get_last, f⟩, fun i x e => by rw [List.getElem?_append_left (List.getElem?_eq_some_iff.mp e).1]; exact e⟩
theorem pickF (h : FA_ n η) (m : Int) (h0 : 0 < m) (h1 : m < 1073741824) : ∃ (k : Nat) (η' : List O), m_law_pick [.obj n, .int m] η = .ok (.int k) η' ∧ FSt n η η' ∧ (k : Int) < m := by
  obtain ⟨fp, o, r, rfl, rfl, f⟩ := h.split
  obtain ⟨k, o', e, f', k0, k1⟩ := pick0 (fp := fp) (r := r) f m h0 h1
  obtain ⟨k', rfl⟩ : ∃ k' : Nat, k = k' := ⟨k.toNat, by omega⟩
  exact ⟨k', _, e, .mk0 f', k1⟩
theorem ofF (h : FA_ n η) (l : List D) (h0 : 0 < l.length) (h1 : l.length < 1073741824) : ∃ d η', m_law_of [.obj n, .lst l] η = .ok d η' ∧ FSt n η η' ∧ d ∈ l := by
  obtain ⟨fp, o, r, rfl, rfl, f⟩ := h.split
  obtain ⟨d, o', e, f', hd⟩ := of0 (fp := fp) (r := r) f l h0 h1
  exact ⟨d, _, e, .mk0 f', hd⟩
theorem ofM {α : Type} {enc : α → D} (h : FA_ n η) (l : List α) (h0 : 0 < l.length) (h1 : l.length < 1073741824) : ∃ x η', m_law_of [.obj n, .lst (l.map enc)] η = .ok (enc x) η' ∧ FSt n η η' ∧ x ∈ l := by
  obtain ⟨d, η', e, s, hd⟩ := ofF h (l.map enc) (by rw [List.length_map]; exact h0) (by rw [List.length_map]; exact h1)
  obtain ⟨x, hx, rfl⟩ := List.mem_map.mp hd
  exact ⟨x, η', e, s, hx⟩
theorem namesF (h : FA_ n η) {m : Nat} (hm : m ≤ 26) : ∃ ns η', m_law_names [.obj n, .int m] η = .ok (.lst (ns.map .str)) η' ∧ FSt n η η' ∧ ns.length = m ∧ Names ns := by
  obtain ⟨fp, o, r, rfl, rfl, f⟩ := h.split
  obtain ⟨ns, o', e, f', h1, h2⟩ := names_ok (fp := fp) (r := r) f hm
  exact ⟨ns, _, e, .mk0 f', h1, h2⟩
end
section
variable {δ : En} {η η1 η2 η3 : List O} {fa fb fc fo : F D} {fs : F (List D)} {d e g : D} {l l0 : List D} {n : Nat}
theorem args1 (h : fa δ η = .ok d η1) : fCons fa fNil δ η = .ok [d] η1 := by rw [fCons_a, h]; rfl
theorem args2 (h : fa δ η = .ok d η1) (h2 : fb δ η1 = .ok e η2) : fCons fa (fCons fb fNil) δ η = .ok [d, e] η2 := by rw [fCons_a, h, bind_ok, args1 h2]; rfl
theorem args3 (h : fa δ η = .ok d η1) (h2 : fb δ η1 = .ok e η2) (h3 : fc δ η2 = .ok g η3) : fCons fa (fCons fb (fCons fc fNil)) δ η = .ok [d, e, g] η3 := by rw [fCons_a, h, bind_ok, args2 h2 h3]; rfl
theorem appO_of (h : fo δ η = .ok (.obj n) η) (hn : η[n]? = some (.lst l0)) (h2 : fs δ η = .ok [d] η1) (hn1 : η1[n]? = some (.lst l)) (hz : l.length < 1000000) : sMutO muApp fo fs δ η = .nx δ (η1.set n (.lst (l ++ [d]))) := by
  rw [sMutO_a, h, toS_ok]
  try dsimp only
  rw [hn]
  try dsimp only
  rw [h2, toS_ok]
  try dsimp only
  rw [hn1]
  try dsimp only
  rw [muApp_a, if_pos (by rw [sizeLine_eq]; omega)]
theorem call_of {k : Nat} {m : DF} {ds : List D} (h : fs δ η = .ok ds η1) (hl : ds.length = k) (h2 : m ds η1 = .ok d η2) : fCall k m fs δ η = .ok d η2 := by
  rw [fCall_a, h, bind_ok, arg_a, if_pos hl, h2]; rfl
theorem lc_of' {vs : List Nat} {fi : F (List D)} {tg : Tg} {t : F Bool} {ds ys : List D} (h : fi δ η = .ok ds η1) (h2 : compF tg t fa (wipeD δ vs) ds η1 = .ok ys η2) : fLc vs fi tg t fa δ η = .ok ys η2 := by rw [fLc_a, h, bind_ok]; exact h2
theorem frzE_of {fn : F (List D)} (h : fn δ η = .ok l η1) : fFrz fn δ η = .ok (.lst l) η1 := by rw [fFrz_a, h]; rfl
end
end DL
namespace DL
open PySem L2 PL
/-- a walk that may end within -/
theorem loop_x {t : Tg} {b : S} (W : List Nat) (I : Nat → En → List O → Prop) (R : SR → Prop) {ds : List D} {δ : En} {η : List O} (h0 : I 0 δ η)
    (hs : ∀ k x δ1 η1, ds[k]? = some x → Kp W δ δ1 → I k δ1 η1 → ∃ δ1', asg t x δ1 = some δ1' ∧ ((∃ δ2 η2, (b δ1' η1 = .nx δ2 η2 ∨ b δ1' η1 = .ct δ2 η2) ∧ Kp W δ δ2 ∧ I (k + 1) δ2 η2) ∨ (R (b δ1' η1) ∧ ∀ f : S, (b δ1' η1).turn f = b δ1' η1))) :
    (∃ δ' η', loopF t b ds δ η = .nx δ' η' ∧ Kp W δ δ' ∧ I ds.length δ' η') ∨ R (loopF t b ds δ η) := by
  have go : ∀ (n k : Nat) (δ1 : En) (η1 : List O), n + k = ds.length → Kp W δ δ1 → I k δ1 η1 → (∃ δ' η', loopF t b (ds.drop k) δ1 η1 = .nx δ' η' ∧ Kp W δ δ' ∧ I ds.length δ' η') ∨ R (loopF t b (ds.drop k) δ1 η1) := by
    intro n
    induction n with
    | zero =>
      intro k δ1 η1 h1 hk hi
      have e : k = ds.length := by omega
      subst e
      rw [List.drop_length]
      exact .inl ⟨_, _, rfl, hk, hi⟩
    | succ n ih =>
      intro k δ1 η1 h1 hk hi
      have hlt : k < ds.length := by omega
      obtain ⟨δ1', e1, hh⟩ := hs k ds[k] δ1 η1 (List.getElem?_eq_getElem hlt) hk hi
      rw [List.drop_eq_getElem_cons hlt, loopF, e1]
      dsimp only
      rcases hh with ⟨δ2, η2, e2, k2, i2⟩ | ⟨r1, r2⟩
      · have : (b δ1' η1).turn (loopF t b (ds.drop (k + 1))) = loopF t b (ds.drop (k + 1)) δ2 η2 := by
          rcases e2 with e2 | e2 <;> rw [e2] <;> rfl
        rw [this]
        exact ih (k + 1) δ2 η2 (by omega) k2 i2
      · rw [r2]; exact .inr r1
  have := go ds.length 0 δ η (by omega) Kp.refl h0
  rwa [List.drop_zero] at this
theorem enum_get {l : List D} {k : Nat} {x : D} (h : (enumD l)[k]? = some x) : ∃ d, l[k]? = some d ∧ x = .tup [.int (k : Nat), d] := by
  unfold enumD at h
  rw [List.getElem?_map, List.getElem?_zipIdx] at h
  cases hd : l[k]? with
  | none => rw [hd] at h; cases h
  | some d => rw [hd] at h; cases h; exact ⟨d, rfl, by simp⟩
theorem enum_len {l : List D} : (enumD l).length = l.length := by simp [enumD]
theorem map_get {α : Type} {f : α → D} {l : List α} {k : Nat} {d : D} (h : (l.map f)[k]? = some d) : ∃ x, l[k]? = some x ∧ d = f x := by
  rw [List.getElem?_map] at h
  cases hx : l[k]? with
  | none => rw [hx] at h; cases h
  | some x => rw [hx] at h; cases h; exact ⟨x, rfl, rfl⟩
theorem fiE_of {fa : F D} {d : D} {l : List D} {δ : En} {η η1 : List O} (h : fa δ η = .ok d η1) (hd : seqOf d = some l) : fiE fa δ η = .ok (enumD l) η1 := by rw [fiE_a, h, bind_ok, hd]; rfl
theorem fiA_of {fa : F D} {d : D} {l : List D} {δ : En} {η η1 : List O} (h : fa δ η = .ok d η1) (hd : walkD d = some l) : fiA fa δ η = .ok l η1 := by rw [fiA_a, h, bind_ok, hd]; rfl
/-! ### talks -/
abbrev bkO (ks : List (Str × Int)) (rs : List Row) (m : D) : O := .ins 0 NSB [.lst (ks.map kd2), .lst (rs.map Row.d), m]
def thB (names : List Str) (t : Thing) : Bool := decide (t.1 ∈ names) && decide (0 ≤ t.2)
/-- the first item that is none, or one too many -/
def badTh (names : List Str) : List Thing → Nat → Option Nat
  | [], _ => none
  | t :: l, i => if i = 12 ∨ thB names t = false then some i else badTh names l (i + 1)
section
variable {η : List O} {b t : Nat} {ks : List (Str × Int)} {rs : List Row} {m : D} {δ : En}
theorem is_thing_any (hb : η[b]? = some (bkO ks rs m)) (t : Thing) : m_is_thing [.obj b, kd2 t] η = .ok (.bl (thB (ks.map (·.1)) t)) η := by
  by_cases h : t.1 ∈ ks.map (·.1)
  · by_cases h2 : 0 ≤ t.2
    · rw [is_thing_ok hb h h2]; simp [thB, h, h2]
    · rw [is_thing_no hb fun _ => by omega]; simp [thB, h2]
  · rw [is_thing_no hb fun z => absurd z h]; simp [thB, h]
theorem check_things_ok (hb : η[b]? = some (bkO ks rs m)) {d : D} {l : List Thing} (hd : seqOf d = some (l.map kd2)) :
    m_check_things [.obj b, d] η = match badTh (ks.map (·.1)) l 0 with | none => .ok .non η | some i => .exc 24 ["at", "code"] [.int i, .str "InvalidThing"] η := by
  have h := loop_x (t := .tp [.nm 2, .nm 3]) (b := sIf (fOrB (toB (fOp eqD (fV 2) (fC (.int 12)))) (fNotB (fTru (fCall 2 m_is_thing (fCons (fV 0) (fCons (fV 3) fNil)))))) (sRaise1 24 "at" "InvalidThing" (fV 2)) SR.nx) [2, 3]
    (fun k δ η1 => η1 = η ∧ badTh (ks.map (·.1)) (l.drop k) k = badTh (ks.map (·.1)) l 0) (fun r => ∃ i : Nat, badTh (ks.map (·.1)) l 0 = some i ∧ ∃ δ', r = .exc 24 ["at", "code"] [.int i, .str "InvalidThing"] δ' η)
    (ds := enumD (l.map kd2)) (δ := [vl (.obj b), vl d, none, none]) (η := η) ⟨rfl, rfl⟩ fun k x δ1 η1 hx hk ⟨hη, hi⟩ => by
      subst hη
      obtain ⟨d', hd', rfl⟩ := enum_get hx
      obtain ⟨th, hth, rfl⟩ := map_get hd'
      have e1 := is_thing_any hb th
      have hdr : l.drop k = th :: l.drop (k + 1) := by
        obtain ⟨q1, q2⟩ := List.getElem?_eq_some_iff.mp hth
        rw [List.drop_eq_getElem_cons q1, q2]
      rw [hdr, badTh] at hi
      refine ⟨_, by rw [asg_tp, asgs_cons, asg_nm]; rfl, ?_⟩
      by_cases c : k = 12 ∨ thB (ks.map (·.1)) th = false
      · rw [if_pos c] at hi
        refine .inr ?_
        have e : sIf (fOrB (toB (fOp eqD (fV 2) (fC (.int 12)))) (fNotB (fTru (fCall 2 m_is_thing (fCons (fV 0) (fCons (fV 3) fNil)))))) (sRaise1 24 "at" "InvalidThing" (fV 2)) SR.nx ((δ1.set 2 (vl (.int k))).set 3 (vl (kd2 th))) η1 = .exc 24 ["at", "code"] [.int k, .str "InvalidThing"] ((δ1.set 2 (vl (.int k))).set 3 (vl (kd2 th))) η1 := by
          refine if_t (η1 := η1) ?_ (by (try simp only [DLS, Nat.reduceAdd, Nat.reduceLeDiff, Nat.reduceEqDiff, Nat.reduceSub, Nat.reduceMul, Nat.reduceBEq, Nat.reduceLT, Int.reduceAdd, Int.reduceSub, Int.reduceMul, Int.reduceNeg, Int.reduceLE, Int.reduceLT, Int.reduceEq, Int.reduceNe, Int.reduceToNat, reduceIte, szT, szlT, hk.1]) <;> rfl)
          by_cases c1 : k = 12
          · have : (k : Int) = 12 := by omega
            simp only [DLS, Nat.reduceAdd, Nat.reduceLeDiff, Nat.reduceEqDiff, Nat.reduceSub, Nat.reduceMul, Nat.reduceBEq, Nat.reduceLT, Int.reduceAdd, Int.reduceSub, Int.reduceMul, Int.reduceNeg, Int.reduceLE, Int.reduceLT, Int.reduceEq, Int.reduceNe, Int.reduceToNat, reduceIte, szT, szlT, hk.1, this]
          · have c1' : ¬ (k : Int) = 12 := by omega
            have c2 := c.resolve_left c1
            simp only [DLS, Nat.reduceAdd, Nat.reduceLeDiff, Nat.reduceEqDiff, Nat.reduceSub, Nat.reduceMul, Nat.reduceBEq, Nat.reduceLT, Int.reduceAdd, Int.reduceSub, Int.reduceMul, Int.reduceNeg, Int.reduceLE, Int.reduceLT, Int.reduceEq, Int.reduceNe, Int.reduceToNat, reduceIte, szT, szlT, hk.1, hk.2 0 (by decide), c1', e1, c2]
        exact ⟨⟨k, hi.symm, _, e⟩, fun f => by rw [show (δ1.set 2 (some (L.val (D.int (k : Int))))) = δ1.set 2 (vl (.int k)) from rfl]; rw [e]; rfl⟩
      · rw [if_neg c] at hi
        have c1 : ¬ (k : Int) = 12 := by intro z; exact c (.inl (by omega))
        have c2 : thB (ks.map (·.1)) th = true := by
          cases h : thB (ks.map (·.1)) th with
          | true => rfl
          | false => exact absurd (.inr h) c
        exact .inl ⟨_, _, .inl (if_fn (η1 := η1) (by (try simp only [DLS, Nat.reduceAdd, Nat.reduceLeDiff, Nat.reduceEqDiff, Nat.reduceSub, Nat.reduceMul, Nat.reduceBEq, Nat.reduceLT, Int.reduceAdd, Int.reduceSub, Int.reduceMul, Int.reduceNeg, Int.reduceLE, Int.reduceLT, Int.reduceEq, Int.reduceNe, Int.reduceToNat, reduceIte, szT, szlT, hk.1, hk.2 0 (by decide), c1, e1, c2]) <;> rfl)), .st (.st hk (by decide)) (by decide), rfl, hi⟩
  have hR : (fiE (fV 1)) [vl (.obj b), vl d, none, none] η = .ok (enumD (l.map kd2)) η := fiE_of rfl hd
  rcases h with ⟨δ', η', el, kp, rfl, hi⟩ | ⟨i, hi, δ', el⟩
  · rw [enum_len, List.length_map, List.drop_length, badTh] at hi
    rw [← hi]
    exact run_nx2 rfl (for_of hR el)
  · rw [hi]
    exact run_ex2 rfl (for_of hR el)
theorem plain_ok {d : D} {l : List Thing} (hd : walkD d = some (l.map kd2)) : m_plain_things [d] η = .ok (lineD l) η := by
  have z2 : (2 : Nat) ≤ sizeLine := by rw [sizeLine_eq]; decide
  refine run_rt2 (δ := [vl d, none, none]) rfl (ret_of (frzE_of (lc_of' (fiA_of rfl hd) ?_)))
  have := comp_enc (t := .tp [.nm 1, .nm 2]) (ft := fYes) (fe := fTup (fCons (fV 1) (fCons (fV 2) fNil))) (δw := wipeD [vl d, none, none] [1, 2]) (η := η) kd2 (fun _ => true) (fun t => t) kd2 (xs := l) fun t ht => by
    refine ⟨_, by rw [kd2, asg_tp, asgs_cons, asg_nm]; rfl, rfl, fun _ => ?_⟩
    simp only [DLS, Nat.reduceAdd, Nat.reduceLeDiff, Nat.reduceEqDiff, Nat.reduceSub, Nat.reduceMul, Nat.reduceBEq, Nat.reduceLT, Int.reduceAdd, Int.reduceSub, Int.reduceMul, Int.reduceNeg, Int.reduceLE, Int.reduceLT, Int.reduceEq, Int.reduceNe, Int.reduceToNat, reduceIte, szT, szlT, kd2, wipeD]
  rw [this, List.map_id', List.filter_eq_self.mpr fun _ _ => rfl]
theorem good_of {names : List Str} : ∀ {l : List Thing} {i : Nat}, i + l.length ≤ 12 → (∀ t ∈ l, t.1 ∈ names ∧ 0 ≤ t.2) → badTh names l i = none
  | [], _, _, _ => rfl
  | t :: l, i, h, ht => by
    have h1 : i + (l.length + 1) ≤ 12 := h
    obtain ⟨q1, q2⟩ := ht t (List.mem_cons_self ..)
    rw [badTh, if_neg (by simp [thB, q1, q2]; omega)]
    exact good_of (by omega) fun x hx => ht x (List.mem_cons_of_mem _ hx)
end
end DL
namespace DL
open PySem L2 PL
theorem sqr {A B : S} {δ : En} {η η' : List O} {d : D} (h : A δ η = .rt d η') : (sSeq A B) δ η = .rt d η' := by rw [sSeq_a, h]; rfl
section
variable {η : List O} {b t : Nat} {ks : List (Str × Int)} {rs : List Row} {m : D} {δ : En} {rows : List (List Thing)} {bits : List Int} {bd : D}
end
end DL
namespace DL
open PySem L2 PL
open SX (S)
/-! ### texts as lists of code points -/
abbrev sS (l : List Nat) : D := .str (SX.S l)
theorem splitS_S {a b : List Nat} (hb : b ≠ [] ∧ b.all (· < 256) = true) (h : a.length ≤ 1000000) : splitS (SX.S a) (sS b) = some ((TL.spl b 0 [] a).map sS) := by
  unfold splitS
  dsimp only
  rw [if_pos ⟨⟨by simpa using hb.1, by simpa using hb.2⟩, by rw [SX.S_len, sizeLine_eq]; omega⟩]
/-! numbers -/
section
variable {η : List O}
end
end DL
namespace DL
open PySem L2 PL
open SX (S)
/-! ### the texts of talks -/
abbrev cd (z : Str) : List Nat := z.cps.toList
theorem sS_cd (z : Str) : sS (cd z) = .str z := by unfold sS; rw [SX.S_tl]
/-- things with such names and numbers -/
structure ThOk (t : Thing) : Prop where
  nm : nameB t.1 = true
  n0 : 0 ≤ t.2
  n1 : t.2 < 10 ^ 6
section
variable {η : List O}
theorem blank : (" " : Str) = SX.S [32] := by decide +kernel
theorem line : ("\n" : Str) = SX.S [10] := by decide +kernel
theorem spl_one {sep : Nat} {a : List Nat} (h : a.length ≤ 100000) (hs : sep < 256) : splitS (SX.S a) (sS [sep]) = some ((TL.spl [sep] 0 [] a).map sS) := splitS_S ⟨by simp, by simp [hs]⟩ (by omega)
end
end DL
namespace DL
open PySem L2 PL
section
variable {η : List O} {b b' t t' : Nat} {ks : List (Str × Int)} {rs : List Row} {m : D} {rows : List (List Thing)}
end
end DL
namespace DL
open PySem L2 PL
/-! ### the texts of books -/
section
variable {η : List O}
theorem ix10 {a : D} : L2.atI [a] 0 = some a := rfl
theorem ix20 {a b : D} : L2.atI [a, b] 0 = some a := rfl
theorem ix21 {a b : D} : L2.atI [a, b] 1 = some b := rfl
end
section
variable {η : List O}
end
end DL
namespace DL
open PySem L2 PL
section
variable {η : List O}
/-! the text -/
variable {ks : List (Str × Int)} {rs : List Row} {m : D} {b : Nat}
structure RowT (r : Row) : Prop where
  nm : nameB r.n = true
  st : ∀ s ∈ r.st, nameB s = true
  ne : r.st ≠ []
  few : r.st.length ≤ 100
  p0 : 0 ≤ r.p
  p1 : r.p ≤ 99
end
end DL
namespace DL
open PySem L2 PL
section
variable {η : List O} {ks : List (Str × Int)} {rs : List Row} {m : D} {b : Nat}
end
end DL
namespace DL
open PySem L2 PL
/-! ### a drawn book's text read back -/
section
variable {η : List O} {ks : List (Str × Int)} {rs : List Row} {m : D} {b : Nat}
theorem S_cd (z : Str) : SX.S (cd z) = z := D.str.inj (sS_cd z)
end
end DL
namespace DL
open PySem L2 PL
section
variable {η : List O} {ks : List (Str × Int)} {rs : List Row} {m : D} {b : Nat}
end
end DL
namespace DL
open PySem L2 PL
section
variable {η : List O} {ks : List (Str × Int)} {rs : List Row} {m : D} {b : Nat}
theorem FA_.pos {n : Nat} (f : FA_ n η) : n < η.length := by obtain ⟨o, ho, _⟩ := f; exact (List.getElem?_eq_some_iff.mp ho).1
end
end DL
namespace DL
open PySem L2 PL
/-! ### guides -/
inductive ZW | last | calm | plain
inductive NW | told | named | quiet
def ZW.s : ZW → Str | .last => "last" | .calm => "calm" | .plain => "plain"
def NW.s : NW → Str | .told => "told" | .named => "named" | .quiet => "quiet"
inductive Pl | z (w : ZW) | n (w : NW) (k : Nat)
def Pl.d : Pl → D | .z w => .tup [.str w.s] | .n w k => .tup [.str w.s, .int (k : Nat)]
def Pl.ok : Pl → Prop | .z _ => True | .n _ k => k ≤ 3
structure Ts where
  neg : Bool
  p : Pl
def Ts.d (t : Ts) : D := if t.neg then .tup [.str "not", t.p.d] else t.p.d
def Ts.ok (t : Ts) : Prop := t.p.ok
abbrev Gr : Type := Str × List Ts
def grD (g : Gr) : D := .tup [.str g.1, .tup (g.2.map Ts.d)]
abbrev NSG : List Str := ["own_book", "own_rows"]
abbrev gdO (b : Nat) (gs : List Gr) : O := .ins 3 NSG [.obj b, .lst (gs.map grD)]
section
variable {η : List O} {b t n : Nat} {ks : List (Str × Int)} {rs : List Row} {m : D} {δ : En}
theorem z_not (w : ZW) : eqD (.str w.s) (.str "not") = some (.bl false) := by cases w <;> rfl
theorem n_not (w : NW) : eqD (.str w.s) (.str "not") = some (.bl false) := by cases w <;> rfl
theorem len1 {d : D} : lenD (.tup [d]) = some (.int 1) := rfl
theorem len2 {d e : D} : lenD (.tup [d, e]) = some (.int 2) := rfl
end
end DL
namespace DL
open PySem L2 PL
theorem eqD_nilG {l : List D} (h : pureDs 19 l = true) : eqD (.lst l) (.lst []) = some (.bl l.isEmpty) := by
  have e := neD_nilG h
  unfold neD at e
  unfold eqD
  rw [if_pos ⟨h, rfl⟩] at e ⊢
  have := Option.some.inj e
  cases he : eqvD (.lst l) (.lst []) <;> rw [he] at this <;> cases l <;> first | rfl | cases this
structure GrOk (words : List Str) (g : Gr) : Prop where
  w : g.1 ∈ words
  n3 : g.2.length ≤ 3
  t : ∀ t ∈ g.2, t.ok
structure GsOk (words : List Str) (gs : List Gr) : Prop where
  n6 : gs.length ≤ 6
  g : ∀ g ∈ gs, GrOk words g
section
variable {η : List O} {b t n : Nat} {ks : List (Str × Int)} {rs : List Row} {m : D} {δ : En}
end
end DL
namespace DL
open PySem L2 PL
/-! ### the texts of guides -/
def Pl.ps : Pl → List (List Nat) | .z w => [cd w.s] | .n w k => [cd w.s, TL.numL k]
abbrev wNot : List Nat := [110, 111, 116]
def Ts.ps (t : Ts) : List (List Nat) := if t.neg then wNot :: t.p.ps else t.p.ps
def Pl.l (p : Pl) : List Nat := TL.joinL [32] p.ps
def Ts.l (t : Ts) : List Nat := TL.joinL [32] t.ps
theorem z_len (w : ZW) : (cd w.s).length ≤ 5 := by cases w <;> decide
section
variable {η : List O} {b t n : Nat} {ks : List (Str × Int)} {rs : List Row} {m : D} {δ : En}
theorem eq_not : eqD (.str "not") (.str "not") = some (.bl true) := rfl
end
end DL
namespace DL
open PySem L2 PL
structure GrT (g : Gr) : Prop where
  w : nameB g.1 = true
  n3 : g.2.length ≤ 3
  t : ∀ t ∈ g.2, t.ok
theorem gr_tp (g : Gr) (δ : En) (i j : Nat) : asg (.tp [.nm i, .nm j]) (grD g) δ = some ((δ.set i (vl (.str g.1))).set j (vl (.tup (g.2.map Ts.d)))) := by
  rw [grD, asg_tp, asgs_cons, asg_nm]; rfl
section
variable {η : List O} {b t n : Nat} {ks : List (Str × Int)} {rs : List Row} {m : D} {δ : En}
end
end DL
namespace DL
open PySem L2 PL
/-! ### guides read back -/
section
variable {η : List O} {b t n : Nat} {ks : List (Str × Int)} {rs : List Row} {m : D} {δ : En}
end
end DL
namespace DL
open PySem L2 PL
section
variable {η : List O}
end
end DL
namespace DL
open PySem L2 PL
/-! ### bending texts -/
end DL
namespace DL
open PySem L2 PL
/-! ### a bent text -/
section
variable {η : List O} {n : Nat}
end
end DL
namespace DL
open PySem L2 PL
/-! ### tests and rows of a guide out of any text -/
section
variable {η : List O}
end
end DL
namespace DL
open PySem L2 PL
section
variable {η : List O}
end
end DL
namespace DL
open PySem L2 PL
inductive GErr | cnt | row (i : Nat)
section
variable {η : List O} {b t n : Nat} {ks : List (Str × Int)} {rs : List Row} {m : D} {δ : En}
end
end DL
namespace DL
open PySem L2 PL
section
variable {η : List O} {b t n : Nat} {ks : List (Str × Int)} {rs : List Row} {m : D} {δ : En}
end
end DL
namespace DL
open PySem L2 PL
end DL
namespace DL
open PySem L2
section
variable {η η1 η2 : List O} {δ δ' : En} {fa fb : F D} {d e x : D} {l m : List D} {n : Nat} {t : Tg} {ts : List Tg}
theorem asgR_nm {i : Nat} : asgR η (.nm i) d δ = some (δ.set i (some (.val d))) := by rw [asgR]
theorem asgR_tp (h : rdA η d = some l) : asgR η (.tp ts) d δ = asgsR η ts l δ := by rw [asgR, h]
theorem asgsR_nil : asgsR η [] [] δ = some δ := by rw [asgsR]
theorem asgsR_cons : asgsR η (t :: ts) (d :: l) δ = (asgR η t d δ).bind fun δ' => asgsR η ts l δ' := by rw [asgsR]
theorem asgR2 {i j : Nat} (h : rdA η d = some [e, x]) : asgR η (.tp [.nm i, .nm j]) d δ = some ((δ.set i (some (.val e))).set j (some (.val x))) := by
  rw [asgR_tp h, asgsR_cons, asgR_nm, Option.bind_some, asgsR_cons, asgR_nm, Option.bind_some, asgsR_nil]
theorem fSlL_a {fl fh : F (Option Int)} : fSlL fa fl fh δ η = (fa δ η).bind fun d η => (fl δ η).bind fun lo η => (fh δ η).bind fun hi η => lift (slD (drD η d) lo hi) η := rfl
/-- a comprehension that changes nothing -/
theorem comp_encL {α β : Type} {ft : F Bool} {fe : F D} {δw : En} {src : Src} (enc : α → D) (p : α → Bool) (g : α → β) (dec : β → D) {xs : List α} (hc : ∀ k, curS η src k = some ((xs.map enc)[k]?))
    (h : ∀ x ∈ xs, ∃ δ1, asgR η t (enc x) δw = some δ1 ∧ ft δ1 η = .ok (p x) η ∧ (p x = true → fe δ1 η = .ok (dec (g x)) η)) {F : Nat} (hF : xs.length + 1 ≤ F) :
    compL t ft fe δw src F 0 η = .ok (((xs.filter p).map g).map dec) η := by
  have go : ∀ (f k : Nat), xs.length + 1 ≤ f + k → k ≤ xs.length → compL t ft fe δw src f k η = .ok ((((xs.drop k).filter p).map g).map dec) η := by
    intro f
    induction f with
    | zero => intro k h1 h2; omega
    | succ f ih =>
      intro k h1 h2
      rw [compL, hc k, List.getElem?_map]
      cases hx : xs[k]? with
      | none =>
        rw [List.drop_eq_nil_of_le (List.getElem?_eq_none_iff.mp hx)]; rfl
      | some x =>
        obtain ⟨hlt, hx2⟩ := List.getElem?_eq_some_iff.mp hx
        have hd : xs.drop k = x :: xs.drop (k + 1) := by rw [List.drop_eq_getElem_cons hlt, hx2]
        obtain ⟨δ1, e1, e2, e3⟩ := h x (List.mem_of_getElem? hx)
        have e4 := ih (k + 1) (by omega) hlt
        rw [hd]
        show (match asgR η t (enc x) δw with | none => R.bad | some δ1 => _) = _
        rw [e1]
        dsimp only
        rw [e2, nox_ok, bind_ok]
        cases hp : p x with
        | true => rw [if_pos rfl, e3 hp, nox_ok, bind_ok, e4, bind_ok, List.filter_cons_of_pos hp]; rfl
        | false => rw [if_neg (by decide), e4, List.filter_cons_of_neg (by rw [hp]; decide)]
  have := go F 0 (by omega) (Nat.zero_le _)
  rwa [List.drop_zero] at this
/-- two lists, item by item -/
inductive All2 {α β : Type} (R : α → β → Prop) : List α → List β → Prop
  | nil : All2 R [] []
  | cons {a : α} {b : β} {l : List α} {m : List β} : R a b → All2 R l m → All2 R (a :: l) (b :: m)
end
end DL
namespace DL
open PySem L2 PL
abbrev PV1 : S := (sPar 3 4 (fOp subD (fCall1 lenD (fDr (fFld 4 ["own_guide", "own_told", "own_rings"] 2 (fV 0)))) (fC (.int 1))) (fOp addD (fProp 3 1 m_Guide_reach (fFld 4 ["own_guide", "own_told", "own_rings"] 0 (fV 0))) (fC (.int 1))))
abbrev PV2 : S := (sSet 5 (fMeth 0 ["sort_rows", "word_rows", "own_memory"] 1 0 1 m_Book_words [0] [] (fProp 3 1 m_Guide_book (fFld 4 ["own_guide", "own_told", "own_rings"] 0 (fV 0))) fNil fNil))
abbrev PV3 : S := (sFrz 6 (fLcL [17] (fsOne (fV 2)) (.nm 17) (toB (fOp eqD (fOp ixD (fV 17) (fC (.int 1))) (fV 1))) (fV 17)))
abbrev PV4 : S := (sOwn 7 (fLstN fNil))
abbrev PV5b1 : S := (sFrz 11 (fLcL [17] (fsOne (fV 2)) (.nm 17) (fAndB (toB (fOp neD (fOp ixD (fV 17) (fC (.int 1))) (fV 1))) (toB (fOp inD (fOp ixD (fOp ixD (fV 17) (fC (.int 1))) (fC (.int 0))) (fV 9)))) (fOp ixD (fV 17) (fC (.int 0)))))
abbrev PV5b2 : S := (sMut 7 muApp (fCons (fIf (toB (fOp neD (fV 11) (fFrz (fLstN fNil)))) (fCall1 minC (fFrz (fLstN (fCons (fV 4) (fCons (fOp subD (fV 3) (fOp ixD (fV 11) (fNeg (fC (.int 1))))) fNil))))) (fV 4)) fNil))
abbrev PV5b : S := (sSeq PV5b1 PV5b2)
abbrev PV5 : S := (sFor (fiA (fV 5)) (.tp [(.nm 8), (.nm 9), (.nm 10)]) PV5b)
abbrev PV6t1 : S := (sRet (fTup (fCons (fNeg (fC (.int 1))) (fCons (fNeg (fC (.int 1))) (fCons (fC (.int 0)) (fCons (fC (.int 0)) (fCons (fTup fNil) (fCons (fCall1 tupC (fVo 7)) fNil))))))))
abbrev PV6t : S := PV6t1
abbrev PV6 : S := (sIf (toB (fOp eqD (fV 6) (fFrz (fLstN fNil)))) PV6t SR.nx)
abbrev PV7 : S := (sSet 12 (fCall1 maxC (fFrz (fLcL [18, 17] (fsEnm (fV 2)) (.tp [(.nm 18), (.nm 17)]) (toB (fOp eqD (fOp ixD (fV 17) (fC (.int 1))) (fV 1))) (fV 18)))))
abbrev PV8 : S := (sSet 13 (fSlL (fV 2) (fPt (fOp addD (fV 12) (fC (.int 1)))) fNoP))
abbrev PV9 : S := (sFrz 14 (fLc [18, 17] (fiE (fV 5)) (.tp [(.nm 18), (.nm 17)]) (fTru (fCall1 anyC (fFrz (fLc [19] (fiA (fV 13)) (.nm 19) fYes (fOp inD (fOp ixD (fOp ixD (fV 19) (fC (.int 1))) (fC (.int 0))) (fOp ixD (fV 17) (fC (.int 1)))))))) (fV 18)))
abbrev PV10 : S := (sFrz 15 (fLc [17] (fiA (fV 6)) (.nm 17) (toB (fOp isN (fOp ixD (fV 17) (fC (.int 2))) (fC .non))) (fOp ixD (fV 17) (fC (.int 0)))))
abbrev PV11 : S := (sSet 16 (fCall1 intC (fOp notInD (fC (.int 1)) (fSlL (fFld 4 ["own_guide", "own_told", "own_rings"] 2 (fV 0)) (fPt (fOp addD (fOp ixD (fOp ixD (fV 6) (fNeg (fC (.int 1)))) (fC (.int 0))) (fC (.int 1)))) fNoP))))
abbrev PV12 : S := (sRet (fTup (fCons (fCall1 minC (fFrz (fLstN (fCons (fV 4) (fCons (fOp subD (fV 3) (fOp ixD (fOp ixD (fV 6) (fNeg (fC (.int 1)))) (fC (.int 0)))) fNil))))) (fCons (fCall1 minC (fFrz (fLstN (fCons (fV 4) (fCons (fOp subD (fV 3) (fOp ixD (fV 15) (fNeg (fC (.int 1))))) fNil))))) (fCons (fCall1 intC (fOp isN (fOp ixD (fOp ixD (fV 6) (fNeg (fC (.int 1)))) (fC (.int 2))) (fC .non))) (fCons (fV 16) (fCons (fCall1 tupC (fV 14)) (fCons (fCall1 tupC (fVo 7)) fNil))))))))
abbrev PV : S := (sSeq PV1 (sSeq PV2 (sSeq PV3 (sSeq PV4 (sSeq PV5 (sSeq PV6 (sSeq PV7 (sSeq PV8 (sSeq PV9 (sSeq PV10 (sSeq PV11 PV12)))))))))))
theorem PV_eq : b_Speaker_view_of = PV := rfl
abbrev PW1t1 : S := (sRet (fC .non))
abbrev PW1t : S := PW1t1
abbrev PW1 : S := (sIf (toB (fOp ltD (fOp ixD (fV 2) (fC (.int 0))) (fC (.int 0)))) PW1t SR.nx)
abbrev PW2 : S := (sSet 3 (fMeth 0 ["sort_rows", "word_rows", "own_memory"] 1 0 1 m_Book_word_names [0] [] (fFld 3 ["own_book", "own_rows"] 0 (fV 0)) fNil fNil))
abbrev PW3b1t1t1 : S := (sRet (fV 4))
abbrev PW3b1t1t : S := PW3b1t1t1
abbrev PW3b1t1 : S := (sIf (fTru (fCall1 allC (fFrz (fLc [6] (fiA (fV 5)) (.nm 6) fYes (fCall 3 m_test_holds (fCons (fV 6) (fCons (fLm idxS (fV 3) (fV 4)) (fCons (fV 2) fNil)))))))) PW3b1t1t SR.nx)
abbrev PW3b1t : S := PW3b1t1
abbrev PW3b1 : S := (sIf (fTru (fMethX 0 ["sort_rows", "word_rows", "own_memory"] 3 0 3 m_Book_can_stand [0, 1, 2] [] (fFld 3 ["own_book", "own_rows"] 0 (fV 0)) (fCons (fV 4) (fCons (fV 1) fNil)) fNil)) PW3b1t SR.nx)
abbrev PW3b : S := PW3b1
abbrev PW3 : S := (sFor (fiA (fFld 3 ["own_book", "own_rows"] 1 (fV 0))) (.tp [(.nm 4), (.nm 5)]) PW3b)
abbrev PW4 : S := (sRet (fC .non))
abbrev PW : S := (sSeq PW1 (sSeq PW2 (sSeq PW3 PW4)))
theorem PW_eq : b_Guide_word_by = PW := rfl
abbrev PY2t1 : S := (sRaise1 33 "at" "InvalidBell" (fCall1 lenD (fDr (fFld 4 ["own_guide", "own_told", "own_rings"] 2 (fV 0)))))
abbrev PY2t : S := PY2t1
abbrev PY2 : S := (sIf (toB (fOp notInD (fV 2) (fTup (fCons (fC (.int 0)) (fCons (fC (.int 1)) fNil))))) PY2t SR.nx)
abbrev PY3 : S := (sMutO muApp (fFld 4 ["own_guide", "own_told", "own_rings"] 2 (fV 0)) (fCons (fV 2) fNil))
abbrev PY4 : S := (sParNV 3 4 (fLstN fNil) (fNewO (fC2L kLst [8, 9] [9] (fsOne (fFld 4 ["own_guide", "own_told", "own_rings"] 1 (fV 0))) (.nm 8) fYes (fiA (fV 8)) (.nm 9) fYes (fV 9))))
abbrev PY5 : S := (sSet 5 (fCall1 lenD (fDr (fV 4))))
abbrev PY6b1 : S := (sSet 7 (fMethX 3 ["own_book", "own_rows"] 3 0 3 m_Guide_word_by [0, 1, 2] [] (fFld 4 ["own_guide", "own_told", "own_rings"] 0 (fV 0)) (fCons (fOp ixD (fV 6) (fC (.int 0))) (fCons (fMeth 4 ["own_guide", "own_told", "own_rings"] 3 0 3 m_Speaker_view_of [0, 1, 2] [] (fV 0) (fCons (fV 6) (fCons (fV 4) fNil)) fNil) fNil)) fNil))
abbrev PY6b2 : S := (sMut 3 muApp (fCons (fIf (toB (fOp isN (fV 7) (fC .non))) (fV 6) (fV 7)) fNil))
abbrev PY6b3 : S := (sMutO muApp (fV 4) (fCons (fTup (fCons (fOp subD (fCall1 lenD (fDr (fFld 4 ["own_guide", "own_told", "own_rings"] 2 (fV 0)))) (fC (.int 1))) (fCons (fV 6) (fCons (fV 7) fNil)))) fNil))
abbrev PY6b : S := (sSeq PY6b1 (sSeq PY6b2 PY6b3))
abbrev PY7z1 : S := (sMutO muApp (fFld 4 ["own_guide", "own_told", "own_rings"] 1 (fV 0)) (fCons (fSlL (fV 4) (fPt (fV 5)) fNoP) fNil))
abbrev PY7z2 : S := (sRet (fV 3))
abbrev PY7z : S := (sSeq PY7z1 PY7z2)
abbrev PY7 : S := (sFz 3 PY7z)
abbrev PPH1 : S := (sAsg (fV 2) (.tp [(.nm 3), (.nm 4), (.nm 5), (.nm 6), (.nm 7), (.nm 8)]))
abbrev PPH2t1 : S := (sRet (fOp notInD (fV 1) (fV 7)))
abbrev PPH2t : S := PPH2t1
abbrev PPH2 : S := (sIf (toB (fOp eqD (fOp ixD (fV 0) (fC (.int 0))) (fC (.str "last")))) PPH2t SR.nx)
abbrev PPH3t1 : S := (sRet (fOp leD (fV 3) (fOp ixD (fV 0) (fC (.int 1)))))
abbrev PPH3t : S := PPH3t1
abbrev PPH3 : S := (sIf (toB (fOp eqD (fOp ixD (fV 0) (fC (.int 0))) (fC (.str "told")))) PPH3t SR.nx)
abbrev PPH4t1 : S := (sRet (fOp leD (fV 4) (fOp ixD (fV 0) (fC (.int 1)))))
abbrev PPH4t : S := PPH4t1
abbrev PPH4 : S := (sIf (toB (fOp eqD (fOp ixD (fV 0) (fC (.int 0))) (fC (.str "named")))) PPH4t SR.nx)
abbrev PPH5t1 : S := (sRet (fOp gtD (fOp ixD (fV 8) (fV 1)) (fOp ixD (fV 0) (fC (.int 1)))))
abbrev PPH5t : S := PPH5t1
abbrev PPH5 : S := (sIf (toB (fOp eqD (fOp ixD (fV 0) (fC (.int 0))) (fC (.str "quiet")))) PPH5t SR.nx)
abbrev PPH6 : S := (sRet (fIf (toB (fOp eqD (fOp ixD (fV 0) (fC (.int 0))) (fC (.str "calm")))) (fOp eqD (fV 6) (fC (.int 1))) (fOp eqD (fV 5) (fC (.int 1)))))
abbrev PPH : S := (sSeq PPH1 (sSeq PPH2 (sSeq PPH3 (sSeq PPH4 (sSeq PPH5 PPH6)))))
theorem PPH_eq : b_plain_holds = PPH := rfl
abbrev PTH1t1 : S := (sRet (fNot (fCall 3 m_plain_holds (fCons (fOp ixD (fV 0) (fC (.int 1))) (fCons (fV 1) (fCons (fV 2) fNil))))))
abbrev PTH1t : S := PTH1t1
abbrev PTH1 : S := (sIf (toB (fOp eqD (fOp ixD (fV 0) (fC (.int 0))) (fC (.str "not")))) PTH1t SR.nx)
abbrev PTH2 : S := (sRet (fCall 3 m_plain_holds (fCons (fV 0) (fCons (fV 1) (fCons (fV 2) fNil)))))
abbrev PTH : S := (sSeq PTH1 PTH2)
theorem PTH_eq : b_test_holds = PTH := rfl
abbrev PCS1 : S := (sSet 3 (fOp ixD (fMethX 0 ["sort_rows", "word_rows", "own_memory"] 2 0 2 m_Book_word_row [0, 1] [] (fV 0) (fCons (fV 1) fNil) fNil) (fC (.int 1))))
abbrev PCS2 : S := (sDrop (fMethX 0 ["sort_rows", "word_rows", "own_memory"] 2 0 2 m_Book_name_price [0, 1] [] (fV 0) (fCons (fV 2) fNil) fNil))
abbrev PCS3 : S := (sRet (fOp inD (fV 2) (fV 3)))
abbrev PCS : S := (sSeq PCS1 (sSeq PCS2 PCS3))
theorem PCS_eq : b_Book_can_stand = PCS := rfl
section
variable {η : List O} {δ : En} {t b : Nat} {gs : List Gr}
def plR : Pl → Nat | .z _ => 0 | .n _ k => k
def rs1 (gs : List Gr) : List Nat := gs.flatMap fun g => g.2.map fun t => plR t.p
def reachL (gs : List Gr) : Nat := (rs1 gs).foldl max 0
theorem intsOf_m : ∀ l : List Nat, intsOf (l.map fun k : Nat => D.int (k : Nat)) = some (l.map fun k : Nat => (k : Int))
  | [] => rfl
  | k :: l => by
    rw [List.map_cons, List.map_cons]
    show (intsOf _).map _ = _
    rw [intsOf_m l]; rfl
theorem maxOf_nat : ∀ (l : List Nat) (a : Nat), maxOf (a : Int) (l.map fun k : Nat => (k : Int)) = ((l.foldl max a : Nat) : Int)
  | [], a => rfl
  | k :: l, a => by
    have := maxOf_nat l (max a k)
    unfold maxOf at *
    rw [List.map_cons, List.foldl_cons, List.foldl_cons, ← this]
    congr 1
    omega
theorem maxC_nat (a : Nat) (l : List Nat) : maxC (.lst (.int (a : Nat) :: l.map fun k : Nat => D.int (k : Nat))) = some (.int (l.foldl max a : Nat)) := by
  have e := intsOf_m (a :: l)
  rw [List.map_cons, List.map_cons] at e
  unfold maxC
  dsimp only
  rw [e]
  show some (D.int (maxOf (a : Int) (l.map fun k : Nat => (k : Int)))) = _
  rw [maxOf_nat]
theorem test_reach_ok (t : Ts) : m_test_reach [t.d] η = .ok (.int (plR t.p : Nat)) η := by
  obtain ⟨g, p⟩ := t
  refine run_rt2 (δ := [vl (Ts.mk g p).d, none]) rfl ?_
  unfold b_test_reach
  refine sq (δ1 := [vl (Ts.mk g p).d, vl p.d]) (η1 := η) (set_of (d := p.d) (η1 := η) ?_) (ret_of ?_)
  · cases g with
    | true =>
      show (fIf _ _ _) [vl (.tup [.str "not", p.d]), none] η = _
      exact (by (try simp only [DLS, Int.cast_ofNat_Int, Nat.reduceAdd, Nat.reduceLeDiff, Nat.reduceEqDiff, Nat.reduceSub, Nat.reduceMul, Nat.reduceBEq, Nat.reduceLT, Int.reduceAdd, Int.reduceSub, Int.reduceMul, Int.reduceNeg, Int.reduceLE, Int.reduceLT, Int.reduceEq, Int.reduceNe, Int.reduceToNat, reduceIte, szT, szlT, ix20, ix21, eq_not]) <;> rfl)
    | false =>
      show (fIf _ _ _) [vl p.d, none] η = _
      cases p with
      | z w =>
        unfold Pl.d at *
        have := z_not w
        exact (by (try simp only [DLS, Int.cast_ofNat_Int, Nat.reduceAdd, Nat.reduceLeDiff, Nat.reduceEqDiff, Nat.reduceSub, Nat.reduceMul, Nat.reduceBEq, Nat.reduceLT, Int.reduceAdd, Int.reduceSub, Int.reduceMul, Int.reduceNeg, Int.reduceLE, Int.reduceLT, Int.reduceEq, Int.reduceNe, Int.reduceToNat, reduceIte, szT, szlT, ix10, this]) <;> rfl)
      | n w k =>
        have q := n_not w
        unfold Pl.d at *
        exact (by (try simp only [DLS, Int.cast_ofNat_Int, Nat.reduceAdd, Nat.reduceLeDiff, Nat.reduceEqDiff, Nat.reduceSub, Nat.reduceMul, Nat.reduceBEq, Nat.reduceLT, Int.reduceAdd, Int.reduceSub, Int.reduceMul, Int.reduceNeg, Int.reduceLE, Int.reduceLT, Int.reduceEq, Int.reduceNe, Int.reduceToNat, reduceIte, szT, szlT, ix20, q]) <;> rfl)
  · cases p with
    | z w =>
      unfold Pl.d plR
      exact (by (try simp only [DLS, Int.cast_ofNat_Int, Nat.reduceAdd, Nat.reduceLeDiff, Nat.reduceEqDiff, Nat.reduceSub, Nat.reduceMul, Nat.reduceBEq, Nat.reduceLT, Int.reduceAdd, Int.reduceSub, Int.reduceMul, Int.reduceNeg, Int.reduceLE, Int.reduceLT, Int.reduceEq, Int.reduceNe, Int.reduceToNat, reduceIte, szT, szlT]) <;> rfl)
    | n w k =>
      unfold Pl.d plR
      exact (by (try simp only [DLS, Int.cast_ofNat_Int, Nat.reduceAdd, Nat.reduceLeDiff, Nat.reduceEqDiff, Nat.reduceSub, Nat.reduceMul, Nat.reduceBEq, Nat.reduceLT, Int.reduceAdd, Int.reduceSub, Int.reduceMul, Int.reduceNeg, Int.reduceLE, Int.reduceLT, Int.reduceEq, Int.reduceNe, Int.reduceToNat, reduceIte, szT, szlT, ix21]) <;> rfl)
theorem reach_ok (h : η[t]? = some (gdO b gs)) (h6 : gs.length ≤ 6) (h3 : ∀ g ∈ gs, g.2.length ≤ 3) : m_Guide_reach [.obj t] η = .ok (.int (reachL gs : Nat)) η := by
  have ec := comp2_enc (t := .tp [.nm 1, .nm 2]) (t1 := .nm 3) (ft := fYes) (ft1 := fYes) (fi1 := fiA (fV 2)) (fe := fCall 1 m_test_reach (fCons (fV 3) fNil)) (vs1 := [3]) (δw := wipeD [vl (.obj t), none, none, none] [1, 2, 3]) (η := η) grD (fun _ => true) (fun g => g.2.map fun t => plR t.p) (fun k : Nat => D.int (k : Nat)) (xs := gs) fun g hg =>
    ⟨_, gr_tp g _ 1 2, rfl, fun _ => ⟨g.2.map Ts.d, fiA_of (d := .tup (g.2.map Ts.d)) (η1 := η) (by (try simp only [DLS, Int.cast_ofNat_Int, Nat.reduceAdd, Nat.reduceLeDiff, Nat.reduceEqDiff, Nat.reduceSub, Nat.reduceMul, Nat.reduceBEq, Nat.reduceLT, Int.reduceAdd, Int.reduceSub, Int.reduceMul, Int.reduceNeg, Int.reduceLE, Int.reduceLT, Int.reduceEq, Int.reduceNe, Int.reduceToNat, reduceIte, szT, szlT, wipeD]) <;> rfl) rfl, by
      have := comp_enc (t := .nm 3) (ft := fYes) (fe := fCall 1 m_test_reach (fCons (fV 3) fNil)) (δw := wipeD (((wipeD [vl (.obj t), none, none, none] [1, 2, 3]).set 1 (vl (.str g.1))).set 2 (vl (.tup (g.2.map Ts.d)))) [3]) (η := η) Ts.d (fun _ => true) (fun t => plR t.p) (fun k : Nat => D.int (k : Nat)) (xs := g.2) fun u hu => by
        have e := test_reach_ok (η := η) u
        exact ⟨_, asg_nm, rfl, fun _ => (by (try simp only [DLS, Int.cast_ofNat_Int, Nat.reduceAdd, Nat.reduceLeDiff, Nat.reduceEqDiff, Nat.reduceSub, Nat.reduceMul, Nat.reduceBEq, Nat.reduceLT, Int.reduceAdd, Int.reduceSub, Int.reduceMul, Int.reduceNeg, Int.reduceLE, Int.reduceLT, Int.reduceEq, Int.reduceNe, Int.reduceToNat, reduceIte, szT, szlT, wipeD, e]) <;> rfl)⟩
      rw [this, List.filter_eq_self.mpr fun _ _ => rfl]⟩⟩
  rw [List.filter_eq_self.mpr fun _ _ => rfl] at ec
  have hz : ∀ gs : List Gr, (∀ g ∈ gs, g.2.length ≤ 3) → (rs1 gs).length ≤ 3 * gs.length := fun gs => by
    induction gs with
    | nil => intro _; exact Nat.le_refl _
    | cons g l ih =>
      intro h
      have := ih fun x hx => h x (List.mem_cons_of_mem _ hx)
      have := h g (List.mem_cons_self ..)
      unfold rs1 at *
      rw [List.flatMap_cons, List.length_append, List.length_map, List.length_cons]
      omega
  have hz := hz gs h3
  have ef : (fFrz (fC2 kLst [1, 2, 3] [3] (fiA (fFld 3 ["own_book", "own_rows"] 1 (fV 0))) (.tp [(.nm 1), (.nm 2)]) fYes (fiA (fV 2)) (.nm 3) fYes (fCall 1 m_test_reach (fCons (fV 3) fNil)))) [vl (.obj t), none, none, none] η = .ok (.lst ((rs1 gs).map fun k : Nat => D.int (k : Nat))) η := by
    rw [fFrz_a, fC2_a, fiA_of (fa := (fFld 3 ["own_book", "own_rows"] 1 (fV 0))) (d := .lst (gs.map grD)) (η1 := η) (by (try simp only [DLS, Int.cast_ofNat_Int, Nat.reduceAdd, Nat.reduceLeDiff, Nat.reduceEqDiff, Nat.reduceSub, Nat.reduceMul, Nat.reduceBEq, Nat.reduceLT, Int.reduceAdd, Int.reduceSub, Int.reduceMul, Int.reduceNeg, Int.reduceLE, Int.reduceLT, Int.reduceEq, Int.reduceNe, Int.reduceToNat, reduceIte, szT, szlT, h]) <;> rfl) rfl, bind_ok]
    rw [ec, nox_ok, bind_ok]
    show (kLst ((rs1 gs).map fun k : Nat => D.int (k : Nat)) η).bind _ = _
    unfold kLst
    rw [if_pos (by rw [List.length_map, sizeLine_eq]; omega), bind_ok]
  have em := maxC_nat 0 (rs1 gs)
  refine run_rt2 (δ := [vl (.obj t), none, none, none]) rfl (ret_of ?_)
  have z1 : (0 :: (rs1 gs)).length ≤ sizeLine := by rw [List.length_cons, sizeLine_eq]; omega
  have el : (fFrz (fLstN (fCons (fC (.int 0)) (fStar (fFrz (fC2 kLst [1, 2, 3] [3] (fiA (fFld 3 ["own_book", "own_rows"] 1 (fV 0))) (.tp [(.nm 1), (.nm 2)]) fYes (fiA (fV 2)) (.nm 3) fYes (fCall 1 m_test_reach (fCons (fV 3) fNil)))) fNil)))) [vl (.obj t), none, none, none] η = .ok (.lst (.int (0 : Nat) :: (rs1 gs).map fun k : Nat => D.int (k : Nat))) η := by
    rw [fFrz_a, fLstN_a, fCons_a, fC_a, bind_ok, fStar_a, ef, bind_ok]
    dsimp only
    rw [fNil_a, bind_ok, List.append_nil]
    simp only [bind_ok]
    rw [if_pos (by rw [List.length_cons, List.length_map, ← List.length_cons (a := (0:Nat))]; exact z1)]
    rfl
  rw [fCall1_a, el, bind_ok, em]; rfl
end
/-! ### mentions -/
structure Mn where
  k : Nat
  t : Thing
  w : Option Str
def wD : Option Str → D
  | none => .non
  | some z => .str z
def mnD (x : Mn) : D := .tup [.int (x.k : Nat), kd2 x.t, wD x.w]
theorem mn0 {x : Mn} : ixD (mnD x) (.int 0) = some (.int (x.k : Nat)) := rfl
theorem mn1 {x : Mn} : ixD (mnD x) (.int 1) = some (kd2 x.t) := rfl
theorem mn2 {x : Mn} : ixD (mnD x) (.int 2) = some (wD x.w) := rfl
theorem kd0 {t : Thing} : ixD (kd2 t) (.int 0) = some (.str t.1) := rfl
theorem wD_non (o : Option Str) : (wD o).isNon = o.isNone := by cases o <;> rfl
open Classical in
theorem kd_iff (s t : Thing) : kd2 s = kd2 t ↔ s = t := ⟨fun e => by
  unfold kd2 at e
  injection e with e
  injection e with e1 e
  injection e with e2 e
  injection e1 with e1
  injection e2 with e2
  exact Prod.ext e1 e2, fun e => by rw [e]⟩
open Classical in
theorem eq_kd (s t : Thing) : eqD (kd2 s) (kd2 t) = some (.bl (decide (s = t))) := by
  rw [eqD_dat (dat_kd2 s) (dat_kd2 t) rfl rfl]
  exact congrArg (fun b => some (D.bl b)) (decide_eq_decide.mpr (kd_iff s t))
open Classical in
theorem ne_kd (s t : Thing) : neD (kd2 s) (kd2 t) = some (.bl (decide (s ≠ t))) := by
  rw [neD_dat (dat_kd2 s) (dat_kd2 t) rfl rfl]
  refine congrArg (fun b => some (D.bl b)) ?_
  rw [decide_not]
  exact congrArg not (decide_eq_decide.mpr (kd_iff s t))
def ownL (M : List Mn) (t : Thing) : List Mn := M.filter fun x => decide (x.t = t)
def othL (M : List Mn) (t : Thing) (st : List Str) : List Mn := M.filter fun x => decide (x.t ≠ t) && decide (x.t.1 ∈ st)
def namL (M : List Mn) (t : Thing) : List Mn := (ownL M t).filter fun x => x.w.isNone
theorem minC2 (a b : Int) : minC (.lst [.int a, .int b]) = some (.int (min a b)) := rfl
/-- how long a word was quiet -/
def qui (M : List Mn) (t : Thing) (now cap : Nat) (st : List Str) : Int := match (othL M t st).getLast? with
  | none => (cap : Int)
  | some q => min (cap : Int) ((now : Int) - (q.k : Nat))
abbrev NSS : List Str := ["own_guide", "own_told", "own_rings"]
abbrev spO (gd T R : Nat) : O := .ins 4 NSS [.obj gd, .obj T, .obj R]
theorem nth {α : Type} {f : α → D} {l : List α} {x : α} : ixD (.lst ((l ++ [x]).map f)) (.int (-1)) = some (f x) := by
  rw [ixD_l, List.map_append]; exact at_last
theorem getL {α : Type} {l : List α} : (l.getLast? = none ∧ l = []) ∨ ∃ l' x, l = l' ++ [x] ∧ l.getLast? = some x := by
  rcases List.eq_nil_or_concat l with rfl | ⟨l', x, e⟩
  · exact .inl ⟨rfl, rfl⟩
  · rw [List.concat_eq_append] at e
    subst e
    exact .inr ⟨l', x, rfl, by simp⟩
section
variable {η : List O} {δ : En} {sp gd T R n b : Nat} {gs : List Gr} {ks : List (Str × Int)} {rs : List Row} {m : D} {M : List Mn} {rings : List Int} {now : Nat} {t : Thing}
/-- what a speaker's view is made of -/
structure SpOk (η : List O) (sp gd T R n b : Nat) (gs : List Gr) (ks : List (Str × Int)) (rs : List Row) (m : D) (M : List Mn) (rings : List Int) (now : Nat) : Prop where
  hs : η[sp]? = some (spO gd T R)
  hg : η[gd]? = some (gdO b gs)
  hb : η[b]? = some (bkO ks rs m)
  hR : η[R]? = some (.lst (rings.map .int))
  hn : η[n]? = some (.lst (M.map mnD))
  hl : rings.length = now + 1
  g6 : gs.length ≤ 6
  g3 : ∀ g ∈ gs, g.2.length ≤ 3
  M1 : M.length ≤ 1000
  r4 : rs.length ≤ 4
theorem own_comp {δw : En} (hn : η[n]? = some (.lst (M.map mnD))) (hl : δw.length = 20) (h1 : δw[1]? = some (vl (kd2 t))) : compL (.nm 17) (toB (fOp eqD (fOp ixD (fV 17) (fC (.int 1))) (fV 1))) (fV 17) δw (.one (.obj n)) (sizeS η (.one (.obj n)) + 1) 0 η = .ok ((ownL M t).map mnD) η := by
  have ec := comp_encL (t := .nm 17) (ft := (toB (fOp eqD (fOp ixD (fV 17) (fC (.int 1))) (fV 1)))) (fe := fV 17) (δw := δw) (η := η) (src := .one (.obj n)) mnD (fun x => decide (x.t = t)) (fun x => x) mnD (xs := M)
    (fun k => by rw [curS_one (rd_obj hn)]) (fun x hx => ⟨_, asgR_nm, by
      have e := eq_kd x.t t
      have e1 := mn1 (x := x)
      generalize mnD x = XD at *
      generalize kd2 x.t = XT at *
      generalize kd2 t = KT at *
      exact (by (try simp only [DLS, Int.cast_ofNat_Int, Nat.reduceAdd, Nat.reduceLeDiff, Nat.reduceEqDiff, Nat.reduceSub, Nat.reduceMul, Nat.reduceBEq, Nat.reduceLT, Int.reduceAdd, Int.reduceSub, Int.reduceMul, Int.reduceNeg, Int.reduceLE, Int.reduceLT, Int.reduceEq, Int.reduceNe, Int.reduceToNat, reduceIte, szT, szlT, hl, h1, e1, e]) <;> rfl), fun _ => by
      generalize mnD x = XD at *
      exact (by (try simp only [DLS, Int.cast_ofNat_Int, Nat.reduceAdd, Nat.reduceLeDiff, Nat.reduceEqDiff, Nat.reduceSub, Nat.reduceMul, Nat.reduceBEq, Nat.reduceLT, Int.reduceAdd, Int.reduceSub, Int.reduceMul, Int.reduceNeg, Int.reduceLE, Int.reduceLT, Int.reduceEq, Int.reduceNe, Int.reduceToNat, reduceIte, szT, szlT, hl]) <;> rfl)⟩) (F := sizeS η (.one (.obj n)) + 1) (by rw [size_one (rd_obj hn), List.length_map]; exact Nat.le_refl _)
  rw [List.map_id'] at ec
  exact ec
theorem oth_comp {δw : En} {st : List Str} (hn : η[n]? = some (.lst (M.map mnD))) (hl : δw.length = 20) (h1 : δw[1]? = some (vl (kd2 t))) (h9 : δw[9]? = some (vl (.tup (st.map .str)))) :
    compL (.nm 17) (fAndB (toB (fOp neD (fOp ixD (fV 17) (fC (.int 1))) (fV 1))) (toB (fOp inD (fOp ixD (fOp ixD (fV 17) (fC (.int 1))) (fC (.int 0))) (fV 9)))) (fOp ixD (fV 17) (fC (.int 0))) δw (.one (.obj n)) (sizeS η (.one (.obj n)) + 1) 0 η = .ok ((othL M t st).map fun x => D.int (x.k : Nat)) η := by
  have ec := comp_encL (t := .nm 17) (ft := (fAndB (toB (fOp neD (fOp ixD (fV 17) (fC (.int 1))) (fV 1))) (toB (fOp inD (fOp ixD (fOp ixD (fV 17) (fC (.int 1))) (fC (.int 0))) (fV 9))))) (fe := (fOp ixD (fV 17) (fC (.int 0)))) (δw := δw) (η := η) (src := .one (.obj n)) mnD (fun x => decide (x.t ≠ t) && decide (x.t.1 ∈ st)) (fun x => x) (fun x => D.int (x.k : Nat)) (xs := M)
    (fun k => by rw [curS_one (rd_obj hn)]) (fun x hx => ⟨_, asgR_nm, by
      have e := ne_kd x.t t
      have e1 := mn1 (x := x)
      have e0 := kd0 (t := x.t)
      have ei : inD (.str x.t.1) (.tup (st.map .str)) = some (.bl (decide (x.t.1 ∈ st))) := inD_ts
      generalize mnD x = XD at *
      generalize kd2 x.t = XT at *
      generalize kd2 t = KT at *
      generalize st.map D.str = SD at *
      generalize decide (x.t.1 ∈ st) = p2 at *
      generalize decide (x.t ≠ t) = p1 at *
      cases p1 <;> exact (by (try simp only [DLS, Int.cast_ofNat_Int, Nat.reduceAdd, Nat.reduceLeDiff, Nat.reduceEqDiff, Nat.reduceSub, Nat.reduceMul, Nat.reduceBEq, Nat.reduceLT, Int.reduceAdd, Int.reduceSub, Int.reduceMul, Int.reduceNeg, Int.reduceLE, Int.reduceLT, Int.reduceEq, Int.reduceNe, Int.reduceToNat, reduceIte, szT, szlT, hl, h1, h9, e1, e, e0, ei]) <;> rfl), fun _ => by
      have e0 := mn0 (x := x)
      generalize mnD x = XD at *
      exact (by (try simp only [DLS, Int.cast_ofNat_Int, Nat.reduceAdd, Nat.reduceLeDiff, Nat.reduceEqDiff, Nat.reduceSub, Nat.reduceMul, Nat.reduceBEq, Nat.reduceLT, Int.reduceAdd, Int.reduceSub, Int.reduceMul, Int.reduceNeg, Int.reduceLE, Int.reduceLT, Int.reduceEq, Int.reduceNe, Int.reduceToNat, reduceIte, szT, szlT, hl, e0]) <;> rfl)⟩) (F := sizeS η (.one (.obj n)) + 1) (by rw [size_one (rd_obj hn), List.length_map]; exact Nat.le_refl _)
  rw [List.map_id'] at ec
  exact ec
/-- the view's first part -/
theorem view_pre (So : SpOk η sp gd T R n b gs ks rs m M rings now) {f : S} {r : SR}
    (hf : ∀ δ' : En, δ'.length = 20 → δ'[0]? = some (vl (.obj sp)) → δ'[1]? = some (vl (kd2 t)) → δ'[2]? = some (vl (.obj n)) → δ'[3]? = some (vl (.int (now : Nat))) → δ'[4]? = some (vl (.int ((reachL gs + 1 : Nat) : Int))) → δ'[5]? = some (vl (.lst (rs.map Row.d))) → δ'[6]? = some (vl (.lst ((ownL M t).map mnD))) → δ'[7]? = some (ow (rs.map fun q => .int (qui M t now (reachL gs + 1) q.st))) → f δ' η = r) :
    (sSeq PV1 (sSeq PV2 (sSeq PV3 (sSeq PV4 (sSeq PV5 f))))) [vl (.obj sp), vl (kd2 t), vl (.obj n), none, none, none, none, none, none, none, none, none, none, none, none, none, none, none, none, none] η = r := by
  have hs : η[sp]? = some (.ins 4 NSS [.obj gd, .obj T, .obj R]) := So.hs
  have hR := So.hR
  have ig : insC η 3 (.obj gd) = true := by rw [insC_a, So.hg]; rfl
  have ib : insC η 0 (.obj b) = true := by rw [insC_a, So.hb]; rfl
  have er := reach_ok So.hg So.g6 So.g3
  have eb : m_Guide_book [.obj gd] η = .ok (.obj b) η := by
    have hg : η[gd]? = some (.ins 3 NSG [.obj b, .lst (gs.map grD)]) := So.hg
    generalize gs.map grD = GG at *
    exact run_rt2 (δ := [vl (.obj gd)]) rfl (ret_of (by (try simp only [DLS, Int.cast_ofNat_Int, Nat.reduceAdd, Nat.reduceLeDiff, Nat.reduceEqDiff, Nat.reduceSub, Nat.reduceMul, Nat.reduceBEq, Nat.reduceLT, Int.reduceAdd, Int.reduceSub, Int.reduceMul, Int.reduceNeg, Int.reduceLE, Int.reduceLT, Int.reduceEq, Int.reduceNe, Int.reduceToNat, reduceIte, szT, szlT, hg]) <;> rfl))
  have hb' : η[b]? = some (.ins 0 NSB [.lst (ks.map kd2), .lst (rs.map Row.d), m]) := So.hb
  have ew : m_Book_words [.obj b] η = .ok (.lst (rs.map Row.d)) η := by
    generalize rs.map Row.d = RR at *
    generalize ks.map kd2 = KK at *
    exact run_rt2 (δ := [vl (.obj b)]) rfl (ret_of (by (try simp only [DLS, Int.cast_ofNat_Int, Nat.reduceAdd, Nat.reduceLeDiff, Nat.reduceEqDiff, Nat.reduceSub, Nat.reduceMul, Nat.reduceBEq, Nat.reduceLT, Int.reduceAdd, Int.reduceSub, Int.reduceMul, Int.reduceNeg, Int.reduceLE, Int.reduceLT, Int.reduceEq, Int.reduceNe, Int.reduceToNat, reduceIte, szT, szlT, hb']) <;> rfl))
  have lR : lenD (.lst (rings.map .int)) = some (.int ((now + 1 : Nat) : Int)) := by rw [lenD_l, List.length_map, So.hl]
  have e1 : PV1 [vl (.obj sp), vl (kd2 t), vl (.obj n), none, none, none, none, none, none, none, none, none, none, none, none, none, none, none, none, none] η = .nx [vl (.obj sp), vl (kd2 t), vl (.obj n), vl (.int (now : Nat)), vl (.int ((reachL gs + 1 : Nat) : Int)), none, none, none, none, none, none, none, none, none, none, none, none, none, none, none] η := by
    have a1 : (fOp subD (fCall1 lenD (fDr (fFld 4 ["own_guide", "own_told", "own_rings"] 2 (fV 0)))) (fC (.int 1))) [vl (.obj sp), vl (kd2 t), vl (.obj n), none, none, none, none, none, none, none, none, none, none, none, none, none, none, none, none, none] η = .ok (.int (now : Nat)) η := by
      have : ((now + 1 : Nat) : Int) - 1 = (now : Nat) := by omega
      rw [← this]
      generalize rings.map D.int = RD at *
      generalize kd2 t = KT at *
      exact (by (try simp only [DLS, Int.cast_ofNat_Int, Nat.reduceAdd, Nat.reduceLeDiff, Nat.reduceEqDiff, Nat.reduceSub, Nat.reduceMul, Nat.reduceBEq, Nat.reduceLT, Int.reduceAdd, Int.reduceSub, Int.reduceMul, Int.reduceNeg, Int.reduceLE, Int.reduceLT, Int.reduceEq, Int.reduceNe, Int.reduceToNat, reduceIte, szT, szlT, hs, hR, lR]) <;> rfl)
    have a2 : (fOp addD (fProp 3 1 m_Guide_reach (fFld 4 ["own_guide", "own_told", "own_rings"] 0 (fV 0))) (fC (.int 1))) [vl (.obj sp), vl (kd2 t), vl (.obj n), none, none, none, none, none, none, none, none, none, none, none, none, none, none, none, none, none] η = .ok (.int ((reachL gs + 1 : Nat) : Int)) η := by
      have hp : (fProp 3 1 m_Guide_reach (fFld 4 ["own_guide", "own_told", "own_rings"] 0 (fV 0))) [vl (.obj sp), vl (kd2 t), vl (.obj n), none, none, none, none, none, none, none, none, none, none, none, none, none, none, none, none, none] η = .ok (.int (reachL gs : Nat)) η := by
        rw [fProp_a, show (fFld 4 ["own_guide", "own_told", "own_rings"] 0 (fV 0)) [vl (.obj sp), vl (kd2 t), vl (.obj n), none, none, none, none, none, none, none, none, none, none, none, none, none, none, none, none, none] η = .ok (.obj gd) η from (by (try simp only [DLS, Int.cast_ofNat_Int, Nat.reduceAdd, Nat.reduceLeDiff, Nat.reduceEqDiff, Nat.reduceSub, Nat.reduceMul, Nat.reduceBEq, Nat.reduceLT, Int.reduceAdd, Int.reduceSub, Int.reduceMul, Int.reduceNeg, Int.reduceLE, Int.reduceLT, Int.reduceEq, Int.reduceNe, Int.reduceToNat, reduceIte, szT, szlT, hs]) <;> rfl), bind_ok, if_pos ig, arg_a]
        exact congrArg DL.R.nox ((if_pos rfl).trans er)
      rw [fOp_a, hp, bind_ok]
      rfl
    show sPar _ _ _ _ _ _ = _
    rw [sPar_a, a1, toS_ok, a2]
    rfl
  have e2 : PV2 [vl (.obj sp), vl (kd2 t), vl (.obj n), vl (.int (now : Nat)), vl (.int ((reachL gs + 1 : Nat) : Int)), none, none, none, none, none, none, none, none, none, none, none, none, none, none, none] η = .nx [vl (.obj sp), vl (kd2 t), vl (.obj n), vl (.int (now : Nat)), vl (.int ((reachL gs + 1 : Nat) : Int)), vl (.lst (rs.map Row.d)), none, none, none, none, none, none, none, none, none, none, none, none, none, none] η := set_of (by
    have hp : (fProp 3 1 m_Guide_book (fFld 4 ["own_guide", "own_told", "own_rings"] 0 (fV 0))) [vl (.obj sp), vl (kd2 t), vl (.obj n), vl (.int (now : Nat)), vl (.int ((reachL gs + 1 : Nat) : Int)), none, none, none, none, none, none, none, none, none, none, none, none, none, none, none] η = .ok (.obj b) η := by
      rw [fProp_a, show (fFld 4 ["own_guide", "own_told", "own_rings"] 0 (fV 0)) [vl (.obj sp), vl (kd2 t), vl (.obj n), vl (.int (now : Nat)), vl (.int ((reachL gs + 1 : Nat) : Int)), none, none, none, none, none, none, none, none, none, none, none, none, none, none, none] η = .ok (.obj gd) η from (by (try simp only [DLS, Int.cast_ofNat_Int, Nat.reduceAdd, Nat.reduceLeDiff, Nat.reduceEqDiff, Nat.reduceSub, Nat.reduceMul, Nat.reduceBEq, Nat.reduceLT, Int.reduceAdd, Int.reduceSub, Int.reduceMul, Int.reduceNeg, Int.reduceLE, Int.reduceLT, Int.reduceEq, Int.reduceNe, Int.reduceToNat, reduceIte, szT, szlT, hs]) <;> rfl), bind_ok, if_pos ig, arg_a]
      exact congrArg DL.R.nox ((if_pos rfl).trans eb)
    generalize (fProp 3 1 m_Guide_book (fFld 4 ["own_guide", "own_told", "own_rings"] 0 (fV 0))) = FP at *
    generalize rs.map Row.d = RR at *
    generalize ks.map kd2 = KK at *
    generalize kd2 t = KT at *
    simp only [DLS, Int.cast_ofNat_Int, Nat.reduceAdd, Nat.reduceLeDiff, Nat.reduceEqDiff, Nat.reduceSub, Nat.reduceMul, Nat.reduceBEq, Nat.reduceLT, Int.reduceAdd, Int.reduceSub, Int.reduceMul, Int.reduceNeg, Int.reduceLE, Int.reduceLT, Int.reduceEq, Int.reduceNe, Int.reduceToNat, reduceIte, szT, szlT, hp, hb', ew])
  have e3 : PV3 [vl (.obj sp), vl (kd2 t), vl (.obj n), vl (.int (now : Nat)), vl (.int ((reachL gs + 1 : Nat) : Int)), vl (.lst (rs.map Row.d)), none, none, none, none, none, none, none, none, none, none, none, none, none, none] η = .nx [vl (.obj sp), vl (kd2 t), vl (.obj n), vl (.int (now : Nat)), vl (.int ((reachL gs + 1 : Nat) : Int)), vl (.lst (rs.map Row.d)), vl (.lst ((ownL M t).map mnD)), none, none, none, none, none, none, none, none, none, none, none, none, none] η := by
    have ec := own_comp (t := t) (δw := wipeD [vl (.obj sp), vl (kd2 t), vl (.obj n), vl (.int (now : Nat)), vl (.int ((reachL gs + 1 : Nat) : Int)), vl (.lst (rs.map Row.d)), none, none, none, none, none, none, none, none, none, none, none, none, none, none] [17]) So.hn rfl rfl
    show sFrz _ _ _ _ = _
    rw [sFrz_a, lcL_run (vs := [17]) (one_of (fa := fV 2) (η1 := η) rfl (rd_obj So.hn)) ec]
    rfl
  refine sq e1 (sq e2 (sq e3 (sq (δ1 := [vl (.obj sp), vl (kd2 t), vl (.obj n), vl (.int (now : Nat)), vl (.int ((reachL gs + 1 : Nat) : Int)), vl (.lst (rs.map Row.d)), vl (.lst ((ownL M t).map mnD)), ow [], none, none, none, none, none, none, none, none, none, none, none, none]) (η1 := η) (by (try simp only [DLS, Int.cast_ofNat_Int, Nat.reduceAdd, Nat.reduceLeDiff, Nat.reduceEqDiff, Nat.reduceSub, Nat.reduceMul, Nat.reduceBEq, Nat.reduceLT, Int.reduceAdd, Int.reduceSub, Int.reduceMul, Int.reduceNeg, Int.reduceLE, Int.reduceLT, Int.reduceEq, Int.reduceNe, Int.reduceToNat, reduceIte, szT, szlT]) <;> rfl) ?_)))
  obtain ⟨δ', η', el, kp, he, h7⟩ := loop_m (t := .tp [.nm 8, .nm 9, .nm 10]) (b := PV5b) (enc := Row.d) (xs := rs) [7, 8, 9, 10, 11] (fun k δ η1 => η = η1 ∧ δ[7]? = some (ow ((rs.take k).map fun q => .int (qui M t now (reachL gs + 1) q.st))))
    (δ := [vl (.obj sp), vl (kd2 t), vl (.obj n), vl (.int (now : Nat)), vl (.int ((reachL gs + 1 : Nat) : Int)), vl (.lst (rs.map Row.d)), vl (.lst ((ownL M t).map mnD)), ow [], none, none, none, none, none, none, none, none, none, none, none, none]) (η := η) ⟨rfl, rfl⟩ fun k q δ1 η1 hx hk ⟨he, h7⟩ => by
      subst he
      have l1 : δ1.length = 20 := hk.1
      have b1 : δ1[1]? = some (vl (kd2 t)) := hk.2 1 (by decide)
      have b2 : δ1[2]? = some (vl (.obj n)) := hk.2 2 (by decide)
      have b3 : δ1[3]? = some (vl (.int (now : Nat))) := hk.2 3 (by decide)
      have b4 : δ1[4]? = some (vl (.int ((reachL gs + 1 : Nat) : Int))) := hk.2 4 (by decide)
      have as : asg (.tp [.nm 8, .nm 9, .nm 10]) q.d δ1 = some (((δ1.set 8 (vl (.str q.n))).set 9 (vl (.tup (q.st.map .str)))).set 10 (vl (.int q.p))) := by rw [Row.d, asg_tp, asgs_cons, asg_nm]; rfl
      generalize hδ2 : ((δ1.set 8 (vl (.str q.n))).set 9 (vl (.tup (q.st.map .str)))).set 10 (vl (.int q.p)) = δ2
      rw [hδ2] at as
      have k2 : Kp [7, 8, 9, 10, 11] δ1 δ2 := by rw [← hδ2]; exact .st (.st (.st .refl (by decide)) (by decide)) (by decide)
      have l2 : δ2.length = 20 := k2.1.trans l1
      have c7 : δ2[7]? = some (ow ((rs.take k).map fun q => .int (qui M t now (reachL gs + 1) q.st))) := by
        rw [← hδ2]
        generalize (rs.take k).map (fun q => D.int (qui M t now (reachL gs + 1) q.st)) = QQ at *
        generalize q.st.map D.str = SD
        simp only [DLS, Int.cast_ofNat_Int, Nat.reduceAdd, Nat.reduceLeDiff, Nat.reduceEqDiff, Nat.reduceSub, Nat.reduceMul, Nat.reduceBEq, Nat.reduceLT, Int.reduceAdd, Int.reduceSub, Int.reduceMul, Int.reduceNeg, Int.reduceLE, Int.reduceLT, Int.reduceEq, Int.reduceNe, Int.reduceToNat, reduceIte, szT, szlT, h7]
      have c9 : δ2[9]? = some (vl (.tup (q.st.map .str))) := by
        rw [← hδ2]
        generalize q.st.map D.str = SD
        simp only [DLS, Int.cast_ofNat_Int, Nat.reduceAdd, Nat.reduceLeDiff, Nat.reduceEqDiff, Nat.reduceSub, Nat.reduceMul, Nat.reduceBEq, Nat.reduceLT, Int.reduceAdd, Int.reduceSub, Int.reduceMul, Int.reduceNeg, Int.reduceLE, Int.reduceLT, Int.reduceEq, Int.reduceNe, Int.reduceToNat, reduceIte, szT, szlT, l1]
      have c1 := (k2.2 1 (by decide)).trans b1
      have c2 := (k2.2 2 (by decide)).trans b2
      have c3 := (k2.2 3 (by decide)).trans b3
      have c4 := (k2.2 4 (by decide)).trans b4
      have ec := oth_comp (t := t) (st := q.st) (δw := wipeD δ2 [17]) So.hn (by simp only [DLS, Int.cast_ofNat_Int, Nat.reduceAdd, Nat.reduceLeDiff, Nat.reduceEqDiff, Nat.reduceSub, Nat.reduceMul, Nat.reduceBEq, Nat.reduceLT, Int.reduceAdd, Int.reduceSub, Int.reduceMul, Int.reduceNeg, Int.reduceLE, Int.reduceLT, Int.reduceEq, Int.reduceNe, Int.reduceToNat, reduceIte, szT, szlT, wipeD, l2]) (by
        generalize kd2 t = KT at *
        simp only [DLS, Int.cast_ofNat_Int, Nat.reduceAdd, Nat.reduceLeDiff, Nat.reduceEqDiff, Nat.reduceSub, Nat.reduceMul, Nat.reduceBEq, Nat.reduceLT, Int.reduceAdd, Int.reduceSub, Int.reduceMul, Int.reduceNeg, Int.reduceLE, Int.reduceLT, Int.reduceEq, Int.reduceNe, Int.reduceToNat, reduceIte, szT, szlT, wipeD, c1]) (by
        generalize q.st.map D.str = SD at *
        simp only [DLS, Int.cast_ofNat_Int, Nat.reduceAdd, Nat.reduceLeDiff, Nat.reduceEqDiff, Nat.reduceSub, Nat.reduceMul, Nat.reduceBEq, Nat.reduceLT, Int.reduceAdd, Int.reduceSub, Int.reduceMul, Int.reduceNeg, Int.reduceLE, Int.reduceLT, Int.reduceEq, Int.reduceNe, Int.reduceToNat, reduceIte, szT, szlT, wipeD, c9])
      have s1 : PV5b1 δ2 η = .nx (δ2.set 11 (vl (.lst ((othL M t q.st).map fun x => D.int (x.k : Nat))))) η := by
        show sFrz _ _ _ _ = _
        rw [sFrz_a, lcL_run (vs := [17]) (one_of (fa := fV 2) (η1 := η) (by (try simp only [DLS, Int.cast_ofNat_Int, Nat.reduceAdd, Nat.reduceLeDiff, Nat.reduceEqDiff, Nat.reduceSub, Nat.reduceMul, Nat.reduceBEq, Nat.reduceLT, Int.reduceAdd, Int.reduceSub, Int.reduceMul, Int.reduceNeg, Int.reduceLE, Int.reduceLT, Int.reduceEq, Int.reduceNe, Int.reduceToNat, reduceIte, szT, szlT, c2]) <;> rfl) (rd_obj So.hn)) ec]
        rfl
      have hz : ((rs.take k).map fun q => D.int (qui M t now (reachL gs + 1) q.st)).length < 1000000 := by have := So.r4; simp; omega
      have z2 : (2 : Nat) ≤ sizeLine := by rw [sizeLine_eq]; decide
      have ev : (fIf (toB (fOp neD (fV 11) (fFrz (fLstN fNil)))) (fCall1 minC (fFrz (fLstN (fCons (fV 4) (fCons (fOp subD (fV 3) (fOp ixD (fV 11) (fNeg (fC (.int 1))))) fNil))))) (fV 4)) (δ2.set 11 (vl (.lst ((othL M t q.st).map fun x => D.int (x.k : Nat))))) η = .ok (.int (qui M t now (reachL gs + 1) q.st)) η := by
        unfold qui
        rcases getL (l := othL M t q.st) with ⟨e1, e2⟩ | ⟨l', x, e2, e1⟩
        · rw [e1, e2]
          have nn : neD (.lst []) (.lst []) = some (.bl false) := rfl
          show _ = DL.R.ok (D.int ((reachL gs + 1 : Nat) : Int)) η
          exact (by (try simp only [DLS, Int.cast_ofNat_Int, Nat.reduceAdd, Nat.reduceLeDiff, Nat.reduceEqDiff, Nat.reduceSub, Nat.reduceMul, Nat.reduceBEq, Nat.reduceLT, Int.reduceAdd, Int.reduceSub, Int.reduceMul, Int.reduceNeg, Int.reduceLE, Int.reduceLT, Int.reduceEq, Int.reduceNe, Int.reduceToNat, reduceIte, szT, szlT, l2, c4, List.map_nil, nn]) <;> rfl)
        · rw [e1]
          have nn : neD (.lst ((othL M t q.st).map fun x => D.int (x.k : Nat))) (.lst []) = some (.bl true) := by
            rw [neD_nilG (pureDs_map (n := 19) fun _ _ => rfl), e2]
            simp
          have il : ixD (.lst ((othL M t q.st).map fun x => D.int (x.k : Nat))) (.int (-1)) = some (.int (x.k : Nat)) := by rw [e2]; exact nth (f := fun x : Mn => D.int (x.k : Nat))
          have mc := minC2 ((reachL gs + 1 : Nat) : Int) ((now : Int) - (x.k : Nat))
          show _ = DL.R.ok (D.int (min ((reachL gs + 1 : Nat) : Int) ((now : Int) - (x.k : Nat)))) η
          generalize (othL M t q.st).map (fun x => D.int (x.k : Nat)) = OL at *
          generalize hnn : fNeg (fC (.int 1)) = fN at *
          have n1 : ∀ δ η, fN δ η = .ok (.int (-1)) η := fun δ η => by rw [← hnn]; rfl
          exact (by (try simp only [DLS, Int.cast_ofNat_Int, Nat.reduceAdd, Nat.reduceLeDiff, Nat.reduceEqDiff, Nat.reduceSub, Nat.reduceMul, Nat.reduceBEq, Nat.reduceLT, Int.reduceAdd, Int.reduceSub, Int.reduceMul, Int.reduceNeg, Int.reduceLE, Int.reduceLT, Int.reduceEq, Int.reduceNe, Int.reduceToNat, reduceIte, szT, szlT, l2, c3, c4, nn, n1, il, mc, z2]) <;> rfl)
      have s2 : PV5b2 (δ2.set 11 (vl (.lst ((othL M t q.st).map fun x => D.int (x.k : Nat))))) η = .nx ((δ2.set 11 (vl (.lst ((othL M t q.st).map fun x => D.int (x.k : Nat))))).set 7 (ow (((rs.take k).map fun q => .int (qui M t now (reachL gs + 1) q.st)) ++ [.int (qui M t now (reachL gs + 1) q.st)]))) η := app_of (i := 7) (l := (rs.take k).map fun q => .int (qui M t now (reachL gs + 1) q.st)) (η1 := η) (by
        generalize (rs.take k).map (fun q => D.int (qui M t now (reachL gs + 1) q.st)) = QQ at *
        generalize (othL M t q.st).map (fun x => D.int (x.k : Nat)) = OL at *
        simp only [DLS, Int.cast_ofNat_Int, Nat.reduceAdd, Nat.reduceLeDiff, Nat.reduceEqDiff, Nat.reduceSub, Nat.reduceMul, Nat.reduceBEq, Nat.reduceLT, Int.reduceAdd, Int.reduceSub, Int.reduceMul, Int.reduceNeg, Int.reduceLE, Int.reduceLT, Int.reduceEq, Int.reduceNe, Int.reduceToNat, reduceIte, szT, szlT, c7]) (args1 ev) hz
      refine ⟨δ2, as, _, η, .inl (sq s1 s2), .st (.st (hk.tr k2 (by decide)) (by decide)) (by decide), rfl, ?_⟩
      rw [List.take_add_one, hx]
      simp only [Option.toList, List.map_append, List.map_cons, List.map_nil]
      generalize (rs.take k).map (fun q => D.int (qui M t now (reachL gs + 1) q.st)) ++ [D.int (qui M t now (reachL gs + 1) q.st)] = QQ at *
      generalize (othL M t q.st).map (fun x => D.int (x.k : Nat)) = OL at *
      simp only [DLS, Int.cast_ofNat_Int, Nat.reduceAdd, Nat.reduceLeDiff, Nat.reduceEqDiff, Nat.reduceSub, Nat.reduceMul, Nat.reduceBEq, Nat.reduceLT, Int.reduceAdd, Int.reduceSub, Int.reduceMul, Int.reduceNeg, Int.reduceLE, Int.reduceLT, Int.reduceEq, Int.reduceNe, Int.reduceToNat, reduceIte, szT, szlT, l2]
  subst he
  rw [List.take_length] at h7
  exact sq (for_of (fiA_of (fa := fV 5) (d := .lst (rs.map Row.d)) (η1 := η) rfl rfl) el) (hf δ' kp.1 (kp.2 0 (by decide)) (kp.2 1 (by decide)) (kp.2 2 (by decide)) (kp.2 3 (by decide)) (kp.2 4 (by decide)) (kp.2 5 (by decide)) (kp.2 6 (by decide)) h7)
end
end DL
namespace DL
open PySem L2 PL
section
variable {η : List O} {δ : En} {sp gd T R n b : Nat} {gs : List Gr} {ks : List (Str × Int)} {rs : List Row} {m : D} {M A B : List Mn} {rings : List Int} {now : Nat} {t : Thing} {r q : Mn}
theorem pure_mn (k : Nat) (x : Mn) : pureD (k + 2) (mnD x) = true := by
  obtain ⟨a, t, w⟩ := x
  cases w <;> rfl
/-- the last of its own mentions -/
structure LastAt (M A B : List Mn) (r : Mn) (t : Thing) : Prop where
  e : M = A ++ r :: B
  rt : r.t = t
  no : ∀ x ∈ B, x.t ≠ t
theorem LastAt.own (L : LastAt M A B r t) : ownL M t = ownL A t ++ [r] := by
  have hB : B.filter (fun x => decide (x.t = t)) = [] := List.filter_eq_nil_iff.mpr fun x hx => by simpa using L.no x hx
  rw [L.e]
  unfold ownL
  rw [List.filter_append, List.filter_cons_of_pos (by simpa using L.rt), hB]
theorem max_last {l : List Nat} {a : Nat} (h : ∀ x ∈ l, x < a) : maxC (.lst ((l ++ [a]).map fun k : Nat => D.int (k : Nat))) = some (.int (a : Nat)) := by
  cases l with
  | nil => exact maxC_nat a []
  | cons c l =>
    rw [List.cons_append, List.map_cons, maxC_nat, List.foldl_append, List.foldl_cons, List.foldl_nil]
    have : ∀ (l : List Nat) (c : Nat), c < a → (∀ x ∈ l, x < a) → l.foldl max c < a := fun l => by
      induction l with
      | nil => intro c hc _; exact hc
      | cons d l ih => intro c hc hl; exact ih _ (by have := hl d (List.mem_cons_self ..); omega) fun x hx => hl x (List.mem_cons_of_mem _ hx)
    have := this l c (h c (List.mem_cons_self ..)) fun x hx => h x (List.mem_cons_of_mem _ hx)
    rw [Nat.max_eq_right (by omega)]
theorem LastAt.idx (L : LastAt M A B r t) : ∃ I : List Nat, (∀ x ∈ I, x < A.length) ∧ ((M.zipIdx.filter fun p => decide (p.1.t = t)).map fun p => p.2) = I ++ [A.length] := by
  refine ⟨(A.zipIdx.filter fun p => decide (p.1.t = t)).map fun p => p.2, fun x hx => ?_, ?_⟩
  · obtain ⟨p, hp, rfl⟩ := List.mem_map.mp hx
    have := List.mem_zipIdx (List.mem_filter.mp hp).1
    omega
  · have hB : (B.zipIdx (A.length + 1)).filter (fun p => decide (p.1.t = t)) = [] := List.filter_eq_nil_iff.mpr fun p hp => by
      have h := List.mem_zipIdx hp
      have hm : p.1 ∈ B := by rw [h.2.2]; exact List.getElem_mem _
      simpa using L.no _ hm
    rw [L.e, List.zipIdx_append, List.zipIdx_cons, List.filter_append, List.filter_cons_of_pos (by simpa using L.rt), Nat.zero_add, hB, List.map_append]
    simp
def aftL (B : List Mn) (rs : List Row) : List Nat := (rs.zipIdx.filter fun p => B.any fun x => decide (x.t.1 ∈ p.1.st)).map fun p => p.2
def quiL (M : List Mn) (t : Thing) (now cap : Nat) (rs : List Row) : List Int := rs.map fun q => qui M t now cap q.st
def viewN (M : List Mn) (t : Thing) (now cap : Nat) (rs : List Row) : D := .tup [.int (-1), .int (-1), .int 0, .int 0, .tup [], .tup ((quiL M t now cap rs).map .int)]
def bI (b : Bool) : Int := if b then 1 else 0
def viewY (M B : List Mn) (r q : Mn) (rings : List Int) (t : Thing) (now cap : Nat) (rs : List Row) : D :=
  .tup [.int (min (cap : Int) ((now : Int) - (r.k : Nat))), .int (min (cap : Int) ((now : Int) - (q.k : Nat))), .int (bI r.w.isNone), .int (bI (!decide ((1 : Int) ∈ rings.drop (r.k + 1)))), .tup ((aftL B rs).map fun k : Nat => D.int (k : Nat)), .tup ((quiL M t now cap rs).map .int)]
theorem qmap : (rs.map fun q => D.int (qui M t now (reachL gs + 1) q.st)) = (quiL M t now (reachL gs + 1) rs).map .int := by
  unfold quiL
  rw [List.map_map]; rfl
theorem view_no (So : SpOk η sp gd T R n b gs ks rs m M rings now) (h : ownL M t = []) : m_Speaker_view_of [.obj sp, kd2 t, .obj n] η = .ok (viewN M t now (reachL gs + 1) rs) η := by
  refine run_rt2 (δ := [vl (.obj sp), vl (kd2 t), vl (.obj n), none, none, none, none, none, none, none, none, none, none, none, none, none, none, none, none, none]) rfl ?_
  rw [PV_eq]
  refine view_pre So fun δ l1 d0 d1 d2 d3 d4 d5 d6 d7 => ?_
  rw [qmap] at d7
  rw [h] at d6
  have ee : eqD (.lst []) (.lst []) = some (.bl true) := rfl
  have z6 : (6 : Nat) ≤ sizeLine := by rw [sizeLine_eq]; decide
  have z0 : (0 : Nat) ≤ sizeLine := Nat.zero_le _
  refine sqr (if_t (η1 := η) (by (try simp only [DLS, Int.cast_ofNat_Int, Nat.reduceAdd, Nat.reduceLeDiff, Nat.reduceEqDiff, Nat.reduceSub, Nat.reduceMul, Nat.reduceBEq, Nat.reduceLT, Int.reduceAdd, Int.reduceSub, Int.reduceMul, Int.reduceNeg, Int.reduceLE, Int.reduceLT, Int.reduceEq, Int.reduceNe, Int.reduceToNat, reduceIte, szT, szlT, d6, List.map_nil, ee]) <;> rfl) (ret_of ?_))
  unfold viewN
  have tt : tupC (.lst ((quiL M t now (reachL gs + 1) rs).map .int)) = some (.tup ((quiL M t now (reachL gs + 1) rs).map .int)) := rfl
  generalize (quiL M t now (reachL gs + 1) rs).map D.int = QQ at *
  generalize hnn : fNeg (fC (.int 1)) = fN at *
  have n1 : ∀ δ η, fN δ η = .ok (.int (-1)) η := fun δ η => by rw [← hnn]; rfl
  exact (by (try simp only [DLS, Int.cast_ofNat_Int, Nat.reduceAdd, Nat.reduceLeDiff, Nat.reduceEqDiff, Nat.reduceSub, Nat.reduceMul, Nat.reduceBEq, Nat.reduceLT, Int.reduceAdd, Int.reduceSub, Int.reduceMul, Int.reduceNeg, Int.reduceLE, Int.reduceLT, Int.reduceEq, Int.reduceNe, Int.reduceToNat, reduceIte, szT, szlT, d7, tt, n1, z6, z0]) <;> rfl)
theorem view_yes (So : SpOk η sp gd T R n b gs ks rs m M rings now) (L : LastAt M A B r t) {N' : List Mn} (hN : namL M t = N' ++ [q]) (rk : r.k ≤ now) : m_Speaker_view_of [.obj sp, kd2 t, .obj n] η = .ok (viewY M B r q rings t now (reachL gs + 1) rs) η := by
  refine run_rt2 (δ := [vl (.obj sp), vl (kd2 t), vl (.obj n), none, none, none, none, none, none, none, none, none, none, none, none, none, none, none, none, none]) rfl ?_
  rw [PV_eq]
  refine view_pre So fun δ l1 d0 d1 d2 d3 d4 d5 d6 d7 => ?_
  rw [qmap] at d7
  have hs : η[sp]? = some (.ins 4 NSS [.obj gd, .obj T, .obj R]) := So.hs
  have hR := So.hR
  have ho := L.own
  have lM : M.length = A.length + (B.length + 1) := by rw [L.e, List.length_append, List.length_cons]
  have ee : eqD (.lst ((ownL M t).map mnD)) (.lst []) = some (.bl false) := by
    rw [eqD_nilG (pureDs_map (n := 19) fun x _ => pure_mn 17 x), ho]
    simp
  have io : ixD (.lst ((ownL M t).map mnD)) (.int (-1)) = some (mnD r) := by rw [ho]; exact nth
  refine sq (if_fn (η1 := η) (by
    generalize (ownL M t).map mnD = OW at *
    exact (by (try simp only [DLS, Int.cast_ofNat_Int, Nat.reduceAdd, Nat.reduceLeDiff, Nat.reduceEqDiff, Nat.reduceSub, Nat.reduceMul, Nat.reduceBEq, Nat.reduceLT, Int.reduceAdd, Int.reduceSub, Int.reduceMul, Int.reduceNeg, Int.reduceLE, Int.reduceLT, Int.reduceEq, Int.reduceNe, Int.reduceToNat, reduceIte, szT, szlT, d6, ee]) <;> rfl))) ?_
  -- the last place
  obtain ⟨I, hI, eI⟩ := L.idx
  have ec7 := comp_encL (t := .tp [.nm 18, .nm 17]) (ft := (toB (fOp eqD (fOp ixD (fV 17) (fC (.int 1))) (fV 1)))) (fe := fV 18) (δw := wipeD δ [18, 17]) (η := η) (src := .enm (.obj n)) (fun p : Mn × Nat => D.tup [.int (p.2 : Nat), mnD p.1]) (fun p => decide (p.1.t = t)) (fun p => p.2) (fun k : Nat => D.int (k : Nat)) (xs := M.zipIdx)
    (fun k => by
      rw [curS_enm (rd_obj So.hn), List.getElem?_map, List.getElem?_map, List.getElem?_zipIdx]
      cases M[k]? with
      | none => rfl
      | some x => simp) (fun p hp => ⟨_, asgR2 rd_t, by
      have e := eq_kd p.1.t t
      have e1 := mn1 (x := p.1)
      generalize mnD p.1 = XD at *
      generalize kd2 p.1.t = XT at *
      generalize kd2 t = KT at *
      exact (by (try simp only [DLS, Int.cast_ofNat_Int, Nat.reduceAdd, Nat.reduceLeDiff, Nat.reduceEqDiff, Nat.reduceSub, Nat.reduceMul, Nat.reduceBEq, Nat.reduceLT, Int.reduceAdd, Int.reduceSub, Int.reduceMul, Int.reduceNeg, Int.reduceLE, Int.reduceLT, Int.reduceEq, Int.reduceNe, Int.reduceToNat, reduceIte, szT, szlT, wipeD, l1, d1, e1, e]) <;> rfl), fun _ => by
      generalize mnD p.1 = XD at *
      exact (by (try simp only [DLS, Int.cast_ofNat_Int, Nat.reduceAdd, Nat.reduceLeDiff, Nat.reduceEqDiff, Nat.reduceSub, Nat.reduceMul, Nat.reduceBEq, Nat.reduceLT, Int.reduceAdd, Int.reduceSub, Int.reduceMul, Int.reduceNeg, Int.reduceLE, Int.reduceLT, Int.reduceEq, Int.reduceNe, Int.reduceToNat, reduceIte, szT, szlT, wipeD, l1]) <;> rfl)⟩) (F := sizeS η (.enm (.obj n)) + 1) (by rw [size_enm (rd_obj So.hn), List.length_zipIdx, List.length_map]; exact Nat.le_refl _)
  rw [eI] at ec7
  have el7 := frzE_of (lcL_run (vs := [18, 17]) (δ := δ) (enm_of (fa := fV 2) (η1 := η) (by (try simp only [DLS, Int.cast_ofNat_Int, Nat.reduceAdd, Nat.reduceLeDiff, Nat.reduceEqDiff, Nat.reduceSub, Nat.reduceMul, Nat.reduceBEq, Nat.reduceLT, Int.reduceAdd, Int.reduceSub, Int.reduceMul, Int.reduceNeg, Int.reduceLE, Int.reduceLT, Int.reduceEq, Int.reduceNe, Int.reduceToNat, reduceIte, szT, szlT, d2]) <;> rfl) (rd_obj So.hn)) ec7)
  have e7 : PV7 δ η = .nx (δ.set 12 (vl (.int (A.length : Nat)))) η := set_of (by rw [fCall1_a, el7, bind_ok, max_last hI]; rfl)
  refine sq e7 ?_
  have cB : slD (.lst (M.map mnD)) (some ((A.length : Int) + 1)) none = some (.lst (B.map mnD)) := by
    rw [slD_l, cut_from (by rw [List.length_map]; omega), ← List.map_drop, L.e, show A ++ r :: B = (A ++ [r]) ++ B by simp, show A.length + 1 = (A ++ [r]).length by simp, List.drop_left]
  have dn := dr_obj So.hn
  have e8 : PV8 (δ.set 12 (vl (.int (A.length : Nat)))) η = .nx ((δ.set 12 (vl (.int (A.length : Nat)))).set 13 (vl (.lst (B.map mnD)))) η := set_of (by
    generalize B.map mnD = BB at *
    generalize M.map mnD = MM at *
    exact (by (try simp only [DLS, Int.cast_ofNat_Int, Nat.reduceAdd, Nat.reduceLeDiff, Nat.reduceEqDiff, Nat.reduceSub, Nat.reduceMul, Nat.reduceBEq, Nat.reduceLT, Int.reduceAdd, Int.reduceSub, Int.reduceMul, Int.reduceNeg, Int.reduceLE, Int.reduceLT, Int.reduceEq, Int.reduceNe, Int.reduceToNat, reduceIte, szT, szlT, fSlL_a, l1, d2, dn, cB]) <;> rfl))
  refine sq e8 ?_
  have k2 : Kp [12, 13] δ ((δ.set 12 (vl (.int (A.length : Nat)))).set 13 (vl (.lst (B.map mnD)))) := .st (.st .refl (by decide)) (by decide)
  have c13 : ((δ.set 12 (vl (.int (A.length : Nat)))).set 13 (vl (.lst (B.map mnD))))[13]? = some (vl (.lst (B.map mnD))) := by
    generalize B.map mnD = BB at *
    simp only [DLS, Int.cast_ofNat_Int, Nat.reduceAdd, Nat.reduceLeDiff, Nat.reduceEqDiff, Nat.reduceSub, Nat.reduceMul, Nat.reduceBEq, Nat.reduceLT, Int.reduceAdd, Int.reduceSub, Int.reduceMul, Int.reduceNeg, Int.reduceLE, Int.reduceLT, Int.reduceEq, Int.reduceNe, Int.reduceToNat, reduceIte, szT, szlT, l1]
  have c0 := (k2.2 0 (by decide)).trans d0
  have c3 := (k2.2 3 (by decide)).trans d3
  have c4 := (k2.2 4 (by decide)).trans d4
  have c5 := (k2.2 5 (by decide)).trans d5
  have c6 := (k2.2 6 (by decide)).trans d6
  have c7 := (k2.2 7 (by decide)).trans d7
  have l2 := k2.1.trans l1
  generalize (δ.set 12 (vl (.int (A.length : Nat)))).set 13 (vl (.lst (B.map mnD))) = δ2 at *
  -- the words of sorts behind
  have ec9 := comp_enc (t := .tp [.nm 18, .nm 17]) (ft := (fTru (fCall1 anyC (fFrz (fLc [19] (fiA (fV 13)) (.nm 19) fYes (fOp inD (fOp ixD (fOp ixD (fV 19) (fC (.int 1))) (fC (.int 0))) (fOp ixD (fV 17) (fC (.int 1))))))))) (fe := fV 18) (δw := wipeD δ2 [18, 17]) (η := η) (fun p : Row × Nat => D.tup [.int (p.2 : Nat), p.1.d]) (fun p => B.any fun x => decide (x.t.1 ∈ p.1.st)) (fun p => p.2) (fun k : Nat => D.int (k : Nat)) (xs := rs.zipIdx) fun p hp => by
      refine ⟨((wipeD δ2 [18, 17]).set 18 (vl (.int (p.2 : Nat)))).set 17 (vl p.1.d), by rw [asg_tp, asgs_cons, asg_nm]; rfl, ?_, fun _ => by
        generalize p.1.d = PD at *
        exact (by (try simp only [DLS, Int.cast_ofNat_Int, Nat.reduceAdd, Nat.reduceLeDiff, Nat.reduceEqDiff, Nat.reduceSub, Nat.reduceMul, Nat.reduceBEq, Nat.reduceLT, Int.reduceAdd, Int.reduceSub, Int.reduceMul, Int.reduceNeg, Int.reduceLE, Int.reduceLT, Int.reduceEq, Int.reduceNe, Int.reduceToNat, reduceIte, szT, szlT, wipeD, l2]) <;> rfl)⟩
      have f13 : (((wipeD δ2 [18, 17]).set 18 (vl (.int (p.2 : Nat)))).set 17 (vl p.1.d))[13]? = some (vl (.lst (B.map mnD))) := by
        generalize p.1.d = PD at *
        generalize B.map mnD = BB at *
        simp only [DLS, Int.cast_ofNat_Int, Nat.reduceAdd, Nat.reduceLeDiff, Nat.reduceEqDiff, Nat.reduceSub, Nat.reduceMul, Nat.reduceBEq, Nat.reduceLT, Int.reduceAdd, Int.reduceSub, Int.reduceMul, Int.reduceNeg, Int.reduceLE, Int.reduceLT, Int.reduceEq, Int.reduceNe, Int.reduceToNat, reduceIte, szT, szlT, wipeD, c13]
      have f17 : (((wipeD δ2 [18, 17]).set 18 (vl (.int (p.2 : Nat)))).set 17 (vl p.1.d))[17]? = some (vl p.1.d) := by
        generalize p.1.d = PD at *
        simp only [DLS, Int.cast_ofNat_Int, Nat.reduceAdd, Nat.reduceLeDiff, Nat.reduceEqDiff, Nat.reduceSub, Nat.reduceMul, Nat.reduceBEq, Nat.reduceLT, Int.reduceAdd, Int.reduceSub, Int.reduceMul, Int.reduceNeg, Int.reduceLE, Int.reduceLT, Int.reduceEq, Int.reduceNe, Int.reduceToNat, reduceIte, szT, szlT, wipeD, l2]
      have lf : (((wipeD δ2 [18, 17]).set 18 (vl (.int (p.2 : Nat)))).set 17 (vl p.1.d)).length = 20 := by simp only [DLS, Int.cast_ofNat_Int, Nat.reduceAdd, Nat.reduceLeDiff, Nat.reduceEqDiff, Nat.reduceSub, Nat.reduceMul, Nat.reduceBEq, Nat.reduceLT, Int.reduceAdd, Int.reduceSub, Int.reduceMul, Int.reduceNeg, Int.reduceLE, Int.reduceLT, Int.reduceEq, Int.reduceNe, Int.reduceToNat, reduceIte, szT, szlT, wipeD, l2]
      generalize ((wipeD δ2 [18, 17]).set 18 (vl (.int (p.2 : Nat)))).set 17 (vl p.1.d) = δ3 at *
      have ip : ixD p.1.d (.int 1) = some (.tup (p.1.st.map .str)) := rfl
      have eci := comp_enc (t := .nm 19) (ft := fYes) (fe := (fOp inD (fOp ixD (fOp ixD (fV 19) (fC (.int 1))) (fC (.int 0))) (fOp ixD (fV 17) (fC (.int 1))))) (δw := wipeD δ3 [19]) (η := η) mnD (fun _ => true) (fun x => decide (x.t.1 ∈ p.1.st)) D.bl (xs := B) fun x hx => ⟨_, asg_nm, rfl, fun _ => by
        have e1 := mn1 (x := x)
        have e0 := kd0 (t := x.t)
        have ei : inD (.str x.t.1) (.tup (p.1.st.map .str)) = some (.bl (decide (x.t.1 ∈ p.1.st))) := inD_ts
        generalize mnD x = XD at *
        generalize kd2 x.t = XT at *
        generalize p.1.st.map D.str = SD at *
        generalize p.1.d = PD at *
        exact (by (try simp only [DLS, Int.cast_ofNat_Int, Nat.reduceAdd, Nat.reduceLeDiff, Nat.reduceEqDiff, Nat.reduceSub, Nat.reduceMul, Nat.reduceBEq, Nat.reduceLT, Int.reduceAdd, Int.reduceSub, Int.reduceMul, Int.reduceNeg, Int.reduceLE, Int.reduceLT, Int.reduceEq, Int.reduceNe, Int.reduceToNat, reduceIte, szT, szlT, wipeD, lf, f17, e1, e0, ip, ei]) <;> rfl)⟩
      rw [List.filter_eq_self.mpr fun _ _ => rfl] at eci
      have eli := frzE_of (lc_of' (vs := [19]) (δ := δ3) (fiA_of (fa := fV 13) (η := η) (d := .lst (B.map mnD)) (η1 := η) (by
        generalize B.map mnD = BB at *
        exact (by (try simp only [DLS, Int.cast_ofNat_Int, Nat.reduceAdd, Nat.reduceLeDiff, Nat.reduceEqDiff, Nat.reduceSub, Nat.reduceMul, Nat.reduceBEq, Nat.reduceLT, Int.reduceAdd, Int.reduceSub, Int.reduceMul, Int.reduceNeg, Int.reduceLE, Int.reduceLT, Int.reduceEq, Int.reduceNe, Int.reduceToNat, reduceIte, szT, szlT, f13]) <;> rfl)) rfl) eci)
      rw [fTru_a, fCall1_a, eli, bind_ok, any_bls]
      show DL.R.ok _ η = _
      rw [List.any_map]
      rfl
  have en5 : enumD (rs.map Row.d) = rs.zipIdx.map fun p : Row × Nat => D.tup [.int (p.2 : Nat), p.1.d] := by
    unfold enumD
    rw [List.zipIdx_map, List.map_map]
    rfl
  rw [← en5] at ec9
  have s9 : PV9 δ2 η = .nx (δ2.set 14 (vl (.lst ((aftL B rs).map fun k : Nat => D.int (k : Nat))))) η := by
    show sFrz _ _ _ _ = _
    rw [sFrz_a, lc_of' (vs := [18, 17]) (δ := δ2) (fiE_of (fa := fV 5) (d := .lst (rs.map Row.d)) (η1 := η) (by
      generalize rs.map Row.d = RR at *
      exact (by (try simp only [DLS, Int.cast_ofNat_Int, Nat.reduceAdd, Nat.reduceLeDiff, Nat.reduceEqDiff, Nat.reduceSub, Nat.reduceMul, Nat.reduceBEq, Nat.reduceLT, Int.reduceAdd, Int.reduceSub, Int.reduceMul, Int.reduceNeg, Int.reduceLE, Int.reduceLT, Int.reduceEq, Int.reduceNe, Int.reduceToNat, reduceIte, szT, szlT, c5]) <;> rfl)) rfl) ec9]
    rfl
  refine sq s9 ?_
  -- the names
  have ec10 := comp_enc (t := .nm 17) (ft := (toB (fOp isN (fOp ixD (fV 17) (fC (.int 2))) (fC .non)))) (fe := (fOp ixD (fV 17) (fC (.int 0)))) (δw := wipeD (δ2.set 14 (vl (.lst ((aftL B rs).map fun k : Nat => D.int (k : Nat))))) [17]) (η := η) mnD (fun x => x.w.isNone) (fun x => x) (fun x => D.int (x.k : Nat)) (xs := ownL M t) fun x hx => ⟨_, asg_nm, by
      have e2 := mn2 (x := x)
      have en := wD_non x.w
      generalize mnD x = XD at *
      generalize wD x.w = WD at *
      generalize (aftL B rs).map (fun k : Nat => D.int (k : Nat)) = AF at *
      exact (by (try simp only [DLS, Int.cast_ofNat_Int, Nat.reduceAdd, Nat.reduceLeDiff, Nat.reduceEqDiff, Nat.reduceSub, Nat.reduceMul, Nat.reduceBEq, Nat.reduceLT, Int.reduceAdd, Int.reduceSub, Int.reduceMul, Int.reduceNeg, Int.reduceLE, Int.reduceLT, Int.reduceEq, Int.reduceNe, Int.reduceToNat, reduceIte, szT, szlT, wipeD, l2, e2, en]) <;> rfl), fun _ => by
      have e0 := mn0 (x := x)
      generalize mnD x = XD at *
      generalize (aftL B rs).map (fun k : Nat => D.int (k : Nat)) = AF at *
      exact (by (try simp only [DLS, Int.cast_ofNat_Int, Nat.reduceAdd, Nat.reduceLeDiff, Nat.reduceEqDiff, Nat.reduceSub, Nat.reduceMul, Nat.reduceBEq, Nat.reduceLT, Int.reduceAdd, Int.reduceSub, Int.reduceMul, Int.reduceNeg, Int.reduceLE, Int.reduceLT, Int.reduceEq, Int.reduceNe, Int.reduceToNat, reduceIte, szT, szlT, wipeD, l2, e0]) <;> rfl)⟩
  rw [List.map_id'] at ec10
  have s10 : PV10 (δ2.set 14 (vl (.lst ((aftL B rs).map fun k : Nat => D.int (k : Nat))))) η = .nx ((δ2.set 14 (vl (.lst ((aftL B rs).map fun k : Nat => D.int (k : Nat))))).set 15 (vl (.lst ((namL M t).map fun x => D.int (x.k : Nat))))) η := by
    show sFrz _ _ _ _ = _
    rw [sFrz_a, lc_of' (vs := [17]) (δ := (δ2.set 14 (vl (.lst ((aftL B rs).map fun k : Nat => D.int (k : Nat)))))) (fiA_of (fa := fV 6) (η := η) (d := .lst ((ownL M t).map mnD)) (η1 := η) (by
      generalize (ownL M t).map mnD = OW at *
      generalize (aftL B rs).map (fun k : Nat => D.int (k : Nat)) = AF at *
      exact (by (try simp only [DLS, Int.cast_ofNat_Int, Nat.reduceAdd, Nat.reduceLeDiff, Nat.reduceEqDiff, Nat.reduceSub, Nat.reduceMul, Nat.reduceBEq, Nat.reduceLT, Int.reduceAdd, Int.reduceSub, Int.reduceMul, Int.reduceNeg, Int.reduceLE, Int.reduceLT, Int.reduceEq, Int.reduceNe, Int.reduceToNat, reduceIte, szT, szlT, c6]) <;> rfl)) rfl) ec10]
    rfl
  refine sq s10 ?_
  have k3 : Kp [14, 15] δ2 ((δ2.set 14 (vl (.lst ((aftL B rs).map fun k : Nat => D.int (k : Nat))))).set 15 (vl (.lst ((namL M t).map fun x => D.int (x.k : Nat))))) := .st (.st .refl (by decide)) (by decide)
  have f14 : ((δ2.set 14 (vl (.lst ((aftL B rs).map fun k : Nat => D.int (k : Nat))))).set 15 (vl (.lst ((namL M t).map fun x => D.int (x.k : Nat)))))[14]? = some (vl (.lst ((aftL B rs).map fun k : Nat => D.int (k : Nat)))) := by
    generalize (aftL B rs).map (fun k : Nat => D.int (k : Nat)) = AF at *
    generalize (namL M t).map (fun x => D.int (x.k : Nat)) = NF at *
    simp only [DLS, Int.cast_ofNat_Int, Nat.reduceAdd, Nat.reduceLeDiff, Nat.reduceEqDiff, Nat.reduceSub, Nat.reduceMul, Nat.reduceBEq, Nat.reduceLT, Int.reduceAdd, Int.reduceSub, Int.reduceMul, Int.reduceNeg, Int.reduceLE, Int.reduceLT, Int.reduceEq, Int.reduceNe, Int.reduceToNat, reduceIte, szT, szlT, l2]
  have f15 : ((δ2.set 14 (vl (.lst ((aftL B rs).map fun k : Nat => D.int (k : Nat))))).set 15 (vl (.lst ((namL M t).map fun x => D.int (x.k : Nat)))))[15]? = some (vl (.lst ((namL M t).map fun x => D.int (x.k : Nat)))) := by
    generalize (aftL B rs).map (fun k : Nat => D.int (k : Nat)) = AF at *
    generalize (namL M t).map (fun x => D.int (x.k : Nat)) = NF at *
    simp only [DLS, Int.cast_ofNat_Int, Nat.reduceAdd, Nat.reduceLeDiff, Nat.reduceEqDiff, Nat.reduceSub, Nat.reduceMul, Nat.reduceBEq, Nat.reduceLT, Int.reduceAdd, Int.reduceSub, Int.reduceMul, Int.reduceNeg, Int.reduceLE, Int.reduceLT, Int.reduceEq, Int.reduceNe, Int.reduceToNat, reduceIte, szT, szlT, l2]
  have f0 := (k3.2 0 (by decide)).trans c0
  have f3 := (k3.2 3 (by decide)).trans c3
  have f4 := (k3.2 4 (by decide)).trans c4
  have f6 := (k3.2 6 (by decide)).trans c6
  have f7 := (k3.2 7 (by decide)).trans c7
  have l3 := k3.1.trans l2
  generalize ((δ2.set 14 (vl (.lst ((aftL B rs).map fun k : Nat => D.int (k : Nat))))).set 15 (vl (.lst ((namL M t).map fun x => D.int (x.k : Nat))))) = δ3 at *
  -- calm
  have r0 := mn0 (x := r)
  have r2 := mn2 (x := r)
  have rN := wD_non r.w
  have cR : slD (.lst (rings.map .int)) (some ((r.k : Int) + 1)) none = some (.lst ((rings.drop (r.k + 1)).map .int)) := by
    rw [slD_l, cut_from (by rw [List.length_map, So.hl]; omega), List.map_drop]
  have dR := dr_obj hR
  have ni := notInD_li (z := 1) (zs := rings.drop (r.k + 1))
  have e11 : PV11 δ3 η = .nx (δ3.set 16 (vl (.int (bI (!decide ((1 : Int) ∈ rings.drop (r.k + 1))))))) η := set_of (by
    have ic : intC (.bl (!decide ((1 : Int) ∈ rings.drop (r.k + 1)))) = some (.int (bI (!decide ((1 : Int) ∈ rings.drop (r.k + 1))))) := rfl
    generalize (!decide ((1 : Int) ∈ rings.drop (r.k + 1))) = q1 at *
    generalize (rings.drop (r.k + 1)).map D.int = RD at *
    generalize rings.map D.int = RI at *
    generalize (ownL M t).map mnD = OW at *
    generalize mnD r = RM at *
    generalize hnn : fNeg (fC (.int 1)) = fN at *
    have n1 : ∀ δ η, fN δ η = .ok (.int (-1)) η := fun δ η => by rw [← hnn]; rfl
    exact (by (try simp only [DLS, Int.cast_ofNat_Int, Nat.reduceAdd, Nat.reduceLeDiff, Nat.reduceEqDiff, Nat.reduceSub, Nat.reduceMul, Nat.reduceBEq, Nat.reduceLT, Int.reduceAdd, Int.reduceSub, Int.reduceMul, Int.reduceNeg, Int.reduceLE, Int.reduceLT, Int.reduceEq, Int.reduceNe, Int.reduceToNat, reduceIte, szT, szlT, fSlL_a, f0, f6, hs, dR, io, n1, r0, cR, ni, ic]) <;> rfl))
  refine sq e11 (ret_of ?_)
  have iq : ixD (.lst ((namL M t).map fun x => D.int (x.k : Nat))) (.int (-1)) = some (.int (q.k : Nat)) := by rw [hN]; exact nth (f := fun x : Mn => D.int (x.k : Nat))
  have m1 := minC2 ((reachL gs + 1 : Nat) : Int) ((now : Int) - (r.k : Nat))
  have m2 := minC2 ((reachL gs + 1 : Nat) : Int) ((now : Int) - (q.k : Nat))
  have ic : intC (.bl r.w.isNone) = some (.int (bI r.w.isNone)) := rfl
  have t1 : tupC (.lst ((aftL B rs).map fun k : Nat => D.int (k : Nat))) = some (.tup ((aftL B rs).map fun k : Nat => D.int (k : Nat))) := rfl
  have t2 : tupC (.lst ((quiL M t now (reachL gs + 1) rs).map .int)) = some (.tup ((quiL M t now (reachL gs + 1) rs).map .int)) := rfl
  have z2 : (2 : Nat) ≤ sizeLine := by rw [sizeLine_eq]; decide
  have z6 : (6 : Nat) ≤ sizeLine := by rw [sizeLine_eq]; decide
  unfold viewY
  generalize (quiL M t now (reachL gs + 1) rs).map D.int = QQ at *
  generalize (aftL B rs).map (fun k : Nat => D.int (k : Nat)) = AF at *
  generalize (namL M t).map (fun x => D.int (x.k : Nat)) = NF at *
  generalize (ownL M t).map mnD = OW at *
  generalize bI (!decide ((1 : Int) ∈ rings.drop (r.k + 1))) = CA at *
  generalize mnD r = RM at *
  generalize wD r.w = WR at *
  generalize r.w.isNone = q2 at *
  generalize hnn : fNeg (fC (.int 1)) = fN at *
  have n1 : ∀ δ η, fN δ η = .ok (.int (-1)) η := fun δ η => by rw [← hnn]; rfl
  exact (by (try simp only [DLS, Int.cast_ofNat_Int, Nat.reduceAdd, Nat.reduceLeDiff, Nat.reduceEqDiff, Nat.reduceSub, Nat.reduceMul, Nat.reduceBEq, Nat.reduceLT, Int.reduceAdd, Int.reduceSub, Int.reduceMul, Int.reduceNeg, Int.reduceLE, Int.reduceLT, Int.reduceEq, Int.reduceNe, Int.reduceToNat, reduceIte, szT, szlT, l3, f3, f4, f6, f7, f14, f15, io, r0, r2, rN, iq, n1, m1, m2, ic, t1, t2, z2, z6]) <;> rfl)
end
end DL
namespace DL
open PySem L2 PL
section
variable {η : List O} {δ : En} {sp gd T R n b : Nat} {gs : List Gr} {ks : List (Str × Int)} {rs : List Row} {m : D} {M A B : List Mn} {rings : List Int} {now cap : Nat} {t : Thing} {r q : Mn}
/-- whether a test holds -/
def plBM (M B : List Mn) (r q : Mn) (rings : List Int) (t : Thing) (now : Nat) (st : List Str) : Pl → Bool
  | .z .last => !(B.any fun x => decide (x.t.1 ∈ st))
  | .z .calm => !decide ((1 : Int) ∈ rings.drop (r.k + 1))
  | .z .plain => r.w.isNone
  | .n .told k => decide ((now : Int) - (r.k : Nat) ≤ (k : Nat))
  | .n .named k => decide ((now : Int) - (q.k : Nat) ≤ (k : Nat))
  | .n .quiet k => match (othL M t st).getLast? with
    | none => true
    | some o => decide ((now : Int) - (o.k : Nat) > (k : Nat))
def tsB (M B : List Mn) (r q : Mn) (rings : List Int) (t : Thing) (now : Nat) (st : List Str) (u : Ts) : Bool := if u.neg then !plBM M B r q rings t now st u.p else plBM M B r q rings t now st u.p
theorem aft_mem {j : Nat} {row : Row} (hj : rs[j]? = some row) : j ∈ aftL B rs ↔ (B.any fun x => decide (x.t.1 ∈ row.st)) = true := by
  unfold aftL
  rw [List.mem_map]
  constructor
  · rintro ⟨p, hp, rfl⟩
    obtain ⟨h1, h2⟩ := List.mem_filter.mp hp
    have h3 := List.mk_mem_zipIdx_iff_getElem?.mp (show (p.1, p.2) ∈ rs.zipIdx from h1)
    rw [h3] at hj
    cases hj
    exact h2
  · intro h
    exact ⟨(row, j), List.mem_filter.mpr ⟨List.mk_mem_zipIdx_iff_getElem?.mpr hj, h⟩, rfl⟩
theorem str_eq {a c : Str} : eqD (.str a) (.str c) = some (.bl (decide (a = c))) := eqD_ss
theorem plain_holds_ok {p : Pl} {j : Nat} {row : Row} (hj : rs[j]? = some row) (hc : plR p < cap) : m_plain_holds [p.d, .int (j : Nat), viewY M B r q rings t now cap rs] η = .ok (.bl (plBM M B r q rings t now row.st p)) η := by
  have as : ∀ (a1 a2 a3 a4 a5 a6 : D), asg (.tp [.nm 3, .nm 4, .nm 5, .nm 6, .nm 7, .nm 8]) (.tup [a1, a2, a3, a4, a5, a6]) [vl p.d, vl (.int (j : Nat)), vl (.tup [a1, a2, a3, a4, a5, a6]), none, none, none, none, none, none] = some [vl p.d, vl (.int (j : Nat)), vl (.tup [a1, a2, a3, a4, a5, a6]), vl a1, vl a2, vl a3, vl a4, vl a5, vl a6] := fun _ _ _ _ _ _ => rfl
  refine run_rt2 (δ := [vl p.d, vl (.int (j : Nat)), vl (viewY M B r q rings t now cap rs), none, none, none, none, none, none]) rfl ?_
  rw [PPH_eq]
  have e1 : PPH1 [vl p.d, vl (.int (j : Nat)), vl (viewY M B r q rings t now cap rs), none, none, none, none, none, none] η = .nx [vl p.d, vl (.int (j : Nat)), vl (viewY M B r q rings t now cap rs), vl (.int (min (cap : Int) ((now : Int) - (r.k : Nat)))), vl (.int (min (cap : Int) ((now : Int) - (q.k : Nat)))), vl (.int (bI r.w.isNone)), vl (.int (bI (!decide ((1 : Int) ∈ rings.drop (r.k + 1))))), vl (.tup ((aftL B rs).map fun k : Nat => D.int (k : Nat))), vl (.tup ((quiL M t now cap rs).map .int))] η := by
    show sAsg _ _ _ _ = _
    rw [sAsg_a, show (fV 2) [vl p.d, vl (.int (j : Nat)), vl (viewY M B r q rings t now cap rs), none, none, none, none, none, none] η = .ok (viewY M B r q rings t now cap rs) η from rfl, toS_ok]
    unfold viewY
    rw [as]
  refine sq e1 ?_
  have b1 : ∀ x : Bool, eqD (.int (bI x)) (.int 1) = some (.bl x) := fun x => by cases x <;> rfl
  generalize hV : viewY M B r q rings t now cap rs = PV0 at *
  cases p with
  | z w =>
    have i0 : ixD (Pl.z w).d (.int 0) = some (.str w.s) := rfl
    generalize (Pl.z w).d = PD at *
    cases w with
    | last =>
      have q1 : eqD (.str ZW.last.s) (.str "last") = some (.bl true) := rfl
      have hm : notInD (.int (j : Nat)) (.tup ((aftL B rs).map fun k : Nat => D.int (k : Nat))) = some (.bl (!(B.any fun x => decide (x.t.1 ∈ row.st)))) := by
        rw [show ((aftL B rs).map fun k : Nat => D.int (k : Nat)) = ((aftL B rs).map fun k : Nat => (k : Int)).map .int by rw [List.map_map]; rfl, notInD_ti]
        refine congrArg (fun b => some (D.bl (!b))) ?_
        rw [Bool.eq_iff_iff, decide_eq_true_iff, ← aft_mem hj]
        constructor
        · intro h
          obtain ⟨k, hk, e⟩ := List.mem_map.mp h
          have : k = j := by omega
          subst this
          exact hk
        · intro h
          exact List.mem_map.mpr ⟨j, h, rfl⟩
      show _ = SR.rt (.bl (!(B.any fun x => decide (x.t.1 ∈ row.st)))) η
      generalize (!(B.any fun x => decide (x.t.1 ∈ row.st))) = q2 at *
      generalize (aftL B rs).map (fun k : Nat => D.int (k : Nat)) = AF at *
      generalize (quiL M t now cap rs).map D.int = QQ at *
      exact sqr (if_t (η1 := η) (by (try simp only [DLS, Int.cast_ofNat_Int, Nat.reduceAdd, Nat.reduceLeDiff, Nat.reduceEqDiff, Nat.reduceSub, Nat.reduceMul, Nat.reduceBEq, Nat.reduceLT, Int.reduceAdd, Int.reduceSub, Int.reduceMul, Int.reduceNeg, Int.reduceLE, Int.reduceLT, Int.reduceEq, Int.reduceNe, Int.reduceToNat, reduceIte, szT, szlT, i0, q1]) <;> rfl) (ret_of (by (try simp only [DLS, Int.cast_ofNat_Int, Nat.reduceAdd, Nat.reduceLeDiff, Nat.reduceEqDiff, Nat.reduceSub, Nat.reduceMul, Nat.reduceBEq, Nat.reduceLT, Int.reduceAdd, Int.reduceSub, Int.reduceMul, Int.reduceNeg, Int.reduceLE, Int.reduceLT, Int.reduceEq, Int.reduceNe, Int.reduceToNat, reduceIte, szT, szlT, hm]) <;> rfl)))
    | calm =>
      have q1 : eqD (.str ZW.calm.s) (.str "last") = some (.bl false) := rfl
      have q2 : eqD (.str ZW.calm.s) (.str "told") = some (.bl false) := rfl
      have q3 : eqD (.str ZW.calm.s) (.str "named") = some (.bl false) := rfl
      have q4 : eqD (.str ZW.calm.s) (.str "quiet") = some (.bl false) := rfl
      have q5 : eqD (.str ZW.calm.s) (.str "calm") = some (.bl true) := rfl
      have b2 := b1 (!decide ((1 : Int) ∈ rings.drop (r.k + 1)))
      show _ = SR.rt (.bl (!decide ((1 : Int) ∈ rings.drop (r.k + 1)))) η
      generalize (!decide ((1 : Int) ∈ rings.drop (r.k + 1))) = q6 at *
      generalize (aftL B rs).map (fun k : Nat => D.int (k : Nat)) = AF at *
      generalize (quiL M t now cap rs).map D.int = QQ at *
      generalize bI q6 = BI at *
      exact sq (if_fn (η1 := η) (by (try simp only [DLS, Int.cast_ofNat_Int, Nat.reduceAdd, Nat.reduceLeDiff, Nat.reduceEqDiff, Nat.reduceSub, Nat.reduceMul, Nat.reduceBEq, Nat.reduceLT, Int.reduceAdd, Int.reduceSub, Int.reduceMul, Int.reduceNeg, Int.reduceLE, Int.reduceLT, Int.reduceEq, Int.reduceNe, Int.reduceToNat, reduceIte, szT, szlT, i0, q1]) <;> rfl)) (sq (if_fn (η1 := η) (by (try simp only [DLS, Int.cast_ofNat_Int, Nat.reduceAdd, Nat.reduceLeDiff, Nat.reduceEqDiff, Nat.reduceSub, Nat.reduceMul, Nat.reduceBEq, Nat.reduceLT, Int.reduceAdd, Int.reduceSub, Int.reduceMul, Int.reduceNeg, Int.reduceLE, Int.reduceLT, Int.reduceEq, Int.reduceNe, Int.reduceToNat, reduceIte, szT, szlT, i0, q2]) <;> rfl)) (sq (if_fn (η1 := η) (by (try simp only [DLS, Int.cast_ofNat_Int, Nat.reduceAdd, Nat.reduceLeDiff, Nat.reduceEqDiff, Nat.reduceSub, Nat.reduceMul, Nat.reduceBEq, Nat.reduceLT, Int.reduceAdd, Int.reduceSub, Int.reduceMul, Int.reduceNeg, Int.reduceLE, Int.reduceLT, Int.reduceEq, Int.reduceNe, Int.reduceToNat, reduceIte, szT, szlT, i0, q3]) <;> rfl)) (sq (if_fn (η1 := η) (by (try simp only [DLS, Int.cast_ofNat_Int, Nat.reduceAdd, Nat.reduceLeDiff, Nat.reduceEqDiff, Nat.reduceSub, Nat.reduceMul, Nat.reduceBEq, Nat.reduceLT, Int.reduceAdd, Int.reduceSub, Int.reduceMul, Int.reduceNeg, Int.reduceLE, Int.reduceLT, Int.reduceEq, Int.reduceNe, Int.reduceToNat, reduceIte, szT, szlT, i0, q4]) <;> rfl)) (ret_of (by (try simp only [DLS, Int.cast_ofNat_Int, Nat.reduceAdd, Nat.reduceLeDiff, Nat.reduceEqDiff, Nat.reduceSub, Nat.reduceMul, Nat.reduceBEq, Nat.reduceLT, Int.reduceAdd, Int.reduceSub, Int.reduceMul, Int.reduceNeg, Int.reduceLE, Int.reduceLT, Int.reduceEq, Int.reduceNe, Int.reduceToNat, reduceIte, szT, szlT, i0, q5, b2]) <;> rfl)))))
    | plain =>
      have q1 : eqD (.str ZW.plain.s) (.str "last") = some (.bl false) := rfl
      have q2 : eqD (.str ZW.plain.s) (.str "told") = some (.bl false) := rfl
      have q3 : eqD (.str ZW.plain.s) (.str "named") = some (.bl false) := rfl
      have q4 : eqD (.str ZW.plain.s) (.str "quiet") = some (.bl false) := rfl
      have q5 : eqD (.str ZW.plain.s) (.str "calm") = some (.bl false) := rfl
      have b2 := b1 r.w.isNone
      show _ = SR.rt (.bl r.w.isNone) η
      generalize r.w.isNone = q6 at *
      generalize (aftL B rs).map (fun k : Nat => D.int (k : Nat)) = AF at *
      generalize (quiL M t now cap rs).map D.int = QQ at *
      generalize bI q6 = BI at *
      exact sq (if_fn (η1 := η) (by (try simp only [DLS, Int.cast_ofNat_Int, Nat.reduceAdd, Nat.reduceLeDiff, Nat.reduceEqDiff, Nat.reduceSub, Nat.reduceMul, Nat.reduceBEq, Nat.reduceLT, Int.reduceAdd, Int.reduceSub, Int.reduceMul, Int.reduceNeg, Int.reduceLE, Int.reduceLT, Int.reduceEq, Int.reduceNe, Int.reduceToNat, reduceIte, szT, szlT, i0, q1]) <;> rfl)) (sq (if_fn (η1 := η) (by (try simp only [DLS, Int.cast_ofNat_Int, Nat.reduceAdd, Nat.reduceLeDiff, Nat.reduceEqDiff, Nat.reduceSub, Nat.reduceMul, Nat.reduceBEq, Nat.reduceLT, Int.reduceAdd, Int.reduceSub, Int.reduceMul, Int.reduceNeg, Int.reduceLE, Int.reduceLT, Int.reduceEq, Int.reduceNe, Int.reduceToNat, reduceIte, szT, szlT, i0, q2]) <;> rfl)) (sq (if_fn (η1 := η) (by (try simp only [DLS, Int.cast_ofNat_Int, Nat.reduceAdd, Nat.reduceLeDiff, Nat.reduceEqDiff, Nat.reduceSub, Nat.reduceMul, Nat.reduceBEq, Nat.reduceLT, Int.reduceAdd, Int.reduceSub, Int.reduceMul, Int.reduceNeg, Int.reduceLE, Int.reduceLT, Int.reduceEq, Int.reduceNe, Int.reduceToNat, reduceIte, szT, szlT, i0, q3]) <;> rfl)) (sq (if_fn (η1 := η) (by (try simp only [DLS, Int.cast_ofNat_Int, Nat.reduceAdd, Nat.reduceLeDiff, Nat.reduceEqDiff, Nat.reduceSub, Nat.reduceMul, Nat.reduceBEq, Nat.reduceLT, Int.reduceAdd, Int.reduceSub, Int.reduceMul, Int.reduceNeg, Int.reduceLE, Int.reduceLT, Int.reduceEq, Int.reduceNe, Int.reduceToNat, reduceIte, szT, szlT, i0, q4]) <;> rfl)) (ret_of (by (try simp only [DLS, Int.cast_ofNat_Int, Nat.reduceAdd, Nat.reduceLeDiff, Nat.reduceEqDiff, Nat.reduceSub, Nat.reduceMul, Nat.reduceBEq, Nat.reduceLT, Int.reduceAdd, Int.reduceSub, Int.reduceMul, Int.reduceNeg, Int.reduceLE, Int.reduceLT, Int.reduceEq, Int.reduceNe, Int.reduceToNat, reduceIte, szT, szlT, i0, q5, b2]) <;> rfl)))))
  | n w k =>
    have hk : k < cap := hc
    have i0 : ixD (Pl.n w k).d (.int 0) = some (.str w.s) := rfl
    have i1 : ixD (Pl.n w k).d (.int 1) = some (.int (k : Nat)) := rfl
    generalize (Pl.n w k).d = PD at *
    cases w with
    | told =>
      have q1 : eqD (.str NW.told.s) (.str "last") = some (.bl false) := rfl
      have q2 : eqD (.str NW.told.s) (.str "told") = some (.bl true) := rfl
      have hle : leD (.int (min (cap : Int) ((now : Int) - (r.k : Nat)))) (.int (k : Nat)) = some (.bl (decide ((now : Int) - (r.k : Nat) ≤ (k : Nat)))) := by
        show some (D.bl (decide _)) = _
        refine congrArg (fun b => some (D.bl b)) (decide_eq_decide.mpr ?_)
        omega
      show _ = SR.rt (.bl (decide ((now : Int) - (r.k : Nat) ≤ (k : Nat)))) η
      generalize (aftL B rs).map (fun k : Nat => D.int (k : Nat)) = AF at *
      generalize (quiL M t now cap rs).map D.int = QQ at *
      generalize decide ((now : Int) - (r.k : Nat) ≤ (k : Nat)) = q6 at *
      generalize min (cap : Int) ((now : Int) - (r.k : Nat)) = MM at *
      refine sq (if_fn (η1 := η) (by (try simp only [DLS, Int.cast_ofNat_Int, Nat.reduceAdd, Nat.reduceLeDiff, Nat.reduceEqDiff, Nat.reduceSub, Nat.reduceMul, Nat.reduceBEq, Nat.reduceLT, Int.reduceAdd, Int.reduceSub, Int.reduceMul, Int.reduceNeg, Int.reduceLE, Int.reduceLT, Int.reduceEq, Int.reduceNe, Int.reduceToNat, reduceIte, szT, szlT, i0, q1]) <;> rfl)) (sqr (if_t (η1 := η) (by (try simp only [DLS, Int.cast_ofNat_Int, Nat.reduceAdd, Nat.reduceLeDiff, Nat.reduceEqDiff, Nat.reduceSub, Nat.reduceMul, Nat.reduceBEq, Nat.reduceLT, Int.reduceAdd, Int.reduceSub, Int.reduceMul, Int.reduceNeg, Int.reduceLE, Int.reduceLT, Int.reduceEq, Int.reduceNe, Int.reduceToNat, reduceIte, szT, szlT, i0, q2]) <;> rfl) (ret_of ?_)))
      rw [fOp_a, show (fV 3) [vl PD, vl (.int (j : Nat)), vl PV0, vl (.int MM), vl (.int (min (cap : Int) ((now : Int) - (q.k : Nat)))), vl (.int (bI r.w.isNone)), vl (.int (bI (!decide ((1 : Int) ∈ rings.drop (r.k + 1))))), vl (.tup AF), vl (.tup QQ)] η = .ok (.int MM) η from rfl, bind_ok, show (fOp ixD (fV 0) (fC (.int 1))) [vl PD, vl (.int (j : Nat)), vl PV0, vl (.int MM), vl (.int (min (cap : Int) ((now : Int) - (q.k : Nat)))), vl (.int (bI r.w.isNone)), vl (.int (bI (!decide ((1 : Int) ∈ rings.drop (r.k + 1))))), vl (.tup AF), vl (.tup QQ)] η = .ok (.int (k : Nat)) η from (by (try simp only [DLS, Int.cast_ofNat_Int, Nat.reduceAdd, Nat.reduceLeDiff, Nat.reduceEqDiff, Nat.reduceSub, Nat.reduceMul, Nat.reduceBEq, Nat.reduceLT, Int.reduceAdd, Int.reduceSub, Int.reduceMul, Int.reduceNeg, Int.reduceLE, Int.reduceLT, Int.reduceEq, Int.reduceNe, Int.reduceToNat, reduceIte, szT, szlT, i1]) <;> rfl), bind_ok, hle]; rfl
    | named =>
      have q1 : eqD (.str NW.named.s) (.str "last") = some (.bl false) := rfl
      have q2 : eqD (.str NW.named.s) (.str "told") = some (.bl false) := rfl
      have q3 : eqD (.str NW.named.s) (.str "named") = some (.bl true) := rfl
      have hle : leD (.int (min (cap : Int) ((now : Int) - (q.k : Nat)))) (.int (k : Nat)) = some (.bl (decide ((now : Int) - (q.k : Nat) ≤ (k : Nat)))) := by
        show some (D.bl (decide _)) = _
        refine congrArg (fun b => some (D.bl b)) (decide_eq_decide.mpr ?_)
        omega
      show _ = SR.rt (.bl (decide ((now : Int) - (q.k : Nat) ≤ (k : Nat)))) η
      generalize (aftL B rs).map (fun k : Nat => D.int (k : Nat)) = AF at *
      generalize (quiL M t now cap rs).map D.int = QQ at *
      generalize decide ((now : Int) - (q.k : Nat) ≤ (k : Nat)) = q6 at *
      generalize min (cap : Int) ((now : Int) - (q.k : Nat)) = MM at *
      generalize min (cap : Int) ((now : Int) - (r.k : Nat)) = MR at *
      refine sq (if_fn (η1 := η) (by (try simp only [DLS, Int.cast_ofNat_Int, Nat.reduceAdd, Nat.reduceLeDiff, Nat.reduceEqDiff, Nat.reduceSub, Nat.reduceMul, Nat.reduceBEq, Nat.reduceLT, Int.reduceAdd, Int.reduceSub, Int.reduceMul, Int.reduceNeg, Int.reduceLE, Int.reduceLT, Int.reduceEq, Int.reduceNe, Int.reduceToNat, reduceIte, szT, szlT, i0, q1]) <;> rfl)) (sq (if_fn (η1 := η) (by (try simp only [DLS, Int.cast_ofNat_Int, Nat.reduceAdd, Nat.reduceLeDiff, Nat.reduceEqDiff, Nat.reduceSub, Nat.reduceMul, Nat.reduceBEq, Nat.reduceLT, Int.reduceAdd, Int.reduceSub, Int.reduceMul, Int.reduceNeg, Int.reduceLE, Int.reduceLT, Int.reduceEq, Int.reduceNe, Int.reduceToNat, reduceIte, szT, szlT, i0, q2]) <;> rfl)) (sqr (if_t (η1 := η) (by (try simp only [DLS, Int.cast_ofNat_Int, Nat.reduceAdd, Nat.reduceLeDiff, Nat.reduceEqDiff, Nat.reduceSub, Nat.reduceMul, Nat.reduceBEq, Nat.reduceLT, Int.reduceAdd, Int.reduceSub, Int.reduceMul, Int.reduceNeg, Int.reduceLE, Int.reduceLT, Int.reduceEq, Int.reduceNe, Int.reduceToNat, reduceIte, szT, szlT, i0, q3]) <;> rfl) (ret_of ?_))))
      rw [fOp_a, show (fV 4) [vl PD, vl (.int (j : Nat)), vl PV0, vl (.int MR), vl (.int MM), vl (.int (bI r.w.isNone)), vl (.int (bI (!decide ((1 : Int) ∈ rings.drop (r.k + 1))))), vl (.tup AF), vl (.tup QQ)] η = .ok (.int MM) η from rfl, bind_ok, show (fOp ixD (fV 0) (fC (.int 1))) [vl PD, vl (.int (j : Nat)), vl PV0, vl (.int MR), vl (.int MM), vl (.int (bI r.w.isNone)), vl (.int (bI (!decide ((1 : Int) ∈ rings.drop (r.k + 1))))), vl (.tup AF), vl (.tup QQ)] η = .ok (.int (k : Nat)) η from (by (try simp only [DLS, Int.cast_ofNat_Int, Nat.reduceAdd, Nat.reduceLeDiff, Nat.reduceEqDiff, Nat.reduceSub, Nat.reduceMul, Nat.reduceBEq, Nat.reduceLT, Int.reduceAdd, Int.reduceSub, Int.reduceMul, Int.reduceNeg, Int.reduceLE, Int.reduceLT, Int.reduceEq, Int.reduceNe, Int.reduceToNat, reduceIte, szT, szlT, i1]) <;> rfl), bind_ok, hle]; rfl
    | quiet =>
      have q1 : eqD (.str NW.quiet.s) (.str "last") = some (.bl false) := rfl
      have q2 : eqD (.str NW.quiet.s) (.str "told") = some (.bl false) := rfl
      have q3 : eqD (.str NW.quiet.s) (.str "named") = some (.bl false) := rfl
      have q4 : eqD (.str NW.quiet.s) (.str "quiet") = some (.bl true) := rfl
      have iq : ixD (.tup ((quiL M t now cap rs).map .int)) (.int (j : Nat)) = some (.int (qui M t now cap row.st)) := by
        have hq : (quiL M t now cap rs)[j]? = some (qui M t now cap row.st) := by
          unfold quiL
          rw [List.getElem?_map, hj]; rfl
        exact at_map (f := D.int) hq
      have hgt : gtD (.int (qui M t now cap row.st)) (.int (k : Nat)) = some (.bl (plBM M B r q rings t now row.st (.n .quiet k))) := by
        show some (D.bl (decide (_ > _))) = some (D.bl (match (othL M t row.st).getLast? with | none => true | some o => decide ((now : Int) - (o.k : Nat) > (k : Nat))))
        refine congrArg (fun b => some (D.bl b)) ?_
        unfold qui
        cases (othL M t row.st).getLast? with
        | none => exact decide_eq_true (by show (cap : Int) > (k : Nat); omega)
        | some o => exact decide_eq_decide.mpr (by show min (cap : Int) ((now : Int) - (o.k : Nat)) > (k : Nat) ↔ _; omega)
      generalize plBM M B r q rings t now row.st (.n .quiet k) = q6 at *
      generalize (aftL B rs).map (fun k : Nat => D.int (k : Nat)) = AF at *
      generalize (quiL M t now cap rs).map D.int = QQ at *
      generalize qui M t now cap row.st = QU at *
      refine sq (if_fn (η1 := η) (by (try simp only [DLS, Int.cast_ofNat_Int, Nat.reduceAdd, Nat.reduceLeDiff, Nat.reduceEqDiff, Nat.reduceSub, Nat.reduceMul, Nat.reduceBEq, Nat.reduceLT, Int.reduceAdd, Int.reduceSub, Int.reduceMul, Int.reduceNeg, Int.reduceLE, Int.reduceLT, Int.reduceEq, Int.reduceNe, Int.reduceToNat, reduceIte, szT, szlT, i0, q1]) <;> rfl)) (sq (if_fn (η1 := η) (by (try simp only [DLS, Int.cast_ofNat_Int, Nat.reduceAdd, Nat.reduceLeDiff, Nat.reduceEqDiff, Nat.reduceSub, Nat.reduceMul, Nat.reduceBEq, Nat.reduceLT, Int.reduceAdd, Int.reduceSub, Int.reduceMul, Int.reduceNeg, Int.reduceLE, Int.reduceLT, Int.reduceEq, Int.reduceNe, Int.reduceToNat, reduceIte, szT, szlT, i0, q2]) <;> rfl)) (sq (if_fn (η1 := η) (by (try simp only [DLS, Int.cast_ofNat_Int, Nat.reduceAdd, Nat.reduceLeDiff, Nat.reduceEqDiff, Nat.reduceSub, Nat.reduceMul, Nat.reduceBEq, Nat.reduceLT, Int.reduceAdd, Int.reduceSub, Int.reduceMul, Int.reduceNeg, Int.reduceLE, Int.reduceLT, Int.reduceEq, Int.reduceNe, Int.reduceToNat, reduceIte, szT, szlT, i0, q3]) <;> rfl)) (sqr (if_t (η1 := η) (by (try simp only [DLS, Int.cast_ofNat_Int, Nat.reduceAdd, Nat.reduceLeDiff, Nat.reduceEqDiff, Nat.reduceSub, Nat.reduceMul, Nat.reduceBEq, Nat.reduceLT, Int.reduceAdd, Int.reduceSub, Int.reduceMul, Int.reduceNeg, Int.reduceLE, Int.reduceLT, Int.reduceEq, Int.reduceNe, Int.reduceToNat, reduceIte, szT, szlT, i0, q4]) <;> rfl) (ret_of ?_)))))
      rw [fOp_a, fOp_a, show (fV 8) [vl PD, vl (.int (j : Nat)), vl PV0, vl (.int (min (cap : Int) ((now : Int) - (r.k : Nat)))), vl (.int (min (cap : Int) ((now : Int) - (q.k : Nat)))), vl (.int (bI r.w.isNone)), vl (.int (bI (!decide ((1 : Int) ∈ rings.drop (r.k + 1))))), vl (.tup AF), vl (.tup QQ)] η = .ok (.tup QQ) η from rfl, bind_ok, show (fV 1) [vl PD, vl (.int (j : Nat)), vl PV0, vl (.int (min (cap : Int) ((now : Int) - (r.k : Nat)))), vl (.int (min (cap : Int) ((now : Int) - (q.k : Nat)))), vl (.int (bI r.w.isNone)), vl (.int (bI (!decide ((1 : Int) ∈ rings.drop (r.k + 1))))), vl (.tup AF), vl (.tup QQ)] η = .ok (.int (j : Nat)) η from rfl, bind_ok, iq]
      show ((R.ok (D.int QU) η).bind _) = _
      rw [bind_ok, show (fOp ixD (fV 0) (fC (.int 1))) [vl PD, vl (.int (j : Nat)), vl PV0, vl (.int (min (cap : Int) ((now : Int) - (r.k : Nat)))), vl (.int (min (cap : Int) ((now : Int) - (q.k : Nat)))), vl (.int (bI r.w.isNone)), vl (.int (bI (!decide ((1 : Int) ∈ rings.drop (r.k + 1))))), vl (.tup AF), vl (.tup QQ)] η = .ok (.int (k : Nat)) η from (by (try simp only [DLS, Int.cast_ofNat_Int, Nat.reduceAdd, Nat.reduceLeDiff, Nat.reduceEqDiff, Nat.reduceSub, Nat.reduceMul, Nat.reduceBEq, Nat.reduceLT, Int.reduceAdd, Int.reduceSub, Int.reduceMul, Int.reduceNeg, Int.reduceLE, Int.reduceLT, Int.reduceEq, Int.reduceNe, Int.reduceToNat, reduceIte, szT, szlT, i1]) <;> rfl), bind_ok, hgt]; rfl
theorem test_holds_ok {u : Ts} {j : Nat} {row : Row} (hj : rs[j]? = some row) (hc : plR u.p < cap) : m_test_holds [u.d, .int (j : Nat), viewY M B r q rings t now cap rs] η = .ok (.bl (tsB M B r q rings t now row.st u)) η := by
  have e := plain_holds_ok (η := η) (M := M) (B := B) (r := r) (q := q) (rings := rings) (t := t) (now := now) hj hc
  obtain ⟨g, p⟩ := u
  unfold tsB
  generalize viewY M B r q rings t now cap rs = PV0 at *
  generalize plBM M B r q rings t now row.st p = q1 at *
  refine run_rt2 (δ := [vl (Ts.d ⟨g, p⟩), vl (.int (j : Nat)), vl PV0]) rfl ?_
  rw [PTH_eq]
  cases g with
  | true =>
    have i0 : ixD (Ts.d ⟨true, p⟩) (.int 0) = some (.str "not") := rfl
    have i1 : ixD (Ts.d ⟨true, p⟩) (.int 1) = some p.d := rfl
    have q2 : eqD (.str "not") (.str "not") = some (.bl true) := rfl
    generalize Ts.d ⟨true, p⟩ = TD at *
    generalize p.d = PD at *
    exact sqr (if_t (η1 := η) (by (try simp only [DLS, Int.cast_ofNat_Int, Nat.reduceAdd, Nat.reduceLeDiff, Nat.reduceEqDiff, Nat.reduceSub, Nat.reduceMul, Nat.reduceBEq, Nat.reduceLT, Int.reduceAdd, Int.reduceSub, Int.reduceMul, Int.reduceNeg, Int.reduceLE, Int.reduceLT, Int.reduceEq, Int.reduceNe, Int.reduceToNat, reduceIte, szT, szlT, i0, q2]) <;> rfl) (ret_of (by (try simp only [DLS, Int.cast_ofNat_Int, Nat.reduceAdd, Nat.reduceLeDiff, Nat.reduceEqDiff, Nat.reduceSub, Nat.reduceMul, Nat.reduceBEq, Nat.reduceLT, Int.reduceAdd, Int.reduceSub, Int.reduceMul, Int.reduceNeg, Int.reduceLE, Int.reduceLT, Int.reduceEq, Int.reduceNe, Int.reduceToNat, reduceIte, szT, szlT, i1, e]) <;> rfl)))
  | false =>
    show (sSeq PTH1 PTH2) [vl p.d, vl (.int (j : Nat)), vl PV0] η = SR.rt (.bl q1) η
    have q2 : ∃ z, ixD p.d (.int 0) = some (.str z) ∧ eqD (.str z) (.str "not") = some (.bl false) := by
      cases p with
      | z w => exact ⟨w.s, rfl, z_not w⟩
      | n w k => exact ⟨w.s, rfl, n_not w⟩
    obtain ⟨z, i0, q2⟩ := q2
    generalize p.d = PD at *
    exact sq (if_fn (η1 := η) (by (try simp only [DLS, Int.cast_ofNat_Int, Nat.reduceAdd, Nat.reduceLeDiff, Nat.reduceEqDiff, Nat.reduceSub, Nat.reduceMul, Nat.reduceBEq, Nat.reduceLT, Int.reduceAdd, Int.reduceSub, Int.reduceMul, Int.reduceNeg, Int.reduceLE, Int.reduceLT, Int.reduceEq, Int.reduceNe, Int.reduceToNat, reduceIte, szT, szlT, i0, q2]) <;> rfl)) (ret_of (by (try simp only [DLS, Int.cast_ofNat_Int, Nat.reduceAdd, Nat.reduceLeDiff, Nat.reduceEqDiff, Nat.reduceSub, Nat.reduceMul, Nat.reduceBEq, Nat.reduceLT, Int.reduceAdd, Int.reduceSub, Int.reduceMul, Int.reduceNeg, Int.reduceLE, Int.reduceLT, Int.reduceEq, Int.reduceNe, Int.reduceToNat, reduceIte, szT, szlT, e]) <;> rfl))
end
end DL
namespace DL
open PySem L2 PL
section
variable {η : List O} {δ : En} {sp gd T R n b : Nat} {gs : List Gr} {ks : List (Str × Int)} {rs : List Row} {m : D} {M A B : List Mn} {rings : List Int} {now cap : Nat} {t : Thing} {r q : Mn}
theorem price_ok (hb : η[b]? = some (bkO ks rs m)) {s : Str} (h : s ∈ ks.map (·.1)) : ∃ p, m_Book_name_price [.obj b, .str s] η = .ok (.int p) η := by
  have hb' : η[b]? = some (.ins 0 NSB [.lst (ks.map kd2), .lst (rs.map Row.d), m]) := hb
  have q := loop_x (t := .tp [.nm 2, .nm 3]) (b := (sIf (toB (fOp eqD (fV 2) (fV 1))) (sRet (fV 3)) SR.nx)) [2, 3] (fun k δ η1 => η = η1 ∧ s ∉ (ks.take k).map (·.1)) (fun r => ∃ p, r = SR.rt (.int p) η) (ds := ks.map kd2) (δ := [vl (.obj b), vl (.str s), none, none]) (η := η) ⟨rfl, by simp⟩ fun k x δ1 η1 hx hk ⟨he, hn⟩ => by
    subst he
    obtain ⟨k0, hk0, rfl⟩ := map_get hx
    have l1 : δ1.length = 4 := hk.1
    have b1 : δ1[1]? = some (vl (.str s)) := hk.2 1 (by decide)
    refine ⟨(δ1.set 2 (vl (.str k0.1))).set 3 (vl (.int k0.2)), by rw [kd2, asg_tp, asgs_cons, asg_nm]; rfl, ?_⟩
    have e := str_eq (a := k0.1) (c := s)
    by_cases hs : k0.1 = s
    · rw [decide_eq_true hs] at e
      refine .inr ⟨⟨k0.2, if_t (η1 := η) (by (try simp only [DLS, Int.cast_ofNat_Int, Nat.reduceAdd, Nat.reduceLeDiff, Nat.reduceEqDiff, Nat.reduceSub, Nat.reduceMul, Nat.reduceBEq, Nat.reduceLT, Int.reduceAdd, Int.reduceSub, Int.reduceMul, Int.reduceNeg, Int.reduceLE, Int.reduceLT, Int.reduceEq, Int.reduceNe, Int.reduceToNat, reduceIte, szT, szlT, l1, b1, e]) <;> rfl) (ret_of (by (try simp only [DLS, Int.cast_ofNat_Int, Nat.reduceAdd, Nat.reduceLeDiff, Nat.reduceEqDiff, Nat.reduceSub, Nat.reduceMul, Nat.reduceBEq, Nat.reduceLT, Int.reduceAdd, Int.reduceSub, Int.reduceMul, Int.reduceNeg, Int.reduceLE, Int.reduceLT, Int.reduceEq, Int.reduceNe, Int.reduceToNat, reduceIte, szT, szlT, l1]) <;> rfl))⟩, fun f => ?_⟩
      rw [show (sIf (toB (fOp eqD (fV 2) (fV 1))) (sRet (fV 3)) SR.nx) ((δ1.set 2 (vl (.str k0.1))).set 3 (vl (.int k0.2))) η = .rt (.int k0.2) η from if_t (η1 := η) (by (try simp only [DLS, Int.cast_ofNat_Int, Nat.reduceAdd, Nat.reduceLeDiff, Nat.reduceEqDiff, Nat.reduceSub, Nat.reduceMul, Nat.reduceBEq, Nat.reduceLT, Int.reduceAdd, Int.reduceSub, Int.reduceMul, Int.reduceNeg, Int.reduceLE, Int.reduceLT, Int.reduceEq, Int.reduceNe, Int.reduceToNat, reduceIte, szT, szlT, l1, b1, e]) <;> rfl) (ret_of (by (try simp only [DLS, Int.cast_ofNat_Int, Nat.reduceAdd, Nat.reduceLeDiff, Nat.reduceEqDiff, Nat.reduceSub, Nat.reduceMul, Nat.reduceBEq, Nat.reduceLT, Int.reduceAdd, Int.reduceSub, Int.reduceMul, Int.reduceNeg, Int.reduceLE, Int.reduceLT, Int.reduceEq, Int.reduceNe, Int.reduceToNat, reduceIte, szT, szlT, l1]) <;> rfl))]
      rfl
    · rw [decide_eq_false hs] at e
      refine .inl ⟨_, η, .inl (if_fn (η1 := η) (by (try simp only [DLS, Int.cast_ofNat_Int, Nat.reduceAdd, Nat.reduceLeDiff, Nat.reduceEqDiff, Nat.reduceSub, Nat.reduceMul, Nat.reduceBEq, Nat.reduceLT, Int.reduceAdd, Int.reduceSub, Int.reduceMul, Int.reduceNeg, Int.reduceLE, Int.reduceLT, Int.reduceEq, Int.reduceNe, Int.reduceToNat, reduceIte, szT, szlT, l1, b1, e]) <;> rfl)), .st (.st hk (by decide)) (by decide), rfl, fun z => ?_⟩
      rw [List.take_add_one, hk0, List.map_append] at z
      rcases List.mem_append.mp z with z | z
      · exact hn z
      · exact hs (by simpa using z : s = k0.1).symm
  rcases q with ⟨δ', η', el, kp, rfl, hn⟩ | ⟨p, hr⟩
  · rw [List.length_map, List.take_length] at hn
    exact absurd h hn
  · refine ⟨p, run_rt2 (δ := [vl (.obj b), vl (.str s), none, none]) rfl ?_⟩
    unfold b_Book_name_price
    refine sqr ?_
    have fa : (fiA (fFld 0 ["sort_rows", "word_rows", "own_memory"] 0 (fV 0))) [vl (.obj b), vl (.str s), none, none] η = .ok (ks.map kd2) η := fiA_of (d := .lst (ks.map kd2)) (η1 := η) (by
      generalize ks.map kd2 = KK at *
      generalize rs.map Row.d = RR at *
      exact (by (try simp only [DLS, Int.cast_ofNat_Int, Nat.reduceAdd, Nat.reduceLeDiff, Nat.reduceEqDiff, Nat.reduceSub, Nat.reduceMul, Nat.reduceBEq, Nat.reduceLT, Int.reduceAdd, Int.reduceSub, Int.reduceMul, Int.reduceNeg, Int.reduceLE, Int.reduceLT, Int.reduceEq, Int.reduceNe, Int.reduceToNat, reduceIte, szT, szlT, hb']) <;> rfl)) rfl
    exact for_of fa hr
theorem stand_ok (hb : η[b]? = some (bkO ks rs m)) {w s : Str} {row : Row} (hf : rs.find? (fun q => decide (q.n = w)) = some row) (h : s ∈ ks.map (·.1)) : m_Book_can_stand [.obj b, .str w, .str s] η = .ok (.bl (decide (s ∈ row.st))) η := by
  obtain ⟨p, ep⟩ := price_ok hb h
  have ew := word_row_find (l0 := .lst (ks.map kd2)) (m := m) hb hf
  have i1 : ixD row.d (.int 1) = some (.tup (row.st.map .str)) := rfl
  have hb' : η[b]? = some (.ins 0 NSB [.lst (ks.map kd2), .lst (rs.map Row.d), m]) := hb
  have ei : inD (.str s) (.tup (row.st.map .str)) = some (.bl (decide (s ∈ row.st))) := inD_ts
  refine run_rt2 (δ := [vl (.obj b), vl (.str w), vl (.str s), none]) rfl ?_
  rw [PCS_eq]
  generalize row.st.map D.str = SD at *
  generalize ks.map kd2 = KK at *
  generalize rs.map Row.d = RR at *
  generalize row.d = RD at *
  exact sq (δ1 := [vl (.obj b), vl (.str w), vl (.str s), vl (.tup SD)]) (η1 := η) (set_of (by (try simp only [DLS, Int.cast_ofNat_Int, Nat.reduceAdd, Nat.reduceLeDiff, Nat.reduceEqDiff, Nat.reduceSub, Nat.reduceMul, Nat.reduceBEq, Nat.reduceLT, Int.reduceAdd, Int.reduceSub, Int.reduceMul, Int.reduceNeg, Int.reduceLE, Int.reduceLT, Int.reduceEq, Int.reduceNe, Int.reduceToNat, reduceIte, szT, szlT, hb', ew, i1]) <;> rfl)) (sq (δ1 := [vl (.obj b), vl (.str w), vl (.str s), vl (.tup SD)]) (η1 := η) (by (try simp only [DLS, Int.cast_ofNat_Int, Nat.reduceAdd, Nat.reduceLeDiff, Nat.reduceEqDiff, Nat.reduceSub, Nat.reduceMul, Nat.reduceBEq, Nat.reduceLT, Int.reduceAdd, Int.reduceSub, Int.reduceMul, Int.reduceNeg, Int.reduceLE, Int.reduceLT, Int.reduceEq, Int.reduceNe, Int.reduceToNat, reduceIte, szT, szlT, hb', ep]) <;> rfl) (ret_of (by (try simp only [DLS, Int.cast_ofNat_Int, Nat.reduceAdd, Nat.reduceLeDiff, Nat.reduceEqDiff, Nat.reduceSub, Nat.reduceMul, Nat.reduceBEq, Nat.reduceLT, Int.reduceAdd, Int.reduceSub, Int.reduceMul, Int.reduceNeg, Int.reduceLE, Int.reduceLT, Int.reduceEq, Int.reduceNe, Int.reduceToNat, reduceIte, szT, szlT, ei]) <;> rfl)))
theorem idx_row {w : Str} (nd : (rs.map (·.n)).Nodup) (h : w ∈ rs.map (·.n)) : ∃ row, rs[(rs.map (·.n)).idxOf w]? = some row ∧ rs.find? (fun q => decide (q.n = w)) = some row := by
  obtain ⟨r0, h0⟩ := find_of h
  have hlt := List.idxOf_lt_length_of_mem h
  have hg := List.getElem_idxOf hlt
  have hm := List.mem_of_find?_eq_some h0
  have hn0 := List.find?_some h0
  have hn : r0.n = w := of_decide_eq_true hn0
  obtain ⟨i, hi⟩ := List.mem_iff_getElem?.mp hm
  have hi2 : (rs.map (·.n))[i]? = some w := by rw [List.getElem?_map, hi]; exact congrArg some hn
  have hj2 : (rs.map (·.n))[(rs.map (·.n)).idxOf w]? = some w := by rw [List.getElem?_eq_getElem hlt, hg]
  have : i = (rs.map (·.n)).idxOf w := (List.getElem?_inj (List.getElem?_eq_some_iff.mp hi2).1 nd).mp (hi2.trans hj2.symm)
  exact ⟨r0, by rw [← this]; exact hi, h0⟩
/-- where a word stands -/
def stOf (rs : List Row) (w : Str) : List Str := match rs.find? (fun q => decide (q.n = w)) with
  | some row => row.st
  | none => []
theorem stOf_e {w : Str} {row : Row} (h : rs.find? (fun q => decide (q.n = w)) = some row) : stOf rs w = row.st := by unfold stOf; rw [h]
def cond (M B : List Mn) (r q : Mn) (rings : List Int) (t : Thing) (now : Nat) (rs : List Row) (g : Gr) : Bool := decide (t.1 ∈ stOf rs g.1) && g.2.all fun u => tsB M B r q rings t now (stOf rs g.1) u
theorem plR_le (gs : List Gr) : ∀ g ∈ gs, ∀ u ∈ g.2, plR u.p ≤ reachL gs := fun g hg u hu => by
  have mem : plR u.p ∈ rs1 gs := List.mem_flatMap.mpr ⟨g, hg, List.mem_map.mpr ⟨u, hu, rfl⟩⟩
  have : ∀ (l : List Nat) (a x : Nat), (x ∈ l ∨ x ≤ a) → x ≤ l.foldl max a := fun l => by
    induction l with
    | nil => intro a x h; exact h.resolve_left (by simp)
    | cons c l ih =>
      intro a x h
      rw [List.foldl_cons]
      refine ih _ _ ?_
      rcases h with h | h
      · rcases List.mem_cons.mp h with rfl | h
        · exact .inr (Nat.le_max_right ..)
        · exact .inl h
      · exact .inr (Nat.le_trans h (Nat.le_max_left ..))
  exact this _ 0 _ (.inl mem)
/-- the words of a guide, in order -/
theorem word_by_yes (hg : η[gd]? = some (gdO b gs)) (hb : η[b]? = some (bkO ks rs m)) (Bd : RowsOk (ks.map (·.1)) rs) (G : GsOk (rs.map (·.n)) gs) (ht : t.1 ∈ ks.map (·.1)) (hc : reachL gs < cap) (rk : r.k ≤ now) :
    m_Guide_word_by [.obj gd, .str t.1, viewY M B r q rings t now cap rs] η = .ok (wD ((gs.find? (cond M B r q rings t now rs)).map (·.1))) η := by
  have hg' : η[gd]? = some (.ins 3 NSG [.obj b, .lst (gs.map grD)]) := hg
  have hb' : η[b]? = some (.ins 0 NSB [.lst (ks.map kd2), .lst (rs.map Row.d), m]) := hb
  have i0 : ixD (viewY M B r q rings t now cap rs) (.int 0) = some (.int (min (cap : Int) ((now : Int) - (r.k : Nat)))) := rfl
  have v0 : ¬ min (cap : Int) ((now : Int) - (r.k : Nat)) < 0 := by omega
  have th : ∀ {u : Ts} {j : Nat} {row : Row}, rs[j]? = some row → plR u.p < cap → m_test_holds [u.d, .int (j : Nat), viewY M B r q rings t now cap rs] η = .ok (.bl (tsB M B r q rings t now row.st u)) η := fun hj hc => test_holds_ok hj hc
  generalize viewY M B r q rings t now cap rs = PV0 at *
  have ewn : m_Book_word_names [.obj b] η = .ok (.lst ((rs.map (·.n)).map .str)) η := by
    have ec := comp_enc (t := .tp [.nm 1, .nm 2, .nm 3]) (ft := fYes) (fe := fV 1) (δw := wipeD [vl (.obj b), none, none, none] [1, 2, 3]) (η := η) Row.d (fun _ => true) (fun r => r.n) D.str (xs := rs) fun r hr =>
      ⟨[vl (.obj b), vl (.str r.n), vl (.tup (r.st.map .str)), vl (.int r.p)], by rw [Row.d, asg_tp, asgs_cons, asg_nm]; rfl, rfl, fun _ => rfl⟩
    rw [List.filter_eq_self.mpr fun _ _ => rfl] at ec
    refine run_rt2 (δ := [vl (.obj b), none, none, none]) rfl (ret_of (frzE_of (lc_of' (vs := [1, 2, 3]) (fiA_of (d := .lst (rs.map Row.d)) (η1 := η) ?_ rfl) ec)))
    generalize rs.map Row.d = RR at *
    generalize ks.map kd2 = KK at *
    exact (by (try simp only [DLS, Int.cast_ofNat_Int, Nat.reduceAdd, Nat.reduceLeDiff, Nat.reduceEqDiff, Nat.reduceSub, Nat.reduceMul, Nat.reduceBEq, Nat.reduceLT, Int.reduceAdd, Int.reduceSub, Int.reduceMul, Int.reduceNeg, Int.reduceLE, Int.reduceLT, Int.reduceEq, Int.reduceNe, Int.reduceToNat, reduceIte, szT, szlT, hb']) <;> rfl)
  refine run_rt2 (δ := [vl (.obj gd), vl (.str t.1), vl PV0, none, none, none, none]) rfl ?_
  rw [PW_eq]
  refine sq (if_fn (η1 := η) (by (try simp only [DLS, Int.cast_ofNat_Int, Nat.reduceAdd, Nat.reduceLeDiff, Nat.reduceEqDiff, Nat.reduceSub, Nat.reduceMul, Nat.reduceBEq, Nat.reduceLT, Int.reduceAdd, Int.reduceSub, Int.reduceMul, Int.reduceNeg, Int.reduceLE, Int.reduceLT, Int.reduceEq, Int.reduceNe, Int.reduceToNat, reduceIte, szT, szlT, i0, v0]) <;> rfl)) ?_
  refine sq (δ1 := [vl (.obj gd), vl (.str t.1), vl PV0, vl (.lst ((rs.map (·.n)).map .str)), none, none, none]) (η1 := η) (set_of (by
    generalize (rs.map (·.n)).map D.str = NN at *
    generalize rs.map Row.d = RR at *
    generalize ks.map kd2 = KK at *
    generalize gs.map grD = GG at *
    exact (by (try simp only [DLS, Int.cast_ofNat_Int, Nat.reduceAdd, Nat.reduceLeDiff, Nat.reduceEqDiff, Nat.reduceSub, Nat.reduceMul, Nat.reduceBEq, Nat.reduceLT, Int.reduceAdd, Int.reduceSub, Int.reduceMul, Int.reduceNeg, Int.reduceLE, Int.reduceLT, Int.reduceEq, Int.reduceNe, Int.reduceToNat, reduceIte, szT, szlT, hg', hb', ewn]) <;> rfl))) ?_
  have q := loop_x (t := .tp [.nm 4, .nm 5]) (b := PW3b) [4, 5] (fun k δ η1 => η = η1 ∧ (gs.take k).find? (cond M B r q rings t now rs) = none) (fun r0 => ∃ g, gs.find? (cond M B r q rings t now rs) = some g ∧ r0 = SR.rt (.str g.1) η) (ds := gs.map grD) (δ := [vl (.obj gd), vl (.str t.1), vl PV0, vl (.lst ((rs.map (·.n)).map .str)), none, none, none]) (η := η) ⟨rfl, rfl⟩ fun k x δ1 η1 hx hk ⟨he, hn⟩ => by
    subst he
    obtain ⟨g, hgk, rfl⟩ := map_get hx
    have hgm := List.mem_of_getElem? hgk
    have l1 : δ1.length = 7 := hk.1
    have b0 : δ1[0]? = some (vl (.obj gd)) := hk.2 0 (by decide)
    have b1 : δ1[1]? = some (vl (.str t.1)) := hk.2 1 (by decide)
    have b2 : δ1[2]? = some (vl PV0) := hk.2 2 (by decide)
    have b3 : δ1[3]? = some (vl (.lst ((rs.map (·.n)).map .str))) := hk.2 3 (by decide)
    have as : asg (.tp [.nm 4, .nm 5]) (grD g) δ1 = some ((δ1.set 4 (vl (.str g.1))).set 5 (vl (.tup (g.2.map Ts.d)))) := by
      show asg _ (D.tup [.str g.1, .tup (g.2.map Ts.d)]) _ = _
      rw [asg_tp, asgs_cons, asg_nm]; rfl
    refine ⟨_, as, ?_⟩
    have k2 : Kp [4, 5] δ1 ((δ1.set 4 (vl (.str g.1))).set 5 (vl (.tup (g.2.map Ts.d)))) := .st (.st .refl (by decide)) (by decide)
    have c4 : ((δ1.set 4 (vl (.str g.1))).set 5 (vl (.tup (g.2.map Ts.d))))[4]? = some (vl (.str g.1)) := by
      generalize g.2.map Ts.d = TD at *
      simp only [DLS, Int.cast_ofNat_Int, Nat.reduceAdd, Nat.reduceLeDiff, Nat.reduceEqDiff, Nat.reduceSub, Nat.reduceMul, Nat.reduceBEq, Nat.reduceLT, Int.reduceAdd, Int.reduceSub, Int.reduceMul, Int.reduceNeg, Int.reduceLE, Int.reduceLT, Int.reduceEq, Int.reduceNe, Int.reduceToNat, reduceIte, szT, szlT, l1]
    have c5 : ((δ1.set 4 (vl (.str g.1))).set 5 (vl (.tup (g.2.map Ts.d))))[5]? = some (vl (.tup (g.2.map Ts.d))) := by
      generalize g.2.map Ts.d = TD at *
      simp only [DLS, Int.cast_ofNat_Int, Nat.reduceAdd, Nat.reduceLeDiff, Nat.reduceEqDiff, Nat.reduceSub, Nat.reduceMul, Nat.reduceBEq, Nat.reduceLT, Int.reduceAdd, Int.reduceSub, Int.reduceMul, Int.reduceNeg, Int.reduceLE, Int.reduceLT, Int.reduceEq, Int.reduceNe, Int.reduceToNat, reduceIte, szT, szlT, l1]
    have c0 := (k2.2 0 (by decide)).trans b0
    have c1 := (k2.2 1 (by decide)).trans b1
    have c2 := (k2.2 2 (by decide)).trans b2
    have c3 := (k2.2 3 (by decide)).trans b3
    have l2 := k2.1.trans l1
    generalize (δ1.set 4 (vl (.str g.1))).set 5 (vl (.tup (g.2.map Ts.d))) = δ2 at *
    obtain ⟨row, hrow, hf⟩ := idx_row Bd.nd (G.g g hgm).w
    have es := stand_ok hb hf ht
    have hso := stOf_e hf
    have e1 : (fTru (fMethX 0 ["sort_rows", "word_rows", "own_memory"] 3 0 3 m_Book_can_stand [0, 1, 2] [] (fFld 3 ["own_book", "own_rows"] 0 (fV 0)) (fCons (fV 4) (fCons (fV 1) fNil)) fNil)) δ2 η = .ok (decide (t.1 ∈ row.st)) η := by
      generalize decide (t.1 ∈ row.st) = q1 at *
      generalize rs.map Row.d = RR at *
      generalize ks.map kd2 = KK at *
      generalize gs.map grD = GG at *
      exact (by (try simp only [DLS, Int.cast_ofNat_Int, Nat.reduceAdd, Nat.reduceLeDiff, Nat.reduceEqDiff, Nat.reduceSub, Nat.reduceMul, Nat.reduceBEq, Nat.reduceLT, Int.reduceAdd, Int.reduceSub, Int.reduceMul, Int.reduceNeg, Int.reduceLE, Int.reduceLT, Int.reduceEq, Int.reduceNe, Int.reduceToNat, reduceIte, szT, szlT, c0, c1, c4, hg', hb', es]) <;> rfl)
    have ix := idxS_of (G.g g hgm).w
    have ec := comp_enc (t := .nm 6) (ft := fYes) (fe := (fCall 3 m_test_holds (fCons (fV 6) (fCons (fLm idxS (fV 3) (fV 4)) (fCons (fV 2) fNil))))) (δw := wipeD δ2 [6]) (η := η) Ts.d (fun _ => true) (fun u => tsB M B r q rings t now row.st u) D.bl (xs := g.2) fun u hu => ⟨_, asg_nm, rfl, fun _ => by
      have et := th hrow (u := u) (Nat.lt_of_le_of_lt (plR_le gs g hgm u hu) hc)
      generalize tsB M B r q rings t now row.st u = q2 at *
      generalize (rs.map (·.n)).map D.str = NN at *
      generalize u.d = UD at *
      exact (by (try simp only [DLS, Int.cast_ofNat_Int, Nat.reduceAdd, Nat.reduceLeDiff, Nat.reduceEqDiff, Nat.reduceSub, Nat.reduceMul, Nat.reduceBEq, Nat.reduceLT, Int.reduceAdd, Int.reduceSub, Int.reduceMul, Int.reduceNeg, Int.reduceLE, Int.reduceLT, Int.reduceEq, Int.reduceNe, Int.reduceToNat, reduceIte, szT, szlT, wipeD, fLm_a, l2, c2, c3, c4, ix, et]) <;> rfl)⟩
    rw [List.filter_eq_self.mpr fun _ _ => rfl] at ec
    have el := frzE_of (lc_of' (vs := [6]) (δ := δ2) (fiA_of (fa := fV 5) (η := η) (d := .tup (g.2.map Ts.d)) (η1 := η) (by
      generalize g.2.map Ts.d = TD at *
      exact (by (try simp only [DLS, Int.cast_ofNat_Int, Nat.reduceAdd, Nat.reduceLeDiff, Nat.reduceEqDiff, Nat.reduceSub, Nat.reduceMul, Nat.reduceBEq, Nat.reduceLT, Int.reduceAdd, Int.reduceSub, Int.reduceMul, Int.reduceNeg, Int.reduceLE, Int.reduceLT, Int.reduceEq, Int.reduceNe, Int.reduceToNat, reduceIte, szT, szlT, c5]) <;> rfl)) rfl) ec)
    have e2 : (fTru (fCall1 allC (fFrz (fLc [6] (fiA (fV 5)) (.nm 6) fYes (fCall 3 m_test_holds (fCons (fV 6) (fCons (fLm idxS (fV 3) (fV 4)) (fCons (fV 2) fNil)))))))) δ2 η = .ok (g.2.all fun u => tsB M B r q rings t now row.st u) η := by
      rw [fTru_a, fCall1_a, el, bind_ok, all_bls, List.all_map]
      rfl
    have hcond : cond M B r q rings t now rs g = (decide (t.1 ∈ row.st) && g.2.all fun u => tsB M B r q rings t now row.st u) := by unfold cond; rw [hso]
    have htk : (gs.take (k + 1)) = gs.take k ++ [g] := by rw [List.take_add_one, hgk]; rfl
    by_cases hc1 : cond M B r q rings t now rs g = true
    · rw [hcond, Bool.and_eq_true] at hc1
      rw [hc1.1] at e1
      rw [hc1.2] at e2
      have run : PW3b δ2 η = .rt (.str g.1) η := if_t (η1 := η) e1 (if_t (η1 := η) e2 (ret_of (by (try simp only [DLS, Int.cast_ofNat_Int, Nat.reduceAdd, Nat.reduceLeDiff, Nat.reduceEqDiff, Nat.reduceSub, Nat.reduceMul, Nat.reduceBEq, Nat.reduceLT, Int.reduceAdd, Int.reduceSub, Int.reduceMul, Int.reduceNeg, Int.reduceLE, Int.reduceLT, Int.reduceEq, Int.reduceNe, Int.reduceToNat, reduceIte, szT, szlT, c4]) <;> rfl)))
      refine .inr ⟨⟨g, ?_, run⟩, fun f => by rw [run]; rfl⟩
      have : gs = gs.take k ++ g :: gs.drop (k + 1) := by
        have hlt := (List.getElem?_eq_some_iff.mp hgk).1
        have hd := List.drop_eq_getElem_cons hlt
        rw [(List.getElem?_eq_some_iff.mp hgk).2] at hd
        rw [← hd, List.take_append_drop]
      rw [this, List.find?_append, hn, List.find?_cons_of_pos (by rw [hcond, Bool.and_eq_true]; exact hc1)]
      rfl
    · have run : PW3b δ2 η = .nx δ2 η := by
        rw [hcond] at hc1
        by_cases h1 : t.1 ∈ row.st
        · rw [decide_eq_true h1] at e1 hc1
          have h2 : (g.2.all fun u => tsB M B r q rings t now row.st u) = false := by simpa using hc1
          rw [h2] at e2
          exact if_t (η1 := η) e1 (if_fn (η1 := η) e2)
        · rw [decide_eq_false h1] at e1
          exact if_fn (η1 := η) e1
      refine .inl ⟨δ2, η, .inl run, hk.tr k2 (by decide), rfl, ?_⟩
      rw [htk, List.find?_append, hn, List.find?_cons_of_neg (by simpa using hc1)]
      rfl
  have fa : (fiA (fFld 3 ["own_book", "own_rows"] 1 (fV 0))) [vl (.obj gd), vl (.str t.1), vl PV0, vl (.lst ((rs.map (·.n)).map .str)), none, none, none] η = .ok (gs.map grD) η := fiA_of (d := .lst (gs.map grD)) (η1 := η) (by
    generalize (rs.map (·.n)).map D.str = NN at *
    generalize gs.map grD = GG at *
    exact (by (try simp only [DLS, Int.cast_ofNat_Int, Nat.reduceAdd, Nat.reduceLeDiff, Nat.reduceEqDiff, Nat.reduceSub, Nat.reduceMul, Nat.reduceBEq, Nat.reduceLT, Int.reduceAdd, Int.reduceSub, Int.reduceMul, Int.reduceNeg, Int.reduceLE, Int.reduceLT, Int.reduceEq, Int.reduceNe, Int.reduceToNat, reduceIte, szT, szlT, hg']) <;> rfl)) rfl
  rcases q with ⟨δ', η', el, kp, rfl, hn⟩ | ⟨g, hf, hr⟩
  · rw [List.length_map, List.take_length] at hn
    rw [hn]
    exact sq (for_of fa el) (ret_of (by (try simp only [DLS, Int.cast_ofNat_Int, Nat.reduceAdd, Nat.reduceLeDiff, Nat.reduceEqDiff, Nat.reduceSub, Nat.reduceMul, Nat.reduceBEq, Nat.reduceLT, Int.reduceAdd, Int.reduceSub, Int.reduceMul, Int.reduceNeg, Int.reduceLE, Int.reduceLT, Int.reduceEq, Int.reduceNe, Int.reduceToNat, reduceIte, szT, szlT]) <;> rfl))
  · rw [hf]
    exact sqr (for_of fa hr)
theorem word_by_no (s : Str) : m_Guide_word_by [.obj gd, .str s, viewN M t now cap rs] η = .ok .non η := by
  have i0 : ixD (viewN M t now cap rs) (.int 0) = some (.int (-1)) := rfl
  generalize viewN M t now cap rs = PV0 at *
  refine run_rt2 (δ := [vl (.obj gd), vl (.str s), vl PV0, none, none, none, none]) rfl ?_
  rw [PW_eq]
  have n0 : (-1 : Int) < 0 := by decide
  exact sqr (if_t (η1 := η) (by (try simp only [DLS, Int.cast_ofNat_Int, Nat.reduceAdd, Nat.reduceLeDiff, Nat.reduceEqDiff, Nat.reduceSub, Nat.reduceMul, Nat.reduceBEq, Nat.reduceLT, Int.reduceAdd, Int.reduceSub, Int.reduceMul, Int.reduceNeg, Int.reduceLE, Int.reduceLT, Int.reduceEq, Int.reduceNe, Int.reduceToNat, reduceIte, szT, szlT, i0, n0]) <;> rfl) (ret_of (by (try simp only [DLS, Int.cast_ofNat_Int, Nat.reduceAdd, Nat.reduceLeDiff, Nat.reduceEqDiff, Nat.reduceSub, Nat.reduceMul, Nat.reduceBEq, Nat.reduceLT, Int.reduceAdd, Int.reduceSub, Int.reduceMul, Int.reduceNeg, Int.reduceLE, Int.reduceLT, Int.reduceEq, Int.reduceNe, Int.reduceToNat, reduceIte, szT, szlT]) <;> rfl)))
end
end DL
namespace DL
open PySem L2 PL
section
variable {η : List O} {δ : En} {sp gd T R n b hM hR : Nat} {gs : List Gr} {ks : List (Str × Int)} {rs : List Row} {m tok : D} {M A B : List Mn} {rings : List Int} {now cap : Nat} {t : Thing} {r q : Mn} {st : List Str}
/-- what the law's history holds -/
structure HiOk (η : List O) (hM hR : Nat) (M : List Mn) (rings : List Int) (now : Nat) : Prop where
  hm : η[hM]? = some (.lst (M.map mnD))
  hr : η[hR]? = some (.lst (rings.map .int))
  hl : rings.length = now + 1
  M1 : M.length ≤ 1000
end
end DL
namespace DL
open PySem L2 PL
/-! ### the word for a thing -/
def split : List Mn → Thing → Option (List Mn × Mn × List Mn)
  | [], _ => none
  | x :: l, t => match split l t with
    | some (A, r, B) => some (x :: A, r, B)
    | none => if x.t = t then some ([], x, l) else none
theorem split_none : ∀ {M : List Mn} {t : Thing}, split M t = none → ∀ x ∈ M, x.t ≠ t
  | [], _, _, x, hx => by cases hx
  | y :: l, t, h, x, hx => by
    rw [split] at h
    cases q : split l t with
    | some z => rw [q] at h; cases h
    | none =>
      rw [q] at h
      dsimp only at h
      split at h
      · cases h
      · rename_i hy
        rcases List.mem_cons.mp hx with rfl | hx
        · exact hy
        · exact split_none q x hx
theorem split_some : ∀ {M : List Mn} {t : Thing} {A B : List Mn} {r : Mn}, split M t = some (A, r, B) → LastAt M A B r t
  | [], _, _, _, _, h => by cases h
  | y :: l, t, A, B, r, h => by
    rw [split] at h
    cases q : split l t with
    | some z =>
      obtain ⟨A0, r0, B0⟩ := z
      rw [q] at h
      cases h
      have := split_some q
      exact ⟨by rw [this.e]; rfl, this.rt, this.no⟩
    | none =>
      rw [q] at h
      dsimp only at h
      split at h
      · rename_i hy
        cases h
        exact ⟨rfl, hy, split_none q⟩
      · cases h
def sayW (gs : List Gr) (rs : List Row) (M : List Mn) (rings : List Int) (now : Nat) (t : Thing) : Option Str := match split M t with
  | none => none
  | some (_, r, B) => match (namL M t).getLast? with
    | none => none
    | some q => (gs.find? (cond M B r q rings t now rs)).map (·.1)
/-- the first mention is by the name; no mention is late -/
structure Nf (M : List Mn) (now : Nat) : Prop where
  nm : ∀ x ∈ M, namL M x.t ≠ []
  k : ∀ x ∈ M, x.k ≤ now
theorem Nf.add {M : List Mn} {now : Nat} {gs : List Gr} {rs : List Row} {rings : List Int} {t : Thing} (h : Nf M now) : Nf (M ++ [⟨now, t, sayW gs rs M rings now t⟩]) now := by
  refine ⟨fun x hx => ?_, fun x hx => ?_⟩
  · have mono : ∀ s, namL M s ≠ [] → namL (M ++ [⟨now, t, sayW gs rs M rings now t⟩]) s ≠ [] := fun s hs => by
      unfold namL ownL at *
      rw [List.filter_append, List.filter_append]
      intro z
      exact hs (List.append_eq_nil_iff.mp z).1
    rcases List.mem_append.mp hx with hx | hx
    · exact mono _ (h.nm x hx)
    · have : x = ⟨now, t, sayW gs rs M rings now t⟩ := List.mem_singleton.mp hx
      subst this
      show namL _ t ≠ []
      cases q : split M t with
      | none =>
        have hw : sayW gs rs M rings now t = none := by unfold sayW; rw [q]
        rw [hw]
        unfold namL ownL
        rw [List.filter_append, List.filter_append]
        intro z
        have := (List.append_eq_nil_iff.mp z).2
        simp at this
      | some z =>
        obtain ⟨A, r, B⟩ := z
        have L := split_some q
        have hr : r ∈ M := by rw [L.e]; simp
        have := h.nm r hr
        rw [L.rt] at this
        exact mono _ this
  · rcases List.mem_append.mp hx with hx | hx
    · exact h.k x hx
    · rw [List.mem_singleton.mp hx]
      exact Nat.le_refl _
theorem Nf.late {M : List Mn} {now now' : Nat} (h : Nf M now) (l : now ≤ now') : Nf M now' := ⟨h.nm, fun x hx => Nat.le_trans (h.k x hx) l⟩
section
variable {η : List O} {δ : En} {sp gd T R n b hM hR : Nat} {gs : List Gr} {ks : List (Str × Int)} {rs : List Row} {m : D} {M A B : List Mn} {rings : List Int} {now : Nat} {t : Thing}
theorem Nf.get {r : Mn} (h : Nf M now) (L : LastAt M A B r t) : r.k ≤ now ∧ ∃ N' q, namL M t = N' ++ [q] ∧ (namL M t).getLast? = some q := by
  have hr : r ∈ M := by rw [L.e]; simp
  have hn := h.nm r hr
  rw [L.rt] at hn
  rcases getL (l := namL M t) with ⟨_, e⟩ | ⟨N', q, e, e2⟩
  · exact absurd e hn
  · exact ⟨h.k r hr, N', q, e, e2⟩
/-- the word by the program -/
theorem word_ok (So : SpOk η sp gd T R n b gs ks rs m M rings now) (Bd : RowsOk (ks.map (·.1)) rs) (G : GsOk (rs.map (·.n)) gs) (ht : t.1 ∈ ks.map (·.1)) (N : Nf M now) :
    ∃ PV0, m_Speaker_view_of [.obj sp, kd2 t, .obj n] η = .ok PV0 η ∧ m_Guide_word_by [.obj gd, .str t.1, PV0] η = .ok (wD (sayW gs rs M rings now t)) η := by
  cases q : split M t with
  | none =>
    have hn := split_none q
    have ho : ownL M t = [] := List.filter_eq_nil_iff.mpr fun x hx => by simpa using hn x hx
    refine ⟨_, view_no So ho, ?_⟩
    have hw : sayW gs rs M rings now t = none := by unfold sayW; rw [q]
    rw [hw]
    exact word_by_no _
  | some z =>
    obtain ⟨A, r, B⟩ := z
    have L := split_some q
    obtain ⟨rk, N', q0, e1, e2⟩ := N.get L
    refine ⟨_, view_yes So L e1 rk, ?_⟩
    have hw : sayW gs rs M rings now t = (gs.find? (cond M B r q0 rings t now rs)).map (·.1) := by
      unfold sayW
      rw [q]
      dsimp only
      rw [e2]
    rw [hw]
    exact word_by_yes So.hg So.hb Bd G ht (Nat.lt_succ_self _) rk
end
end DL
namespace DL
open PySem L2 PL
/-! ### a sentence -/
def itD (t : Thing) : Option Str → D
  | none => kd2 t
  | some z => .str z
def msD (ms : List Mn) : D := .lst (ms.map mnD)
def sayStep (gs : List Gr) (rs : List Row) (rings : List Int) (now : Nat) (p : List Mn × List D) (t : Thing) : List Mn × List D := (p.1 ++ [⟨now, t, sayW gs rs p.1 rings now t⟩], p.2 ++ [itD t (sayW gs rs p.1 rings now t)])
def sayF (gs : List Gr) (rs : List Row) (rings : List Int) (now : Nat) (M : List Mn) (ts : List Thing) : List Mn × List D := ts.foldl (sayStep gs rs rings now) (M, [])
section
variable {η : List O} {δ : En} {sp gd T R n b hM hR : Nat} {gs : List Gr} {ks : List (Str × Int)} {rs : List Row} {m : D} {M A B : List Mn} {rings : List Int} {now : Nat} {t : Thing} {ts : List Thing} {tl : List (List Mn)} {ring : Int}
theorem sayF_take {k : Nat} (h : ts[k]? = some t) : sayF gs rs rings now M (ts.take (k + 1)) = sayStep gs rs rings now (sayF gs rs rings now M (ts.take k)) t := by
  unfold sayF
  rw [List.take_add_one, h]
  simp only [Option.toList, List.foldl_append, List.foldl_cons, List.foldl_nil]
theorem sayF_fact (N : Nf M now) : ∀ ts : List Thing, Nf (sayF gs rs rings now M ts).1 now ∧ (sayF gs rs rings now M ts).1.length = M.length + ts.length ∧ (sayF gs rs rings now M ts).2.length = ts.length ∧ ∃ X, (sayF gs rs rings now M ts).1 = M ++ X := fun ts => by
  have go : ∀ (ts : List Thing) (p : List Mn × List D), Nf p.1 now → (∃ X, p.1 = M ++ X) → Nf (ts.foldl (sayStep gs rs rings now) p).1 now ∧ (ts.foldl (sayStep gs rs rings now) p).1.length = p.1.length + ts.length ∧ (ts.foldl (sayStep gs rs rings now) p).2.length = p.2.length + ts.length ∧ ∃ X, (ts.foldl (sayStep gs rs rings now) p).1 = M ++ X := fun ts => by
    induction ts with
    | nil => intro p h hx; exact ⟨h, rfl, rfl, hx⟩
    | cons t l ih =>
      intro p h ⟨X, hx⟩
      rw [List.foldl_cons]
      obtain ⟨a, b, c, d⟩ := ih (sayStep gs rs rings now p t) h.add ⟨X ++ [⟨now, t, sayW gs rs p.1 rings now t⟩], by show p.1 ++ _ = _; rw [hx, List.append_assoc]⟩
      refine ⟨a, ?_, ?_, d⟩
      · rw [b]; show (p.1 ++ [_]).length + _ = _; rw [List.length_append, List.length_singleton, List.length_cons]; omega
      · rw [c]; show (p.2 ++ [_]).length + _ = _; rw [List.length_append, List.length_singleton, List.length_cons]; omega
  obtain ⟨a, b, c, d⟩ := go ts (M, []) N ⟨[], (List.append_nil _).symm⟩
  exact ⟨a, b, by rw [show ([] : List D).length = 0 from rfl, Nat.zero_add] at c; exact c, d⟩
/-- the speaker's told rows, one behind another -/
theorem flat2 (hT : η[T]? = some (.lst (tl.map msD))) {δw : En} (hl : δw.length = 10) : ∀ f k, tl.length + 1 ≤ f + k → k ≤ tl.length → compL2 (.nm 8) fYes (fiA (fV 8)) (.nm 9) fYes (fV 9) [9] δw (.one (.obj T)) f k η = .ok (((tl.drop k).flatten).map mnD) η
  | 0, k, h1, h2 => by omega
  | f + 1, k, h1, h2 => by
    rw [compL2, curS_one (rd_obj hT)]
    by_cases hk : k < tl.length
    · rw [List.getElem?_map, List.getElem?_eq_getElem hk, List.drop_eq_getElem_cons hk]
      generalize tl[k] = ms at *
      rw [Option.map_some]
      dsimp only
      rw [asg_nm]
      dsimp only
      have e1 : (fiA (fV 8)) (δw.set 8 (vl (msD ms))) η = .ok (ms.map mnD) η := fiA_of (d := msD ms) (η1 := η) (by
        generalize msD ms = MD at *
        exact (by (try simp only [DLS, Int.cast_ofNat_Int, Nat.reduceAdd, Nat.reduceLeDiff, Nat.reduceEqDiff, Nat.reduceSub, Nat.reduceMul, Nat.reduceBEq, Nat.reduceLT, Int.reduceAdd, Int.reduceSub, Int.reduceMul, Int.reduceNeg, Int.reduceLE, Int.reduceLT, Int.reduceEq, Int.reduceNe, Int.reduceToNat, reduceIte, szT, szlT, hl]) <;> rfl)) rfl
      have e2 := comp_enc (t := .nm 9) (ft := fYes) (fe := fV 9) (δw := wipeD (δw.set 8 (vl (msD ms))) [9]) (η := η) mnD (fun _ => true) (fun x => x) mnD (xs := ms) fun x hx => ⟨_, asg_nm, rfl, fun _ => by
        generalize msD ms = MD at *
        generalize mnD x = XD at *
        exact (by (try simp only [DLS, Int.cast_ofNat_Int, Nat.reduceAdd, Nat.reduceLeDiff, Nat.reduceEqDiff, Nat.reduceSub, Nat.reduceMul, Nat.reduceBEq, Nat.reduceLT, Int.reduceAdd, Int.reduceSub, Int.reduceMul, Int.reduceNeg, Int.reduceLE, Int.reduceLT, Int.reduceEq, Int.reduceNe, Int.reduceToNat, reduceIte, szT, szlT, wipeD, hl]) <;> rfl)⟩
      rw [List.filter_eq_self.mpr fun _ _ => rfl, List.map_id'] at e2
      rw [show fYes (δw.set 8 (vl (msD ms))) η = .ok true η from rfl, nox_ok, bind_ok, if_pos rfl, e1, nox_ok, bind_ok, e2, nox_ok, bind_ok, flat2 hT hl f (k + 1) (by omega) (by omega), bind_ok, List.flatten_cons, List.map_append]
    · have : k = tl.length := by omega
      subst this
      rw [List.getElem?_eq_none (by rw [List.length_map]; exact Nat.le_refl _), List.drop_length]
      rfl
/-- a speaker -/
structure Spk (η : List O) (sp gd T R b : Nat) (gs : List Gr) (ks : List (Str × Int)) (rs : List Row) (m : D) (tl : List (List Mn)) (rings : List Int) : Prop where
  hs : η[sp]? = some (spO gd T R)
  hg : η[gd]? = some (gdO b gs)
  hb : η[b]? = some (bkO ks rs m)
  hT : η[T]? = some (.lst (tl.map msD))
  hR : η[R]? = some (.lst (rings.map .int))
  TR : T ≠ R
abbrev sgS1 (mc : DF) : S := (sDrop (fCallX 2 mc (fCons (fProp 3 1 m_Guide_book (fFld 4 ["own_guide", "own_told", "own_rings"] 0 (fV 0))) (fCons (fV 1) fNil))))
abbrev sgS6 (mp : DF) : S := (sFor (fiA (fCall 1 mp (fCons (fV 1) fNil))) (.nm 6) PY6b)
abbrev sayG (mc mp : DF) : S := sSeq (sgS1 mc) (sSeq PY2 (sSeq PY3 (sSeq PY4 (sSeq PY5 (sSeq (sgS6 mp) PY7)))))
theorem say_gen {mc mp : DF} (K : Spk η sp gd T R b gs ks rs m tl rings) (Bd : RowsOk (ks.map (·.1)) rs) (G : GsOk (rs.map (·.n)) gs) {d : D} (hc : mc [.obj b, d] η = .ok .non η) (hwk : mp [d] (η.set R (.lst ((rings ++ [ring]).map .int)) ++ [O.lst (tl.flatten.map mnD)]) = .ok (lineD ts) (η.set R (.lst ((rings ++ [ring]).map .int)) ++ [O.lst (tl.flatten.map mnD)])) (ok : ∀ t ∈ ts, t.1 ∈ ks.map (·.1) ∧ 0 ≤ t.2) (l12 : ts.length ≤ 12) (h01 : ring = 0 ∨ ring = 1) (N : Nf tl.flatten rings.length)
    (hz : tl.flatten.length ≤ 900) (hr : rings.length ≤ 900) (ht : tl.length ≤ 900) :
    runD 10 (sayG mc mp) [.obj sp, d, .int ring] η = .ok (.lst (sayF gs rs (rings ++ [ring]) rings.length tl.flatten ts).2) (((η.set R (.lst ((rings ++ [ring]).map .int))) ++ [O.lst ((sayF gs rs (rings ++ [ring]) rings.length tl.flatten ts).1.map mnD)]).set T (.lst (tl.map msD ++ [msD ((sayF gs rs (rings ++ [ring]) rings.length tl.flatten ts).1.drop tl.flatten.length)]))) := by
  have hs : η[sp]? = some (.ins 4 NSS [.obj gd, .obj T, .obj R]) := K.hs
  have hgd : η[gd]? = some (.ins 3 NSG [.obj b, .lst (gs.map grD)]) := K.hg
  have nRs : R ≠ sp := fun e => by have := K.hR; rw [e, hs] at this; cases this
  have nRg : R ≠ gd := fun e => by have := K.hR; rw [e, hgd] at this; cases this
  have nRb : R ≠ b := fun e => by have := K.hR; rw [e, K.hb] at this; cases this
  have ltR := (List.getElem?_eq_some_iff.mp K.hR).1
  have ltT := (List.getElem?_eq_some_iff.mp K.hT).1
  have ig : insC η 3 (.obj gd) = true := by rw [insC_a, K.hg]; rfl
  have eb : m_Guide_book [.obj gd] η = .ok (.obj b) η := by
    generalize gs.map grD = GG at *
    exact run_rt2 (δ := [vl (.obj gd)]) rfl (ret_of (by (try simp only [DLS, Int.cast_ofNat_Int, Nat.reduceAdd, Nat.reduceLeDiff, Nat.reduceEqDiff, Nat.reduceSub, Nat.reduceMul, Nat.reduceBEq, Nat.reduceLT, Int.reduceAdd, Int.reduceSub, Int.reduceMul, Int.reduceNeg, Int.reduceLE, Int.reduceLT, Int.reduceEq, Int.reduceNe, Int.reduceToNat, reduceIte, szT, szlT, hgd]) <;> rfl))
  have b1 : sgS1 mc [vl (.obj sp), vl d, vl (.int ring), none, none, none, none, none, none, none] η = .nx [vl (.obj sp), vl d, vl (.int ring), none, none, none, none, none, none, none] η := by
    have hp : (fProp 3 1 m_Guide_book (fFld 4 ["own_guide", "own_told", "own_rings"] 0 (fV 0))) [vl (.obj sp), vl d, vl (.int ring), none, none, none, none, none, none, none] η = .ok (.obj b) η := by
      rw [fProp_a, show (fFld 4 ["own_guide", "own_told", "own_rings"] 0 (fV 0)) [vl (.obj sp), vl d, vl (.int ring), none, none, none, none, none, none, none] η = .ok (.obj gd) η from (by (try simp only [DLS, Int.cast_ofNat_Int, Nat.reduceAdd, Nat.reduceLeDiff, Nat.reduceEqDiff, Nat.reduceSub, Nat.reduceMul, Nat.reduceBEq, Nat.reduceLT, Int.reduceAdd, Int.reduceSub, Int.reduceMul, Int.reduceNeg, Int.reduceLE, Int.reduceLT, Int.reduceEq, Int.reduceNe, Int.reduceToNat, reduceIte, szT, szlT, hs]) <;> rfl), bind_ok, if_pos ig, arg_a]
      exact congrArg DL.R.nox ((if_pos rfl).trans eb)
    show sDrop _ _ _ = _
    rw [sDrop_a, fCallX_a, args2 hp (show (fV 1) [vl (.obj sp), vl d, vl (.int ring), none, none, none, none, none, none, none] η = .ok d η from rfl), bind_ok, arg_a, show (if [D.obj b, d].length = 2 then mc [D.obj b, d] η else DL.R.bad) = mc [D.obj b, d] η from if_pos rfl, hc]
    rfl
  have b2 : PY2 [vl (.obj sp), vl d, vl (.int ring), none, none, none, none, none, none, none] η = .nx [vl (.obj sp), vl d, vl (.int ring), none, none, none, none, none, none, none] η := by
    have z2 : (2 : Nat) ≤ sizeLine := by rw [sizeLine_eq]; decide
    have ni : notInD (.int ring) (.tup [.int 0, .int 1]) = some (.bl false) := by rcases h01 with rfl | rfl <;> rfl
    exact if_fn (η1 := η) (by (try simp only [DLS, Int.cast_ofNat_Int, Nat.reduceAdd, Nat.reduceLeDiff, Nat.reduceEqDiff, Nat.reduceSub, Nat.reduceMul, Nat.reduceBEq, Nat.reduceLT, Int.reduceAdd, Int.reduceSub, Int.reduceMul, Int.reduceNeg, Int.reduceLE, Int.reduceLT, Int.reduceEq, Int.reduceNe, Int.reduceToNat, reduceIte, szT, szlT, ni, z2]) <;> rfl)
  have b3 : PY3 [vl (.obj sp), vl d, vl (.int ring), none, none, none, none, none, none, none] η = .nx [vl (.obj sp), vl d, vl (.int ring), none, none, none, none, none, none, none] (η.set R (.lst (rings.map .int ++ [.int ring]))) := appO_of (n := R) (η1 := η) (by (try simp only [DLS, Int.cast_ofNat_Int, Nat.reduceAdd, Nat.reduceLeDiff, Nat.reduceEqDiff, Nat.reduceSub, Nat.reduceMul, Nat.reduceBEq, Nat.reduceLT, Int.reduceAdd, Int.reduceSub, Int.reduceMul, Int.reduceNeg, Int.reduceLE, Int.reduceLT, Int.reduceEq, Int.reduceNe, Int.reduceToNat, reduceIte, szT, szlT, hs]) <;> rfl) K.hR (by (try simp only [DLS, Int.cast_ofNat_Int, Nat.reduceAdd, Nat.reduceLeDiff, Nat.reduceEqDiff, Nat.reduceSub, Nat.reduceMul, Nat.reduceBEq, Nat.reduceLT, Int.reduceAdd, Int.reduceSub, Int.reduceMul, Int.reduceNeg, Int.reduceLE, Int.reduceLT, Int.reduceEq, Int.reduceNe, Int.reduceToNat, reduceIte, szT, szlT]) <;> rfl) K.hR (by rw [List.length_map]; omega)
  have hR3 : (η.set R (.lst (rings.map .int ++ [.int ring])))[R]? = some (.lst ((rings ++ [ring]).map .int)) := by rw [List.getElem?_set_self ltR, List.map_append]; rfl
  have e3 : (η.set R (.lst (rings.map .int ++ [.int ring]))) = η.set R (.lst ((rings ++ [ring]).map .int)) := by rw [List.map_append]; rfl
  rw [← e3] at hwk ⊢
  have k3 : ∀ i o, i ≠ R → η[i]? = some o → (η.set R (.lst (rings.map .int ++ [.int ring])))[i]? = some o := fun i o hi h => by rw [List.getElem?_set_ne (Ne.symm hi)]; exact h
  have l3 : (η.set R (.lst (rings.map .int ++ [.int ring]))).length = η.length := List.length_set
  generalize η.set R (.lst (rings.map .int ++ [.int ring])) = η3 at *
  have hs3 := k3 sp _ (Ne.symm nRs) hs
  have hT3 := k3 T _ K.TR K.hT
  -- the rows
  have ec := flat2 (δw := wipeD [vl (.obj sp), vl d, vl (.int ring), ow [], none, none, none, none, none, none] [8, 9]) hT3 (by rfl) (sizeS η3 (.one (.obj T)) + 1) 0 (by rw [size_one (rd_obj hT3), List.length_map]; exact Nat.le_refl _) (Nat.zero_le _)
  rw [List.drop_zero] at ec
  have fc : ∀ x, (fC2L kLst [8, 9] [9] (fsOne (fFld 4 ["own_guide", "own_told", "own_rings"] 1 (fV 0))) (.nm 8) fYes (fiA (fV 8)) (.nm 9) fYes (fV 9)) [vl (.obj sp), vl d, vl (.int ring), x, none, none, none, none, none, none] η3 = .ok (tl.flatten.map mnD) η3 := fun x => by
    have ec := flat2 (δw := wipeD [vl (.obj sp), vl d, vl (.int ring), x, none, none, none, none, none, none] [8, 9]) hT3 (by rfl) (sizeS η3 (.one (.obj T)) + 1) 0 (by rw [size_one (rd_obj hT3), List.length_map]; exact Nat.le_refl _) (Nat.zero_le _)
    rw [List.drop_zero] at ec
    rw [fC2L_a, one_of (fa := (fFld 4 ["own_guide", "own_told", "own_rings"] 1 (fV 0))) (η1 := η3) (by (try simp only [DLS, Int.cast_ofNat_Int, Nat.reduceAdd, Nat.reduceLeDiff, Nat.reduceEqDiff, Nat.reduceSub, Nat.reduceMul, Nat.reduceBEq, Nat.reduceLT, Int.reduceAdd, Int.reduceSub, Int.reduceMul, Int.reduceNeg, Int.reduceLE, Int.reduceLT, Int.reduceEq, Int.reduceNe, Int.reduceToNat, reduceIte, szT, szlT, hs3]) <;> rfl) (rd_obj hT3), bind_ok, ec, nox_ok, bind_ok]
    unfold kLst
    rw [if_pos (by rw [List.length_map, sizeLine_eq]; omega)]
  have b4 : PY4 [vl (.obj sp), vl d, vl (.int ring), none, none, none, none, none, none, none] η3 = .nx [vl (.obj sp), vl d, vl (.int ring), ow [], vl (.obj η3.length), none, none, none, none, none] (η3 ++ [.lst (tl.flatten.map mnD)]) := by
    have z0 : (0 : Nat) ≤ sizeLine := Nat.zero_le _
    have fc := fc none
    show sParNV _ _ _ _ _ _ = _
    generalize tl.flatten.map mnD = TF at *
    rw [sParNV_a, show (fLstN fNil) [vl (.obj sp), vl d, vl (.int ring), none, none, none, none, none, none, none] η3 = .ok [] η3 from (by (try simp only [DLS, Int.cast_ofNat_Int, Nat.reduceAdd, Nat.reduceLeDiff, Nat.reduceEqDiff, Nat.reduceSub, Nat.reduceMul, Nat.reduceBEq, Nat.reduceLT, Int.reduceAdd, Int.reduceSub, Int.reduceMul, Int.reduceNeg, Int.reduceLE, Int.reduceLT, Int.reduceEq, Int.reduceNe, Int.reduceToNat, reduceIte, szT, szlT, z0]) <;> rfl), toS_ok, fNewO_a, fc]
    rfl
  have b5 : PY5 [vl (.obj sp), vl d, vl (.int ring), ow [], vl (.obj η3.length), none, none, none, none, none] (η3 ++ [.lst (tl.flatten.map mnD)]) = .nx [vl (.obj sp), vl d, vl (.int ring), ow [], vl (.obj η3.length), vl (.int (tl.flatten.length : Nat)), none, none, none, none] (η3 ++ [.lst (tl.flatten.map mnD)]) := set_of (by
    have hl : lenD (.lst (tl.flatten.map mnD)) = some (.int (tl.flatten.length : Nat)) := by rw [lenD_l, List.length_map]
    have hg : (η3 ++ [O.lst (tl.flatten.map mnD)])[η3.length]? = some (.lst (tl.flatten.map mnD)) := get_last
    generalize η3 ++ [O.lst (tl.flatten.map mnD)] = EX at *
    generalize tl.flatten.map mnD = TF at *
    exact (by (try simp only [DLS, Int.cast_ofNat_Int, Nat.reduceAdd, Nat.reduceLeDiff, Nat.reduceEqDiff, Nat.reduceSub, Nat.reduceMul, Nat.reduceBEq, Nat.reduceLT, Int.reduceAdd, Int.reduceSub, Int.reduceMul, Int.reduceNeg, Int.reduceLE, Int.reduceLT, Int.reduceEq, Int.reduceNe, Int.reduceToNat, reduceIte, szT, szlT, hg, hl]) <;> rfl))
  generalize hM : tl.flatten = M at *
  have keep : ∀ (X : List D) i o, i ≠ R → η[i]? = some o → (η3 ++ [O.lst X])[i]? = some o := fun X i o hi h => by
    have := k3 i o hi h
    rw [List.getElem?_append_left (List.getElem?_eq_some_iff.mp this).1]; exact this
  have keepR : ∀ (X : List D), (η3 ++ [O.lst X])[R]? = some (.lst ((rings ++ [ring]).map .int)) := fun X => by
    rw [List.getElem?_append_left (by omega)]; exact hR3
  -- the things
  obtain ⟨δ6, η6, el, kp, h3, he⟩ := loop_m (t := .nm 6) (b := PY6b) (enc := kd2) (xs := ts) [3, 6, 7] (fun k δ η1 => δ[3]? = some (ow (sayF gs rs (rings ++ [ring]) rings.length M (ts.take k)).2) ∧ η1 = η3 ++ [.lst ((sayF gs rs (rings ++ [ring]) rings.length M (ts.take k)).1.map mnD)])
    (δ := [vl (.obj sp), vl d, vl (.int ring), ow [], vl (.obj η3.length), vl (.int (M.length : Nat)), none, none, none, none]) (η := η3 ++ [.lst (M.map mnD)]) ⟨rfl, rfl⟩ fun k t δ1 η1 hx hk ⟨h3, he⟩ => by
      subst he
      have hf := sayF_fact (gs := gs) (rs := rs) (rings := rings ++ [ring]) (M := M) (now := rings.length) N (ts.take k)
      have lk : (ts.take k).length ≤ 12 := by rw [List.length_take]; omega
      rw [sayF_take hx]
      generalize sayF gs rs (rings ++ [ring]) rings.length M (ts.take k) = P at *
      obtain ⟨M1, u1⟩ := P
      obtain ⟨Nk, len1, len2, _⟩ := hf
      dsimp only at Nk len1 len2 h3 ⊢
      rw [show sayStep gs rs (rings ++ [ring]) rings.length (M1, u1) t = (M1 ++ [⟨rings.length, t, sayW gs rs M1 (rings ++ [ring]) rings.length t⟩], u1 ++ [itD t (sayW gs rs M1 (rings ++ [ring]) rings.length t)]) from rfl]
      dsimp only
      have l1 : δ1.length = 10 := hk.1
      have c0 : δ1[0]? = some (vl (.obj sp)) := hk.2 0 (by decide)
      have c4 : δ1[4]? = some (vl (.obj η3.length)) := hk.2 4 (by decide)
      have hn : (η3 ++ [O.lst (M1.map mnD)])[η3.length]? = some (.lst (M1.map mnD)) := get_last
      have So : SpOk (η3 ++ [.lst (M1.map mnD)]) sp gd T R η3.length b gs ks rs m M1 (rings ++ [ring]) rings.length := ⟨keep _ _ _ (Ne.symm nRs) K.hs, keep _ _ _ (Ne.symm nRg) K.hg, keep _ _ _ (Ne.symm nRb) K.hb, keepR _, hn, by rw [List.length_append]; rfl, G.n6, fun g hg => (G.g g hg).n3, by omega, Bd.l1⟩
      obtain ⟨PV0, ev, ew⟩ := word_ok So Bd G (ok t (List.mem_of_getElem? hx)).1 Nk
      have hsk := keep (M1.map mnD) _ _ (Ne.symm nRs) hs
      have hgk := keep (M1.map mnD) _ _ (Ne.symm nRg) hgd
      have hRk := keepR (M1.map mnD)
      have lR : lenD (.lst ((rings ++ [ring]).map .int)) = some (.int ((rings.length + 1 : Nat) : Int)) := by rw [lenD_l, List.length_map, List.length_append]; rfl
      generalize hEX : η3 ++ [O.lst (M1.map mnD)] = EX at *
      generalize sayW gs rs M1 (rings ++ [ring]) rings.length t = w at *
      have k0 := kd0 (t := t)
      have s1 : PY6b1 (δ1.set 6 (vl (kd2 t))) EX = .nx ((δ1.set 6 (vl (kd2 t))).set 7 (vl (wD w))) EX := set_of (by
        generalize kd2 t = KT at *
        generalize wD w = WD at *
        generalize gs.map grD = GG at *
        exact (by (try simp only [DLS, Int.cast_ofNat_Int, Nat.reduceAdd, Nat.reduceLeDiff, Nat.reduceEqDiff, Nat.reduceSub, Nat.reduceMul, Nat.reduceBEq, Nat.reduceLT, Int.reduceAdd, Int.reduceSub, Int.reduceMul, Int.reduceNeg, Int.reduceLE, Int.reduceLT, Int.reduceEq, Int.reduceNe, Int.reduceToNat, reduceIte, szT, szlT, l1, c0, c4, hsk, hgk, k0, ev, ew]) <;> rfl))
      have wn := wD_non w
      have s2 : PY6b2 ((δ1.set 6 (vl (kd2 t))).set 7 (vl (wD w))) EX = .nx (((δ1.set 6 (vl (kd2 t))).set 7 (vl (wD w))).set 3 (ow (u1 ++ [itD t w]))) EX := app_of (i := 3) (l := u1) (η1 := EX) (by
        generalize kd2 t = KT at *
        generalize wD w = WD at *
        simp only [DLS, Int.cast_ofNat_Int, Nat.reduceAdd, Nat.reduceLeDiff, Nat.reduceEqDiff, Nat.reduceSub, Nat.reduceMul, Nat.reduceBEq, Nat.reduceLT, Int.reduceAdd, Int.reduceSub, Int.reduceMul, Int.reduceNeg, Int.reduceLE, Int.reduceLT, Int.reduceEq, Int.reduceNe, Int.reduceToNat, reduceIte, szT, szlT, h3]) (args1 (by
        cases w with
        | none =>
          show _ = DL.R.ok (kd2 t) EX
          generalize kd2 t = KT at *
          have wn : (wD none).isNon = true := rfl
          generalize wD none = WD at *
          exact (by (try simp only [DLS, Int.cast_ofNat_Int, Nat.reduceAdd, Nat.reduceLeDiff, Nat.reduceEqDiff, Nat.reduceSub, Nat.reduceMul, Nat.reduceBEq, Nat.reduceLT, Int.reduceAdd, Int.reduceSub, Int.reduceMul, Int.reduceNeg, Int.reduceLE, Int.reduceLT, Int.reduceEq, Int.reduceNe, Int.reduceToNat, reduceIte, szT, szlT, l1, wn]) <;> rfl)
        | some z =>
          show _ = DL.R.ok (wD (some z)) EX
          have wn : (wD (some z)).isNon = false := rfl
          generalize kd2 t = KT at *
          generalize wD (some z) = WD at *
          exact (by (try simp only [DLS, Int.cast_ofNat_Int, Nat.reduceAdd, Nat.reduceLeDiff, Nat.reduceEqDiff, Nat.reduceSub, Nat.reduceMul, Nat.reduceBEq, Nat.reduceLT, Int.reduceAdd, Int.reduceSub, Int.reduceMul, Int.reduceNeg, Int.reduceLE, Int.reduceLT, Int.reduceEq, Int.reduceNe, Int.reduceToNat, reduceIte, szT, szlT, l1, wn]) <;> rfl))) (by omega)
      have z3 : (3 : Nat) ≤ sizeLine := by rw [sizeLine_eq]; decide
      have s3 : PY6b3 (((δ1.set 6 (vl (kd2 t))).set 7 (vl (wD w))).set 3 (ow (u1 ++ [itD t w]))) EX = .nx (((δ1.set 6 (vl (kd2 t))).set 7 (vl (wD w))).set 3 (ow (u1 ++ [itD t w]))) (EX.set η3.length (.lst (M1.map mnD ++ [mnD ⟨rings.length, t, w⟩]))) := by
        have nn : ((rings.length + 1 : Nat) : Int) - 1 = (rings.length : Nat) := by omega
        refine appO_of (n := η3.length) (η1 := EX) (by
          generalize itD t w = IT at *
          generalize kd2 t = KT at *
          generalize wD w = WD at *
          exact (by (try simp only [DLS, Int.cast_ofNat_Int, Nat.reduceAdd, Nat.reduceLeDiff, Nat.reduceEqDiff, Nat.reduceSub, Nat.reduceMul, Nat.reduceBEq, Nat.reduceLT, Int.reduceAdd, Int.reduceSub, Int.reduceMul, Int.reduceNeg, Int.reduceLE, Int.reduceLT, Int.reduceEq, Int.reduceNe, Int.reduceToNat, reduceIte, szT, szlT, c4]) <;> rfl)) hn (args1 (by
          show _ = DL.R.ok (D.tup [.int (rings.length : Nat), kd2 t, wD w]) EX
          rw [← nn]
          generalize itD t w = IT at *
          generalize kd2 t = KT at *
          generalize wD w = WD at *
          generalize (rings ++ [ring]).map D.int = RI at *
          exact (by (try simp only [DLS, Int.cast_ofNat_Int, Nat.reduceAdd, Nat.reduceLeDiff, Nat.reduceEqDiff, Nat.reduceSub, Nat.reduceMul, Nat.reduceBEq, Nat.reduceLT, Int.reduceAdd, Int.reduceSub, Int.reduceMul, Int.reduceNeg, Int.reduceLE, Int.reduceLT, Int.reduceEq, Int.reduceNe, Int.reduceToNat, reduceIte, szT, szlT, l1, c0, hsk, hRk, lR, z3]) <;> rfl))) hn (by rw [List.length_map]; omega)
      refine ⟨_, asg_nm, _, _, .inl (sq s1 (sq s2 s3)), .st (.st (.st hk (by decide)) (by decide)) (by decide), ?_, ?_⟩
      · show (((δ1.set 6 (vl (kd2 t))).set 7 (vl (wD w))).set 3 (ow (u1 ++ [itD t w])))[3]? = some (ow (u1 ++ [itD t w]))
        generalize u1 ++ [itD t w] = UI at *
        generalize kd2 t = KT at *
        generalize wD w = WD at *
        simp only [DLS, Int.cast_ofNat_Int, Nat.reduceAdd, Nat.reduceLeDiff, Nat.reduceEqDiff, Nat.reduceSub, Nat.reduceMul, Nat.reduceBEq, Nat.reduceLT, Int.reduceAdd, Int.reduceSub, Int.reduceMul, Int.reduceNeg, Int.reduceLE, Int.reduceLT, Int.reduceEq, Int.reduceNe, Int.reduceToNat, reduceIte, szT, szlT, l1]
      · rw [← hEX, set_last]
        show _ = η3 ++ [O.lst ((M1 ++ [(⟨rings.length, t, w⟩ : Mn)]).map mnD)]
        rw [List.map_append]; rfl
  subst he
  rw [List.take_length] at h3
  obtain ⟨_, lenM, _, X, hX⟩ := sayF_fact (gs := gs) (rs := rs) (rings := rings ++ [ring]) (M := M) (now := rings.length) N ts
  rw [List.take_length] at *
  generalize sayF gs rs (rings ++ [ring]) rings.length M ts = P at *
  obtain ⟨M2, u2⟩ := P
  dsimp only at h3 lenM hX ⊢
  have l6 : δ6.length = 10 := kp.1
  have d0 : δ6[0]? = some (vl (.obj sp)) := kp.2 0 (by decide)
  have d4 : δ6[4]? = some (vl (.obj η3.length)) := kp.2 4 (by decide)
  have d5 : δ6[5]? = some (vl (.int (M.length : Nat))) := kp.2 5 (by decide)
  refine run_rt2 (δ := [vl (.obj sp), vl d, vl (.int ring), none, none, none, none, none, none, none]) rfl ?_
  have hw6 : (fiA (fCall 1 mp (fCons (fV 1) fNil))) [vl (.obj sp), vl d, vl (.int ring), ow [], vl (.obj η3.length), vl (.int (M.length : Nat)), none, none, none, none] (η3 ++ [.lst (M.map mnD)]) = .ok (ts.map kd2) (η3 ++ [.lst (M.map mnD)]) := fiA_of (d := lineD ts) (η1 := η3 ++ [.lst (M.map mnD)]) (by
    generalize η3 ++ [O.lst (M.map mnD)] = EX at *
    generalize lineD ts = LT at *
    exact (by (try simp only [DLS, Int.cast_ofNat_Int, Nat.reduceAdd, Nat.reduceLeDiff, Nat.reduceEqDiff, Nat.reduceSub, Nat.reduceMul, Nat.reduceBEq, Nat.reduceLT, Int.reduceAdd, Int.reduceSub, Int.reduceMul, Int.reduceNeg, Int.reduceLE, Int.reduceLT, Int.reduceEq, Int.reduceNe, Int.reduceToNat, reduceIte, szT, szlT, hwk]) <;> rfl)) rfl
  refine sq b1 (sq b2 (sq b3 (sq b4 (sq b5 (sq (for_of hw6 el) (frz_of h3 ?_))))))
  have hn : (η3 ++ [O.lst (M2.map mnD)])[η3.length]? = some (.lst (M2.map mnD)) := get_last
  have hs6 := keep (M2.map mnD) _ _ (Ne.symm nRs) hs
  have hT6 := keep (M2.map mnD) _ _ K.TR K.hT
  generalize η3 ++ [O.lst (M2.map mnD)] = EX at *
  have dn := dr_obj hn
  have cd : slD (.lst (M2.map mnD)) (some (M.length : Int)) none = some (.lst ((M2.drop M.length).map mnD)) := by
    rw [slD_l, cut_drop (by rw [List.length_map]; omega), List.map_drop]
  have s7 : PY7z1 (δ6.set 3 (vl (.lst u2))) EX = .nx (δ6.set 3 (vl (.lst u2))) (EX.set T (.lst (tl.map msD ++ [msD (M2.drop M.length)]))) := appO_of (n := T) (η1 := EX) (by (try simp only [DLS, Int.cast_ofNat_Int, Nat.reduceAdd, Nat.reduceLeDiff, Nat.reduceEqDiff, Nat.reduceSub, Nat.reduceMul, Nat.reduceBEq, Nat.reduceLT, Int.reduceAdd, Int.reduceSub, Int.reduceMul, Int.reduceNeg, Int.reduceLE, Int.reduceLT, Int.reduceEq, Int.reduceNe, Int.reduceToNat, reduceIte, szT, szlT, d0, hs6]) <;> rfl) hT6 (args1 (by
    show _ = DL.R.ok (D.lst ((M2.drop M.length).map mnD)) EX
    generalize (M2.drop M.length).map mnD = MD at *
    generalize M2.map mnD = MM at *
    exact (by (try simp only [DLS, Int.cast_ofNat_Int, Nat.reduceAdd, Nat.reduceLeDiff, Nat.reduceEqDiff, Nat.reduceSub, Nat.reduceMul, Nat.reduceBEq, Nat.reduceLT, Int.reduceAdd, Int.reduceSub, Int.reduceMul, Int.reduceNeg, Int.reduceLE, Int.reduceLT, Int.reduceEq, Int.reduceNe, Int.reduceToNat, reduceIte, szT, szlT, fSlL_a, d4, d5, dn, cd]) <;> rfl))) hT6 (by rw [List.length_map]; omega)
  exact sq s7 (ret_of (by (try simp only [DLS, Int.cast_ofNat_Int, Nat.reduceAdd, Nat.reduceLeDiff, Nat.reduceEqDiff, Nat.reduceSub, Nat.reduceMul, Nat.reduceBEq, Nat.reduceLT, Int.reduceAdd, Int.reduceSub, Int.reduceMul, Int.reduceNeg, Int.reduceLE, Int.reduceLT, Int.reduceEq, Int.reduceNe, Int.reduceToNat, reduceIte, szT, szlT, l6]) <;> rfl))
theorem say_ok (K : Spk η sp gd T R b gs ks rs m tl rings) (Bd : RowsOk (ks.map (·.1)) rs) (G : GsOk (rs.map (·.n)) gs) {d : D} (hd : seqOf d = some (ts.map kd2)) (hw : walkD d = some (ts.map kd2)) (ok : ∀ t ∈ ts, t.1 ∈ ks.map (·.1) ∧ 0 ≤ t.2) (l12 : ts.length ≤ 12) (h01 : ring = 0 ∨ ring = 1) (N : Nf tl.flatten rings.length)
    (hz : tl.flatten.length ≤ 900) (hr : rings.length ≤ 900) (ht : tl.length ≤ 900) :
    m_Speaker_say [.obj sp, d, .int ring] η = .ok (.lst (sayF gs rs (rings ++ [ring]) rings.length tl.flatten ts).2) (((η.set R (.lst ((rings ++ [ring]).map .int))) ++ [O.lst ((sayF gs rs (rings ++ [ring]) rings.length tl.flatten ts).1.map mnD)]).set T (.lst (tl.map msD ++ [msD ((sayF gs rs (rings ++ [ring]) rings.length tl.flatten ts).1.drop tl.flatten.length)]))) := by
  have hc := check_things_ok K.hb hd
  rw [good_of (by omega) ok] at hc
  exact say_gen (mc := m_check_things) (mp := m_plain_things) K Bd G hc (plain_ok hw) ok l12 h01 N hz hr ht
end
end DL
namespace DL
open PySem L2 PL
/-! ### the law's own guide -/
structure Gp where
  k : Nat
  M : List Mn
  us : List (List D)
def gdStep (gs : List Gr) (rs : List Row) (bells : List Int) (p : Gp) (ts : List Thing) : Gp := ⟨p.k + 1, (sayF gs rs (bells.take (p.k + 1)) p.k p.M ts).1, p.us ++ [(sayF gs rs (bells.take (p.k + 1)) p.k p.M ts).2]⟩
def gdF (gs : List Gr) (rs : List Row) (bells : List Int) (ls : List (List Thing)) : Gp := ls.foldl (gdStep gs rs bells) ⟨0, [], []⟩
section
variable {η : List O} {δ : En} {sp gd T R n b hM hR : Nat} {gs : List Gr} {ks : List (Str × Int)} {rs : List Row} {m : D} {M A B : List Mn} {rings bells : List Int} {now : Nat} {t : Thing} {ts : List Thing} {tl : List (List Mn)} {ls : List (List Thing)} {ring : Int}
theorem gdF_take {k : Nat} (h : ls[k]? = some ts) : gdF gs rs bells (ls.take (k + 1)) = gdStep gs rs bells (gdF gs rs bells (ls.take k)) ts := by
  unfold gdF
  rw [List.take_add_one, h]
  simp only [Option.toList, List.foldl_append, List.foldl_cons, List.foldl_nil]
theorem gdF_fact (ls : List (List Thing)) (h5 : ∀ l ∈ ls, l.length ≤ 12) : (gdF gs rs bells ls).k = ls.length ∧ (gdF gs rs bells ls).us.length = ls.length ∧ (∀ now, ls.length ≤ now + 1 → Nf (gdF gs rs bells ls).M now) ∧ (gdF gs rs bells ls).M.length ≤ 12 * ls.length := by
  have go : ∀ n, n ≤ ls.length → (gdF gs rs bells (ls.take n)).k = n ∧ (gdF gs rs bells (ls.take n)).us.length = n ∧ (∀ now, n ≤ now + 1 → Nf (gdF gs rs bells (ls.take n)).M now) ∧ (gdF gs rs bells (ls.take n)).M.length ≤ 12 * n := fun n => by
    induction n with
    | zero => intro _; exact ⟨rfl, rfl, fun _ _ => ⟨fun x hx => absurd hx (by simp [gdF]), fun x hx => absurd hx (by simp [gdF])⟩, Nat.le_refl _⟩
    | succ n ih =>
      intro hn
      obtain ⟨a, b, c, d⟩ := ih (by omega)
      have e : ls[n]? = some ls[n] := List.getElem?_eq_getElem (by omega)
      have h5 := h5 _ (List.mem_of_getElem? e)
      rw [gdF_take e]
      generalize ls[n] = ts at *
      generalize gdF gs rs bells (ls.take n) = P at *
      unfold gdStep
      dsimp only
      rw [a]
      obtain ⟨n1, n2, n3, _⟩ := sayF_fact (gs := gs) (rs := rs) (rings := bells.take (n + 1)) (c n (by omega)) ts
      refine ⟨rfl, by rw [List.length_append, b]; rfl, fun now hnow => n1.late (by omega), by rw [n2]; omega⟩
  have := go ls.length (Nat.le_refl _)
  rwa [List.take_length] at this
end
end DL
namespace DL
open PySem L2 PL
/-! ### a talk told -/
theorem comp_i {α : Type} {t : Tg} {ft : F Bool} {fe : F D} {δw : En} {enc : α → D} {g : Nat → D} (I : Nat → List O → Prop) : ∀ (xs : List α) (k : Nat) {η : List O}, I k η →
    (∀ j x η1, xs[j]? = some x → I (k + j) η1 → ∃ δ1, asg t (enc x) δw = some δ1 ∧ ft δ1 η1 = .ok true η1 ∧ ∃ η2, fe δ1 η1 = .ok (g (k + j)) η2 ∧ I (k + j + 1) η2) → ∃ η', compF t ft fe δw (xs.map enc) η = .ok ((List.range' k xs.length).map g) η' ∧ I (k + xs.length) η'
  | [], k, η, h, _ => ⟨η, rfl, h⟩
  | x :: r, k, η, h, hs => by
    obtain ⟨δ1, e1, e2, η1, e3, s1⟩ := hs 0 x η rfl h
    obtain ⟨η2, e4, s2⟩ := comp_i I r (k + 1) s1 fun j z η1 hz hi => by
      have := hs (j + 1) z η1 hz (by rw [show k + (j + 1) = k + 1 + j by omega]; exact hi)
      rw [show k + (j + 1) = k + 1 + j by omega] at this
      exact this
    refine ⟨η2, ?_, by rw [List.length_cons, show k + (r.length + 1) = k + 1 + r.length by omega]; exact s2⟩
    rw [List.map_cons, compF, e1]
    simp only [e2, e3, e4, nox_ok, bind_ok, if_true, List.length_cons, List.range'_succ, List.map_cons, Nat.add_zero]
section
variable {η : List O} {δ : En} {sp gd T R n b b2 tk n0 : Nat} {gs : List Gr} {ks : List (Str × Int)} {rs : List Row} {m : D} {bells : List Int} {ts : List Thing} {tl : List (List Mn)} {ls : List (List Thing)} {ring : Int}
def usK (gs : List Gr) (rs : List Row) (bells : List Int) (ls : List (List Thing)) (k : Nat) : List D := (sayF gs rs (bells.take (k + 1)) k (gdF gs rs bells (ls.take k)).M (ls.getD k [])).2
theorem gdF_us (h5 : ∀ l ∈ ls, l.length ≤ 12) : ∀ n, n ≤ ls.length → (gdF gs rs bells (ls.take n)).us = (List.range' 0 n).map (usK gs rs bells ls)
  | 0, _ => rfl
  | n + 1, h => by
    have e : ls[n]? = some ls[n] := List.getElem?_eq_getElem (by omega)
    have ih := gdF_us h5 n (by omega)
    have f1 := (gdF_fact (gs := gs) (rs := rs) (bells := bells) (ls.take n) fun l h => h5 l (List.mem_of_mem_take h)).1
    rw [List.length_take, Nat.min_eq_left (by omega)] at f1
    rw [gdF_take e, List.range'_concat, List.map_append, ← ih]
    unfold gdStep usK
    dsimp only
    rw [f1, List.map_cons, List.map_nil, show 0 + 1 * n = n by omega, List.getD_eq_getElem?_getD, e]
    rfl
def pzD (p : List Thing × Int) : D := .tup [lineD p.1, .int p.2]
theorem tells (K : Spk η sp gd T R b gs ks rs m [] []) (Bd : RowsOk (ks.map (·.1)) rs) (G : GsOk (rs.map (·.n)) gs) (l8 : ls.length ≤ 40) (h5 : ∀ l ∈ ls, GoodL ks 12 l) (lb : bells.length = ls.length) (h01 : ∀ x ∈ bells, x = 0 ∨ x = 1)
    (hT : n0 ≤ T) (hR : n0 ≤ R) {δw : En} (hl : δw.length = 8) (d6 : δw[6]? = some (vl (.obj sp))) :
    ∃ η', compF (.tp [(.nm 7), (.nm 5)]) fYes (fMeth 4 ["own_guide", "own_told", "own_rings"] 3 0 3 m_Speaker_say [0, 1, 2] [] (fV 6) (fCons (fV 7) (fCons (fV 5) fNil)) fNil) δw ((ls.zip bells).map pzD) η = .ok ((gdF gs rs bells ls).us.map .lst) η' ∧ (∀ (i : Nat) (o : O), i < n0 → η[i]? = some o → η'[i]? = some o) ∧ η.length ≤ η'.length := by
  have h5' : ∀ l ∈ ls, l.length ≤ 12 := fun l h => (h5 l h).1
  have := comp_i (t := (.tp [(.nm 7), (.nm 5)])) (ft := fYes) (fe := (fMeth 4 ["own_guide", "own_told", "own_rings"] 3 0 3 m_Speaker_say [0, 1, 2] [] (fV 6) (fCons (fV 7) (fCons (fV 5) fNil)) fNil)) (δw := δw) (enc := pzD) (g := fun k => .lst (usK gs rs bells ls k)) (fun k η1 => ∃ tl, Spk η1 sp gd T R b gs ks rs m tl (bells.take k) ∧ tl.flatten = (gdF gs rs bells (ls.take k)).M ∧ tl.length = k ∧ (∀ i o, i < n0 → η[i]? = some o → η1[i]? = some o) ∧ η.length ≤ η1.length) (ls.zip bells) 0 (η := η) ⟨[], K, rfl, rfl, fun _ _ _ h => h, Nat.le_refl _⟩ fun j x η1 hx ⟨tl, K1, hf, hlen, keep, hle⟩ => by
    rw [Nat.zero_add] at *
    obtain ⟨ts, ring⟩ := x
    obtain ⟨hts, hring⟩ := List.getElem?_zip_eq_some.mp hx
    dsimp only at hts hring
    have hj : j < ls.length := (List.getElem?_eq_some_iff.mp hts).1
    have hg := h5 _ (List.mem_of_getElem? hts)
    obtain ⟨f1, f2, f3, f4⟩ := gdF_fact (gs := gs) (rs := rs) (bells := bells) (ls.take j) fun l h => h5' l (List.mem_of_mem_take h)
    rw [List.length_take, Nat.min_eq_left (by omega)] at f1 f2 f3 f4
    have lr : (bells.take j).length = j := by rw [List.length_take]; omega
    have tk : bells.take j ++ [ring] = bells.take (j + 1) := by rw [List.take_add_one, hring]; rfl
    have N : Nf tl.flatten (bells.take j).length := by rw [hf, lr]; exact f3 j (by omega)
    have es := say_ok (ts := ts) (ring := ring) K1 Bd G (d := lineD ts) rfl rfl hg.2 (by have := hg.1; omega) (h01 _ (List.mem_of_getElem? hring)) N (by rw [hf]; omega) (by omega) (by omega)
    have hu : usK gs rs bells ls j = (sayF gs rs (bells.take j ++ [ring]) (bells.take j).length tl.flatten ts).2 := by
      unfold usK
      rw [tk, lr, hf, List.getD_eq_getElem?_getD, hts]; rfl
    obtain ⟨_, lenM, _, X, hX⟩ := sayF_fact (gs := gs) (rs := rs) (rings := bells.take j ++ [ring]) (M := tl.flatten) (now := (bells.take j).length) N ts
    have hM2 : (gdF gs rs bells (ls.take (j + 1))).M = (sayF gs rs (bells.take j ++ [ring]) (bells.take j).length tl.flatten ts).1 := by
      rw [gdF_take hts]
      unfold gdStep
      dsimp only
      rw [f1, tk, lr, hf]
    rw [← hu] at es
    generalize (sayF gs rs (bells.take j ++ [ring]) (bells.take j).length tl.flatten ts).1 = M2 at *
    have hsp : η1[sp]? = some (.ins 4 NSS [.obj gd, .obj T, .obj R]) := K1.hs
    have nRs : R ≠ sp := fun e => by have := K1.hR; rw [e, hsp] at this; cases this
    have nRg : R ≠ gd := fun e => by have := K1.hR; rw [e, K1.hg] at this; cases this
    have nRb : R ≠ b := fun e => by have := K1.hR; rw [e, K1.hb] at this; cases this
    have nTs : T ≠ sp := fun e => by have := K1.hT; rw [e, hsp] at this; cases this
    have nTg : T ≠ gd := fun e => by have := K1.hT; rw [e, K1.hg] at this; cases this
    have nTb : T ≠ b := fun e => by have := K1.hT; rw [e, K1.hb] at this; cases this
    have ltR := (List.getElem?_eq_some_iff.mp K1.hR).1
    have ltT := (List.getElem?_eq_some_iff.mp K1.hT).1
    have kp : ∀ i o, i ≠ R → i ≠ T → η1[i]? = some o → (((η1.set R (.lst ((bells.take j ++ [ring]).map .int))) ++ [O.lst (M2.map mnD)]).set T (.lst (tl.map msD ++ [msD (M2.drop tl.flatten.length)])))[i]? = some o := fun i o h1 h2 h => by
      rw [List.getElem?_set_ne (Ne.symm h2), List.getElem?_append_left (by rw [List.length_set]; exact (List.getElem?_eq_some_iff.mp h).1), List.getElem?_set_ne (Ne.symm h1)]; exact h
    have as : asg (.tp [.nm 7, .nm 5]) (pzD (ts, ring)) δw = some ((δw.set 7 (vl (lineD ts))).set 5 (vl (.int ring))) := by
      show asg _ (D.tup [lineD ts, .int ring]) _ = _
      rw [asg_tp, asgs_cons, asg_nm]; rfl
    refine ⟨_, as, rfl, _, ?_, tl ++ [M2.drop tl.flatten.length], ⟨kp _ _ (Ne.symm nRs) (Ne.symm nTs) K1.hs, kp _ _ (Ne.symm nRg) (Ne.symm nTg) K1.hg, kp _ _ (Ne.symm nRb) (Ne.symm nTb) K1.hb, ?_, ?_, K1.TR⟩, ?_, ?_, ?_, ?_⟩
    · generalize (((η1.set R (.lst ((bells.take j ++ [ring]).map .int))) ++ [O.lst (M2.map mnD)]).set T (.lst (tl.map msD ++ [msD (M2.drop tl.flatten.length)]))) = EX at *
      generalize lineD ts = LT at *
      exact (by (try simp only [DLS, Int.cast_ofNat_Int, Nat.reduceAdd, Nat.reduceLeDiff, Nat.reduceEqDiff, Nat.reduceSub, Nat.reduceMul, Nat.reduceBEq, Nat.reduceLT, Int.reduceAdd, Int.reduceSub, Int.reduceMul, Int.reduceNeg, Int.reduceLE, Int.reduceLT, Int.reduceEq, Int.reduceNe, Int.reduceToNat, reduceIte, szT, szlT, hl, d6, hsp, es]) <;> rfl)
    · rw [List.getElem?_set_self (by rw [List.length_append, List.length_set]; omega), List.map_append]; rfl
    · rw [List.getElem?_set_ne K1.TR, List.getElem?_append_left (by rw [List.length_set]; exact ltR), List.getElem?_set_self ltR, tk]
    · rw [List.flatten_append, List.flatten_singleton, hM2, hX, List.drop_left]
    · rw [List.length_append, hlen]; rfl
    · intro i o hi ho
      exact kp i o (by omega) (by omega) (keep i o hi ho)
    · rw [List.length_set, List.length_append, List.length_set]; omega
  obtain ⟨η', e, tl, _, _, _, keep, hle⟩ := this
  refine ⟨η', ?_, keep, hle⟩
  have lz : (ls.zip bells).length = ls.length := by rw [List.length_zip, lb, Nat.min_self]
  have hus := gdF_us (gs := gs) (rs := rs) (bells := bells) h5' ls.length (Nat.le_refl _)
  rw [List.take_length] at hus
  rw [e, lz, hus, List.map_map]
  rfl
theorem mul_zero {k : Nat} (h : k ≤ 1000) : mulLD (.lst [.int 0]) (.int (k : Nat)) = some (.lst ((List.replicate k (0 : Int)).map .int)) := by
  have er : (List.replicate k [D.int 0]).flatten = (List.replicate k (0 : Int)).map .int := by
    induction k with
    | zero => rfl
    | succ n ih => rw [List.replicate_succ, List.flatten_cons, List.replicate_succ, List.map_cons, ih (by omega)]; rfl
  have rb : repB 1 (k : Int) = true := rep_ok k (by omega)
  rw [← er, mulLD_l, List.length_singleton, if_pos rb, Int.toNat_natCast]
/-- what tell gives -/
inductive Bells (n : Nat) : List Int → D → Prop
  | l (bs) : Bells n bs (.lst (bs.map .int))
  | t (bs) : Bells n bs (.tup (bs.map .int))
  | z : Bells n (List.replicate n 0) .non
end
end DL
/-! a search over pairs of sets of states: plain -/
namespace DL
open PySem L2
abbrev BP := List Int × List Int
section
variable {s1 s2 : Int → List Int → List Int} {U : List BP}
end
/-! ### sets of states -/
/-! ### policies -/
section
variable {rows rows2 : List PRow} {st st2 : List Int}
end
end DL
/-! an utterance heard, given as a list or as a tuple -/
namespace DL
open PySem L2
section
variable {η : List O} {b h p : Nat} {ks : List (Str × Int)} {rs : List Row} {m : D}
end
end DL
namespace DL
open PySem L2 PL
/-! ### a bent text of up to 30000 signs -/
section
variable {η : List O} {n : Nat}
end
/-! ### a sentence in any text -/
abbrev SB (NM NUM : DF) : S := (sSeq (sSet 3 (fFrz (fStrN splitS (fV 2) (fC (.str " ")))))
    (sSeq (sIf (fOrB (toB (fOp neD (fCall1 lenD (fV 3)) (fC (.int 2)))) (fOrB (fNotB (fTru (fCall 1 NM (fCons (fOp ixD (fV 3) (fC (.int 0))) fNil)))) (toB (fOp isN (fCall 1 NUM (fCons (fOp ixD (fV 3) (fC (.int 1))) fNil)) (fC .non))))) (sRet (fC .non)) SR.nx)
    (sMut 1 muApp (fCons (fTup (fCons (fOp ixD (fV 3) (fC (.int 0))) (fCons (fCall 1 NUM (fCons (fOp ixD (fV 3) (fC (.int 1))) fNil)) fNil))) fNil))))
abbrev SF (NM NUM : DF) : S := (sSeq (sIf (toB (fOp eqD (fV 0) (fC (.str "-")))) (sRet (fFrz (fLstN fNil))) SR.nx)
    (sSeq (sOwn 1 (fLstN fNil))
    (sSeq (sFor (fiA (fFrz (fStrN splitS (fV 0) (fC (.str ", "))))) (.nm 2) (SB NM NUM))
    (sFz 1 (sRet (fV 1))))))
section
variable {η : List O}
end
/-! ### a sentence written out -/
section
variable {η : List O}
end
end DL
set_option maxHeartbeats 2000000
/-! an own exception made by a call with keywords -/
namespace DX
open PySem PySem.W PySem.Calls PyProof.Rows PySem.HandSPX PySem.Builtin
section
variable {prog : Program} {w : World} {A : Around} {E : Value → Shared → Prop} {R : Result → Shared → Prop} {h : Heap} {g : Array GenState} {d : Drawn} {t : Nat} {os : OsState}
variable {nm q : Str} {C N fI : Addr} {bs bm bmB : List Value} {hdct : Bool} {sn : List Str} {sub : List Value} {ab : Bool} {col : Option Bool} {dd : Option Addr} {k0 k1 k2 k3 k5 : Option Value} {B newId initId : String} {kws : List (Str × Value)}
/-- the type's own look at the call -/
theorem type_lookK {M : Model} {Q : Unit → Shared → Prop} (hC : h.get? C = some (excClassObj nm q C N bs bm hdct sn sub ab col dd k0 k1 k2 k3 k5 newId)) (hq : Q () ⟨h, g, d, t, os⟩) :
    wpAny M A (checkBuiltinCall "type.__call__" ⟨[.ref C], kws⟩) Q E ⟨h, g, d, t, os⟩ := by
  have f3 := tc_sub
  have hT : (⟨h, g, d, t, os⟩ : Shared).TypeIs (.ref C) "type" := ⟨_, hC, rfl⟩
  simp only [checkBuiltinCall, tc_kind, tc_split]
  repeat (any_goals (first | assumption | with_reducible refine wpAny_loadPart_at hC ?_ | with_reducible refine wpAny_onRaise ?_ | with_reducible refine wpAny_map ?_ | wp_step))
/-- __new__'s look -/
theorem new_lookK (F : ExcBaseFacts B newId initId bmB) (hT : ∀ X : String, bm.contains (.type X) = bmB.contains (.type X)) {M : Model} {Q : Unit → Shared → Prop} (hC : h.get? C = some (excClassObj nm q C N bs bm hdct sn sub ab col dd k0 k1 k2 k3 k5 newId)) (hq : Q () ⟨h, g, d, t, os⟩) :
    wpAny M A (checkBuiltinCall newId ⟨[.ref C], kws⟩) Q E ⟨h, g, d, t, os⟩ := by
  have hB : (Value.ref C :: bm).contains (.type B) = true := by rw [List.contains_cons, hT, F.hasB, Bool.or_true]
  have hstar := F.noStar
  simp only [checkBuiltinCall, F.newKind, F.newSplit, F.newRow]
  repeat (first | refine wpAny_loadPart_at hC ?_ | (refine wpAny_isSubtype_exc hC ?_; rw [hB]) | refine wpAny_staticBase_exc hC ?_ | refine wpAny_madeBy_exc hC ?_ | simp only [bne_self_eq_false, Bool.false_eq_true, if_false] | wp_step)
  exact hq
/-- the bare object -/
theorem new_ranK (F : ExcBaseFacts B newId initId bmB) (hT : ∀ X : String, bm.contains (.type X) = bmB.contains (.type X)) (hC : h.get? C = some (excClassObj nm q C N bs bm hdct sn sub ab col dd k0 k1 k2 k3 k5 newId))
    (hq : R (.ok (.ret (.ref (h.objs.size + 1)))) ⟨(h.push (kdv_tup [])).push (excO C h.objs.size), g, d, t, os⟩) : codeAny (model prog w) A (.builtin newId ⟨[.ref C], kws⟩) R ⟨h, g, d, t, os⟩ := by
  have hends := F.ends
  have hB : (Value.ref C :: bm).contains (.type B) = true := by rw [List.contains_cons, hT, F.hasB, Bool.or_true]
  have hA : (Value.ref C :: bm).contains (.type "AttributeError") = false := by rw [List.contains_cons, hT, F.noAttr]; rfl
  have hN : (Value.ref C :: bm).contains (.type "NameError") = false := by rw [List.contains_cons, hT, F.noName]; rfl
  have hz : ([] : List Value).length ≤ sizeLine := Nat.zero_le _
  refine codeAny_builtinAt F.entry ?_
  unfold Builtin.«BaseException.__new__»
  refine _root_.PySem.wpAt_bind ?_
  show _root_.PySem.wpAt _ _ _ (stack >>= _) _ _ _
  refine _root_.PySem.wpAt_bind (_root_.PySem.wpAt_stack fun p below => _root_.PySem.wpAt_of_wpAny ?_)
  wp_walk
  refine _root_.PySem.wpAt_of_wpAny ?_
  rw [F.owner]
  repeat (first | with_reducible refine wpAny_madeHere_exc F.canon hC ?_ | with_reducible refine wpAny_loadPart_at hC ?_ | (with_reducible refine wpAny_isSubtype_exc hC ?_; first | rw [hB] | rw [hA] | rw [hN]) | wp_step)
  show R _ _
  rw [Heap.size_push]
  exact hq
/-- C(kw = ..): a bare one, then its __init__ with the keywords -/
theorem call_ranK (F : ExcBaseFacts B newId initId bmB) (hT : ∀ X : String, bm.contains (.type X) = bmB.contains (.type X)) (hC : h.get? C = some (excClassObj nm q C N bs bm hdct sn sub ab col dd k0 k1 k2 k3 k5 newId))
    (hi : W.Looks (model prog w) h (typeLookup (.ref C) "__init__") (some (.ref fI))) (hb : ∀ self, W.Looks (model prog w) h (bindSpecial (.ref fI) self) (.ref fI, [self]))
    (hq : codeAny (model prog w) (A.under (.builtin "type.__call__" ⟨[.ref C], kws⟩)) (.call (.ref fI) ⟨[.ref (h.objs.size + 1)], kws⟩) (InitBack (h.objs.size + 1) R) ⟨(h.push (kdv_tup [])).push (excO C h.objs.size), g, d, t, os⟩) :
    codeAny (model prog w) A (.call (.ref C) ⟨[], kws⟩) R ⟨h, g, d, t, os⟩ := by
  have f1 := tc_lookup
  have f2 := tc_bind (.ref C)
  have hTy : (⟨h, g, d, t, os⟩ : Shared).TypeIs (.ref C) "type" := ⟨_, hC, rfl⟩
  refine codeAny_of_tree ?_
  show wpAny _ _ (callAny (.ref C) _) _ _ _
  repeat (any_goals (first | assumption | with_reducible refine wpAny_loadPart_at hC ?_ | wp_step))
  refine ⟨rfl, ?_⟩
  refine codeAny_call_builtin_at (Code.quiet_builtin _ (by decide +kernel)) entry_typeCall (type_lookK hC ?_)
  -- the type's call
  repeat (first | with_reducible refine wpAny_loadPart_at hC ?_ | with_reducible refine wpAny_madeBy_exc hC ?_ | wp_step)
  refine codeAny_call_builtin_code (Code.quiet_builtin _ F.quiet) (new_lookK F hT hC ?_)
  refine new_ranK F hT hC ?_
  show wpAny _ _ _ _ _ _
  have k : ∀ b o, h.get? b = some o → ((h.push (kdv_tup [])).push (excO C h.objs.size)).get? b = some o := fun b o e => Heap.get?_push_of_some _ (Heap.get?_push_of_some _ e)
  have hC1 := k _ _ hC
  have hget : ((h.push (kdv_tup [])).push (excO C h.objs.size)).get? (h.objs.size + 1) = some (excO C h.objs.size) := by heap_get
  have hcC : (Value.ref C :: bm).contains (.ref C) = true := by simp
  have i1 := hi.keeps k
  have b1 := (hb (.ref (h.objs.size + 1))).keeps k
  unfold isInstance
  repeat (first | with_reducible refine wpAny_loadPart_at hget ?_ | (with_reducible refine wpAny_isSubtype_exc hC1 ?_; rw [hcC]) | wp_step)
  show wpAny _ _ (typeLookup (.ref C) _) _ _ _
  refine i1.at ?_
  refine wpAny_holding (wpAny_bind (b1.at (wpAny_bind (wpAny_call (codeAny_mono hq fun r s' z => ?_)))))
  cases r with
  | error e => exact z
  | ok fl =>
    cases fl with
    | ret v =>
      obtain ⟨rfl, z⟩ := z
      first
        | exact wpAny_pure (wpAny_pure z)
        | (wp_walk; exact z)
    | next => exact False.elim z
    | brk => exact False.elim z
    | cont => exact False.elim z
end
end DX
/-! an own exception as a value -/
namespace DX
open PySem PySem.W PySem.Calls PyProof.Rows PySem.HandSPX
section
variable {prog : Program} {w : World} {A : Around} {s : Shared} {K : Frag} {E : Value → Shared → Prop} {C fI cc cda : Addr} {B newId initId : String} {bmB : List Value} {R : Result → Shared → Prop}
variable {qual nm f : Str} {params : Arguments} {body : List Stmt} {scope : Scope} {p0 p1 p2 p3 p4 p5 q1 q2 q3 q4 r1 r2 r3 r4 : Pos} {j j2 : Nat} {ar : Arg}
/-- with one field, handed by its name -/
theorem exc_init1K {x t0 : Addr} {v : Value} (b : ExB B newId initId bmB) (T : ExK K C fI cc B newId initId bmB) (F : ExF prog K fI cc cda qual params body scope) (S : ExS scope ["self", f])
    (hb : body = [.Expr (.Call (.Attribute (.Call (.Name "super" p0) [] [] p1) "__init__" p2) [.Constant (.str nm) j p3] [] p4) p5, .Assign [.Attribute (.Name "self" q1) f q2] (.Name f q3) q4, .Assign [.Attribute (.Name "self" r1) "code" r2] (.Constant (.str nm) j2 r3) r4])
    (hp : (params.posonlyargs ++ params.args).head? = some ar) (ha : ar.arg = "self") (line : LineOk qual nm scope fI cc cda p0 p1 p2 p3 p4 j) (hf : f ≠ "self") (hfc : f ≠ "code") (hfd : (f == ("__debug__" : Str)) = false) (tf : takerIn K C f = some none) (tc : takerIn K C "code" = some none)
    (bd : ∀ (kV doc pm : Value) (an : Option Addr) (ct u w : Value), bindArgs (ksFn "__init__" qual params body scope .none kV doc pm an (.ref cda) ct cc) ⟨[u], [(f, w)]⟩ = pure [(("self" : Str), u), (f, w)])
    (X : K.In s.heap) (G : Gb s.heap) (hlim : s.heap.NoLimit) (hx : s.heap.get? x = some (excObj C t0 none .none)) (hnx : K.lookup x = none) (hgx : x ≠ mainGlobals) (hbx : x ≠ builtinsNs) (hroom : A.depth < recursionLimit)
    (hq : ∀ h' tk dx t1 tk', InitEnd s.heap h' x C dx t1 (fun y => if y = "code" then some (.str nm tk') else if y = f then some v else none) → R (.ok (.ret .none)) { s with heap := h', toks := tk }) :
    codeAny (model prog w) A (.call (.ref fI) ⟨[.ref x], [(f, v)]⟩) R s := by
  obtain ⟨oc, od, kV, doc, pm, an, ct, osl, lk⟩ := F.lk
  obtain ⟨ccl, cdd, vs, ccs, file, tfl, hcode, hvs, hfile⟩ := F.code
  have pS := S.par "self" (by simp)
  have pF := S.par f (by simp)
  refine ks_codeAny_call_defAt (fd := ksFn "__init__" qual params body scope .none kV doc pm an (.ref cda) ct cc) (body := body) (binds := [(("self" : Str), .ref x), (f, v)]) hroom (X _ _ lk) rfl hlim (codeRec_of X F.cd) rfl (.of_eq (bd _ _ _ _ _ _ _)) S.cell
    (fun y hy => by
      rcases List.mem_cons.mp hy with rfl | hy
      · exact pS
      · rcases List.mem_cons.mp hy with rfl | hy
        · exact pF
        · cases hy) (fun h1 hn k1 => ?_) S.co S.gen S.kind
  obtain ⟨hh, g, d, t, os⟩ := s
  show _root_.PySem.wpAt (model prog w) (A.deeper (ksEnv qual scope hh.objs.size fI (.ref cda) cc)) (.func body (ksEnv qual scope hh.objs.size fI (.ref cda) cc)) (execs body (ksEnv qual scope hh.objs.size fI (.ref cda) cc)) _ _ _
  rw [show execs body (ksEnv qual scope hh.objs.size fI (.ref cda) cc) = execs _ _ from by rw [hb]]
  have hxL : x ≠ hh.objs.size := Nat.ne_of_lt (Heap.lt_size hx)
  obtain ⟨⟨mg, g1, g2⟩, mb, b1, b2⟩ := G
  obtain ⟨pl, he⟩ := line hh.objs.size
  have mS : (fun y => ([(("self" : Str), Value.ref x), (f, v)] : List (Str × Value)).reverse.lookup y) "self" = some (.ref x) := by
    have e : (("self" : Str) == f) = false := by simpa using Ne.symm hf
    simp [List.lookup, e]
  have mF : (fun y => ([(("self" : Str), Value.ref x), (f, v)] : List (Str × Value)).reverse.lookup y) f = some v := by simp [List.lookup]
  refine ks_wpAt_execs_cons ?_
  refine sup_stmt (s := ⟨h1, g, d, t + 2, os⟩) b T (X.keeps k1) (k1 _ _ hx) hn (by rw [ha]; exact mS) lk hp hcode hvs hfile S.sup S.cls (by rw [ha]; exact pS) S.kind F.top (g1.keeps k1) g2 (b1.keeps k1) b2 (fun h2 t1 tk k2 e2 => ?_) he
  have nsk : ∀ {h h' : Heap} {m : Str → Option Value}, h.Ns hh.objs.size m → (∀ c o, c ≠ x → h.get? c = some o → h'.get? c = some o) → h'.Ns hh.objs.size m := fun ⟨o, es, ep, e1, e2⟩ k => ⟨o, es, ep, k _ _ hxL.symm e1, e2⟩
  have n2 := nsk hn k2
  have k12 : ∀ c o, c ≠ x → hh.get? c = some o → h2.get? c = some o := fun c o hc e => k2 c o hc (k1 c o e)
  refine wpAt_of_wpAny (wpAny_execs_cons (plainObj_wpAny_Assign_Attribute ?_))
  refine wpAny_Name (wpAny_loadName_local S.kind pF n2 mF ?_) hfd
  refine wpAny_Name (wpAny_loadName_local S.kind pS n2 mS ?_) (by decide)
  refine set_new b T (kept_but X hnx k12) e2 tf fun h3 dx tk3 k3 dbig dne e3 ns3 => ?_
  have n3 := nsk n2 k3
  have k13 : ∀ c o, c ≠ x → hh.get? c = some o → h3.get? c = some o := fun c o hc e => k3 c o hc (k12 c o hc e)
  have sz : hh.objs.size < h2.objs.size := n2.lt
  have dL : dx ≠ hh.objs.size := Nat.ne_of_gt (Nat.lt_of_lt_of_le sz dbig)
  refine wpAny_execs_cons (plainObj_wpAny_Assign_Attribute ?_)
  refine wpAny_Constant_str ?_
  refine wpAny_Name (wpAny_loadName_local S.kind pS n3 mS ?_) (by decide)
  refine set_more b T (kept_but X hnx k13) e3 tc ns3 (Within.cons f v Within.nil) (by simp) fun h4 tk4 k4 ns4 => ?_
  refine wpAny_execs_nil (hq h4 tk4 dx t1 _ ⟨fun c o hc e => k4 c o (fun z => ?_) (k13 c o hc e), k4 _ _ (Ne.symm dne) e3, Nat.le_of_lt (Nat.lt_of_lt_of_le sz dbig), dne, ns4⟩)
  rw [z] at e
  exact absurd (Heap.lt_size e) (Nat.not_lt.mpr (Nat.le_of_lt (Nat.lt_of_lt_of_le sz dbig)))
/-- __init__ runs on a fresh one, called with keywords -/
def IniOkK (prog : Program) (w : World) (K : Frag) (C fI : Addr) (kws : List (Str × Value)) (Pm : (Str → Option Value) → Prop) : Prop := ∀ (A : Around) (s : Shared) (R : Result → Shared → Prop) (x t0 : Addr),
  K.In s.heap → Gb s.heap → s.heap.NoLimit → s.heap.get? x = some (excObj C t0 none .none) → K.lookup x = none → A.depth < recursionLimit →
  (∀ h' tk dx t1 m, InitEnd s.heap h' x C dx t1 m → Pm m → R (.ok (.ret .none)) { s with heap := h', toks := tk }) → codeAny (model prog w) A (.call (.ref fI) ⟨[.ref x], kws⟩) R s
theorem exc_madeK {kws : List (Str × Value)} {Pm : (Str → Option Value) → Prop} (b : ExB B newId initId bmB) (T : ExK K C fI cc B newId initId bmB) (I : IniOkK prog w K C fI kws Pm) (X : K.In s.heap) (G : Gb s.heap) (hlim : s.heap.NoLimit) (hroom : A.depth + 1 < recursionLimit)
    (hq : ∀ h' tk e d, OwnMade s.heap h' e C d Pm → R (.ok (.ret (.ref e))) { s with heap := h', toks := tk }) : codeAny (model prog w) A (.call (.ref C) ⟨[], kws⟩) R s := by
  obtain ⟨nm, N', qn, bs, bm, hdct, sn, sub, ab, col, dd, k0, k1, k2, k3, k5, hC, hT⟩ := excInit_of X T.exi
  obtain ⟨oI, hoI, hcI⟩ : ∃ oI, s.heap.get? fI = some oI ∧ oI.cls = .type "function" := by
    obtain ⟨o, ho, hc⟩ := Option.map_eq_some_iff.mp (show (K.lookup fI).map (·.cls) = some (.type "function") from beq_iff_eq.mp T.fn)
    exact ⟨o, X _ _ ho, hc⟩
  obtain ⟨hp, g, dw, tk, os⟩ := s
  have hsz : ((hp.push (kdv_tup [])).push (excO C hp.objs.size)).objs.size = hp.objs.size + 2 := by rw [Heap.size_push, Heap.size_push]
  have kk : ∀ b o, hp.get? b = some o → ((hp.push (kdv_tup [])).push (excO C hp.objs.size)).get? b = some o := fun b o e => Heap.get?_push_of_some _ (Heap.get?_push_of_some _ e)
  have hget : ((hp.push (kdv_tup [])).push (excO C hp.objs.size)).get? (hp.objs.size + 1) = some (excO C hp.objs.size) := by heap_get
  have hnx : K.lookup (hp.objs.size + 1) = none := by
    cases e : K.lookup (hp.objs.size + 1) with
    | none => rfl
    | some o => exact absurd (Nat.lt_of_succ_lt (Heap.lt_size (X _ _ e))) (Nat.lt_irrefl _)
  refine call_ranK b.FB hT hC (looks_findIn X T.ini) (fun self => exc_bind hoI hcI self) ?_
  refine I _ ⟨(hp.push (kdv_tup [])).push (excO C hp.objs.size), g, dw, tk, os⟩ _ (hp.objs.size + 1) hp.objs.size (X.keeps kk) (G.keeps kk) (hlim.keeps kk) hget hnx ?_ fun h' tk' dx t1 m ⟨k', hx, dn, dne, hns⟩ hm => ?_
  · rw [L2.make_depth]; exact hroom
  · have old : ∀ b o, hp.get? b = some o → h'.get? b = some o := fun b o e => k' b o (Nat.ne_of_lt (Nat.lt_succ_of_lt (Heap.lt_size e))) (kk b o e)
    have z : hp.objs.size + 2 ≤ dx := by
      rw [← hsz]; exact dn
    exact ⟨rfl, hq h' tk' (hp.objs.size + 1) dx ⟨old, Nat.le_succ _, ⟨_, _, hx, rfl, rfl, rfl, rfl⟩, by show hp.objs.size ≤ dx; omega, dne, m, hns, hm⟩⟩
end
end DX
namespace L2
open PySem PySem.Spec PyProof.Rows DX
theorem exV_ok {P : Program} {w : World} {H : Hp} {h : Heap} {C a d : Addr} {oe : Obj} {vs : Array Value} (e : h.get? a = some oe) (z : Zc (.ref C) (some d) oe) (f : oe.data = .fields vs) : ObjOk P w H h a (DL.ExV C a d) :=
  ⟨⟨oe, vs, e, z, f⟩, ⟨oe, e⟩, fun _ _ ⟨o, v, q, r⟩ k => ⟨o, v, k o q, r⟩⟩
/-- C(kw = ..): for any new exception with any new dict the wish -/
def tNewE (C : Addr) (n : Nat) (fs : List V → List (Str × V)) (ta : TA) : TE := fun σ H Q => ta σ H fun vs H1 => vs.length = n ∧ ∀ a d, H1 a = none → H1 d = none → d ≠ a → Q (.ref a) (upd (upd H1 d (.xd (fs vs))) a (DL.ExV C a d))
section
variable {X : Cx} {C fI cc : Addr} {B newId initId : String} {bmB : List Value} {k n : Nat} {x : Str} {p pos : Pos} {ta : TA} {fs : List V → List (Str × V)} {pins : List (Addr × Obj)} {σ : St} {H : Hp} {s : Shared} {Q : VK} {ks : List Str} {kws : List Keyword}
theorem exc_valK {vs : List V} {kv : List (Str × Value)} (b : ExB B newId initId bmB) (T : ExK X.K C fI cc B newId initId bmB) (hS : X.mg "super" = none) (Ini : IniOkK X.prog X.w X.K C fI kv (MRel (fs vs))) (hr : Room k X.A) (I : Inv X pins σ H s)
    (q : ∀ a d, H a = none → H d = none → d ≠ a → Q (.ref a) (upd (upd H d (.xd (fs vs))) a (DL.ExV C a d))) : wpAny (model X.prog X.w) X.A (call (.ref C) [] kv) (EP X pins σ Q) X.xe s := by
  have hlim := I.nolimit
  have G : Gb s.heap := by
    obtain ⟨mb, h1, h2⟩ := I.mod.blt
    exact ⟨⟨X.mg, I.mod.glob.keeps I.bk, hS⟩, mb, h1.keeps I.bk, (h2 "super" (by decide)).trans (by first | boot_by_name | rfl | kernel_rfl)⟩
  obtain ⟨hp, g, dw, tk, os⟩ := s
  refine wpAny_call (exc_madeK b T Ini I.kIn G hlim (by have := hr.dp; omega) fun h' tk' e d M => ?_)
  show EP X pins σ Q (.ref e) ⟨h', g, dw, tk', os⟩
  obtain ⟨oe, fv, hoe, hc, hd, hdat, h1⟩ := M.obj
  obtain ⟨m, hns, hm⟩ := M.ns
  obtain ⟨G', g1, g2⟩ := restrict h' fun b => decide (b ≠ e)
  have gk : ∀ b, b ≠ e → G'.get? b = h'.get? b := fun b hb => g1 b (decide_eq_true hb)
  have ge : G'.get? e = none := g2 e (by simp)
  have old : ∀ b o, hp.get? b = some o → G'.get? b = some o := fun b o q => (gk b (Nat.ne_of_lt (Nat.lt_of_lt_of_le (Heap.lt_size q) M.new))).trans (M.keep b o q)
  have ob : ObjOk X.prog X.w (upd H d (.xd (fs vs))) G' d (.xd (fs vs)) := ⟨m, hns.at (fun o q => (gk d M.dne).trans q), hm⟩
  have J : Inv X pins σ (upd H d (.xd (fs vs))) ⟨G', g, dw, tk', os⟩ := I.laid (t' := tk') old M.dbig ob
  have hn : upd H d (.xd (fs vs)) e = none := by
    rw [upd_ne (Ne.symm M.dne)]
    exact I.hok.fresh M.new
  have J2 : Inv X pins σ (upd (upd H d (.xd (fs vs))) e (DL.ExV C e d)) ⟨h', g, dw, tk', os⟩ := J.laidN (h' := h') (t' := tk') (fun b o q => by
    have hb : b ≠ e := fun z => by
      have q' : G'.get? b = some o := q
      rw [z, ge] at q'; cases q'
    exact (gk b hb).symm.trans q) ge hn (exV_ok hoe ⟨hc, hd⟩ hdat)
  exact ⟨.ref e, _, J2, rfl, q e d (I.hok.fresh M.new) (I.hok.fresh M.dbig) M.dne⟩
theorem pe_newE (b : ExB B newId initId bmB) (T : ExK X.K C fI cc B newId initId bmB) (hS : X.mg "super" = none) (Ini : ∀ (vs : List V) (us : List Value), Vals vs us → vs.length = ks.length → IniOkK X.prog X.w X.K C fI (ks.zip us) (MRel (fs vs))) (hr : Room k X.A) (hkw : PK X kws ta) (hm : X.mg x = some (.ref C)) (hg : Gl X x) (hdb : (x == ("__debug__" : Str)) = false)
    (hall : (backToKw pos (keywordEach kws X.env)).all (·.1.isSome) = true := by rfl) (hks : (backToKw pos (keywordEach kws X.env)).filterMap (·.1) = ks := by rfl)
    (hpl : ((backTo pos (starEach [] X.env)).any (·.1) || (backToKw pos (keywordEach kws X.env)).any (·.1.isNone)) = false := by rfl) :
    PE X (.Call (.Name x p) [] kws pos) (tNewE C ks.length fs ta) := by
  refine ⟨fun pins s σ H Q I h => ?_⟩
  refine wpAny_Call_Name_kw (ld_glob I hg hm ?_ hdb)
  refine PySem.W.callWith_KW0 (h₀ := X.base) I.ok.mod.kin T.kC hall (thn (hkw.run pos pins s σ H _ I h) fun ws s2 ⟨zs, H2, I2, rz, hl, q2⟩ => ⟨I2.kIn, ?_⟩) hpl
  rw [hks]
  show wpAny _ _ (call (.ref C) [] (ks.zip ws)) _ _ _
  exact exc_valK b T hS (Ini zs ws rz hl) hr I2 q2
end
end L2
/-! exceptions as values, over the data -/
namespace L2
open PySem PySem.Spec PyProof.Rows DX
section
open PySem.W
variable {prog : Program} {w : World} {K : Frag} {C fI cc cda : Addr} {B newId initId : String} {bmB : List Value}
variable {qual nm f : Str} {params : Arguments} {body : List Stmt} {scope : Scope} {p0 p1 p2 p3 p4 p5 q1 q2 q3 q4 r1 r2 r3 r4 : Pos} {j j2 : Nat} {ar : Arg}
theorem ini_oneK {v : V} {u : Value} (rv : RelV v u) (b : ExB B newId initId bmB) (T : ExK K C fI cc B newId initId bmB) (F : ExF prog K fI cc cda qual params body scope) (S : ExS scope ["self", f])
    (hb : body = [.Expr (.Call (.Attribute (.Call (.Name "super" p0) [] [] p1) "__init__" p2) [.Constant (.str nm) j p3] [] p4) p5, .Assign [.Attribute (.Name "self" q1) f q2] (.Name f q3) q4, .Assign [.Attribute (.Name "self" r1) "code" r2] (.Constant (.str nm) j2 r3) r4])
    (hp : (params.posonlyargs ++ params.args).head? = some ar) (ha : ar.arg = "self") (line : LineOk qual nm scope fI cc cda p0 p1 p2 p3 p4 j) (hf : f ≠ "self") (hfc : f ≠ "code") (hfd : (f == ("__debug__" : Str)) = false) (tf : takerIn K C f = some none) (tc : takerIn K C "code" = some none)
    (bd : ∀ (kV doc pm : Value) (an : Option Addr) (ct u w : Value), bindArgs (ksFn "__init__" qual params body scope .none kV doc pm an (.ref cda) ct cc) ⟨[u], [(f, w)]⟩ = pure [(("self" : Str), u), (f, w)]) : IniOkK prog w K C fI [(f, u)] (MRel [(f, v), ("code", .str nm)]) := by
  intro A s R x t0 X G hlim hx hnx hroom hq
  have gx : ∀ {L : Addr} {m : Str → Option Value}, s.heap.Ns L m → x ≠ L := fun ⟨o, es, ep, e1, e2⟩ z => by
    rw [z, e1] at hx
    cases hx
    obtain ⟨e3, _⟩ := e2
    cases e3
  obtain ⟨mg, g1, g2⟩ := id G.gg
  obtain ⟨mb, b1, b2⟩ := id G.gb
  refine exc_init1K b T F S hb hp ha line hf hfc hfd tf tc bd X G hlim hx hnx (gx g1) (gx b1) hroom fun h' tk dx t1 tk' ie => hq h' tk dx t1 _ ie fun y => ?_
  by_cases h1 : y = "code"
  · subst h1
    have e : (("code" : Str) == f) = false := by simpa using Ne.symm hfc
    rw [if_pos rfl]
    have l : List.lookup ("code" : Str) [(f, v), ("code", V.str nm)] = some (V.str nm) := by simp [List.lookup, e]
    rw [l]
    exact ⟨tk', rfl⟩
  · rw [if_neg h1]
    by_cases h2 : y = f
    · subst h2
      rw [if_pos rfl]
      have l : List.lookup y [(y, v), ("code", V.str nm)] = some v := by simp [List.lookup]
      rw [l]
      exact rv
    · rw [if_neg h2]
      have e1 : (y == f) = false := by simpa using h2
      have e2 : (y == ("code" : Str)) = false := by simpa using h1
      have l : List.lookup y [(f, v), ("code", V.str nm)] = none := by simp [List.lookup, e1, e2]
      rw [l]
      trivial
end
end L2
namespace DL
open PySem PySem.Spec PyProof.Rows L2
/-- an own exception class that is called with its field's name -/
structure ExRK (prog : Program) (K : PySem.W.Frag) (mg : Str → Option Value) (C : Addr) (x : Str) (fs : List Str) : Prop where
  g : mg x = some (.ref C)
  sup : mg "super" = none
  ini : ∃ fI cc B newId initId bmB, DX.ExB B newId initId bmB ∧ DX.ExK K C fI cc B newId initId bmB ∧ ∀ (w : World) (vs : List V) (us : List Value), Vals vs us → vs.length = fs.length → DX.IniOkK prog w K C fI (fs.zip us) (MRel ((fs ++ [("code" : Str)]).zip (vs ++ [V.str x])))
theorem ExR.none {prog : Program} {K : PySem.W.Frag} {mg : Str → Option Value} {C : Addr} {x : Str} (T : ExR prog K mg C x []) : ExRK prog K mg C x [] := by
  obtain ⟨fI, cc, B, n, i, b, h1, h2, h3⟩ := T.ini
  refine ⟨T.g, T.sup, fI, cc, B, n, i, b, h1, h2, fun w vs us r hl => ?_⟩
  match vs, us, r, hl with
  | [], [], .nil, _ => exact h3 w [] [] .nil rfl
section
open PySem.W
variable {P : Program} {K : PySem.W.Frag} {mg : Str → Option Value} {C fI cc cda : Addr} {B newId initId : String} {bmB : List Value} {st : Stmt} {qual nm f : Str} {p0 p1 p2 p3 p4 p5 q1 q2 q3 q4 r1 r2 r3 r4 : Pos} {j j2 : Nat} {ar : Arg}
theorem exRK1 (b : DX.ExB B newId initId bmB) (T : DX.ExK K C fI cc B newId initId bmB) (g : mg nm = some (.ref C)) (sup : mg "super" = none) (F : DX.ExF P K fI cc cda qual (defArgs st) (defBody st) (defScope st)) (S : DX.ExS (defScope st) ["self", f])
    (hb : defBody st = [.Expr (.Call (.Attribute (.Call (.Name "super" p0) [] [] p1) "__init__" p2) [.Constant (.str nm) j p3] [] p4) p5, .Assign [.Attribute (.Name "self" q1) f q2] (.Name f q3) q4, .Assign [.Attribute (.Name "self" r1) "code" r2] (.Constant (.str nm) j2 r3) r4])
    (hp : ((defArgs st).posonlyargs ++ (defArgs st).args).head? = some ar) (ha : ar.arg = "self") (line : DX.LineOk qual nm (defScope st) fI cc cda p0 p1 p2 p3 p4 j) (tf : takerIn K C f = some none) (tc : takerIn K C "code" = some none)
    (bd : ∀ (kV doc pm : Value) (an : Option Addr) (ct u w : Value), bindArgs (ksFn "__init__" qual (defArgs st) (defBody st) (defScope st) .none kV doc pm an (.ref cda) ct cc) ⟨[u], [(f, w)]⟩ = pure [(("self" : Str), u), (f, w)])
    (hf : f ≠ "self" := by decide) (hfc : f ≠ "code" := by decide) (hfd : (f == ("__debug__" : Str)) = false := by decide) : ExRK P K mg C nm [f] := by
  refine ⟨g, sup, fI, cc, B, newId, initId, bmB, b, T, fun w vs us r hl => ?_⟩
  match vs, us, r, hl with
  | [v], [u], .cons rv .nil, _ => exact ini_oneK rv b T F S hb hp ha line hf hfc hfd tf tc bd
end
def fNewE (c : Nat) (ns : List Str) (x : Str) (fk : F (List D)) : F D := fun δ η => (fk δ η).bind fun es η => if es.length = ns.length then .ok (.exn c (ns ++ [("code" : Str)]) (es ++ [.str x])) η else .bad
theorem fNewE_a {c : Nat} {ns : List Str} {x : Str} {fk : F (List D)} {δ : En} {η : List O} : fNewE c ns x fk δ η = (fk δ η).bind fun es η => if es.length = ns.length then .ok (.exn c (ns ++ [("code" : Str)]) (es ++ [.str x])) η else .bad := rfl
section
variable {X : Cx} {C : Ct} {W : WX} {pos p : Pos} {kws : List Keyword} {fk : F (List D)} {x : Str} {ns : List Str} {c k : Nat}
theorem fe_newE (T : ExRK X.prog X.K X.mg (C.cl c) x ns) (hr : Room k X.A) (hk : FK C W X kws fk) (hok : PySem.PyData.strOk x = true := by decide +kernel) (hg : Gl X x := by rfl) (hdb : (x == ("__debug__" : Str)) = false := by decide)
    (hall : (backToKw pos (keywordEach kws X.env)).all (·.1.isSome) = true := by rfl) (hks : (backToKw pos (keywordEach kws X.env)).filterMap (·.1) = ns := by rfl)
    (hpl : ((backTo pos (starEach [] X.env)).any (·.1) || (backToKw pos (keywordEach kws X.env)).any (·.1.isNone)) = false := by rfl) :
    FE C W X (.Call (.Name x p) [] kws pos) (fNewE c ns x fk) := by
  obtain ⟨fI, cc, B, newId, initId, bmB, b, T', ini⟩ := T.ini
  refine PE.imp (pe_newE (fs := fun vs => (ns ++ [("code" : Str)]).zip (vs ++ [V.str x])) b T' T.sup (fun vs us r hl => ini X.w vs us r hl) hr hk T.g hg hdb hall hks hpl) fun σ H Q ⟨G, δ, η, at0, fin⟩ => ?_
  refine tG.bind (Rel2 := Rp C) at0 fin fun d v G1 H1 η1 a1 x1 r1 fin1 => ?_
  split at fin1
  · rename_i hz
    refine ⟨by rw [← r1.length]; exact hz, fun a d ha hd ne => ?_⟩
    have ha' : upd H1 d (.xd ((ns ++ [("code" : Str)]).zip (v ++ [V.str x]))) a = none := by rw [upd_ne (Ne.symm ne)]; exact ha
    have x1 : Nx G1 H1 G1 (upd H1 d (.xd ((ns ++ [("code" : Str)]).zip (v ++ [V.str x])))) := Nx.alloc hd
    have x2 := x1.trans (Nx.alloc (o := ExV (C.cl c) a d) ha')
    have h1 := a1.he.alloc (o := .xd ((ns ++ [("code" : Str)]).zip (v ++ [V.str x]))) hd
    refine fin1 _ G1 _ x2 (h1.alloc ha') (.exv ⟨upd_same, h1.fresh ha'⟩ ⟨?_, a1.he.fresh hd⟩ ((r1.append (.cons (.str x hok) .nil)).stab (x2.stab a1.he)))
    rw [upd_ne ne]
    exact upd_same
  · exact fin1.elim
end
section
variable {X : Cx} {C : Ct} {W : WX} {pos : Pos} {a b : Expr} {fa fb : F D}
/-- own list = own list + list -/
theorem fn_addB (hK : X.K = C.K) (ha : FB C W X a fa) (hb : FU C W X b fb) : FN C W X (.BinOp a .Add b pos) (fAddN fa fb) := by
  refine PE.imp (pe_op op_catL ha hb) fun σ H Q ⟨G, δ, η, a0, fin⟩ => ?_
  refine tN.bind (Rel := Rpb C) a0 fin fun d v G1 H1 η1 a1 x1 r1 fin1 => ?_
  refine tN.bind (Rel := Rpu C) a1 fin1 fun e u G2 H2 η2 a2 x2 r2 fin2 => ?_
  have r1' := r1.next x2 a1.he
  split at fin2
  · rename_i l m hl
    split at fin2
    · rename_i hz
      obtain ⟨q, vs, rfl, s1, rs1⟩ : ∃ q vs, v = .ref q ∧ SqL C.K H2 q vs ∧ Rps C G2 H2 l vs := by
        rcases r1' with r | ⟨q, vs, l', rfl, rfl, hq, ⟨rs, _⟩, _⟩
        · exact lsOf_at hl r a2.he
        · have hl' : some l' = some l := hl
          cases hl'
          exact ⟨q, vs, rfl, SqL.of hq, rs⟩
      obtain ⟨q2, vs2, rfl, s2, rs2⟩ := r2.lst
      exact ⟨q, q2, vs, vs2, rfl, rfl, hK ▸ s1, hK ▸ s2, by rw [← rs1.length, ← rs2.length, ← List.length_append]; exact hz, fun p hp => FinN.of Nx.refl fin2 a2.he (rs1.append rs2) hz hp⟩
    · exact fin2.elim
  · exact fin2.elim
end
end DL
namespace Law
open PySem L2 DL
def top (i : Nat) : Stmt := PySem.Challenge.pw_lastheard_k69_errors_made_by_name.main.body.getD i (.Pass ⟨0, 0, 0, 0⟩)
abbrev s_law_feed : Stmt := top 30
theorem sc_law_feed : FnScope ["_law_script", "_law_seed", "_law_cell"] ["_law_script"] (defScope s_law_feed) := ⟨rfl, rfl, rfl, by decide +kernel, rfl, by decide +kernel, by decide +kernel⟩
abbrev s_law_pick : Stmt := top 31
theorem sc_law_pick : FnScope ["_law_feed_here", "_law_many", "_law_cell", "_law_digit", "_law_root", "_law_big"] ["_law_feed_here", "_law_many"] (defScope s_law_pick) := ⟨rfl, rfl, rfl, by decide +kernel, rfl, by decide +kernel, by decide +kernel⟩
abbrev s_law_of : Stmt := top 32
theorem sc_law_of : FnScope ["_law_feed_here", "_law_some"] ["_law_feed_here", "_law_some"] (defScope s_law_of) := ⟨rfl, rfl, rfl, by decide +kernel, rfl, by decide +kernel, by decide +kernel⟩
abbrev s_law_mixed : Stmt := top 34
theorem sc_law_mixed : FnScope ["_law_feed_here", "_law_some", "_law_found", "_law_one"] ["_law_feed_here", "_law_some"] (defScope s_law_mixed) := ⟨rfl, rfl, rfl, by decide +kernel, rfl, by decide +kernel, by decide +kernel⟩
abbrev s_law_names : Stmt := top 35
theorem sc_law_names : FnScope ["_law_feed_here", "_law_many", "_law_letters", "_law_stem", "_law_spot", "_law_sign", "_law_k"] ["_law_feed_here", "_law_many"] (defScope s_law_names) := ⟨rfl, rfl, rfl, by decide +kernel, rfl, by decide +kernel, by decide +kernel⟩
abbrev s_law_places : Stmt := top 36
theorem sc_law_places : FnScope ["_law_number", "_law_made", "_law_some", "_law_e"] ["_law_number"] (defScope s_law_places) := ⟨rfl, rfl, rfl, by decide +kernel, rfl, by decide +kernel, by decide +kernel⟩
abbrev s_law_given : Stmt := top 37
theorem sc_law_given : FnScope ["_law_number", "_law_made", "_law_words_z", "_law_e"] ["_law_number"] (defScope s_law_given) := ⟨rfl, rfl, rfl, by decide +kernel, rfl, by decide +kernel, by decide +kernel⟩
abbrev s_law_named : Stmt := top 38
theorem sc_law_named : FnScope ["_law_label", "_law_made", "_law_words_z", "_law_e"] ["_law_label"] (defScope s_law_named) := ⟨rfl, rfl, rfl, by decide +kernel, rfl, by decide +kernel, by decide +kernel⟩
abbrev s_law_same : Stmt := top 33
theorem sc_law_same : FnScope ["_law_found", "_law_due", "_law_one", "_law_two"] ["_law_found", "_law_due"] (defScope s_law_same) := ⟨rfl, rfl, rfl, by decide +kernel, rfl, by decide +kernel, by decide +kernel⟩
abbrev s_law : Stmt := top 39
theorem sc_law : FnScope ["_law_script", "_law_feed_here", "_law_number", "_law_label", "_law_told", "_law_due", "_law_made", "_law_late", "_law_found", "_law_words_z", "_law_e"] ["_law_script"] (defScope s_law) := ⟨rfl, rfl, rfl, by decide +kernel, rfl, by decide +kernel, by decide +kernel⟩
abbrev sx_WrongCount : Stmt := inClass (top 3) 0
abbrev sx_InvalidSort : Stmt := inClass (top 4) 0
abbrev sx_InvalidWord : Stmt := inClass (top 5) 0
abbrev sx_InvalidMemory : Stmt := inClass (top 6) 0
abbrev sx_InvalidThing : Stmt := inClass (top 7) 0
abbrev sx_InvalidSentence : Stmt := inClass (top 8) 0
abbrev sx_InvalidItem : Stmt := inClass (top 9) 0
abbrev sx_InvalidState : Stmt := inClass (top 10) 0
abbrev sx_InvalidStart : Stmt := inClass (top 11) 0
abbrev sx_InvalidCount : Stmt := inClass (top 12) 0
abbrev sx_InvalidSight : Stmt := inClass (top 13) 0
abbrev sx_InvalidSeen : Stmt := inClass (top 14) 0
abbrev sx_InvalidRow : Stmt := inClass (top 15) 0
abbrev sx_InvalidBell : Stmt := inClass (top 16) 0
abbrev sx_InvalidName : Stmt := inClass (top 17) 0
abbrev sx_InvalidText : Stmt := inClass (top 18) 0
abbrev sx_TooMany : Stmt := inClass (top 19) 0
abbrev sx_AlreadyIn : Stmt := inClass (top 20) 0
abbrev sx_NotIn : Stmt := inClass (top 21) 0
abbrev sx_OtherBook : Stmt := inClass (top 22) 0
abbrev sx_UnknownSort : Stmt := inClass (top 23) 0
abbrev sx_UnknownWord : Stmt := inClass (top 24) 0
abbrev sx_UnknownState : Stmt := inClass (top 25) 0
abbrev sx_UnknownPlace : Stmt := inClass (top 26) 0
abbrev sx_UnknownPerson : Stmt := inClass (top 27) 0
abbrev sx_NothingLeft : Stmt := inClass (top 28) 0
structure Txt (P : Program) (K : PySem.W.Frag) (mg : Str → Option Value) (a : Nat → Addr) (fd : Nat → FuncData) (cl : Nat → Addr) (ca : Nat → Addr) : Prop where
  xk_WrongCount : ExRK P K mg (cl 20) "WrongCount" ["what"]
  xk_InvalidSort : ExRK P K mg (cl 21) "InvalidSort" ["at"]
  xk_InvalidWord : ExRK P K mg (cl 22) "InvalidWord" ["at"]
  xk_InvalidMemory : ExRK P K mg (cl 23) "InvalidMemory" ["given"]
  xk_InvalidThing : ExRK P K mg (cl 24) "InvalidThing" ["at"]
  xk_InvalidSentence : ExRK P K mg (cl 25) "InvalidSentence" ["at"]
  xk_InvalidItem : ExRK P K mg (cl 26) "InvalidItem" ["at"]
  xk_InvalidState : ExRK P K mg (cl 27) "InvalidState" ["at"]
  xk_InvalidStart : ExRK P K mg (cl 28) "InvalidStart" ["given"]
  xk_InvalidCount : ExRK P K mg (cl 29) "InvalidCount" ["given"]
  xk_InvalidSight : ExRK P K mg (cl 30) "InvalidSight" ["given"]
  xk_InvalidSeen : ExRK P K mg (cl 31) "InvalidSeen" ["at"]
  xk_InvalidRow : ExRK P K mg (cl 32) "InvalidRow" ["at"]
  xk_InvalidBell : ExRK P K mg (cl 33) "InvalidBell" ["at"]
  xk_InvalidName : ExRK P K mg (cl 34) "InvalidName" ["name"]
  xk_InvalidText : ExRK P K mg (cl 35) "InvalidText" ["line"]
  xk_TooMany : ExRK P K mg (cl 36) "TooMany" ["most"]
  xk_AlreadyIn : ExRK P K mg (cl 37) "AlreadyIn" ["name"]
  xk_NotIn : ExRK P K mg (cl 38) "NotIn" ["name"]
  xk_OtherBook : ExRK P K mg (cl 39) "OtherBook" []
  xk_UnknownSort : ExRK P K mg (cl 40) "UnknownSort" ["name"]
  xk_UnknownWord : ExRK P K mg (cl 41) "UnknownWord" ["name"]
  xk_UnknownState : ExRK P K mg (cl 42) "UnknownState" ["state"]
  xk_UnknownPlace : ExRK P K mg (cl 43) "UnknownPlace" ["given"]
  xk_UnknownPerson : ExRK P K mg (cl 44) "UnknownPerson" ["name"]
  xk_NothingLeft : ExRK P K mg (cl 45) "NothingLeft" []
  xg_AlreadyIn_code : XGet K (cl 37) "code"
  xg_AlreadyIn_name : XGet K (cl 37) "name"
  xg_InvalidBell_at : XGet K (cl 33) "at"
  xg_InvalidBell_code : XGet K (cl 33) "code"
  xg_InvalidCount_code : XGet K (cl 29) "code"
  xg_InvalidCount_given : XGet K (cl 29) "given"
  xg_InvalidItem_at : XGet K (cl 26) "at"
  xg_InvalidItem_code : XGet K (cl 26) "code"
  xg_InvalidMemory_code : XGet K (cl 23) "code"
  xg_InvalidMemory_given : XGet K (cl 23) "given"
  xg_InvalidName_code : XGet K (cl 34) "code"
  xg_InvalidName_name : XGet K (cl 34) "name"
  xg_InvalidRow_at : XGet K (cl 32) "at"
  xg_InvalidRow_code : XGet K (cl 32) "code"
  xg_InvalidSeen_at : XGet K (cl 31) "at"
  xg_InvalidSeen_code : XGet K (cl 31) "code"
  xg_InvalidSentence_at : XGet K (cl 25) "at"
  xg_InvalidSentence_code : XGet K (cl 25) "code"
  xg_InvalidSight_code : XGet K (cl 30) "code"
  xg_InvalidSight_given : XGet K (cl 30) "given"
  xg_InvalidSort_at : XGet K (cl 21) "at"
  xg_InvalidSort_code : XGet K (cl 21) "code"
  xg_InvalidStart_code : XGet K (cl 28) "code"
  xg_InvalidStart_given : XGet K (cl 28) "given"
  xg_InvalidState_at : XGet K (cl 27) "at"
  xg_InvalidState_code : XGet K (cl 27) "code"
  xg_InvalidText_code : XGet K (cl 35) "code"
  xg_InvalidText_line : XGet K (cl 35) "line"
  xg_InvalidThing_at : XGet K (cl 24) "at"
  xg_InvalidThing_code : XGet K (cl 24) "code"
  xg_InvalidWord_at : XGet K (cl 22) "at"
  xg_InvalidWord_code : XGet K (cl 22) "code"
  xg_NotIn_code : XGet K (cl 38) "code"
  xg_NotIn_name : XGet K (cl 38) "name"
  xg_NothingLeft_code : XGet K (cl 45) "code"
  xg_OtherBook_code : XGet K (cl 39) "code"
  xg_TooMany_code : XGet K (cl 36) "code"
  xg_TooMany_most : XGet K (cl 36) "most"
  xg_UnknownPerson_code : XGet K (cl 44) "code"
  xg_UnknownPerson_name : XGet K (cl 44) "name"
  xg_UnknownPlace_code : XGet K (cl 43) "code"
  xg_UnknownPlace_given : XGet K (cl 43) "given"
  xg_UnknownSort_code : XGet K (cl 40) "code"
  xg_UnknownSort_name : XGet K (cl 40) "name"
  xg_UnknownState_code : XGet K (cl 42) "code"
  xg_UnknownState_state : XGet K (cl 42) "state"
  xg_UnknownWord_code : XGet K (cl 41) "code"
  xg_UnknownWord_name : XGet K (cl 41) "name"
  xg_WrongCount_code : XGet K (cl 20) "code"
  xg_WrongCount_what : XGet K (cl 20) "what"
  b_all : mg "all" = none
  b_bool : mg "bool" = none
  b_int : mg "int" = none
  b_isinstance : mg "isinstance" = none
  b_len : mg "len" = none
  b_list : mg "list" = none
  b_range : mg "range" = none
  b_str : mg "str" = none
  b_tuple : mg "tuple" = none
  b_zip : mg "zip" = none
  f_law_feed : mg "_law_feed" = some (.ref (a 0))
  F_law_feed : FunG K "_law_feed" "_law_feed" s_law_feed (a 0) (fd 0)
  B_law_feed : Binds K (fd 0) ["_law_script"] []
  f_law_pick : mg "_law_pick" = some (.ref (a 1))
  F_law_pick : FunG K "_law_pick" "_law_pick" s_law_pick (a 1) (fd 1)
  B_law_pick : Binds K (fd 1) ["_law_feed_here", "_law_many"] []
  f_law_of : mg "_law_of" = some (.ref (a 2))
  F_law_of : FunG K "_law_of" "_law_of" s_law_of (a 2) (fd 2)
  B_law_of : Binds K (fd 2) ["_law_feed_here", "_law_some"] []
  f_law_mixed : mg "_law_mixed" = some (.ref (a 3))
  F_law_mixed : FunG K "_law_mixed" "_law_mixed" s_law_mixed (a 3) (fd 3)
  B_law_mixed : Binds K (fd 3) ["_law_feed_here", "_law_some"] []
  f_law_names : mg "_law_names" = some (.ref (a 4))
  F_law_names : FunG K "_law_names" "_law_names" s_law_names (a 4) (fd 4)
  B_law_names : Binds K (fd 4) ["_law_feed_here", "_law_many"] []
  f_law_places : mg "_law_places" = some (.ref (a 5))
  F_law_places : FunG K "_law_places" "_law_places" s_law_places (a 5) (fd 5)
  B_law_places : Binds K (fd 5) ["_law_number"] []
  f_law_given : mg "_law_given" = some (.ref (a 6))
  F_law_given : FunG K "_law_given" "_law_given" s_law_given (a 6) (fd 6)
  B_law_given : Binds K (fd 6) ["_law_number"] []
  f_law_named : mg "_law_named" = some (.ref (a 7))
  F_law_named : FunG K "_law_named" "_law_named" s_law_named (a 7) (fd 7)
  B_law_named : Binds K (fd 7) ["_law_label"] []
  f_law_same : mg "_law_same" = some (.ref (a 8))
  F_law_same : FunG K "_law_same" "_law_same" s_law_same (a 8) (fd 8)
  B_law_same : Binds K (fd 8) ["_law_found", "_law_due"] []
  f_law : mg "law" = some (.ref (a 9))
  F_law : FunG K "law" "law" s_law (a 9) (fd 9)
  B_law : Binds K (fd 9) ["_law_script"] []
theorem Txt.k_law_feed {P : Program} {K : PySem.W.Frag} {mg : Str → Option Value} {a ca : Nat → Addr} {fd : Nat → FuncData} {cl : Nat → Addr} (T : Txt P K mg a fd cl ca) : PySem.W.keepIn K (.ref (a 0)) = true := T.F_law_feed.kp
theorem Txt.k_law_pick {P : Program} {K : PySem.W.Frag} {mg : Str → Option Value} {a ca : Nat → Addr} {fd : Nat → FuncData} {cl : Nat → Addr} (T : Txt P K mg a fd cl ca) : PySem.W.keepIn K (.ref (a 1)) = true := T.F_law_pick.kp
theorem Txt.k_law_of {P : Program} {K : PySem.W.Frag} {mg : Str → Option Value} {a ca : Nat → Addr} {fd : Nat → FuncData} {cl : Nat → Addr} (T : Txt P K mg a fd cl ca) : PySem.W.keepIn K (.ref (a 2)) = true := T.F_law_of.kp
theorem Txt.k_law_mixed {P : Program} {K : PySem.W.Frag} {mg : Str → Option Value} {a ca : Nat → Addr} {fd : Nat → FuncData} {cl : Nat → Addr} (T : Txt P K mg a fd cl ca) : PySem.W.keepIn K (.ref (a 3)) = true := T.F_law_mixed.kp
theorem Txt.k_law_names {P : Program} {K : PySem.W.Frag} {mg : Str → Option Value} {a ca : Nat → Addr} {fd : Nat → FuncData} {cl : Nat → Addr} (T : Txt P K mg a fd cl ca) : PySem.W.keepIn K (.ref (a 4)) = true := T.F_law_names.kp
theorem Txt.k_law_places {P : Program} {K : PySem.W.Frag} {mg : Str → Option Value} {a ca : Nat → Addr} {fd : Nat → FuncData} {cl : Nat → Addr} (T : Txt P K mg a fd cl ca) : PySem.W.keepIn K (.ref (a 5)) = true := T.F_law_places.kp
theorem Txt.k_law_given {P : Program} {K : PySem.W.Frag} {mg : Str → Option Value} {a ca : Nat → Addr} {fd : Nat → FuncData} {cl : Nat → Addr} (T : Txt P K mg a fd cl ca) : PySem.W.keepIn K (.ref (a 6)) = true := T.F_law_given.kp
theorem Txt.k_law_named {P : Program} {K : PySem.W.Frag} {mg : Str → Option Value} {a ca : Nat → Addr} {fd : Nat → FuncData} {cl : Nat → Addr} (T : Txt P K mg a fd cl ca) : PySem.W.keepIn K (.ref (a 7)) = true := T.F_law_named.kp
theorem Txt.k_law_same {P : Program} {K : PySem.W.Frag} {mg : Str → Option Value} {a ca : Nat → Addr} {fd : Nat → FuncData} {cl : Nat → Addr} (T : Txt P K mg a fd cl ca) : PySem.W.keepIn K (.ref (a 8)) = true := T.F_law_same.kp
theorem Txt.k_law {P : Program} {K : PySem.W.Frag} {mg : Str → Option Value} {a ca : Nat → Addr} {fd : Nat → FuncData} {cl : Nat → Addr} (T : Txt P K mg a fd cl ca) : PySem.W.keepIn K (.ref (a 9)) = true := T.F_law.kp
section
variable {P : Program} {w : World} {K : PySem.W.Frag} {mg : Str → Option Value} {base : Heap} {cl : Nat → Addr} {tb : Str → Addr}
theorem ok_law_feed {a ca : Nat → Addr} {fd : Nat → FuncData} (T : Txt P K mg a fd cl ca) : FnOk P w K mg base CX0 1 (a 0) (fd 0) ["_law_script"] (spD ⟨K, cl, tb, none⟩ 1 m_law_feed) :=
  ok_defG (n := 3) (np := 1) (fb := b_law_feed) T.F_law_feed sc_law_feed rfl rfl rfl fun cdv A outer s H hr => (fss_cons (fs_set (ps_set (i := 1) sc_law_feed.nd rfl (by first | exact Or.inl rfl | exact Or.inr rfl) fe_int))
    (fss_cons (fs_for rfl PassesOwn.never rfl (fi_any rfl (fe_sl rfl (fe_b (fe_v 0)) fo_none (fo_some fe_int))) (fg_nm sc_law_feed.nd) (fss_one (fs_set (ps_set (i := 1) sc_law_feed.nd rfl (by first | exact Or.inl rfl | exact Or.inr rfl) (fe_op o_mod (fe_b (fe_callT1 c_int T.b_int (fa1 (fe_u (fe_op (o_add rfl) (fe_b (fe_op (o_add rfl) (fe_b (fe_op o_mul (fe_b (fe_v 1)) (fe_u fe_int))) (fe_u (fe_op o_mod (fe_b (fe_callT1 c_int T.b_int (fa1 (fe_u (fe_v 2))) (hv := bt_int))) (fe_u fe_int))))) (fe_u fe_int)))) (hv := bt_int))) (fe_u fe_int))))))
    (fss_one (fs_ret (fe_newO (fn_lst (fa_cons (fe_n (fn_list rfl T.b_list (fe_u (fe_sl rfl (fe_b (fe_v 0)) fo_none (fo_some fe_int))) (hv := bt_list))) (fa_cons fe_int (fa_cons fe_int (fa_cons (fe_v 1) (fa_cons fe_int fa_nil)))))))))))
theorem ok_law_pick {a ca : Nat → Addr} {fd : Nat → FuncData} (T : Txt P K mg a fd cl ca) : FnOk P w K mg base CX0 1 (a 1) (fd 1) ["_law_feed_here", "_law_many"] (spD ⟨K, cl, tb, none⟩ 2 m_law_pick) :=
  ok_defG (n := 6) (np := 2) (fb := b_law_pick) T.F_law_pick sc_law_pick rfl rfl rfl fun cdv A outer s H hr => (fss_cons (fs_if (ft_w (fw_and (ft_cmp o_lt (fe_b (fe_ixO rfl (fe_v 0) fe_int (fun _ _ => rfl))) (fe_u (fe_v 1)) (nomark _)) (fw_and1 (ft_cmp o_lt (fe_b (fe_ixO rfl (fe_v 0) fe_int (fun _ _ => rfl))) (fe_u (fe_call1 (c_len rfl) T.b_len (fa1 (fe_u (fe_ixO rfl (fe_v 0) fe_int (fun _ _ => rfl)))) (hv := bt_len))) (nomark _))))) (fss_cons (fs_set (ps_set (i := 2) sc_law_pick.nd rfl (by first | exact Or.inl rfl | exact Or.inr rfl) (fe_ix rfl (fe_b (fe_ixO rfl (fe_v 0) fe_int (fun _ _ => rfl))) (fe_u (fe_ixO rfl (fe_v 0) fe_int (fun _ _ => rfl))) (fun _ _ => rfl))))
    (fss_cons (fs_setO (ps_asg (fe_op (o_add rfl) (fe_b (fe_ixO rfl (fe_v 0) fe_int (fun _ _ => rfl))) (fe_u fe_int)) (pg_sub (fe_v 0) fe_int set_list)))
    (fss_cons (fs_setO (ps_asg (fe_op o_mod (fe_b (fe_callT1 c_int T.b_int (fa1 (fe_u (fe_op (o_add rfl) (fe_b (fe_op (o_add rfl) (fe_b (fe_op o_mul (fe_b (fe_ixO rfl (fe_v 0) fe_int (fun _ _ => rfl))) (fe_u fe_int))) (fe_u (fe_op o_mod (fe_b (fe_callT1 c_int T.b_int (fa1 (fe_u (fe_v 2))) (hv := bt_int))) (fe_u fe_int))))) (fe_u fe_int)))) (hv := bt_int))) (fe_u fe_int)) (pg_sub (fe_v 0) fe_int set_list)))
    (fss_one (fs_setO (ps_asg (fe_if (ft_cmp o_ge (fe_b (fe_v 2)) (fe_u (fe_op o_pow (fe_b fe_int) (fe_u fe_int))) (nomark _)) (fe_v 2) fe_int) (pg_sub (fe_v 0) fe_int set_list))))))) fss_nil)
    (fss_cons (fs_if (ft_cmp o_ge (fe_b (fe_ixO rfl (fe_v 0) fe_int (fun _ _ => rfl))) (fe_u (fe_v 1)) (nomark _)) (fss_cons (fs_set (ps_set (i := 3) sc_law_pick.nd rfl (by first | exact Or.inl rfl | exact Or.inr rfl) (fe_op o_mod (fe_b (fe_callT1 c_int T.b_int (fa1 (fe_u (fe_ixO rfl (fe_v 0) fe_int (fun _ _ => rfl)))) (hv := bt_int))) (fe_u (fe_v 1)))))
    (fss_cons (fs_setO (ps_asg (fe_op o_fdiv (fe_b (fe_ixO rfl (fe_v 0) fe_int (fun _ _ => rfl))) (fe_u (fe_v 1))) (pg_sub (fe_v 0) fe_int set_list)))
    (fss_one (fs_ret (fe_v 3))))) fss_nil)
    (fss_cons (fs_setO (ps_asg (fe_op (o_add rfl) (fe_b (fe_ixO rfl (fe_v 0) fe_int (fun _ _ => rfl))) (fe_u fe_int)) (pg_sub (fe_v 0) fe_int set_list)))
    (fss_cons (fs_set (ps_set (i := 4) sc_law_pick.nd rfl (by first | exact Or.inl rfl | exact Or.inr rfl) (fe_op o_mod (fe_b (fe_callT1 c_int T.b_int (fa1 (fe_u (fe_op (o_add rfl) (fe_b (fe_ixO rfl (fe_v 0) fe_int (fun _ _ => rfl))) (fe_u (fe_op o_mul (fe_b (fe_ixO rfl (fe_v 0) fe_int (fun _ _ => rfl))) (fe_u fe_int)))))) (hv := bt_int))) (fe_u fe_int))))
    (fss_cons (fs_set (ps_set (i := 5) sc_law_pick.nd rfl (by first | exact Or.inl rfl | exact Or.inr rfl) (fe_op o_mul (fe_b (fe_op o_mod (fe_b (fe_callT1 c_int T.b_int (fa1 (fe_u (fe_op o_mul (fe_b (fe_v 4)) (fe_u (fe_v 4))))) (hv := bt_int))) (fe_u fe_int))) (fe_u (fe_op (o_add rfl) (fe_b (fe_op o_mod (fe_b (fe_callT1 c_int T.b_int (fa1 (fe_u (fe_v 4))) (hv := bt_int))) (fe_u fe_int))) (fe_u fe_int))))))
    (fss_cons (fs_setO (ps_asg (fe_op o_mod (fe_b (fe_callT1 c_int T.b_int (fa1 (fe_u (fe_op (o_add rfl) (fe_b (fe_op (o_add rfl) (fe_b (fe_v 5)) (fe_u (fe_op o_mul (fe_b fe_int) (fe_u (fe_v 4)))))) (fe_u fe_int)))) (hv := bt_int))) (fe_u fe_int)) (pg_sub (fe_v 0) fe_int set_list)))
    (fss_one (fs_ret (fe_op o_mod (fe_b (fe_callT1 c_int T.b_int (fa1 (fe_u (fe_op (o_add rfl) (fe_b (fe_op o_fdiv (fe_b (fe_ixO rfl (fe_v 0) fe_int (fun _ _ => rfl))) (fe_u fe_int))) (fe_u (fe_op o_mul (fe_b (fe_op o_mod (fe_b (fe_callT1 c_int T.b_int (fa1 (fe_u (fe_ixO rfl (fe_v 0) fe_int (fun _ _ => rfl)))) (hv := bt_int))) (fe_u fe_int))) (fe_u fe_int)))))) (hv := bt_int))) (fe_u (fe_v 1)))))))))))
theorem ok_law_of {a ca : Nat → Addr} {fd : Nat → FuncData} (T : Txt P K mg a fd cl ca) : FnOk P w K mg base CX0 2 (a 2) (fd 2) ["_law_feed_here", "_law_some"] (spD ⟨K, cl, tb, none⟩ 2 m_law_of) :=
  ok_defG (n := 2) (np := 2) (fb := b_law_of) T.F_law_of sc_law_of rfl rfl rfl fun cdv A outer s H hr => (fss_one (fs_ret (fe_ix rfl (fe_b (fe_v 1)) (fe_u (fe_call (ok_law_pick T) (hr.mono (by decide)) T.f_law_pick T.k_law_pick T.B_law_pick (fa_cons (fe_v 0) (fa_cons (fe_call1 (c_len rfl) T.b_len (fa1 (fe_u (fe_v 1))) (hv := bt_len)) fa_nil)))) (fun _ _ => rfl))))
theorem ok_law_mixed {a ca : Nat → Addr} {fd : Nat → FuncData} (T : Txt P K mg a fd cl ca) : FnOk P w K mg base CX0 2 (a 3) (fd 3) ["_law_feed_here", "_law_some"] (spD ⟨K, cl, tb, none⟩ 2 m_law_mixed) :=
  ok_defG (n := 4) (np := 2) (fb := b_law_mixed) T.F_law_mixed sc_law_mixed rfl rfl rfl fun cdv A outer s H hr => (fss_cons (fs_own (ps_set (i := 2) sc_law_mixed.nd rfl (by first | exact Or.inl rfl | exact Or.inr rfl) (fn_lst fa_nil)))
    (fss_cons (fs_for rfl PassesOwn.never rfl (fi_any rfl (fe_v 1)) (fg_nm sc_law_mixed.nd) (fss_one (fs_mut 2 mu_ins (pe_bm PySem.F.plainAttrs_list PySem.F.slot_list_insert PySem.F.type_list_insert L2.mt_insert (pv 2) (fa_cons (fe_call (ok_law_pick T) (hr.mono (by decide)) T.f_law_pick T.k_law_pick T.B_law_pick (fa_cons (fe_v 0) (fa_cons (fe_op (o_add rfl) (fe_b (fe_call1 (c_len rfl) T.b_len (fa1 (fb_u (fb_v 2))) (hv := bt_len))) (fe_u fe_int)) fa_nil))) (fa_cons (fe_v 3) fa_nil))))))
    (fss_frz 2 (fss_one (fs_ret (fe_v 2))))))
theorem ok_law_names {a ca : Nat → Addr} {fd : Nat → FuncData} (T : Txt P K mg a fd cl ca) : FnOk P w K mg base CX0 3 (a 4) (fd 4) ["_law_feed_here", "_law_many"] (spD ⟨K, cl, tb, none⟩ 2 m_law_names) :=
  ok_defG (n := 7) (np := 2) (fb := b_law_names) T.F_law_names sc_law_names rfl rfl rfl fun cdv A outer s H hr => (fss_cons (fs_set (ps_set (i := 2) sc_law_names.nd rfl (by first | exact Or.inl rfl | exact Or.inr rfl) (fe_sl rfl (fe_b (fe_call (ok_law_mixed T) (hr.mono (by decide)) T.f_law_mixed T.k_law_mixed T.B_law_mixed (fa_cons (fe_v 0) (fa_cons (fe_n (fn_lc [("_law_sign", 5)] rfl rfl sc_law_names.nd (fi_any rfl (fe_str (x := "abcdefghijklmnopqrstuvwxyz"))) (blkOk_by (own := [("_law_sign", 5)]) (N := ["_law_feed_here", "_law_many", "_law_letters", "_law_stem", "_law_spot", "_law_sign", "_law_k"]) (sc := (defScope s_law_names)) (by decide +kernel)) (fun _ _ _ _ _ => (fg_nm sc_law_names.nd)) (fun _ _ _ _ _ => fts_nil) (fun _ _ _ _ _ => (fe_v 5)))) fa_nil)))) fo_none (fo_some (fe_v 1)))))
    (fss_cons (fs_set (ps_set (i := 3) sc_law_names.nd rfl (by first | exact Or.inl rfl | exact Or.inr rfl) (fe_join rfl (fe_str (x := "")) (fe_u (fe_n (fn_lc [("_law_k", 6)] rfl rfl sc_law_names.nd (fi_rng1 T.b_range (fe_call (ok_law_pick T) (hr.mono (by decide)) T.f_law_pick T.k_law_pick T.B_law_pick (fa_cons (fe_v 0) (fa_cons fe_int fa_nil)))) (blkOk_by (own := [("_law_k", 6)]) (N := ["_law_feed_here", "_law_many", "_law_letters", "_law_stem", "_law_spot", "_law_sign", "_law_k"]) (sc := (defScope s_law_names)) (by decide +kernel)) (fun _ _ _ _ _ => (fg_nm sc_law_names.nd)) (fun _ _ _ _ _ => fts_nil) (fun _ _ _ _ _ => (fe_call (ok_law_of T) (hr.mono (by decide)) T.f_law_of T.k_law_of T.B_law_of (fa_cons (fe_v 0) (fa_cons (fe_str (x := "abcdefghijklmnopqrstuvwxyz")) fa_nil))))))))))
    (fss_cons (fs_set (ps_set (i := 4) sc_law_names.nd rfl (by first | exact Or.inl rfl | exact Or.inr rfl) (fe_call (ok_law_pick T) (hr.mono (by decide)) T.f_law_pick T.k_law_pick T.B_law_pick (fa_cons (fe_v 0) (fa_cons (fe_op (o_add rfl) (fe_b (fe_call1 (c_len rfl) T.b_len (fa1 (fe_u (fe_v 3))) (hv := bt_len))) (fe_u fe_int)) fa_nil)))))
    (fss_one (fs_ret (fe_n (fn_lc [("_law_sign", 5)] rfl rfl sc_law_names.nd (fi_any rfl (fe_v 2)) (blkOk_by (own := [("_law_sign", 5)]) (N := ["_law_feed_here", "_law_many", "_law_letters", "_law_stem", "_law_spot", "_law_sign", "_law_k"]) (sc := (defScope s_law_names)) (by decide +kernel)) (fun _ _ _ _ _ => (fg_nm sc_law_names.nd)) (fun _ _ _ _ _ => fts_nil) (fun _ _ _ _ _ => (fe_op (o_add rfl) (fe_b (fe_op (o_add rfl) (fe_b (fe_sl rfl (fe_b (fe_v 3)) fo_none (fo_some (fe_v 4)))) (fe_u (fe_v 5)))) (fe_u (fe_sl rfl (fe_b (fe_v 3)) (fo_some (fe_v 4)) fo_none)))))))))))
def b_law_places : S := (sSeq (sOwn 1 (fLstN (fCons (fNewE 21 ["at"] "InvalidSort" (fCons (fV 0) fNil)) (fCons (fNewE 22 ["at"] "InvalidWord" (fCons (fV 0) fNil)) (fCons (fNewE 24 ["at"] "InvalidThing" (fCons (fV 0) fNil)) (fCons (fNewE 25 ["at"] "InvalidSentence" (fCons (fV 0) fNil)) fNil))))))
    (sSeq (sOwn 1 (fAddN (fVo 1) (fFrz (fLstN (fCons (fNewE 26 ["at"] "InvalidItem" (fCons (fV 0) fNil)) (fCons (fNewE 27 ["at"] "InvalidState" (fCons (fV 0) fNil)) (fCons (fNewE 31 ["at"] "InvalidSeen" (fCons (fV 0) fNil)) (fCons (fNewE 32 ["at"] "InvalidRow" (fCons (fV 0) fNil)) fNil))))))))
    (sSeq (sMut 1 muApp (fCons (fNewE 33 ["at"] "InvalidBell" (fCons (fV 0) fNil)) fNil))
    (sFz 1 (sSeq (sSet 2 (fC (.str "InvalidSort InvalidWord InvalidThing InvalidSentence InvalidItem")))
    (sSeq (sSet 2 (fOp addD (fV 2) (fC (.str " InvalidState InvalidSeen InvalidRow InvalidBell"))))
    (sRet (fFrz (fLstN (fCons (fFrz (fLc [3] (fiA (fV 1)) (.nm 3) fYes (fXf "at" [21, 22, 24, 25, 26, 27, 31, 32, 33] (fV 3)))) (fCons (fFrz (fLc [3] (fiA (fV 1)) (.nm 3) fYes (fXf "code" [20, 21, 22, 23, 24, 25, 26, 27, 28, 29, 30, 31, 32, 33, 34, 35, 36, 37, 38, 39, 40, 41, 42, 43, 44, 45] (fV 3)))) (fCons (fFrz (fStrN splitS (fV 2) (fC (.str " ")))) fNil))))))))))))
def m_law_places : DF := runD 4 b_law_places
theorem ok_law_places {a ca : Nat → Addr} {fd : Nat → FuncData} (T : Txt P K mg a fd cl ca) : FnOk P w K mg base CX0 1 (a 5) (fd 5) ["_law_number"] (spD ⟨K, cl, tb, none⟩ 1 m_law_places) :=
  ok_defG (n := 4) (np := 1) (fb := b_law_places) T.F_law_places sc_law_places rfl rfl rfl fun cdv A outer s H hr => (fss_cons (fs_own (ps_set (i := 1) sc_law_places.nd rfl (by first | exact Or.inl rfl | exact Or.inr rfl) (fn_lst (fa_cons (fe_newE (c := 21) T.xk_InvalidSort hr (fk_cons (fe_v 0) fk_nil)) (fa_cons (fe_newE (c := 22) T.xk_InvalidWord hr (fk_cons (fe_v 0) fk_nil)) (fa_cons (fe_newE (c := 24) T.xk_InvalidThing hr (fk_cons (fe_v 0) fk_nil)) (fa_cons (fe_newE (c := 25) T.xk_InvalidSentence hr (fk_cons (fe_v 0) fk_nil)) fa_nil)))))))
    (fss_cons (fs_own (ps_set (i := 1) sc_law_places.nd rfl (by first | exact Or.inl rfl | exact Or.inr rfl) (fn_addB rfl (fb_v 1) (fe_u (fe_n (fn_lst (fa_cons (fe_newE (c := 26) T.xk_InvalidItem hr (fk_cons (fe_v 0) fk_nil)) (fa_cons (fe_newE (c := 27) T.xk_InvalidState hr (fk_cons (fe_v 0) fk_nil)) (fa_cons (fe_newE (c := 31) T.xk_InvalidSeen hr (fk_cons (fe_v 0) fk_nil)) (fa_cons (fe_newE (c := 32) T.xk_InvalidRow hr (fk_cons (fe_v 0) fk_nil)) fa_nil))))))))))
    (fss_cons (fs_mut 1 mu_app (pe_bm PySem.F.plainAttrs_list PySem.F.slot_list_append PySem.F.type_list_append L2.mt_append (pv 1) (fa_cons (fe_newE (c := 33) T.xk_InvalidBell hr (fk_cons (fe_v 0) fk_nil)) fa_nil)))
    (fss_frz 1 (fss_cons (fs_set (ps_set (i := 2) sc_law_places.nd rfl (by first | exact Or.inl rfl | exact Or.inr rfl) (fe_str (x := "InvalidSort InvalidWord InvalidThing InvalidSentence InvalidItem"))))
    (fss_cons (fs_set (ps_set (i := 2) sc_law_places.nd rfl (by first | exact Or.inl rfl | exact Or.inr rfl) (fe_op (o_add rfl) (fe_b (fe_v 2)) (fe_u (fe_str (x := " InvalidState InvalidSeen InvalidRow InvalidBell"))))))
    (fss_one (fs_ret (fe_n (fn_lst (fa_cons (fe_n (fn_lc [("_law_e", 3)] rfl rfl sc_law_places.nd (fi_any rfl (fe_v 1)) (blkOk_by (own := [("_law_e", 3)]) (N := ["_law_number", "_law_made", "_law_some", "_law_e"]) (sc := (defScope s_law_places)) (by decide +kernel)) (fun _ _ _ _ _ => (fg_nm sc_law_places.nd)) (fun _ _ _ _ _ => fts_nil) (fun _ _ _ _ _ => (fe_xf (cs := [21, 22, 24, 25, 26, 27, 31, 32, 33]) rfl (fun _ h => nomatch h) (all_cons T.xg_InvalidSort_at (all_cons T.xg_InvalidWord_at (all_cons T.xg_InvalidThing_at (all_cons T.xg_InvalidSentence_at (all_cons T.xg_InvalidItem_at (all_cons T.xg_InvalidState_at (all_cons T.xg_InvalidSeen_at (all_cons T.xg_InvalidRow_at (all_cons T.xg_InvalidBell_at all_nil))))))))) (fe_v 3))))) (fa_cons (fe_n (fn_lc [("_law_e", 3)] rfl rfl sc_law_places.nd (fi_any rfl (fe_v 1)) (blkOk_by (own := [("_law_e", 3)]) (N := ["_law_number", "_law_made", "_law_some", "_law_e"]) (sc := (defScope s_law_places)) (by decide +kernel)) (fun _ _ _ _ _ => (fg_nm sc_law_places.nd)) (fun _ _ _ _ _ => fts_nil) (fun _ _ _ _ _ => (fe_xf (cs := [20, 21, 22, 23, 24, 25, 26, 27, 28, 29, 30, 31, 32, 33, 34, 35, 36, 37, 38, 39, 40, 41, 42, 43, 44, 45]) rfl (fun _ h => nomatch h) (all_cons T.xg_WrongCount_code (all_cons T.xg_InvalidSort_code (all_cons T.xg_InvalidWord_code (all_cons T.xg_InvalidMemory_code (all_cons T.xg_InvalidThing_code (all_cons T.xg_InvalidSentence_code (all_cons T.xg_InvalidItem_code (all_cons T.xg_InvalidState_code (all_cons T.xg_InvalidStart_code (all_cons T.xg_InvalidCount_code (all_cons T.xg_InvalidSight_code (all_cons T.xg_InvalidSeen_code (all_cons T.xg_InvalidRow_code (all_cons T.xg_InvalidBell_code (all_cons T.xg_InvalidName_code (all_cons T.xg_InvalidText_code (all_cons T.xg_TooMany_code (all_cons T.xg_AlreadyIn_code (all_cons T.xg_NotIn_code (all_cons T.xg_OtherBook_code (all_cons T.xg_UnknownSort_code (all_cons T.xg_UnknownWord_code (all_cons T.xg_UnknownState_code (all_cons T.xg_UnknownPlace_code (all_cons T.xg_UnknownPerson_code (all_cons T.xg_NothingLeft_code all_nil)))))))))))))))))))))))))) (fe_v 3))))) (fa_cons (fe_n (fn_split (fe_v 2) (fe_str (x := " ")))) fa_nil)))))))))))))
def b_law_given : S := (sSeq (sSet 1 (fFrz (fLstN (fCons (fNewE 23 ["given"] "InvalidMemory" (fCons (fV 0) fNil)) (fCons (fNewE 28 ["given"] "InvalidStart" (fCons (fV 0) fNil)) (fCons (fNewE 29 ["given"] "InvalidCount" (fCons (fV 0) fNil)) fNil))))))
    (sSeq (sSet 1 (fOp addD (fV 1) (fFrz (fLstN (fCons (fNewE 30 ["given"] "InvalidSight" (fCons (fV 0) fNil)) (fCons (fNewE 43 ["given"] "UnknownPlace" (fCons (fV 0) fNil)) fNil))))))
    (sSeq (sSet 2 (fC (.str "InvalidMemory InvalidStart InvalidCount InvalidSight UnknownPlace")))
    (sRet (fFrz (fLstN (fCons (fFrz (fLc [3] (fiA (fV 1)) (.nm 3) fYes (fXf "given" [23, 28, 29, 30, 43] (fV 3)))) (fCons (fFrz (fLc [3] (fiA (fV 1)) (.nm 3) fYes (fXf "code" [20, 21, 22, 23, 24, 25, 26, 27, 28, 29, 30, 31, 32, 33, 34, 35, 36, 37, 38, 39, 40, 41, 42, 43, 44, 45] (fV 3)))) (fCons (fFrz (fStrN splitS (fV 2) (fC (.str " ")))) fNil)))))))))
def m_law_given : DF := runD 4 b_law_given
theorem ok_law_given {a ca : Nat → Addr} {fd : Nat → FuncData} (T : Txt P K mg a fd cl ca) : FnOk P w K mg base CX0 1 (a 6) (fd 6) ["_law_number"] (spD ⟨K, cl, tb, none⟩ 1 m_law_given) :=
  ok_defG (n := 4) (np := 1) (fb := b_law_given) T.F_law_given sc_law_given rfl rfl rfl fun cdv A outer s H hr => (fss_cons (fs_set (ps_set (i := 1) sc_law_given.nd rfl (by first | exact Or.inl rfl | exact Or.inr rfl) (fe_n (fn_lst (fa_cons (fe_newE (c := 23) T.xk_InvalidMemory hr (fk_cons (fe_v 0) fk_nil)) (fa_cons (fe_newE (c := 28) T.xk_InvalidStart hr (fk_cons (fe_v 0) fk_nil)) (fa_cons (fe_newE (c := 29) T.xk_InvalidCount hr (fk_cons (fe_v 0) fk_nil)) fa_nil)))))))
    (fss_cons (fs_set (ps_set (i := 1) sc_law_given.nd rfl (by first | exact Or.inl rfl | exact Or.inr rfl) (fe_op (o_add rfl) (fe_b (fe_v 1)) (fe_u (fe_n (fn_lst (fa_cons (fe_newE (c := 30) T.xk_InvalidSight hr (fk_cons (fe_v 0) fk_nil)) (fa_cons (fe_newE (c := 43) T.xk_UnknownPlace hr (fk_cons (fe_v 0) fk_nil)) fa_nil))))))))
    (fss_cons (fs_set (ps_set (i := 2) sc_law_given.nd rfl (by first | exact Or.inl rfl | exact Or.inr rfl) (fe_str (x := "InvalidMemory InvalidStart InvalidCount InvalidSight UnknownPlace"))))
    (fss_one (fs_ret (fe_n (fn_lst (fa_cons (fe_n (fn_lc [("_law_e", 3)] rfl rfl sc_law_given.nd (fi_any rfl (fe_v 1)) (blkOk_by (own := [("_law_e", 3)]) (N := ["_law_number", "_law_made", "_law_words_z", "_law_e"]) (sc := (defScope s_law_given)) (by decide +kernel)) (fun _ _ _ _ _ => (fg_nm sc_law_given.nd)) (fun _ _ _ _ _ => fts_nil) (fun _ _ _ _ _ => (fe_xf (cs := [23, 28, 29, 30, 43]) rfl (fun _ h => nomatch h) (all_cons T.xg_InvalidMemory_given (all_cons T.xg_InvalidStart_given (all_cons T.xg_InvalidCount_given (all_cons T.xg_InvalidSight_given (all_cons T.xg_UnknownPlace_given all_nil))))) (fe_v 3))))) (fa_cons (fe_n (fn_lc [("_law_e", 3)] rfl rfl sc_law_given.nd (fi_any rfl (fe_v 1)) (blkOk_by (own := [("_law_e", 3)]) (N := ["_law_number", "_law_made", "_law_words_z", "_law_e"]) (sc := (defScope s_law_given)) (by decide +kernel)) (fun _ _ _ _ _ => (fg_nm sc_law_given.nd)) (fun _ _ _ _ _ => fts_nil) (fun _ _ _ _ _ => (fe_xf (cs := [20, 21, 22, 23, 24, 25, 26, 27, 28, 29, 30, 31, 32, 33, 34, 35, 36, 37, 38, 39, 40, 41, 42, 43, 44, 45]) rfl (fun _ h => nomatch h) (all_cons T.xg_WrongCount_code (all_cons T.xg_InvalidSort_code (all_cons T.xg_InvalidWord_code (all_cons T.xg_InvalidMemory_code (all_cons T.xg_InvalidThing_code (all_cons T.xg_InvalidSentence_code (all_cons T.xg_InvalidItem_code (all_cons T.xg_InvalidState_code (all_cons T.xg_InvalidStart_code (all_cons T.xg_InvalidCount_code (all_cons T.xg_InvalidSight_code (all_cons T.xg_InvalidSeen_code (all_cons T.xg_InvalidRow_code (all_cons T.xg_InvalidBell_code (all_cons T.xg_InvalidName_code (all_cons T.xg_InvalidText_code (all_cons T.xg_TooMany_code (all_cons T.xg_AlreadyIn_code (all_cons T.xg_NotIn_code (all_cons T.xg_OtherBook_code (all_cons T.xg_UnknownSort_code (all_cons T.xg_UnknownWord_code (all_cons T.xg_UnknownState_code (all_cons T.xg_UnknownPlace_code (all_cons T.xg_UnknownPerson_code (all_cons T.xg_NothingLeft_code all_nil)))))))))))))))))))))))))) (fe_v 3))))) (fa_cons (fe_n (fn_split (fe_v 2) (fe_str (x := " ")))) fa_nil))))))))))
def b_law_named : S := (sSeq (sSet 1 (fFrz (fLstN (fCons (fNewE 34 ["name"] "InvalidName" (fCons (fV 0) fNil)) (fCons (fNewE 37 ["name"] "AlreadyIn" (fCons (fV 0) fNil)) (fCons (fNewE 38 ["name"] "NotIn" (fCons (fV 0) fNil)) (fCons (fNewE 40 ["name"] "UnknownSort" (fCons (fV 0) fNil)) fNil)))))))
    (sSeq (sSet 1 (fOp addD (fV 1) (fFrz (fLstN (fCons (fNewE 41 ["name"] "UnknownWord" (fCons (fV 0) fNil)) (fCons (fNewE 44 ["name"] "UnknownPerson" (fCons (fV 0) fNil)) fNil))))))
    (sSeq (sSet 2 (fC (.str "InvalidName AlreadyIn NotIn UnknownSort UnknownWord UnknownPerson")))
    (sRet (fFrz (fLstN (fCons (fFrz (fLc [3] (fiA (fV 1)) (.nm 3) fYes (fXf "name" [34, 37, 38, 40, 41, 44] (fV 3)))) (fCons (fFrz (fLc [3] (fiA (fV 1)) (.nm 3) fYes (fXf "code" [20, 21, 22, 23, 24, 25, 26, 27, 28, 29, 30, 31, 32, 33, 34, 35, 36, 37, 38, 39, 40, 41, 42, 43, 44, 45] (fV 3)))) (fCons (fFrz (fStrN splitS (fV 2) (fC (.str " ")))) fNil)))))))))
def m_law_named : DF := runD 4 b_law_named
theorem ok_law_named {a ca : Nat → Addr} {fd : Nat → FuncData} (T : Txt P K mg a fd cl ca) : FnOk P w K mg base CX0 1 (a 7) (fd 7) ["_law_label"] (spD ⟨K, cl, tb, none⟩ 1 m_law_named) :=
  ok_defG (n := 4) (np := 1) (fb := b_law_named) T.F_law_named sc_law_named rfl rfl rfl fun cdv A outer s H hr => (fss_cons (fs_set (ps_set (i := 1) sc_law_named.nd rfl (by first | exact Or.inl rfl | exact Or.inr rfl) (fe_n (fn_lst (fa_cons (fe_newE (c := 34) T.xk_InvalidName hr (fk_cons (fe_v 0) fk_nil)) (fa_cons (fe_newE (c := 37) T.xk_AlreadyIn hr (fk_cons (fe_v 0) fk_nil)) (fa_cons (fe_newE (c := 38) T.xk_NotIn hr (fk_cons (fe_v 0) fk_nil)) (fa_cons (fe_newE (c := 40) T.xk_UnknownSort hr (fk_cons (fe_v 0) fk_nil)) fa_nil))))))))
    (fss_cons (fs_set (ps_set (i := 1) sc_law_named.nd rfl (by first | exact Or.inl rfl | exact Or.inr rfl) (fe_op (o_add rfl) (fe_b (fe_v 1)) (fe_u (fe_n (fn_lst (fa_cons (fe_newE (c := 41) T.xk_UnknownWord hr (fk_cons (fe_v 0) fk_nil)) (fa_cons (fe_newE (c := 44) T.xk_UnknownPerson hr (fk_cons (fe_v 0) fk_nil)) fa_nil))))))))
    (fss_cons (fs_set (ps_set (i := 2) sc_law_named.nd rfl (by first | exact Or.inl rfl | exact Or.inr rfl) (fe_str (x := "InvalidName AlreadyIn NotIn UnknownSort UnknownWord UnknownPerson"))))
    (fss_one (fs_ret (fe_n (fn_lst (fa_cons (fe_n (fn_lc [("_law_e", 3)] rfl rfl sc_law_named.nd (fi_any rfl (fe_v 1)) (blkOk_by (own := [("_law_e", 3)]) (N := ["_law_label", "_law_made", "_law_words_z", "_law_e"]) (sc := (defScope s_law_named)) (by decide +kernel)) (fun _ _ _ _ _ => (fg_nm sc_law_named.nd)) (fun _ _ _ _ _ => fts_nil) (fun _ _ _ _ _ => (fe_xf (cs := [34, 37, 38, 40, 41, 44]) rfl (fun _ h => nomatch h) (all_cons T.xg_InvalidName_name (all_cons T.xg_AlreadyIn_name (all_cons T.xg_NotIn_name (all_cons T.xg_UnknownSort_name (all_cons T.xg_UnknownWord_name (all_cons T.xg_UnknownPerson_name all_nil)))))) (fe_v 3))))) (fa_cons (fe_n (fn_lc [("_law_e", 3)] rfl rfl sc_law_named.nd (fi_any rfl (fe_v 1)) (blkOk_by (own := [("_law_e", 3)]) (N := ["_law_label", "_law_made", "_law_words_z", "_law_e"]) (sc := (defScope s_law_named)) (by decide +kernel)) (fun _ _ _ _ _ => (fg_nm sc_law_named.nd)) (fun _ _ _ _ _ => fts_nil) (fun _ _ _ _ _ => (fe_xf (cs := [20, 21, 22, 23, 24, 25, 26, 27, 28, 29, 30, 31, 32, 33, 34, 35, 36, 37, 38, 39, 40, 41, 42, 43, 44, 45]) rfl (fun _ h => nomatch h) (all_cons T.xg_WrongCount_code (all_cons T.xg_InvalidSort_code (all_cons T.xg_InvalidWord_code (all_cons T.xg_InvalidMemory_code (all_cons T.xg_InvalidThing_code (all_cons T.xg_InvalidSentence_code (all_cons T.xg_InvalidItem_code (all_cons T.xg_InvalidState_code (all_cons T.xg_InvalidStart_code (all_cons T.xg_InvalidCount_code (all_cons T.xg_InvalidSight_code (all_cons T.xg_InvalidSeen_code (all_cons T.xg_InvalidRow_code (all_cons T.xg_InvalidBell_code (all_cons T.xg_InvalidName_code (all_cons T.xg_InvalidText_code (all_cons T.xg_TooMany_code (all_cons T.xg_AlreadyIn_code (all_cons T.xg_NotIn_code (all_cons T.xg_OtherBook_code (all_cons T.xg_UnknownSort_code (all_cons T.xg_UnknownWord_code (all_cons T.xg_UnknownState_code (all_cons T.xg_UnknownPlace_code (all_cons T.xg_UnknownPerson_code (all_cons T.xg_NothingLeft_code all_nil)))))))))))))))))))))))))) (fe_v 3))))) (fa_cons (fe_n (fn_split (fe_v 2) (fe_str (x := " ")))) fa_nil))))))))))
theorem ok_law_same {a ca : Nat → Addr} {fd : Nat → FuncData} (T : Txt P K mg a fd cl ca) : ∀ n : Nat, FnOk P w K mg base CX0 (n + 1) (a 8) (fd 8) ["_law_found", "_law_due"] (spD ⟨K, cl, tb, none⟩ 2 (m_law_same n))
  | 0 => ok_bot
  | n + 1 => by
    have ih := ok_law_same T n
    exact ok_defG (n := 4) (np := 2) (k := n + 1) T.F_law_same sc_law_same rfl rfl rfl fun cdv A outer s H hr => (fss_cons (fs_if (ft_tru rfl (fe_u (fe_is2 rfl T.b_isinstance T.b_list T.b_tuple (fe_v 1) (hvT := bt_list) (hvT2 := bt_tuple)))) (fss_cons (fs_if (ft_w (fw_or (ft_cmp (o_ne rfl hr.units) (fe_b (fe_is rfl T.b_isinstance T.b_list (fe_v 0) (hvT := bt_list))) (fe_u (fe_is rfl T.b_isinstance T.b_list (fe_v 1) (hvT := bt_list))) (nomark _)) (fw_or1 (ft_cmp (o_ne rfl hr.units) (fe_b (fe_is rfl T.b_isinstance T.b_tuple (fe_v 0) (hvT := bt_tuple))) (fe_u (fe_is rfl T.b_isinstance T.b_tuple (fe_v 1) (hvT := bt_tuple))) (nomark _))))) (fss_one (fs_ret fe_bl)) fss_nil)
    (fss_one (fs_ret (fe_and (fe_cmp (o_eq rfl hr.units) (fe_b (fe_call1 (c_len rfl) T.b_len (fa1 (fe_u (fe_v 0))) (hv := bt_len))) (fe_u (fe_call1 (c_len rfl) T.b_len (fa1 (fe_u (fe_v 1))) (hv := bt_len))) (nomark _)) (fe_one (fe_call1 (c_all rfl rfl) T.b_all (fa1 (fe_u (fe_n (fn_lc [("_law_one", 2), ("_law_two", 3)] rfl rfl sc_law_same.nd (fi_zip rfl T.b_zip (fe_v 0) (fe_v 1)) (blkOk_by (own := [("_law_one", 2), ("_law_two", 3)]) (N := ["_law_found", "_law_due", "_law_one", "_law_two"]) (sc := (defScope s_law_same)) (by decide +kernel)) (fun _ _ _ _ _ => (fg_tp rfl (fgs_cons (fg_nm sc_law_same.nd) (fgs_cons (fg_nm sc_law_same.nd) fgs_nil)))) (fun _ _ _ _ _ => fts_nil) (fun _ _ _ _ _ => (fe_call ih (hr.mono (Nat.le_refl _)) T.f_law_same T.k_law_same T.B_law_same (fa_cons (fe_v 2) (fa_cons (fe_v 3) fa_nil)))))))) (hv := bt_all))))))) fss_nil)
    (fss_cons (fs_if (ft_w (fw_or (ft_tru rfl (fe_u (fe_is2 rfl T.b_isinstance T.b_list T.b_tuple (fe_v 0) (hvT := bt_list) (hvT2 := bt_tuple)))) (fw_or1 (ft_cmp (o_ne rfl hr.units) (fe_b (fe_is rfl T.b_isinstance T.b_bool (fe_v 0) (hvT := bt_bool))) (fe_u (fe_is rfl T.b_isinstance T.b_bool (fe_v 1) (hvT := bt_bool))) (nomark _))))) (fss_one (fs_ret fe_bl)) fss_nil)
    (fss_cons (fs_if (ft_w (fw_or (ft_cmp o_isN (fe_b (fe_v 1)) (fe_u fe_non) (nomark _)) (fw_or1 (ft_cmp o_isN (fe_b (fe_v 0)) (fe_u fe_non) (nomark _))))) (fss_one (fs_ret (fe_and (fe_cmp o_isN (fe_b (fe_v 1)) (fe_u fe_non) (nomark _)) (fe_one (fe_cmp o_isN (fe_b (fe_v 0)) (fe_u fe_non) (nomark _)))))) fss_nil)
    (fss_one (fs_ret (fe_and (fe_cmp (o_eq rfl hr.units) (fe_b (fe_is rfl T.b_isinstance T.b_str (fe_v 0) (hvT := bt_str))) (fe_u (fe_is rfl T.b_isinstance T.b_str (fe_v 1) (hvT := bt_str))) (nomark _)) (fe_one (fe_cmp (o_eq rfl hr.units) (fe_b (fe_v 0)) (fe_u (fe_v 1)) (nomark _)))))))))
def b_law : S := (sSeq (sSet 1 (fCall 1 m_law_feed (fCons (fV 0) fNil)))
    (sSeq (sPar 2 3 (fCall 2 m_law_of (fCons (fV 1) (fCons (fFrz (fLstN (fCons (fC (.int 0)) (fCons (fC (.int 1)) (fCons (fNeg (fC (.int 1))) (fCons (fOp powD (fC (.int 10)) (fC (.int 29))) (fCons (fCall 2 m_law_pick (fCons (fV 1) (fCons (fC (.int 1000)) fNil))) fNil))))))) fNil))) (fOp ixD (fCall 2 m_law_names (fCons (fV 1) (fCons (fC (.int 1)) fNil))) (fC (.int 0))))
    (sSeq (sFor (fiA (fFrz (fLstN (fCons (fTup (fCons (fCall 1 m_law_places (fCons (fV 2) fNil)) (fCons (fV 2) fNil))) (fCons (fTup (fCons (fCall 1 m_law_given (fCons (fV 2) fNil)) (fCons (fV 2) fNil))) (fCons (fTup (fCons (fCall 1 m_law_named (fCons (fV 3) fNil)) (fCons (fV 3) fNil))) fNil)))))) (.tp [(.nm 4), (.nm 5)]) (sIf (fNotB (fTru (fCall 2 (m_law_same 12) (fCons (fSl (fV 4) fNoP (fPt (fC (.int 2)))) (fCons (fFrz (fLstN (fCons (fOp mulLD (fFrz (fLstN (fCons (fV 5) fNil))) (fCall1 lenD (fOp ixD (fV 4) (fC (.int 2))))) (fCons (fOp ixD (fV 4) (fC (.int 2))) fNil)))) fNil))))) (sRet (fC (.bl false))) SR.nx))
    (sSeq (sSet 6 (fFrz (fLstN (fCons (fNewE 20 ["what"] "WrongCount" (fCons (fV 3) fNil)) (fCons (fNewE 35 ["line"] "InvalidText" (fCons (fV 2) fNil)) (fCons (fNewE 36 ["most"] "TooMany" (fCons (fV 2) fNil)) (fCons (fNewE 42 ["state"] "UnknownState" (fCons (fV 2) fNil)) fNil)))))))
    (sSeq (sSet 7 (fFrz (fLstN (fCons (fNewE 39 [] "OtherBook" fNil) (fCons (fNewE 45 [] "NothingLeft" fNil) fNil)))))
    (sSeq (sSet 8 (fFrz (fLstN (fCons (fXf "what" [20] (fOp ixD (fV 6) (fC (.int 0)))) (fCons (fXf "line" [35] (fOp ixD (fV 6) (fC (.int 1)))) (fCons (fXf "most" [36] (fOp ixD (fV 6) (fC (.int 2)))) (fCons (fXf "state" [42] (fOp ixD (fV 6) (fC (.int 3)))) fNil)))))))
    (sSeq (sIf (fNotB (fTru (fCall 2 (m_law_same 12) (fCons (fV 8) (fCons (fFrz (fLstN (fCons (fV 3) (fCons (fV 2) (fCons (fV 2) (fCons (fV 2) fNil)))))) fNil))))) (sRet (fC (.bl false))) SR.nx)
    (sSeq (sSet 9 (fFrz (fLstN (fCons (fC (.str "WrongCount")) (fCons (fC (.str "InvalidText")) (fCons (fC (.str "TooMany")) (fCons (fC (.str "UnknownState")) (fCons (fC (.str "OtherBook")) (fCons (fC (.str "NothingLeft")) fNil)))))))))
    (sRet (fOp eqD (fOp addD (fFrz (fLc [10] (fiA (fV 6)) (.nm 10) fYes (fXf "code" [20, 21, 22, 23, 24, 25, 26, 27, 28, 29, 30, 31, 32, 33, 34, 35, 36, 37, 38, 39, 40, 41, 42, 43, 44, 45] (fV 10)))) (fFrz (fLc [10] (fiA (fV 7)) (.nm 10) fYes (fXf "code" [20, 21, 22, 23, 24, 25, 26, 27, 28, 29, 30, 31, 32, 33, 34, 35, 36, 37, 38, 39, 40, 41, 42, 43, 44, 45] (fV 10))))) (fV 9)))))))))))
def m_law : DF := runD 11 b_law
theorem ok_law {a ca : Nat → Addr} {fd : Nat → FuncData} (T : Txt P K mg a fd cl ca) : FnOk P w K mg base CX0 22 (a 9) (fd 9) ["_law_script"] (spD ⟨K, cl, tb, none⟩ 1 m_law) :=
  ok_defG (n := 11) (np := 1) (fb := b_law) T.F_law sc_law rfl rfl rfl fun cdv A outer s H hr => (fss_cons (fs_set (ps_set (i := 1) sc_law.nd rfl (by first | exact Or.inl rfl | exact Or.inr rfl) (fe_call (ok_law_feed T) (hr.mono (by decide)) T.f_law_feed T.k_law_feed T.B_law_feed (fa_cons (fe_v 0) fa_nil))))
    (fss_cons (fs_par (ps_par rfl sc_law.nd rfl rfl (by decide) rfl rfl (pa_cons (fe_call (ok_law_of T) (hr.mono (by decide)) T.f_law_of T.k_law_of T.B_law_of (fa_cons (fe_v 1) (fa_cons (fe_n (fn_lst (fa_cons fe_int (fa_cons fe_int (fa_cons (fe_neg fe_int) (fa_cons (fe_op o_pow (fe_b fe_int) (fe_u fe_int)) (fa_cons (fe_call (ok_law_pick T) (hr.mono (by decide)) T.f_law_pick T.k_law_pick T.B_law_pick (fa_cons (fe_v 1) (fa_cons fe_int fa_nil))) fa_nil))))))) fa_nil))) (pa_cons (fe_ix rfl (fe_b (fe_call (ok_law_names T) (hr.mono (by decide)) T.f_law_names T.k_law_names T.B_law_names (fa_cons (fe_v 1) (fa_cons fe_int fa_nil)))) (fe_u fe_int) (fun _ _ => rfl)) pa_nil)) rfl))
    (fss_cons (fs_for rfl PassesOwn.never rfl (fi_any rfl (fe_n (fn_lst (fa_cons (fe_tup (fa_cons (fe_call (ok_law_places T) (hr.mono (by decide)) T.f_law_places T.k_law_places T.B_law_places (fa_cons (fe_v 2) fa_nil)) (fa_cons (fe_v 2) fa_nil))) (fa_cons (fe_tup (fa_cons (fe_call (ok_law_given T) (hr.mono (by decide)) T.f_law_given T.k_law_given T.B_law_given (fa_cons (fe_v 2) fa_nil)) (fa_cons (fe_v 2) fa_nil))) (fa_cons (fe_tup (fa_cons (fe_call (ok_law_named T) (hr.mono (by decide)) T.f_law_named T.k_law_named T.B_law_named (fa_cons (fe_v 3) fa_nil)) (fa_cons (fe_v 3) fa_nil))) fa_nil)))))) (fg_tp rfl (fgs_cons (fg_nm sc_law.nd) (fgs_cons (fg_nm sc_law.nd) fgs_nil))) (fss_one (fs_if (ft_not (ft_tru rfl (fe_u (fe_call (ok_law_same T 12) (hr.mono (by decide)) T.f_law_same T.k_law_same T.B_law_same (fa_cons (fe_sl rfl (fe_b (fe_v 4)) fo_none (fo_some fe_int)) (fa_cons (fe_n (fn_lst (fa_cons (fe_op (o_mulL rfl) (fe_b (fe_n (fn_lst (fa_cons (fe_v 5) fa_nil)))) (fe_u (fe_call1 (c_len rfl) T.b_len (fa1 (fe_u (fe_ix rfl (fe_b (fe_v 4)) (fe_u fe_int) (fun _ _ => rfl)))) (hv := bt_len)))) (fa_cons (fe_ix rfl (fe_b (fe_v 4)) (fe_u fe_int) (fun _ _ => rfl)) fa_nil)))) fa_nil)))))) (fss_one (fs_ret fe_bl)) fss_nil)))
    (fss_cons (fs_set (ps_set (i := 6) sc_law.nd rfl (by first | exact Or.inl rfl | exact Or.inr rfl) (fe_n (fn_lst (fa_cons (fe_newE (c := 20) T.xk_WrongCount hr (fk_cons (fe_v 3) fk_nil)) (fa_cons (fe_newE (c := 35) T.xk_InvalidText hr (fk_cons (fe_v 2) fk_nil)) (fa_cons (fe_newE (c := 36) T.xk_TooMany hr (fk_cons (fe_v 2) fk_nil)) (fa_cons (fe_newE (c := 42) T.xk_UnknownState hr (fk_cons (fe_v 2) fk_nil)) fa_nil))))))))
    (fss_cons (fs_set (ps_set (i := 7) sc_law.nd rfl (by first | exact Or.inl rfl | exact Or.inr rfl) (fe_n (fn_lst (fa_cons (fe_newE (c := 39) T.xk_OtherBook hr fk_nil) (fa_cons (fe_newE (c := 45) T.xk_NothingLeft hr fk_nil) fa_nil))))))
    (fss_cons (fs_set (ps_set (i := 8) sc_law.nd rfl (by first | exact Or.inl rfl | exact Or.inr rfl) (fe_n (fn_lst (fa_cons (fe_xf (cs := [20]) rfl (fun _ h => nomatch h) (all_cons T.xg_WrongCount_what all_nil) (fe_ix rfl (fe_b (fe_v 6)) (fe_u fe_int) (fun _ _ => rfl))) (fa_cons (fe_xf (cs := [35]) rfl (fun _ h => nomatch h) (all_cons T.xg_InvalidText_line all_nil) (fe_ix rfl (fe_b (fe_v 6)) (fe_u fe_int) (fun _ _ => rfl))) (fa_cons (fe_xf (cs := [36]) rfl (fun _ h => nomatch h) (all_cons T.xg_TooMany_most all_nil) (fe_ix rfl (fe_b (fe_v 6)) (fe_u fe_int) (fun _ _ => rfl))) (fa_cons (fe_xf (cs := [42]) rfl (fun _ h => nomatch h) (all_cons T.xg_UnknownState_state all_nil) (fe_ix rfl (fe_b (fe_v 6)) (fe_u fe_int) (fun _ _ => rfl))) fa_nil))))))))
    (fss_cons (fs_if (ft_not (ft_tru rfl (fe_u (fe_call (ok_law_same T 12) (hr.mono (by decide)) T.f_law_same T.k_law_same T.B_law_same (fa_cons (fe_v 8) (fa_cons (fe_n (fn_lst (fa_cons (fe_v 3) (fa_cons (fe_v 2) (fa_cons (fe_v 2) (fa_cons (fe_v 2) fa_nil)))))) fa_nil)))))) (fss_one (fs_ret fe_bl)) fss_nil)
    (fss_cons (fs_set (ps_set (i := 9) sc_law.nd rfl (by first | exact Or.inl rfl | exact Or.inr rfl) (fe_n (fn_lst (fa_cons (fe_str (x := "WrongCount")) (fa_cons (fe_str (x := "InvalidText")) (fa_cons (fe_str (x := "TooMany")) (fa_cons (fe_str (x := "UnknownState")) (fa_cons (fe_str (x := "OtherBook")) (fa_cons (fe_str (x := "NothingLeft")) fa_nil))))))))))
    (fss_one (fs_ret (fe_cmp (o_eq rfl hr.units) (fe_b (fe_op (o_add rfl) (fe_b (fe_n (fn_lc [("_law_e", 10)] rfl rfl sc_law.nd (fi_any rfl (fe_v 6)) (blkOk_by (own := [("_law_e", 10)]) (N := ["_law_script", "_law_feed_here", "_law_number", "_law_label", "_law_told", "_law_due", "_law_made", "_law_late", "_law_found", "_law_words_z", "_law_e"]) (sc := (defScope s_law)) (by decide +kernel)) (fun _ _ _ _ _ => (fg_nm sc_law.nd)) (fun _ _ _ _ _ => fts_nil) (fun _ _ _ _ _ => (fe_xf (cs := [20, 21, 22, 23, 24, 25, 26, 27, 28, 29, 30, 31, 32, 33, 34, 35, 36, 37, 38, 39, 40, 41, 42, 43, 44, 45]) rfl (fun _ h => nomatch h) (all_cons T.xg_WrongCount_code (all_cons T.xg_InvalidSort_code (all_cons T.xg_InvalidWord_code (all_cons T.xg_InvalidMemory_code (all_cons T.xg_InvalidThing_code (all_cons T.xg_InvalidSentence_code (all_cons T.xg_InvalidItem_code (all_cons T.xg_InvalidState_code (all_cons T.xg_InvalidStart_code (all_cons T.xg_InvalidCount_code (all_cons T.xg_InvalidSight_code (all_cons T.xg_InvalidSeen_code (all_cons T.xg_InvalidRow_code (all_cons T.xg_InvalidBell_code (all_cons T.xg_InvalidName_code (all_cons T.xg_InvalidText_code (all_cons T.xg_TooMany_code (all_cons T.xg_AlreadyIn_code (all_cons T.xg_NotIn_code (all_cons T.xg_OtherBook_code (all_cons T.xg_UnknownSort_code (all_cons T.xg_UnknownWord_code (all_cons T.xg_UnknownState_code (all_cons T.xg_UnknownPlace_code (all_cons T.xg_UnknownPerson_code (all_cons T.xg_NothingLeft_code all_nil)))))))))))))))))))))))))) (fe_v 10)))))) (fe_u (fe_n (fn_lc [("_law_e", 10)] rfl rfl sc_law.nd (fi_any rfl (fe_v 7)) (blkOk_by (own := [("_law_e", 10)]) (N := ["_law_script", "_law_feed_here", "_law_number", "_law_label", "_law_told", "_law_due", "_law_made", "_law_late", "_law_found", "_law_words_z", "_law_e"]) (sc := (defScope s_law)) (by decide +kernel)) (fun _ _ _ _ _ => (fg_nm sc_law.nd)) (fun _ _ _ _ _ => fts_nil) (fun _ _ _ _ _ => (fe_xf (cs := [20, 21, 22, 23, 24, 25, 26, 27, 28, 29, 30, 31, 32, 33, 34, 35, 36, 37, 38, 39, 40, 41, 42, 43, 44, 45]) rfl (fun _ h => nomatch h) (all_cons T.xg_WrongCount_code (all_cons T.xg_InvalidSort_code (all_cons T.xg_InvalidWord_code (all_cons T.xg_InvalidMemory_code (all_cons T.xg_InvalidThing_code (all_cons T.xg_InvalidSentence_code (all_cons T.xg_InvalidItem_code (all_cons T.xg_InvalidState_code (all_cons T.xg_InvalidStart_code (all_cons T.xg_InvalidCount_code (all_cons T.xg_InvalidSight_code (all_cons T.xg_InvalidSeen_code (all_cons T.xg_InvalidRow_code (all_cons T.xg_InvalidBell_code (all_cons T.xg_InvalidName_code (all_cons T.xg_InvalidText_code (all_cons T.xg_TooMany_code (all_cons T.xg_AlreadyIn_code (all_cons T.xg_NotIn_code (all_cons T.xg_OtherBook_code (all_cons T.xg_UnknownSort_code (all_cons T.xg_UnknownWord_code (all_cons T.xg_UnknownState_code (all_cons T.xg_UnknownPlace_code (all_cons T.xg_UnknownPerson_code (all_cons T.xg_NothingLeft_code all_nil)))))))))))))))))))))))))) (fe_v 10)))))))) (fe_u (fe_v 9)) (nomark _))))))))))))
end
theorem bx_WrongCount {cc cda : Addr} (kV doc pm : Value) (an : Option Addr) (ct u w : Value) : bindArgs (PySem.W.ksFn "__init__" "WrongCount.__init__" (defArgs sx_WrongCount) (defBody sx_WrongCount) (defScope sx_WrongCount) .none kV doc pm an (.ref cda) ct cc) ⟨[u, w], []⟩ = pure [(("self" : Str), u), (("what" : Str), w)] := rfl

theorem bxk_WrongCount {cc cda : Addr} (kV doc pm : Value) (an : Option Addr) (ct u w : Value) : bindArgs (PySem.W.ksFn "__init__" "WrongCount.__init__" (defArgs sx_WrongCount) (defBody sx_WrongCount) (defScope sx_WrongCount) .none kV doc pm an (.ref cda) ct cc) ⟨[u], [("what", w)]⟩ = pure [(("self" : Str), u), (("what" : Str), w)] := rfl
theorem bx_InvalidSort {cc cda : Addr} (kV doc pm : Value) (an : Option Addr) (ct u w : Value) : bindArgs (PySem.W.ksFn "__init__" "InvalidSort.__init__" (defArgs sx_InvalidSort) (defBody sx_InvalidSort) (defScope sx_InvalidSort) .none kV doc pm an (.ref cda) ct cc) ⟨[u, w], []⟩ = pure [(("self" : Str), u), (("at" : Str), w)] := rfl

theorem bxk_InvalidSort {cc cda : Addr} (kV doc pm : Value) (an : Option Addr) (ct u w : Value) : bindArgs (PySem.W.ksFn "__init__" "InvalidSort.__init__" (defArgs sx_InvalidSort) (defBody sx_InvalidSort) (defScope sx_InvalidSort) .none kV doc pm an (.ref cda) ct cc) ⟨[u], [("at", w)]⟩ = pure [(("self" : Str), u), (("at" : Str), w)] := rfl
theorem bx_InvalidWord {cc cda : Addr} (kV doc pm : Value) (an : Option Addr) (ct u w : Value) : bindArgs (PySem.W.ksFn "__init__" "InvalidWord.__init__" (defArgs sx_InvalidWord) (defBody sx_InvalidWord) (defScope sx_InvalidWord) .none kV doc pm an (.ref cda) ct cc) ⟨[u, w], []⟩ = pure [(("self" : Str), u), (("at" : Str), w)] := rfl

theorem bxk_InvalidWord {cc cda : Addr} (kV doc pm : Value) (an : Option Addr) (ct u w : Value) : bindArgs (PySem.W.ksFn "__init__" "InvalidWord.__init__" (defArgs sx_InvalidWord) (defBody sx_InvalidWord) (defScope sx_InvalidWord) .none kV doc pm an (.ref cda) ct cc) ⟨[u], [("at", w)]⟩ = pure [(("self" : Str), u), (("at" : Str), w)] := rfl
theorem bx_InvalidMemory {cc cda : Addr} (kV doc pm : Value) (an : Option Addr) (ct u w : Value) : bindArgs (PySem.W.ksFn "__init__" "InvalidMemory.__init__" (defArgs sx_InvalidMemory) (defBody sx_InvalidMemory) (defScope sx_InvalidMemory) .none kV doc pm an (.ref cda) ct cc) ⟨[u, w], []⟩ = pure [(("self" : Str), u), (("given" : Str), w)] := rfl

theorem bxk_InvalidMemory {cc cda : Addr} (kV doc pm : Value) (an : Option Addr) (ct u w : Value) : bindArgs (PySem.W.ksFn "__init__" "InvalidMemory.__init__" (defArgs sx_InvalidMemory) (defBody sx_InvalidMemory) (defScope sx_InvalidMemory) .none kV doc pm an (.ref cda) ct cc) ⟨[u], [("given", w)]⟩ = pure [(("self" : Str), u), (("given" : Str), w)] := rfl
theorem bx_InvalidThing {cc cda : Addr} (kV doc pm : Value) (an : Option Addr) (ct u w : Value) : bindArgs (PySem.W.ksFn "__init__" "InvalidThing.__init__" (defArgs sx_InvalidThing) (defBody sx_InvalidThing) (defScope sx_InvalidThing) .none kV doc pm an (.ref cda) ct cc) ⟨[u, w], []⟩ = pure [(("self" : Str), u), (("at" : Str), w)] := rfl

theorem bxk_InvalidThing {cc cda : Addr} (kV doc pm : Value) (an : Option Addr) (ct u w : Value) : bindArgs (PySem.W.ksFn "__init__" "InvalidThing.__init__" (defArgs sx_InvalidThing) (defBody sx_InvalidThing) (defScope sx_InvalidThing) .none kV doc pm an (.ref cda) ct cc) ⟨[u], [("at", w)]⟩ = pure [(("self" : Str), u), (("at" : Str), w)] := rfl
theorem bx_InvalidSentence {cc cda : Addr} (kV doc pm : Value) (an : Option Addr) (ct u w : Value) : bindArgs (PySem.W.ksFn "__init__" "InvalidSentence.__init__" (defArgs sx_InvalidSentence) (defBody sx_InvalidSentence) (defScope sx_InvalidSentence) .none kV doc pm an (.ref cda) ct cc) ⟨[u, w], []⟩ = pure [(("self" : Str), u), (("at" : Str), w)] := rfl

theorem bxk_InvalidSentence {cc cda : Addr} (kV doc pm : Value) (an : Option Addr) (ct u w : Value) : bindArgs (PySem.W.ksFn "__init__" "InvalidSentence.__init__" (defArgs sx_InvalidSentence) (defBody sx_InvalidSentence) (defScope sx_InvalidSentence) .none kV doc pm an (.ref cda) ct cc) ⟨[u], [("at", w)]⟩ = pure [(("self" : Str), u), (("at" : Str), w)] := rfl
theorem bx_InvalidItem {cc cda : Addr} (kV doc pm : Value) (an : Option Addr) (ct u w : Value) : bindArgs (PySem.W.ksFn "__init__" "InvalidItem.__init__" (defArgs sx_InvalidItem) (defBody sx_InvalidItem) (defScope sx_InvalidItem) .none kV doc pm an (.ref cda) ct cc) ⟨[u, w], []⟩ = pure [(("self" : Str), u), (("at" : Str), w)] := rfl

theorem bxk_InvalidItem {cc cda : Addr} (kV doc pm : Value) (an : Option Addr) (ct u w : Value) : bindArgs (PySem.W.ksFn "__init__" "InvalidItem.__init__" (defArgs sx_InvalidItem) (defBody sx_InvalidItem) (defScope sx_InvalidItem) .none kV doc pm an (.ref cda) ct cc) ⟨[u], [("at", w)]⟩ = pure [(("self" : Str), u), (("at" : Str), w)] := rfl
theorem bx_InvalidState {cc cda : Addr} (kV doc pm : Value) (an : Option Addr) (ct u w : Value) : bindArgs (PySem.W.ksFn "__init__" "InvalidState.__init__" (defArgs sx_InvalidState) (defBody sx_InvalidState) (defScope sx_InvalidState) .none kV doc pm an (.ref cda) ct cc) ⟨[u, w], []⟩ = pure [(("self" : Str), u), (("at" : Str), w)] := rfl

theorem bxk_InvalidState {cc cda : Addr} (kV doc pm : Value) (an : Option Addr) (ct u w : Value) : bindArgs (PySem.W.ksFn "__init__" "InvalidState.__init__" (defArgs sx_InvalidState) (defBody sx_InvalidState) (defScope sx_InvalidState) .none kV doc pm an (.ref cda) ct cc) ⟨[u], [("at", w)]⟩ = pure [(("self" : Str), u), (("at" : Str), w)] := rfl
theorem bx_InvalidStart {cc cda : Addr} (kV doc pm : Value) (an : Option Addr) (ct u w : Value) : bindArgs (PySem.W.ksFn "__init__" "InvalidStart.__init__" (defArgs sx_InvalidStart) (defBody sx_InvalidStart) (defScope sx_InvalidStart) .none kV doc pm an (.ref cda) ct cc) ⟨[u, w], []⟩ = pure [(("self" : Str), u), (("given" : Str), w)] := rfl

theorem bxk_InvalidStart {cc cda : Addr} (kV doc pm : Value) (an : Option Addr) (ct u w : Value) : bindArgs (PySem.W.ksFn "__init__" "InvalidStart.__init__" (defArgs sx_InvalidStart) (defBody sx_InvalidStart) (defScope sx_InvalidStart) .none kV doc pm an (.ref cda) ct cc) ⟨[u], [("given", w)]⟩ = pure [(("self" : Str), u), (("given" : Str), w)] := rfl
theorem bx_InvalidCount {cc cda : Addr} (kV doc pm : Value) (an : Option Addr) (ct u w : Value) : bindArgs (PySem.W.ksFn "__init__" "InvalidCount.__init__" (defArgs sx_InvalidCount) (defBody sx_InvalidCount) (defScope sx_InvalidCount) .none kV doc pm an (.ref cda) ct cc) ⟨[u, w], []⟩ = pure [(("self" : Str), u), (("given" : Str), w)] := rfl

theorem bxk_InvalidCount {cc cda : Addr} (kV doc pm : Value) (an : Option Addr) (ct u w : Value) : bindArgs (PySem.W.ksFn "__init__" "InvalidCount.__init__" (defArgs sx_InvalidCount) (defBody sx_InvalidCount) (defScope sx_InvalidCount) .none kV doc pm an (.ref cda) ct cc) ⟨[u], [("given", w)]⟩ = pure [(("self" : Str), u), (("given" : Str), w)] := rfl
theorem bx_InvalidSight {cc cda : Addr} (kV doc pm : Value) (an : Option Addr) (ct u w : Value) : bindArgs (PySem.W.ksFn "__init__" "InvalidSight.__init__" (defArgs sx_InvalidSight) (defBody sx_InvalidSight) (defScope sx_InvalidSight) .none kV doc pm an (.ref cda) ct cc) ⟨[u, w], []⟩ = pure [(("self" : Str), u), (("given" : Str), w)] := rfl

theorem bxk_InvalidSight {cc cda : Addr} (kV doc pm : Value) (an : Option Addr) (ct u w : Value) : bindArgs (PySem.W.ksFn "__init__" "InvalidSight.__init__" (defArgs sx_InvalidSight) (defBody sx_InvalidSight) (defScope sx_InvalidSight) .none kV doc pm an (.ref cda) ct cc) ⟨[u], [("given", w)]⟩ = pure [(("self" : Str), u), (("given" : Str), w)] := rfl
theorem bx_InvalidSeen {cc cda : Addr} (kV doc pm : Value) (an : Option Addr) (ct u w : Value) : bindArgs (PySem.W.ksFn "__init__" "InvalidSeen.__init__" (defArgs sx_InvalidSeen) (defBody sx_InvalidSeen) (defScope sx_InvalidSeen) .none kV doc pm an (.ref cda) ct cc) ⟨[u, w], []⟩ = pure [(("self" : Str), u), (("at" : Str), w)] := rfl

theorem bxk_InvalidSeen {cc cda : Addr} (kV doc pm : Value) (an : Option Addr) (ct u w : Value) : bindArgs (PySem.W.ksFn "__init__" "InvalidSeen.__init__" (defArgs sx_InvalidSeen) (defBody sx_InvalidSeen) (defScope sx_InvalidSeen) .none kV doc pm an (.ref cda) ct cc) ⟨[u], [("at", w)]⟩ = pure [(("self" : Str), u), (("at" : Str), w)] := rfl
theorem bx_InvalidRow {cc cda : Addr} (kV doc pm : Value) (an : Option Addr) (ct u w : Value) : bindArgs (PySem.W.ksFn "__init__" "InvalidRow.__init__" (defArgs sx_InvalidRow) (defBody sx_InvalidRow) (defScope sx_InvalidRow) .none kV doc pm an (.ref cda) ct cc) ⟨[u, w], []⟩ = pure [(("self" : Str), u), (("at" : Str), w)] := rfl

theorem bxk_InvalidRow {cc cda : Addr} (kV doc pm : Value) (an : Option Addr) (ct u w : Value) : bindArgs (PySem.W.ksFn "__init__" "InvalidRow.__init__" (defArgs sx_InvalidRow) (defBody sx_InvalidRow) (defScope sx_InvalidRow) .none kV doc pm an (.ref cda) ct cc) ⟨[u], [("at", w)]⟩ = pure [(("self" : Str), u), (("at" : Str), w)] := rfl
theorem bx_InvalidBell {cc cda : Addr} (kV doc pm : Value) (an : Option Addr) (ct u w : Value) : bindArgs (PySem.W.ksFn "__init__" "InvalidBell.__init__" (defArgs sx_InvalidBell) (defBody sx_InvalidBell) (defScope sx_InvalidBell) .none kV doc pm an (.ref cda) ct cc) ⟨[u, w], []⟩ = pure [(("self" : Str), u), (("at" : Str), w)] := rfl

theorem bxk_InvalidBell {cc cda : Addr} (kV doc pm : Value) (an : Option Addr) (ct u w : Value) : bindArgs (PySem.W.ksFn "__init__" "InvalidBell.__init__" (defArgs sx_InvalidBell) (defBody sx_InvalidBell) (defScope sx_InvalidBell) .none kV doc pm an (.ref cda) ct cc) ⟨[u], [("at", w)]⟩ = pure [(("self" : Str), u), (("at" : Str), w)] := rfl
theorem bx_InvalidName {cc cda : Addr} (kV doc pm : Value) (an : Option Addr) (ct u w : Value) : bindArgs (PySem.W.ksFn "__init__" "InvalidName.__init__" (defArgs sx_InvalidName) (defBody sx_InvalidName) (defScope sx_InvalidName) .none kV doc pm an (.ref cda) ct cc) ⟨[u, w], []⟩ = pure [(("self" : Str), u), (("name" : Str), w)] := rfl

theorem bxk_InvalidName {cc cda : Addr} (kV doc pm : Value) (an : Option Addr) (ct u w : Value) : bindArgs (PySem.W.ksFn "__init__" "InvalidName.__init__" (defArgs sx_InvalidName) (defBody sx_InvalidName) (defScope sx_InvalidName) .none kV doc pm an (.ref cda) ct cc) ⟨[u], [("name", w)]⟩ = pure [(("self" : Str), u), (("name" : Str), w)] := rfl
theorem bx_InvalidText {cc cda : Addr} (kV doc pm : Value) (an : Option Addr) (ct u w : Value) : bindArgs (PySem.W.ksFn "__init__" "InvalidText.__init__" (defArgs sx_InvalidText) (defBody sx_InvalidText) (defScope sx_InvalidText) .none kV doc pm an (.ref cda) ct cc) ⟨[u, w], []⟩ = pure [(("self" : Str), u), (("line" : Str), w)] := rfl

theorem bxk_InvalidText {cc cda : Addr} (kV doc pm : Value) (an : Option Addr) (ct u w : Value) : bindArgs (PySem.W.ksFn "__init__" "InvalidText.__init__" (defArgs sx_InvalidText) (defBody sx_InvalidText) (defScope sx_InvalidText) .none kV doc pm an (.ref cda) ct cc) ⟨[u], [("line", w)]⟩ = pure [(("self" : Str), u), (("line" : Str), w)] := rfl
theorem bx_TooMany {cc cda : Addr} (kV doc pm : Value) (an : Option Addr) (ct u w : Value) : bindArgs (PySem.W.ksFn "__init__" "TooMany.__init__" (defArgs sx_TooMany) (defBody sx_TooMany) (defScope sx_TooMany) .none kV doc pm an (.ref cda) ct cc) ⟨[u, w], []⟩ = pure [(("self" : Str), u), (("most" : Str), w)] := rfl

theorem bxk_TooMany {cc cda : Addr} (kV doc pm : Value) (an : Option Addr) (ct u w : Value) : bindArgs (PySem.W.ksFn "__init__" "TooMany.__init__" (defArgs sx_TooMany) (defBody sx_TooMany) (defScope sx_TooMany) .none kV doc pm an (.ref cda) ct cc) ⟨[u], [("most", w)]⟩ = pure [(("self" : Str), u), (("most" : Str), w)] := rfl
theorem bx_AlreadyIn {cc cda : Addr} (kV doc pm : Value) (an : Option Addr) (ct u w : Value) : bindArgs (PySem.W.ksFn "__init__" "AlreadyIn.__init__" (defArgs sx_AlreadyIn) (defBody sx_AlreadyIn) (defScope sx_AlreadyIn) .none kV doc pm an (.ref cda) ct cc) ⟨[u, w], []⟩ = pure [(("self" : Str), u), (("name" : Str), w)] := rfl

theorem bxk_AlreadyIn {cc cda : Addr} (kV doc pm : Value) (an : Option Addr) (ct u w : Value) : bindArgs (PySem.W.ksFn "__init__" "AlreadyIn.__init__" (defArgs sx_AlreadyIn) (defBody sx_AlreadyIn) (defScope sx_AlreadyIn) .none kV doc pm an (.ref cda) ct cc) ⟨[u], [("name", w)]⟩ = pure [(("self" : Str), u), (("name" : Str), w)] := rfl
theorem bx_NotIn {cc cda : Addr} (kV doc pm : Value) (an : Option Addr) (ct u w : Value) : bindArgs (PySem.W.ksFn "__init__" "NotIn.__init__" (defArgs sx_NotIn) (defBody sx_NotIn) (defScope sx_NotIn) .none kV doc pm an (.ref cda) ct cc) ⟨[u, w], []⟩ = pure [(("self" : Str), u), (("name" : Str), w)] := rfl

theorem bxk_NotIn {cc cda : Addr} (kV doc pm : Value) (an : Option Addr) (ct u w : Value) : bindArgs (PySem.W.ksFn "__init__" "NotIn.__init__" (defArgs sx_NotIn) (defBody sx_NotIn) (defScope sx_NotIn) .none kV doc pm an (.ref cda) ct cc) ⟨[u], [("name", w)]⟩ = pure [(("self" : Str), u), (("name" : Str), w)] := rfl
theorem bx_OtherBook {cc cda : Addr} (kV doc pm : Value) (an : Option Addr) (ct u : Value) : bindArgs (PySem.W.ksFn "__init__" "OtherBook.__init__" (defArgs sx_OtherBook) (defBody sx_OtherBook) (defScope sx_OtherBook) .none kV doc pm an (.ref cda) ct cc) ⟨[u], []⟩ = pure [(("self" : Str), u)] := rfl

theorem bx_UnknownSort {cc cda : Addr} (kV doc pm : Value) (an : Option Addr) (ct u w : Value) : bindArgs (PySem.W.ksFn "__init__" "UnknownSort.__init__" (defArgs sx_UnknownSort) (defBody sx_UnknownSort) (defScope sx_UnknownSort) .none kV doc pm an (.ref cda) ct cc) ⟨[u, w], []⟩ = pure [(("self" : Str), u), (("name" : Str), w)] := rfl

theorem bxk_UnknownSort {cc cda : Addr} (kV doc pm : Value) (an : Option Addr) (ct u w : Value) : bindArgs (PySem.W.ksFn "__init__" "UnknownSort.__init__" (defArgs sx_UnknownSort) (defBody sx_UnknownSort) (defScope sx_UnknownSort) .none kV doc pm an (.ref cda) ct cc) ⟨[u], [("name", w)]⟩ = pure [(("self" : Str), u), (("name" : Str), w)] := rfl
theorem bx_UnknownWord {cc cda : Addr} (kV doc pm : Value) (an : Option Addr) (ct u w : Value) : bindArgs (PySem.W.ksFn "__init__" "UnknownWord.__init__" (defArgs sx_UnknownWord) (defBody sx_UnknownWord) (defScope sx_UnknownWord) .none kV doc pm an (.ref cda) ct cc) ⟨[u, w], []⟩ = pure [(("self" : Str), u), (("name" : Str), w)] := rfl

theorem bxk_UnknownWord {cc cda : Addr} (kV doc pm : Value) (an : Option Addr) (ct u w : Value) : bindArgs (PySem.W.ksFn "__init__" "UnknownWord.__init__" (defArgs sx_UnknownWord) (defBody sx_UnknownWord) (defScope sx_UnknownWord) .none kV doc pm an (.ref cda) ct cc) ⟨[u], [("name", w)]⟩ = pure [(("self" : Str), u), (("name" : Str), w)] := rfl
theorem bx_UnknownState {cc cda : Addr} (kV doc pm : Value) (an : Option Addr) (ct u w : Value) : bindArgs (PySem.W.ksFn "__init__" "UnknownState.__init__" (defArgs sx_UnknownState) (defBody sx_UnknownState) (defScope sx_UnknownState) .none kV doc pm an (.ref cda) ct cc) ⟨[u, w], []⟩ = pure [(("self" : Str), u), (("state" : Str), w)] := rfl

theorem bxk_UnknownState {cc cda : Addr} (kV doc pm : Value) (an : Option Addr) (ct u w : Value) : bindArgs (PySem.W.ksFn "__init__" "UnknownState.__init__" (defArgs sx_UnknownState) (defBody sx_UnknownState) (defScope sx_UnknownState) .none kV doc pm an (.ref cda) ct cc) ⟨[u], [("state", w)]⟩ = pure [(("self" : Str), u), (("state" : Str), w)] := rfl
theorem bx_UnknownPlace {cc cda : Addr} (kV doc pm : Value) (an : Option Addr) (ct u w : Value) : bindArgs (PySem.W.ksFn "__init__" "UnknownPlace.__init__" (defArgs sx_UnknownPlace) (defBody sx_UnknownPlace) (defScope sx_UnknownPlace) .none kV doc pm an (.ref cda) ct cc) ⟨[u, w], []⟩ = pure [(("self" : Str), u), (("given" : Str), w)] := rfl

theorem bxk_UnknownPlace {cc cda : Addr} (kV doc pm : Value) (an : Option Addr) (ct u w : Value) : bindArgs (PySem.W.ksFn "__init__" "UnknownPlace.__init__" (defArgs sx_UnknownPlace) (defBody sx_UnknownPlace) (defScope sx_UnknownPlace) .none kV doc pm an (.ref cda) ct cc) ⟨[u], [("given", w)]⟩ = pure [(("self" : Str), u), (("given" : Str), w)] := rfl
theorem bx_UnknownPerson {cc cda : Addr} (kV doc pm : Value) (an : Option Addr) (ct u w : Value) : bindArgs (PySem.W.ksFn "__init__" "UnknownPerson.__init__" (defArgs sx_UnknownPerson) (defBody sx_UnknownPerson) (defScope sx_UnknownPerson) .none kV doc pm an (.ref cda) ct cc) ⟨[u, w], []⟩ = pure [(("self" : Str), u), (("name" : Str), w)] := rfl

theorem bxk_UnknownPerson {cc cda : Addr} (kV doc pm : Value) (an : Option Addr) (ct u w : Value) : bindArgs (PySem.W.ksFn "__init__" "UnknownPerson.__init__" (defArgs sx_UnknownPerson) (defBody sx_UnknownPerson) (defScope sx_UnknownPerson) .none kV doc pm an (.ref cda) ct cc) ⟨[u], [("name", w)]⟩ = pure [(("self" : Str), u), (("name" : Str), w)] := rfl
theorem bx_NothingLeft {cc cda : Addr} (kV doc pm : Value) (an : Option Addr) (ct u : Value) : bindArgs (PySem.W.ksFn "__init__" "NothingLeft.__init__" (defArgs sx_NothingLeft) (defBody sx_NothingLeft) (defScope sx_NothingLeft) .none kV doc pm an (.ref cda) ct cc) ⟨[u], []⟩ = pure [(("self" : Str), u)] := rfl

theorem bd_law_feed {K : PySem.W.Frag} {kV dc pm cd ct : Value} {an : Option Addr} : Binds K (PySem.W.fnOf "_law_feed" "_law_feed" (defArgs s_law_feed) (defBody s_law_feed) (defScope s_law_feed) .none kV dc pm an cd ct) ["_law_script"] [] := .all fun us hl => match us, hl with | [_], _ => rfl
theorem bd_law_pick {K : PySem.W.Frag} {kV dc pm cd ct : Value} {an : Option Addr} : Binds K (PySem.W.fnOf "_law_pick" "_law_pick" (defArgs s_law_pick) (defBody s_law_pick) (defScope s_law_pick) .none kV dc pm an cd ct) ["_law_feed_here", "_law_many"] [] := .all fun us hl => match us, hl with | [_, _], _ => rfl
theorem bd_law_of {K : PySem.W.Frag} {kV dc pm cd ct : Value} {an : Option Addr} : Binds K (PySem.W.fnOf "_law_of" "_law_of" (defArgs s_law_of) (defBody s_law_of) (defScope s_law_of) .none kV dc pm an cd ct) ["_law_feed_here", "_law_some"] [] := .all fun us hl => match us, hl with | [_, _], _ => rfl
theorem bd_law_mixed {K : PySem.W.Frag} {kV dc pm cd ct : Value} {an : Option Addr} : Binds K (PySem.W.fnOf "_law_mixed" "_law_mixed" (defArgs s_law_mixed) (defBody s_law_mixed) (defScope s_law_mixed) .none kV dc pm an cd ct) ["_law_feed_here", "_law_some"] [] := .all fun us hl => match us, hl with | [_, _], _ => rfl
theorem bd_law_names {K : PySem.W.Frag} {kV dc pm cd ct : Value} {an : Option Addr} : Binds K (PySem.W.fnOf "_law_names" "_law_names" (defArgs s_law_names) (defBody s_law_names) (defScope s_law_names) .none kV dc pm an cd ct) ["_law_feed_here", "_law_many"] [] := .all fun us hl => match us, hl with | [_, _], _ => rfl
theorem bd_law_places {K : PySem.W.Frag} {kV dc pm cd ct : Value} {an : Option Addr} : Binds K (PySem.W.fnOf "_law_places" "_law_places" (defArgs s_law_places) (defBody s_law_places) (defScope s_law_places) .none kV dc pm an cd ct) ["_law_number"] [] := .all fun us hl => match us, hl with | [_], _ => rfl
theorem bd_law_given {K : PySem.W.Frag} {kV dc pm cd ct : Value} {an : Option Addr} : Binds K (PySem.W.fnOf "_law_given" "_law_given" (defArgs s_law_given) (defBody s_law_given) (defScope s_law_given) .none kV dc pm an cd ct) ["_law_number"] [] := .all fun us hl => match us, hl with | [_], _ => rfl
theorem bd_law_named {K : PySem.W.Frag} {kV dc pm cd ct : Value} {an : Option Addr} : Binds K (PySem.W.fnOf "_law_named" "_law_named" (defArgs s_law_named) (defBody s_law_named) (defScope s_law_named) .none kV dc pm an cd ct) ["_law_label"] [] := .all fun us hl => match us, hl with | [_], _ => rfl
theorem bd_law_same {K : PySem.W.Frag} {kV dc pm cd ct : Value} {an : Option Addr} : Binds K (PySem.W.fnOf "_law_same" "_law_same" (defArgs s_law_same) (defBody s_law_same) (defScope s_law_same) .none kV dc pm an cd ct) ["_law_found", "_law_due"] [] := .all fun us hl => match us, hl with | [_, _], _ => rfl
theorem bd_law {K : PySem.W.Frag} {kV dc pm cd ct : Value} {an : Option Addr} : Binds K (PySem.W.fnOf "law" "law" (defArgs s_law) (defBody s_law) (defScope s_law) .none kV dc pm an cd ct) ["_law_script"] [] := .all fun us hl => match us, hl with | [_], _ => rfl
set_option maxHeartbeats 0 in
theorem all_mk {l : PySem.W.OpenLaw} {w : World} {K : PySem.W.Frag} {h : Heap} {mg : Str → Option Value} {fa f0 f1 f2 f3 f4 f5 f6 f7 f8 f9 c20 c21 c22 c23 c24 c25 c26 c27 c28 c29 c30 c31 c32 c33 c34 c35 c36 c37 c38 c39 c40 c41 c42 c43 c44 c45 xf20 xcd20 xcc20 xf21 xcd21 xcc21 xf22 xcd22 xcc22 xf23 xcd23 xcc23 xf24 xcd24 xcc24 xf25 xcd25 xcc25 xf26 xcd26 xcc26 xf27 xcd27 xcc27 xf28 xcd28 xcc28 xf29 xcd29 xcc29 xf30 xcd30 xcc30 xf31 xcd31 xcc31 xf32 xcd32 xcc32 xf33 xcd33 xcc33 xf34 xcd34 xcc34 xf35 xcd35 xcc35 xf36 xcd36 xcc36 xf37 xcd37 xcc37 xf38 xcd38 xcc38 xf39 xcd39 xcc39 xf40 xcd40 xcc40 xf41 xcd41 xcc41 xf42 xcd42 xcc42 xf43 xcd43 xcc43 xf44 xcd44 xcc44 xf45 xcd45 xcc45 : Addr} {od0 an0 od1 an1 od2 an2 od3 an3 od4 an4 od5 an5 od6 an6 od7 an7 od8 an8 od9 an9 xod20 xan20 xld20 xqb20 xod21 xan21 xld21 xqb21 xod22 xan22 xld22 xqb22 xod23 xan23 xld23 xqb23 xod24 xan24 xld24 xqb24 xod25 xan25 xld25 xqb25 xod26 xan26 xld26 xqb26 xod27 xan27 xld27 xqb27 xod28 xan28 xld28 xqb28 xod29 xan29 xld29 xqb29 xod30 xan30 xld30 xqb30 xod31 xan31 xld31 xqb31 xod32 xan32 xld32 xqb32 xod33 xan33 xld33 xqb33 xod34 xan34 xld34 xqb34 xod35 xan35 xld35 xqb35 xod36 xan36 xld36 xqb36 xod37 xan37 xld37 xqb37 xod38 xan38 xld38 xqb38 xod39 xan39 xld39 xqb39 xod40 xan40 xld40 xqb40 xod41 xan41 xld41 xqb41 xod42 xan42 xld42 xqb42 xod43 xan43 xld43 xqb43 xod44 xan44 xld44 xqb44 xod45 xan45 xld45 xqb45 : Option Addr} {sl0 sl1 sl2 sl3 sl4 sl5 sl6 sl7 sl8 sl9 xsl20 xls20 xqd20 xsl21 xls21 xqd21 xsl22 xls22 xqd22 xsl23 xls23 xqd23 xsl24 xls24 xqd24 xsl25 xls25 xqd25 xsl26 xls26 xqd26 xsl27 xls27 xqd27 xsl28 xls28 xqd28 xsl29 xls29 xqd29 xsl30 xls30 xqd30 xsl31 xls31 xqd31 xsl32 xls32 xqd32 xsl33 xls33 xqd33 xsl34 xls34 xqd34 xsl35 xls35 xqd35 xsl36 xls36 xqd36 xsl37 xls37 xqd37 xsl38 xls38 xqd38 xsl39 xls39 xqd39 xsl40 xls40 xqd40 xsl41 xls41 xqd41 xsl42 xls42 xqd42 xsl43 xls43 xqd43 xsl44 xls44 xqd44 xsl45 xls45 xqd45 : Array (Option Value)} {oc0 kV0 dc0 pm0 cd0 ct0 oc1 kV1 dc1 pm1 cd1 ct1 oc2 kV2 dc2 pm2 cd2 ct2 oc3 kV3 dc3 pm3 cd3 ct3 oc4 kV4 dc4 pm4 cd4 ct4 oc5 kV5 dc5 pm5 cd5 ct5 oc6 kV6 dc6 pm6 cd6 ct6 oc7 kV7 dc7 pm7 cd7 ct7 oc8 kV8 dc8 pm8 cd8 ct8 oc9 kV9 dc9 pm9 cd9 ct9 xoc20 xkV20 xdc20 xpm20 xct20 xcl20 xqa20 xoc21 xkV21 xdc21 xpm21 xct21 xcl21 xqa21 xoc22 xkV22 xdc22 xpm22 xct22 xcl22 xqa22 xoc23 xkV23 xdc23 xpm23 xct23 xcl23 xqa23 xoc24 xkV24 xdc24 xpm24 xct24 xcl24 xqa24 xoc25 xkV25 xdc25 xpm25 xct25 xcl25 xqa25 xoc26 xkV26 xdc26 xpm26 xct26 xcl26 xqa26 xoc27 xkV27 xdc27 xpm27 xct27 xcl27 xqa27 xoc28 xkV28 xdc28 xpm28 xct28 xcl28 xqa28 xoc29 xkV29 xdc29 xpm29 xct29 xcl29 xqa29 xoc30 xkV30 xdc30 xpm30 xct30 xcl30 xqa30 xoc31 xkV31 xdc31 xpm31 xct31 xcl31 xqa31 xoc32 xkV32 xdc32 xpm32 xct32 xcl32 xqa32 xoc33 xkV33 xdc33 xpm33 xct33 xcl33 xqa33 xoc34 xkV34 xdc34 xpm34 xct34 xcl34 xqa34 xoc35 xkV35 xdc35 xpm35 xct35 xcl35 xqa35 xoc36 xkV36 xdc36 xpm36 xct36 xcl36 xqa36 xoc37 xkV37 xdc37 xpm37 xct37 xcl37 xqa37 xoc38 xkV38 xdc38 xpm38 xct38 xcl38 xqa38 xoc39 xkV39 xdc39 xpm39 xct39 xcl39 xqa39 xoc40 xkV40 xdc40 xpm40 xct40 xcl40 xqa40 xoc41 xkV41 xdc41 xpm41 xct41 xcl41 xqa41 xoc42 xkV42 xdc42 xpm42 xct42 xcl42 xqa42 xoc43 xkV43 xdc43 xpm43 xct43 xcl43 xqa43 xoc44 xkV44 xdc44 xpm44 xct44 xcl44 xqa44 xoc45 xkV45 xdc45 xpm45 xct45 xcl45 xqa45 : Value} {xqc20 : Array Value} {xqe20 : Str} {xqc21 : Array Value} {xqe21 : Str} {xqc22 : Array Value} {xqe22 : Str} {xqc23 : Array Value} {xqe23 : Str} {xqc24 : Array Value} {xqe24 : Str} {xqc25 : Array Value} {xqe25 : Str} {xqc26 : Array Value} {xqe26 : Str} {xqc27 : Array Value} {xqe27 : Str} {xqc28 : Array Value} {xqe28 : Str} {xqc29 : Array Value} {xqe29 : Str} {xqc30 : Array Value} {xqe30 : Str} {xqc31 : Array Value} {xqe31 : Str} {xqc32 : Array Value} {xqe32 : Str} {xqc33 : Array Value} {xqe33 : Str} {xqc34 : Array Value} {xqe34 : Str} {xqc35 : Array Value} {xqe35 : Str} {xqc36 : Array Value} {xqe36 : Str} {xqc37 : Array Value} {xqe37 : Str} {xqc38 : Array Value} {xqe38 : Str} {xqc39 : Array Value} {xqe39 : Str} {xqc40 : Array Value} {xqe40 : Str} {xqc41 : Array Value} {xqe41 : Str} {xqc42 : Array Value} {xqe42 : Str} {xqc43 : Array Value} {xqe43 : Str} {xqc44 : Array Value} {xqe44 : Str} {xqc45 : Array Value} {xqe45 : Str} {xqf20 xqf21 xqf22 xqf23 xqf24 xqf25 xqf26 xqf27 xqf28 xqf29 xqf30 xqf31 xqf32 xqf33 xqf34 xqf35 xqf36 xqf37 xqf38 xqf39 xqf40 xqf41 xqf42 xqf43 xqf44 xqf45 : Tok} (X : K.In h) (G : h.Ns mainGlobals mg) (hfa : mg "law" = some (.ref fa))
    (a0 : PySem.W.nsIn K mainGlobals "_law_feed" = some (some (.ref f0)))
    (l0 : K.lookup f0 = some ⟨oc0, od0, .func (PySem.W.fnOf "_law_feed" "_law_feed" (defArgs s_law_feed) (defBody s_law_feed) (defScope s_law_feed) .none kV0 dc0 pm0 an0 cd0 ct0), sl0⟩)
    (c0_ : PySem.W.codeIn K cd0 "_law_feed" = true)
    (k0 : PySem.W.keepIn K (.ref f0) = true)
    (a1 : PySem.W.nsIn K mainGlobals "_law_pick" = some (some (.ref f1)))
    (l1 : K.lookup f1 = some ⟨oc1, od1, .func (PySem.W.fnOf "_law_pick" "_law_pick" (defArgs s_law_pick) (defBody s_law_pick) (defScope s_law_pick) .none kV1 dc1 pm1 an1 cd1 ct1), sl1⟩)
    (c1_ : PySem.W.codeIn K cd1 "_law_pick" = true)
    (k1 : PySem.W.keepIn K (.ref f1) = true)
    (a2 : PySem.W.nsIn K mainGlobals "_law_of" = some (some (.ref f2)))
    (l2 : K.lookup f2 = some ⟨oc2, od2, .func (PySem.W.fnOf "_law_of" "_law_of" (defArgs s_law_of) (defBody s_law_of) (defScope s_law_of) .none kV2 dc2 pm2 an2 cd2 ct2), sl2⟩)
    (c2_ : PySem.W.codeIn K cd2 "_law_of" = true)
    (k2 : PySem.W.keepIn K (.ref f2) = true)
    (a3 : PySem.W.nsIn K mainGlobals "_law_mixed" = some (some (.ref f3)))
    (l3 : K.lookup f3 = some ⟨oc3, od3, .func (PySem.W.fnOf "_law_mixed" "_law_mixed" (defArgs s_law_mixed) (defBody s_law_mixed) (defScope s_law_mixed) .none kV3 dc3 pm3 an3 cd3 ct3), sl3⟩)
    (c3_ : PySem.W.codeIn K cd3 "_law_mixed" = true)
    (k3 : PySem.W.keepIn K (.ref f3) = true)
    (a4 : PySem.W.nsIn K mainGlobals "_law_names" = some (some (.ref f4)))
    (l4 : K.lookup f4 = some ⟨oc4, od4, .func (PySem.W.fnOf "_law_names" "_law_names" (defArgs s_law_names) (defBody s_law_names) (defScope s_law_names) .none kV4 dc4 pm4 an4 cd4 ct4), sl4⟩)
    (c4_ : PySem.W.codeIn K cd4 "_law_names" = true)
    (k4 : PySem.W.keepIn K (.ref f4) = true)
    (a5 : PySem.W.nsIn K mainGlobals "_law_places" = some (some (.ref f5)))
    (l5 : K.lookup f5 = some ⟨oc5, od5, .func (PySem.W.fnOf "_law_places" "_law_places" (defArgs s_law_places) (defBody s_law_places) (defScope s_law_places) .none kV5 dc5 pm5 an5 cd5 ct5), sl5⟩)
    (c5_ : PySem.W.codeIn K cd5 "_law_places" = true)
    (k5 : PySem.W.keepIn K (.ref f5) = true)
    (a6 : PySem.W.nsIn K mainGlobals "_law_given" = some (some (.ref f6)))
    (l6 : K.lookup f6 = some ⟨oc6, od6, .func (PySem.W.fnOf "_law_given" "_law_given" (defArgs s_law_given) (defBody s_law_given) (defScope s_law_given) .none kV6 dc6 pm6 an6 cd6 ct6), sl6⟩)
    (c6_ : PySem.W.codeIn K cd6 "_law_given" = true)
    (k6 : PySem.W.keepIn K (.ref f6) = true)
    (a7 : PySem.W.nsIn K mainGlobals "_law_named" = some (some (.ref f7)))
    (l7 : K.lookup f7 = some ⟨oc7, od7, .func (PySem.W.fnOf "_law_named" "_law_named" (defArgs s_law_named) (defBody s_law_named) (defScope s_law_named) .none kV7 dc7 pm7 an7 cd7 ct7), sl7⟩)
    (c7_ : PySem.W.codeIn K cd7 "_law_named" = true)
    (k7 : PySem.W.keepIn K (.ref f7) = true)
    (a8 : PySem.W.nsIn K mainGlobals "_law_same" = some (some (.ref f8)))
    (l8 : K.lookup f8 = some ⟨oc8, od8, .func (PySem.W.fnOf "_law_same" "_law_same" (defArgs s_law_same) (defBody s_law_same) (defScope s_law_same) .none kV8 dc8 pm8 an8 cd8 ct8), sl8⟩)
    (c8_ : PySem.W.codeIn K cd8 "_law_same" = true)
    (k8 : PySem.W.keepIn K (.ref f8) = true)
    (a9 : PySem.W.nsIn K mainGlobals "law" = some (some (.ref f9)))
    (l9 : K.lookup f9 = some ⟨oc9, od9, .func (PySem.W.fnOf "law" "law" (defArgs s_law) (defBody s_law) (defScope s_law) .none kV9 dc9 pm9 an9 cd9 ct9), sl9⟩)
    (c9_ : PySem.W.codeIn K cd9 "law" = true)
    (k9 : PySem.W.keepIn K (.ref f9) = true)
    (z_all : PySem.W.nsIn K mainGlobals "all" = some none)
    (z_bool : PySem.W.nsIn K mainGlobals "bool" = some none)
    (z_int : PySem.W.nsIn K mainGlobals "int" = some none)
    (z_isinstance : PySem.W.nsIn K mainGlobals "isinstance" = some none)
    (z_len : PySem.W.nsIn K mainGlobals "len" = some none)
    (z_list : PySem.W.nsIn K mainGlobals "list" = some none)
    (z_range : PySem.W.nsIn K mainGlobals "range" = some none)
    (z_str : PySem.W.nsIn K mainGlobals "str" = some none)
    (z_tuple : PySem.W.nsIn K mainGlobals "tuple" = some none)
    (z_zip : PySem.W.nsIn K mainGlobals "zip" = some none)
    (C20 : PySem.W.nsIn K mainGlobals "WrongCount" = some (some (.ref c20)))
    (C21 : PySem.W.nsIn K mainGlobals "InvalidSort" = some (some (.ref c21)))
    (C22 : PySem.W.nsIn K mainGlobals "InvalidWord" = some (some (.ref c22)))
    (C23 : PySem.W.nsIn K mainGlobals "InvalidMemory" = some (some (.ref c23)))
    (C24 : PySem.W.nsIn K mainGlobals "InvalidThing" = some (some (.ref c24)))
    (C25 : PySem.W.nsIn K mainGlobals "InvalidSentence" = some (some (.ref c25)))
    (C26 : PySem.W.nsIn K mainGlobals "InvalidItem" = some (some (.ref c26)))
    (C27 : PySem.W.nsIn K mainGlobals "InvalidState" = some (some (.ref c27)))
    (C28 : PySem.W.nsIn K mainGlobals "InvalidStart" = some (some (.ref c28)))
    (C29 : PySem.W.nsIn K mainGlobals "InvalidCount" = some (some (.ref c29)))
    (C30 : PySem.W.nsIn K mainGlobals "InvalidSight" = some (some (.ref c30)))
    (C31 : PySem.W.nsIn K mainGlobals "InvalidSeen" = some (some (.ref c31)))
    (C32 : PySem.W.nsIn K mainGlobals "InvalidRow" = some (some (.ref c32)))
    (C33 : PySem.W.nsIn K mainGlobals "InvalidBell" = some (some (.ref c33)))
    (C34 : PySem.W.nsIn K mainGlobals "InvalidName" = some (some (.ref c34)))
    (C35 : PySem.W.nsIn K mainGlobals "InvalidText" = some (some (.ref c35)))
    (C36 : PySem.W.nsIn K mainGlobals "TooMany" = some (some (.ref c36)))
    (C37 : PySem.W.nsIn K mainGlobals "AlreadyIn" = some (some (.ref c37)))
    (C38 : PySem.W.nsIn K mainGlobals "NotIn" = some (some (.ref c38)))
    (C39 : PySem.W.nsIn K mainGlobals "OtherBook" = some (some (.ref c39)))
    (C40 : PySem.W.nsIn K mainGlobals "UnknownSort" = some (some (.ref c40)))
    (C41 : PySem.W.nsIn K mainGlobals "UnknownWord" = some (some (.ref c41)))
    (C42 : PySem.W.nsIn K mainGlobals "UnknownState" = some (some (.ref c42)))
    (C43 : PySem.W.nsIn K mainGlobals "UnknownPlace" = some (some (.ref c43)))
    (C44 : PySem.W.nsIn K mainGlobals "UnknownPerson" = some (some (.ref c44)))
    (C45 : PySem.W.nsIn K mainGlobals "NothingLeft" = some (some (.ref c45)))
    (xany : PySem.W.nsIn K cStatics "thirdparty.any" = some none)
    (xsup : PySem.W.nsIn K mainGlobals "super" = some none)
    (xtop : (l.prog.main.scope.names.lookup ("super" : Str)).isSome = false)
    (xa20 : PySem.W.findIn K (.ref c20) "__init__" = some (some (.ref xf20)))
    (xl20 : K.lookup xf20 = some ⟨xoc20, xod20, .func (PySem.W.ksFn "__init__" "WrongCount.__init__" (defArgs sx_WrongCount) (defBody sx_WrongCount) (defScope sx_WrongCount) .none xkV20 xdc20 xpm20 xan20 (.ref xcd20) xct20 xcc20), xsl20⟩)
    (xb20 : PySem.W.excInitIn K c20 [.type "ValueError", .type "Exception", .type "BaseException", .type "object"] "ValueError.__new__" = true)
    (xc20 : PySem.W.excOver K c20 [.type "ValueError", .type "Exception", .type "BaseException", .type "object"] = true)
    (xd20 : PySem.W.isFn K (.ref xf20) = true)
    (xe20 : PySem.W.ks_superIn K c20 c20 "__init__" = some (some (.builtin "ValueError.__init__")))
    (xg20 : PySem.W.subIn K (.ref c20) (.type "ValueError") = some true)
    (xh20 : PySem.W.mroIn K c20 (.ref c20) = some true)
    (xi20 : K.lookup xcc20 = some ⟨xcl20, xld20, .cell (some (.ref c20)), xls20⟩)
    (xj20 : PySem.W.findIn K (.ref c20) "__setattr__" = some (some (.builtin "object.__setattr__")))
    (xk20 : PySem.W.hasDictIn K c20 = true)
    (xm20 : PySem.W.keepIn K (.ref c20) = true)
    (xn20 : PySem.W.subIn K (.ref c20) (.type "BaseException") = some true)
    (xo20 : PySem.W.typeIn K (.ref c20) = some (.type "type"))
    (xp20 : PySem.W.codeIn K (.ref xcd20) "WrongCount.__init__" = true)
    (xq20 : K.lookup xcd20 = some ⟨xqa20, xqb20, .fields xqc20, xqd20⟩)
    (xr20 : xqc20[2]? = some (.str xqe20 xqf20))
    (xs20 : ((l.prog.main.file : Str) == xqe20) = true)
    (xt20_what : PySem.W.takerIn K c20 "what" = some none)
    (xt20_code : PySem.W.takerIn K c20 "code" = some none)
    (xa21 : PySem.W.findIn K (.ref c21) "__init__" = some (some (.ref xf21)))
    (xl21 : K.lookup xf21 = some ⟨xoc21, xod21, .func (PySem.W.ksFn "__init__" "InvalidSort.__init__" (defArgs sx_InvalidSort) (defBody sx_InvalidSort) (defScope sx_InvalidSort) .none xkV21 xdc21 xpm21 xan21 (.ref xcd21) xct21 xcc21), xsl21⟩)
    (xb21 : PySem.W.excInitIn K c21 [.type "ValueError", .type "Exception", .type "BaseException", .type "object"] "ValueError.__new__" = true)
    (xc21 : PySem.W.excOver K c21 [.type "ValueError", .type "Exception", .type "BaseException", .type "object"] = true)
    (xd21 : PySem.W.isFn K (.ref xf21) = true)
    (xe21 : PySem.W.ks_superIn K c21 c21 "__init__" = some (some (.builtin "ValueError.__init__")))
    (xg21 : PySem.W.subIn K (.ref c21) (.type "ValueError") = some true)
    (xh21 : PySem.W.mroIn K c21 (.ref c21) = some true)
    (xi21 : K.lookup xcc21 = some ⟨xcl21, xld21, .cell (some (.ref c21)), xls21⟩)
    (xj21 : PySem.W.findIn K (.ref c21) "__setattr__" = some (some (.builtin "object.__setattr__")))
    (xk21 : PySem.W.hasDictIn K c21 = true)
    (xm21 : PySem.W.keepIn K (.ref c21) = true)
    (xn21 : PySem.W.subIn K (.ref c21) (.type "BaseException") = some true)
    (xo21 : PySem.W.typeIn K (.ref c21) = some (.type "type"))
    (xp21 : PySem.W.codeIn K (.ref xcd21) "InvalidSort.__init__" = true)
    (xq21 : K.lookup xcd21 = some ⟨xqa21, xqb21, .fields xqc21, xqd21⟩)
    (xr21 : xqc21[2]? = some (.str xqe21 xqf21))
    (xs21 : ((l.prog.main.file : Str) == xqe21) = true)
    (xt21_at : PySem.W.takerIn K c21 "at" = some none)
    (xt21_code : PySem.W.takerIn K c21 "code" = some none)
    (xa22 : PySem.W.findIn K (.ref c22) "__init__" = some (some (.ref xf22)))
    (xl22 : K.lookup xf22 = some ⟨xoc22, xod22, .func (PySem.W.ksFn "__init__" "InvalidWord.__init__" (defArgs sx_InvalidWord) (defBody sx_InvalidWord) (defScope sx_InvalidWord) .none xkV22 xdc22 xpm22 xan22 (.ref xcd22) xct22 xcc22), xsl22⟩)
    (xb22 : PySem.W.excInitIn K c22 [.type "ValueError", .type "Exception", .type "BaseException", .type "object"] "ValueError.__new__" = true)
    (xc22 : PySem.W.excOver K c22 [.type "ValueError", .type "Exception", .type "BaseException", .type "object"] = true)
    (xd22 : PySem.W.isFn K (.ref xf22) = true)
    (xe22 : PySem.W.ks_superIn K c22 c22 "__init__" = some (some (.builtin "ValueError.__init__")))
    (xg22 : PySem.W.subIn K (.ref c22) (.type "ValueError") = some true)
    (xh22 : PySem.W.mroIn K c22 (.ref c22) = some true)
    (xi22 : K.lookup xcc22 = some ⟨xcl22, xld22, .cell (some (.ref c22)), xls22⟩)
    (xj22 : PySem.W.findIn K (.ref c22) "__setattr__" = some (some (.builtin "object.__setattr__")))
    (xk22 : PySem.W.hasDictIn K c22 = true)
    (xm22 : PySem.W.keepIn K (.ref c22) = true)
    (xn22 : PySem.W.subIn K (.ref c22) (.type "BaseException") = some true)
    (xo22 : PySem.W.typeIn K (.ref c22) = some (.type "type"))
    (xp22 : PySem.W.codeIn K (.ref xcd22) "InvalidWord.__init__" = true)
    (xq22 : K.lookup xcd22 = some ⟨xqa22, xqb22, .fields xqc22, xqd22⟩)
    (xr22 : xqc22[2]? = some (.str xqe22 xqf22))
    (xs22 : ((l.prog.main.file : Str) == xqe22) = true)
    (xt22_at : PySem.W.takerIn K c22 "at" = some none)
    (xt22_code : PySem.W.takerIn K c22 "code" = some none)
    (xa23 : PySem.W.findIn K (.ref c23) "__init__" = some (some (.ref xf23)))
    (xl23 : K.lookup xf23 = some ⟨xoc23, xod23, .func (PySem.W.ksFn "__init__" "InvalidMemory.__init__" (defArgs sx_InvalidMemory) (defBody sx_InvalidMemory) (defScope sx_InvalidMemory) .none xkV23 xdc23 xpm23 xan23 (.ref xcd23) xct23 xcc23), xsl23⟩)
    (xb23 : PySem.W.excInitIn K c23 [.type "ValueError", .type "Exception", .type "BaseException", .type "object"] "ValueError.__new__" = true)
    (xc23 : PySem.W.excOver K c23 [.type "ValueError", .type "Exception", .type "BaseException", .type "object"] = true)
    (xd23 : PySem.W.isFn K (.ref xf23) = true)
    (xe23 : PySem.W.ks_superIn K c23 c23 "__init__" = some (some (.builtin "ValueError.__init__")))
    (xg23 : PySem.W.subIn K (.ref c23) (.type "ValueError") = some true)
    (xh23 : PySem.W.mroIn K c23 (.ref c23) = some true)
    (xi23 : K.lookup xcc23 = some ⟨xcl23, xld23, .cell (some (.ref c23)), xls23⟩)
    (xj23 : PySem.W.findIn K (.ref c23) "__setattr__" = some (some (.builtin "object.__setattr__")))
    (xk23 : PySem.W.hasDictIn K c23 = true)
    (xm23 : PySem.W.keepIn K (.ref c23) = true)
    (xn23 : PySem.W.subIn K (.ref c23) (.type "BaseException") = some true)
    (xo23 : PySem.W.typeIn K (.ref c23) = some (.type "type"))
    (xp23 : PySem.W.codeIn K (.ref xcd23) "InvalidMemory.__init__" = true)
    (xq23 : K.lookup xcd23 = some ⟨xqa23, xqb23, .fields xqc23, xqd23⟩)
    (xr23 : xqc23[2]? = some (.str xqe23 xqf23))
    (xs23 : ((l.prog.main.file : Str) == xqe23) = true)
    (xt23_given : PySem.W.takerIn K c23 "given" = some none)
    (xt23_code : PySem.W.takerIn K c23 "code" = some none)
    (xa24 : PySem.W.findIn K (.ref c24) "__init__" = some (some (.ref xf24)))
    (xl24 : K.lookup xf24 = some ⟨xoc24, xod24, .func (PySem.W.ksFn "__init__" "InvalidThing.__init__" (defArgs sx_InvalidThing) (defBody sx_InvalidThing) (defScope sx_InvalidThing) .none xkV24 xdc24 xpm24 xan24 (.ref xcd24) xct24 xcc24), xsl24⟩)
    (xb24 : PySem.W.excInitIn K c24 [.type "ValueError", .type "Exception", .type "BaseException", .type "object"] "ValueError.__new__" = true)
    (xc24 : PySem.W.excOver K c24 [.type "ValueError", .type "Exception", .type "BaseException", .type "object"] = true)
    (xd24 : PySem.W.isFn K (.ref xf24) = true)
    (xe24 : PySem.W.ks_superIn K c24 c24 "__init__" = some (some (.builtin "ValueError.__init__")))
    (xg24 : PySem.W.subIn K (.ref c24) (.type "ValueError") = some true)
    (xh24 : PySem.W.mroIn K c24 (.ref c24) = some true)
    (xi24 : K.lookup xcc24 = some ⟨xcl24, xld24, .cell (some (.ref c24)), xls24⟩)
    (xj24 : PySem.W.findIn K (.ref c24) "__setattr__" = some (some (.builtin "object.__setattr__")))
    (xk24 : PySem.W.hasDictIn K c24 = true)
    (xm24 : PySem.W.keepIn K (.ref c24) = true)
    (xn24 : PySem.W.subIn K (.ref c24) (.type "BaseException") = some true)
    (xo24 : PySem.W.typeIn K (.ref c24) = some (.type "type"))
    (xp24 : PySem.W.codeIn K (.ref xcd24) "InvalidThing.__init__" = true)
    (xq24 : K.lookup xcd24 = some ⟨xqa24, xqb24, .fields xqc24, xqd24⟩)
    (xr24 : xqc24[2]? = some (.str xqe24 xqf24))
    (xs24 : ((l.prog.main.file : Str) == xqe24) = true)
    (xt24_at : PySem.W.takerIn K c24 "at" = some none)
    (xt24_code : PySem.W.takerIn K c24 "code" = some none)
    (xa25 : PySem.W.findIn K (.ref c25) "__init__" = some (some (.ref xf25)))
    (xl25 : K.lookup xf25 = some ⟨xoc25, xod25, .func (PySem.W.ksFn "__init__" "InvalidSentence.__init__" (defArgs sx_InvalidSentence) (defBody sx_InvalidSentence) (defScope sx_InvalidSentence) .none xkV25 xdc25 xpm25 xan25 (.ref xcd25) xct25 xcc25), xsl25⟩)
    (xb25 : PySem.W.excInitIn K c25 [.type "ValueError", .type "Exception", .type "BaseException", .type "object"] "ValueError.__new__" = true)
    (xc25 : PySem.W.excOver K c25 [.type "ValueError", .type "Exception", .type "BaseException", .type "object"] = true)
    (xd25 : PySem.W.isFn K (.ref xf25) = true)
    (xe25 : PySem.W.ks_superIn K c25 c25 "__init__" = some (some (.builtin "ValueError.__init__")))
    (xg25 : PySem.W.subIn K (.ref c25) (.type "ValueError") = some true)
    (xh25 : PySem.W.mroIn K c25 (.ref c25) = some true)
    (xi25 : K.lookup xcc25 = some ⟨xcl25, xld25, .cell (some (.ref c25)), xls25⟩)
    (xj25 : PySem.W.findIn K (.ref c25) "__setattr__" = some (some (.builtin "object.__setattr__")))
    (xk25 : PySem.W.hasDictIn K c25 = true)
    (xm25 : PySem.W.keepIn K (.ref c25) = true)
    (xn25 : PySem.W.subIn K (.ref c25) (.type "BaseException") = some true)
    (xo25 : PySem.W.typeIn K (.ref c25) = some (.type "type"))
    (xp25 : PySem.W.codeIn K (.ref xcd25) "InvalidSentence.__init__" = true)
    (xq25 : K.lookup xcd25 = some ⟨xqa25, xqb25, .fields xqc25, xqd25⟩)
    (xr25 : xqc25[2]? = some (.str xqe25 xqf25))
    (xs25 : ((l.prog.main.file : Str) == xqe25) = true)
    (xt25_at : PySem.W.takerIn K c25 "at" = some none)
    (xt25_code : PySem.W.takerIn K c25 "code" = some none)
    (xa26 : PySem.W.findIn K (.ref c26) "__init__" = some (some (.ref xf26)))
    (xl26 : K.lookup xf26 = some ⟨xoc26, xod26, .func (PySem.W.ksFn "__init__" "InvalidItem.__init__" (defArgs sx_InvalidItem) (defBody sx_InvalidItem) (defScope sx_InvalidItem) .none xkV26 xdc26 xpm26 xan26 (.ref xcd26) xct26 xcc26), xsl26⟩)
    (xb26 : PySem.W.excInitIn K c26 [.type "ValueError", .type "Exception", .type "BaseException", .type "object"] "ValueError.__new__" = true)
    (xc26 : PySem.W.excOver K c26 [.type "ValueError", .type "Exception", .type "BaseException", .type "object"] = true)
    (xd26 : PySem.W.isFn K (.ref xf26) = true)
    (xe26 : PySem.W.ks_superIn K c26 c26 "__init__" = some (some (.builtin "ValueError.__init__")))
    (xg26 : PySem.W.subIn K (.ref c26) (.type "ValueError") = some true)
    (xh26 : PySem.W.mroIn K c26 (.ref c26) = some true)
    (xi26 : K.lookup xcc26 = some ⟨xcl26, xld26, .cell (some (.ref c26)), xls26⟩)
    (xj26 : PySem.W.findIn K (.ref c26) "__setattr__" = some (some (.builtin "object.__setattr__")))
    (xk26 : PySem.W.hasDictIn K c26 = true)
    (xm26 : PySem.W.keepIn K (.ref c26) = true)
    (xn26 : PySem.W.subIn K (.ref c26) (.type "BaseException") = some true)
    (xo26 : PySem.W.typeIn K (.ref c26) = some (.type "type"))
    (xp26 : PySem.W.codeIn K (.ref xcd26) "InvalidItem.__init__" = true)
    (xq26 : K.lookup xcd26 = some ⟨xqa26, xqb26, .fields xqc26, xqd26⟩)
    (xr26 : xqc26[2]? = some (.str xqe26 xqf26))
    (xs26 : ((l.prog.main.file : Str) == xqe26) = true)
    (xt26_at : PySem.W.takerIn K c26 "at" = some none)
    (xt26_code : PySem.W.takerIn K c26 "code" = some none)
    (xa27 : PySem.W.findIn K (.ref c27) "__init__" = some (some (.ref xf27)))
    (xl27 : K.lookup xf27 = some ⟨xoc27, xod27, .func (PySem.W.ksFn "__init__" "InvalidState.__init__" (defArgs sx_InvalidState) (defBody sx_InvalidState) (defScope sx_InvalidState) .none xkV27 xdc27 xpm27 xan27 (.ref xcd27) xct27 xcc27), xsl27⟩)
    (xb27 : PySem.W.excInitIn K c27 [.type "ValueError", .type "Exception", .type "BaseException", .type "object"] "ValueError.__new__" = true)
    (xc27 : PySem.W.excOver K c27 [.type "ValueError", .type "Exception", .type "BaseException", .type "object"] = true)
    (xd27 : PySem.W.isFn K (.ref xf27) = true)
    (xe27 : PySem.W.ks_superIn K c27 c27 "__init__" = some (some (.builtin "ValueError.__init__")))
    (xg27 : PySem.W.subIn K (.ref c27) (.type "ValueError") = some true)
    (xh27 : PySem.W.mroIn K c27 (.ref c27) = some true)
    (xi27 : K.lookup xcc27 = some ⟨xcl27, xld27, .cell (some (.ref c27)), xls27⟩)
    (xj27 : PySem.W.findIn K (.ref c27) "__setattr__" = some (some (.builtin "object.__setattr__")))
    (xk27 : PySem.W.hasDictIn K c27 = true)
    (xm27 : PySem.W.keepIn K (.ref c27) = true)
    (xn27 : PySem.W.subIn K (.ref c27) (.type "BaseException") = some true)
    (xo27 : PySem.W.typeIn K (.ref c27) = some (.type "type"))
    (xp27 : PySem.W.codeIn K (.ref xcd27) "InvalidState.__init__" = true)
    (xq27 : K.lookup xcd27 = some ⟨xqa27, xqb27, .fields xqc27, xqd27⟩)
    (xr27 : xqc27[2]? = some (.str xqe27 xqf27))
    (xs27 : ((l.prog.main.file : Str) == xqe27) = true)
    (xt27_at : PySem.W.takerIn K c27 "at" = some none)
    (xt27_code : PySem.W.takerIn K c27 "code" = some none)
    (xa28 : PySem.W.findIn K (.ref c28) "__init__" = some (some (.ref xf28)))
    (xl28 : K.lookup xf28 = some ⟨xoc28, xod28, .func (PySem.W.ksFn "__init__" "InvalidStart.__init__" (defArgs sx_InvalidStart) (defBody sx_InvalidStart) (defScope sx_InvalidStart) .none xkV28 xdc28 xpm28 xan28 (.ref xcd28) xct28 xcc28), xsl28⟩)
    (xb28 : PySem.W.excInitIn K c28 [.type "ValueError", .type "Exception", .type "BaseException", .type "object"] "ValueError.__new__" = true)
    (xc28 : PySem.W.excOver K c28 [.type "ValueError", .type "Exception", .type "BaseException", .type "object"] = true)
    (xd28 : PySem.W.isFn K (.ref xf28) = true)
    (xe28 : PySem.W.ks_superIn K c28 c28 "__init__" = some (some (.builtin "ValueError.__init__")))
    (xg28 : PySem.W.subIn K (.ref c28) (.type "ValueError") = some true)
    (xh28 : PySem.W.mroIn K c28 (.ref c28) = some true)
    (xi28 : K.lookup xcc28 = some ⟨xcl28, xld28, .cell (some (.ref c28)), xls28⟩)
    (xj28 : PySem.W.findIn K (.ref c28) "__setattr__" = some (some (.builtin "object.__setattr__")))
    (xk28 : PySem.W.hasDictIn K c28 = true)
    (xm28 : PySem.W.keepIn K (.ref c28) = true)
    (xn28 : PySem.W.subIn K (.ref c28) (.type "BaseException") = some true)
    (xo28 : PySem.W.typeIn K (.ref c28) = some (.type "type"))
    (xp28 : PySem.W.codeIn K (.ref xcd28) "InvalidStart.__init__" = true)
    (xq28 : K.lookup xcd28 = some ⟨xqa28, xqb28, .fields xqc28, xqd28⟩)
    (xr28 : xqc28[2]? = some (.str xqe28 xqf28))
    (xs28 : ((l.prog.main.file : Str) == xqe28) = true)
    (xt28_given : PySem.W.takerIn K c28 "given" = some none)
    (xt28_code : PySem.W.takerIn K c28 "code" = some none)
    (xa29 : PySem.W.findIn K (.ref c29) "__init__" = some (some (.ref xf29)))
    (xl29 : K.lookup xf29 = some ⟨xoc29, xod29, .func (PySem.W.ksFn "__init__" "InvalidCount.__init__" (defArgs sx_InvalidCount) (defBody sx_InvalidCount) (defScope sx_InvalidCount) .none xkV29 xdc29 xpm29 xan29 (.ref xcd29) xct29 xcc29), xsl29⟩)
    (xb29 : PySem.W.excInitIn K c29 [.type "ValueError", .type "Exception", .type "BaseException", .type "object"] "ValueError.__new__" = true)
    (xc29 : PySem.W.excOver K c29 [.type "ValueError", .type "Exception", .type "BaseException", .type "object"] = true)
    (xd29 : PySem.W.isFn K (.ref xf29) = true)
    (xe29 : PySem.W.ks_superIn K c29 c29 "__init__" = some (some (.builtin "ValueError.__init__")))
    (xg29 : PySem.W.subIn K (.ref c29) (.type "ValueError") = some true)
    (xh29 : PySem.W.mroIn K c29 (.ref c29) = some true)
    (xi29 : K.lookup xcc29 = some ⟨xcl29, xld29, .cell (some (.ref c29)), xls29⟩)
    (xj29 : PySem.W.findIn K (.ref c29) "__setattr__" = some (some (.builtin "object.__setattr__")))
    (xk29 : PySem.W.hasDictIn K c29 = true)
    (xm29 : PySem.W.keepIn K (.ref c29) = true)
    (xn29 : PySem.W.subIn K (.ref c29) (.type "BaseException") = some true)
    (xo29 : PySem.W.typeIn K (.ref c29) = some (.type "type"))
    (xp29 : PySem.W.codeIn K (.ref xcd29) "InvalidCount.__init__" = true)
    (xq29 : K.lookup xcd29 = some ⟨xqa29, xqb29, .fields xqc29, xqd29⟩)
    (xr29 : xqc29[2]? = some (.str xqe29 xqf29))
    (xs29 : ((l.prog.main.file : Str) == xqe29) = true)
    (xt29_given : PySem.W.takerIn K c29 "given" = some none)
    (xt29_code : PySem.W.takerIn K c29 "code" = some none)
    (xa30 : PySem.W.findIn K (.ref c30) "__init__" = some (some (.ref xf30)))
    (xl30 : K.lookup xf30 = some ⟨xoc30, xod30, .func (PySem.W.ksFn "__init__" "InvalidSight.__init__" (defArgs sx_InvalidSight) (defBody sx_InvalidSight) (defScope sx_InvalidSight) .none xkV30 xdc30 xpm30 xan30 (.ref xcd30) xct30 xcc30), xsl30⟩)
    (xb30 : PySem.W.excInitIn K c30 [.type "ValueError", .type "Exception", .type "BaseException", .type "object"] "ValueError.__new__" = true)
    (xc30 : PySem.W.excOver K c30 [.type "ValueError", .type "Exception", .type "BaseException", .type "object"] = true)
    (xd30 : PySem.W.isFn K (.ref xf30) = true)
    (xe30 : PySem.W.ks_superIn K c30 c30 "__init__" = some (some (.builtin "ValueError.__init__")))
    (xg30 : PySem.W.subIn K (.ref c30) (.type "ValueError") = some true)
    (xh30 : PySem.W.mroIn K c30 (.ref c30) = some true)
    (xi30 : K.lookup xcc30 = some ⟨xcl30, xld30, .cell (some (.ref c30)), xls30⟩)
    (xj30 : PySem.W.findIn K (.ref c30) "__setattr__" = some (some (.builtin "object.__setattr__")))
    (xk30 : PySem.W.hasDictIn K c30 = true)
    (xm30 : PySem.W.keepIn K (.ref c30) = true)
    (xn30 : PySem.W.subIn K (.ref c30) (.type "BaseException") = some true)
    (xo30 : PySem.W.typeIn K (.ref c30) = some (.type "type"))
    (xp30 : PySem.W.codeIn K (.ref xcd30) "InvalidSight.__init__" = true)
    (xq30 : K.lookup xcd30 = some ⟨xqa30, xqb30, .fields xqc30, xqd30⟩)
    (xr30 : xqc30[2]? = some (.str xqe30 xqf30))
    (xs30 : ((l.prog.main.file : Str) == xqe30) = true)
    (xt30_given : PySem.W.takerIn K c30 "given" = some none)
    (xt30_code : PySem.W.takerIn K c30 "code" = some none)
    (xa31 : PySem.W.findIn K (.ref c31) "__init__" = some (some (.ref xf31)))
    (xl31 : K.lookup xf31 = some ⟨xoc31, xod31, .func (PySem.W.ksFn "__init__" "InvalidSeen.__init__" (defArgs sx_InvalidSeen) (defBody sx_InvalidSeen) (defScope sx_InvalidSeen) .none xkV31 xdc31 xpm31 xan31 (.ref xcd31) xct31 xcc31), xsl31⟩)
    (xb31 : PySem.W.excInitIn K c31 [.type "ValueError", .type "Exception", .type "BaseException", .type "object"] "ValueError.__new__" = true)
    (xc31 : PySem.W.excOver K c31 [.type "ValueError", .type "Exception", .type "BaseException", .type "object"] = true)
    (xd31 : PySem.W.isFn K (.ref xf31) = true)
    (xe31 : PySem.W.ks_superIn K c31 c31 "__init__" = some (some (.builtin "ValueError.__init__")))
    (xg31 : PySem.W.subIn K (.ref c31) (.type "ValueError") = some true)
    (xh31 : PySem.W.mroIn K c31 (.ref c31) = some true)
    (xi31 : K.lookup xcc31 = some ⟨xcl31, xld31, .cell (some (.ref c31)), xls31⟩)
    (xj31 : PySem.W.findIn K (.ref c31) "__setattr__" = some (some (.builtin "object.__setattr__")))
    (xk31 : PySem.W.hasDictIn K c31 = true)
    (xm31 : PySem.W.keepIn K (.ref c31) = true)
    (xn31 : PySem.W.subIn K (.ref c31) (.type "BaseException") = some true)
    (xo31 : PySem.W.typeIn K (.ref c31) = some (.type "type"))
    (xp31 : PySem.W.codeIn K (.ref xcd31) "InvalidSeen.__init__" = true)
    (xq31 : K.lookup xcd31 = some ⟨xqa31, xqb31, .fields xqc31, xqd31⟩)
    (xr31 : xqc31[2]? = some (.str xqe31 xqf31))
    (xs31 : ((l.prog.main.file : Str) == xqe31) = true)
    (xt31_at : PySem.W.takerIn K c31 "at" = some none)
    (xt31_code : PySem.W.takerIn K c31 "code" = some none)
    (xa32 : PySem.W.findIn K (.ref c32) "__init__" = some (some (.ref xf32)))
    (xl32 : K.lookup xf32 = some ⟨xoc32, xod32, .func (PySem.W.ksFn "__init__" "InvalidRow.__init__" (defArgs sx_InvalidRow) (defBody sx_InvalidRow) (defScope sx_InvalidRow) .none xkV32 xdc32 xpm32 xan32 (.ref xcd32) xct32 xcc32), xsl32⟩)
    (xb32 : PySem.W.excInitIn K c32 [.type "ValueError", .type "Exception", .type "BaseException", .type "object"] "ValueError.__new__" = true)
    (xc32 : PySem.W.excOver K c32 [.type "ValueError", .type "Exception", .type "BaseException", .type "object"] = true)
    (xd32 : PySem.W.isFn K (.ref xf32) = true)
    (xe32 : PySem.W.ks_superIn K c32 c32 "__init__" = some (some (.builtin "ValueError.__init__")))
    (xg32 : PySem.W.subIn K (.ref c32) (.type "ValueError") = some true)
    (xh32 : PySem.W.mroIn K c32 (.ref c32) = some true)
    (xi32 : K.lookup xcc32 = some ⟨xcl32, xld32, .cell (some (.ref c32)), xls32⟩)
    (xj32 : PySem.W.findIn K (.ref c32) "__setattr__" = some (some (.builtin "object.__setattr__")))
    (xk32 : PySem.W.hasDictIn K c32 = true)
    (xm32 : PySem.W.keepIn K (.ref c32) = true)
    (xn32 : PySem.W.subIn K (.ref c32) (.type "BaseException") = some true)
    (xo32 : PySem.W.typeIn K (.ref c32) = some (.type "type"))
    (xp32 : PySem.W.codeIn K (.ref xcd32) "InvalidRow.__init__" = true)
    (xq32 : K.lookup xcd32 = some ⟨xqa32, xqb32, .fields xqc32, xqd32⟩)
    (xr32 : xqc32[2]? = some (.str xqe32 xqf32))
    (xs32 : ((l.prog.main.file : Str) == xqe32) = true)
    (xt32_at : PySem.W.takerIn K c32 "at" = some none)
    (xt32_code : PySem.W.takerIn K c32 "code" = some none)
    (xa33 : PySem.W.findIn K (.ref c33) "__init__" = some (some (.ref xf33)))
    (xl33 : K.lookup xf33 = some ⟨xoc33, xod33, .func (PySem.W.ksFn "__init__" "InvalidBell.__init__" (defArgs sx_InvalidBell) (defBody sx_InvalidBell) (defScope sx_InvalidBell) .none xkV33 xdc33 xpm33 xan33 (.ref xcd33) xct33 xcc33), xsl33⟩)
    (xb33 : PySem.W.excInitIn K c33 [.type "ValueError", .type "Exception", .type "BaseException", .type "object"] "ValueError.__new__" = true)
    (xc33 : PySem.W.excOver K c33 [.type "ValueError", .type "Exception", .type "BaseException", .type "object"] = true)
    (xd33 : PySem.W.isFn K (.ref xf33) = true)
    (xe33 : PySem.W.ks_superIn K c33 c33 "__init__" = some (some (.builtin "ValueError.__init__")))
    (xg33 : PySem.W.subIn K (.ref c33) (.type "ValueError") = some true)
    (xh33 : PySem.W.mroIn K c33 (.ref c33) = some true)
    (xi33 : K.lookup xcc33 = some ⟨xcl33, xld33, .cell (some (.ref c33)), xls33⟩)
    (xj33 : PySem.W.findIn K (.ref c33) "__setattr__" = some (some (.builtin "object.__setattr__")))
    (xk33 : PySem.W.hasDictIn K c33 = true)
    (xm33 : PySem.W.keepIn K (.ref c33) = true)
    (xn33 : PySem.W.subIn K (.ref c33) (.type "BaseException") = some true)
    (xo33 : PySem.W.typeIn K (.ref c33) = some (.type "type"))
    (xp33 : PySem.W.codeIn K (.ref xcd33) "InvalidBell.__init__" = true)
    (xq33 : K.lookup xcd33 = some ⟨xqa33, xqb33, .fields xqc33, xqd33⟩)
    (xr33 : xqc33[2]? = some (.str xqe33 xqf33))
    (xs33 : ((l.prog.main.file : Str) == xqe33) = true)
    (xt33_at : PySem.W.takerIn K c33 "at" = some none)
    (xt33_code : PySem.W.takerIn K c33 "code" = some none)
    (xa34 : PySem.W.findIn K (.ref c34) "__init__" = some (some (.ref xf34)))
    (xl34 : K.lookup xf34 = some ⟨xoc34, xod34, .func (PySem.W.ksFn "__init__" "InvalidName.__init__" (defArgs sx_InvalidName) (defBody sx_InvalidName) (defScope sx_InvalidName) .none xkV34 xdc34 xpm34 xan34 (.ref xcd34) xct34 xcc34), xsl34⟩)
    (xb34 : PySem.W.excInitIn K c34 [.type "ValueError", .type "Exception", .type "BaseException", .type "object"] "ValueError.__new__" = true)
    (xc34 : PySem.W.excOver K c34 [.type "ValueError", .type "Exception", .type "BaseException", .type "object"] = true)
    (xd34 : PySem.W.isFn K (.ref xf34) = true)
    (xe34 : PySem.W.ks_superIn K c34 c34 "__init__" = some (some (.builtin "ValueError.__init__")))
    (xg34 : PySem.W.subIn K (.ref c34) (.type "ValueError") = some true)
    (xh34 : PySem.W.mroIn K c34 (.ref c34) = some true)
    (xi34 : K.lookup xcc34 = some ⟨xcl34, xld34, .cell (some (.ref c34)), xls34⟩)
    (xj34 : PySem.W.findIn K (.ref c34) "__setattr__" = some (some (.builtin "object.__setattr__")))
    (xk34 : PySem.W.hasDictIn K c34 = true)
    (xm34 : PySem.W.keepIn K (.ref c34) = true)
    (xn34 : PySem.W.subIn K (.ref c34) (.type "BaseException") = some true)
    (xo34 : PySem.W.typeIn K (.ref c34) = some (.type "type"))
    (xp34 : PySem.W.codeIn K (.ref xcd34) "InvalidName.__init__" = true)
    (xq34 : K.lookup xcd34 = some ⟨xqa34, xqb34, .fields xqc34, xqd34⟩)
    (xr34 : xqc34[2]? = some (.str xqe34 xqf34))
    (xs34 : ((l.prog.main.file : Str) == xqe34) = true)
    (xt34_name : PySem.W.takerIn K c34 "name" = some none)
    (xt34_code : PySem.W.takerIn K c34 "code" = some none)
    (xa35 : PySem.W.findIn K (.ref c35) "__init__" = some (some (.ref xf35)))
    (xl35 : K.lookup xf35 = some ⟨xoc35, xod35, .func (PySem.W.ksFn "__init__" "InvalidText.__init__" (defArgs sx_InvalidText) (defBody sx_InvalidText) (defScope sx_InvalidText) .none xkV35 xdc35 xpm35 xan35 (.ref xcd35) xct35 xcc35), xsl35⟩)
    (xb35 : PySem.W.excInitIn K c35 [.type "ValueError", .type "Exception", .type "BaseException", .type "object"] "ValueError.__new__" = true)
    (xc35 : PySem.W.excOver K c35 [.type "ValueError", .type "Exception", .type "BaseException", .type "object"] = true)
    (xd35 : PySem.W.isFn K (.ref xf35) = true)
    (xe35 : PySem.W.ks_superIn K c35 c35 "__init__" = some (some (.builtin "ValueError.__init__")))
    (xg35 : PySem.W.subIn K (.ref c35) (.type "ValueError") = some true)
    (xh35 : PySem.W.mroIn K c35 (.ref c35) = some true)
    (xi35 : K.lookup xcc35 = some ⟨xcl35, xld35, .cell (some (.ref c35)), xls35⟩)
    (xj35 : PySem.W.findIn K (.ref c35) "__setattr__" = some (some (.builtin "object.__setattr__")))
    (xk35 : PySem.W.hasDictIn K c35 = true)
    (xm35 : PySem.W.keepIn K (.ref c35) = true)
    (xn35 : PySem.W.subIn K (.ref c35) (.type "BaseException") = some true)
    (xo35 : PySem.W.typeIn K (.ref c35) = some (.type "type"))
    (xp35 : PySem.W.codeIn K (.ref xcd35) "InvalidText.__init__" = true)
    (xq35 : K.lookup xcd35 = some ⟨xqa35, xqb35, .fields xqc35, xqd35⟩)
    (xr35 : xqc35[2]? = some (.str xqe35 xqf35))
    (xs35 : ((l.prog.main.file : Str) == xqe35) = true)
    (xt35_line : PySem.W.takerIn K c35 "line" = some none)
    (xt35_code : PySem.W.takerIn K c35 "code" = some none)
    (xa36 : PySem.W.findIn K (.ref c36) "__init__" = some (some (.ref xf36)))
    (xl36 : K.lookup xf36 = some ⟨xoc36, xod36, .func (PySem.W.ksFn "__init__" "TooMany.__init__" (defArgs sx_TooMany) (defBody sx_TooMany) (defScope sx_TooMany) .none xkV36 xdc36 xpm36 xan36 (.ref xcd36) xct36 xcc36), xsl36⟩)
    (xb36 : PySem.W.excInitIn K c36 [.type "ValueError", .type "Exception", .type "BaseException", .type "object"] "ValueError.__new__" = true)
    (xc36 : PySem.W.excOver K c36 [.type "ValueError", .type "Exception", .type "BaseException", .type "object"] = true)
    (xd36 : PySem.W.isFn K (.ref xf36) = true)
    (xe36 : PySem.W.ks_superIn K c36 c36 "__init__" = some (some (.builtin "ValueError.__init__")))
    (xg36 : PySem.W.subIn K (.ref c36) (.type "ValueError") = some true)
    (xh36 : PySem.W.mroIn K c36 (.ref c36) = some true)
    (xi36 : K.lookup xcc36 = some ⟨xcl36, xld36, .cell (some (.ref c36)), xls36⟩)
    (xj36 : PySem.W.findIn K (.ref c36) "__setattr__" = some (some (.builtin "object.__setattr__")))
    (xk36 : PySem.W.hasDictIn K c36 = true)
    (xm36 : PySem.W.keepIn K (.ref c36) = true)
    (xn36 : PySem.W.subIn K (.ref c36) (.type "BaseException") = some true)
    (xo36 : PySem.W.typeIn K (.ref c36) = some (.type "type"))
    (xp36 : PySem.W.codeIn K (.ref xcd36) "TooMany.__init__" = true)
    (xq36 : K.lookup xcd36 = some ⟨xqa36, xqb36, .fields xqc36, xqd36⟩)
    (xr36 : xqc36[2]? = some (.str xqe36 xqf36))
    (xs36 : ((l.prog.main.file : Str) == xqe36) = true)
    (xt36_most : PySem.W.takerIn K c36 "most" = some none)
    (xt36_code : PySem.W.takerIn K c36 "code" = some none)
    (xa37 : PySem.W.findIn K (.ref c37) "__init__" = some (some (.ref xf37)))
    (xl37 : K.lookup xf37 = some ⟨xoc37, xod37, .func (PySem.W.ksFn "__init__" "AlreadyIn.__init__" (defArgs sx_AlreadyIn) (defBody sx_AlreadyIn) (defScope sx_AlreadyIn) .none xkV37 xdc37 xpm37 xan37 (.ref xcd37) xct37 xcc37), xsl37⟩)
    (xb37 : PySem.W.excInitIn K c37 [.type "ValueError", .type "Exception", .type "BaseException", .type "object"] "ValueError.__new__" = true)
    (xc37 : PySem.W.excOver K c37 [.type "ValueError", .type "Exception", .type "BaseException", .type "object"] = true)
    (xd37 : PySem.W.isFn K (.ref xf37) = true)
    (xe37 : PySem.W.ks_superIn K c37 c37 "__init__" = some (some (.builtin "ValueError.__init__")))
    (xg37 : PySem.W.subIn K (.ref c37) (.type "ValueError") = some true)
    (xh37 : PySem.W.mroIn K c37 (.ref c37) = some true)
    (xi37 : K.lookup xcc37 = some ⟨xcl37, xld37, .cell (some (.ref c37)), xls37⟩)
    (xj37 : PySem.W.findIn K (.ref c37) "__setattr__" = some (some (.builtin "object.__setattr__")))
    (xk37 : PySem.W.hasDictIn K c37 = true)
    (xm37 : PySem.W.keepIn K (.ref c37) = true)
    (xn37 : PySem.W.subIn K (.ref c37) (.type "BaseException") = some true)
    (xo37 : PySem.W.typeIn K (.ref c37) = some (.type "type"))
    (xp37 : PySem.W.codeIn K (.ref xcd37) "AlreadyIn.__init__" = true)
    (xq37 : K.lookup xcd37 = some ⟨xqa37, xqb37, .fields xqc37, xqd37⟩)
    (xr37 : xqc37[2]? = some (.str xqe37 xqf37))
    (xs37 : ((l.prog.main.file : Str) == xqe37) = true)
    (xt37_name : PySem.W.takerIn K c37 "name" = some none)
    (xt37_code : PySem.W.takerIn K c37 "code" = some none)
    (xa38 : PySem.W.findIn K (.ref c38) "__init__" = some (some (.ref xf38)))
    (xl38 : K.lookup xf38 = some ⟨xoc38, xod38, .func (PySem.W.ksFn "__init__" "NotIn.__init__" (defArgs sx_NotIn) (defBody sx_NotIn) (defScope sx_NotIn) .none xkV38 xdc38 xpm38 xan38 (.ref xcd38) xct38 xcc38), xsl38⟩)
    (xb38 : PySem.W.excInitIn K c38 [.type "ValueError", .type "Exception", .type "BaseException", .type "object"] "ValueError.__new__" = true)
    (xc38 : PySem.W.excOver K c38 [.type "ValueError", .type "Exception", .type "BaseException", .type "object"] = true)
    (xd38 : PySem.W.isFn K (.ref xf38) = true)
    (xe38 : PySem.W.ks_superIn K c38 c38 "__init__" = some (some (.builtin "ValueError.__init__")))
    (xg38 : PySem.W.subIn K (.ref c38) (.type "ValueError") = some true)
    (xh38 : PySem.W.mroIn K c38 (.ref c38) = some true)
    (xi38 : K.lookup xcc38 = some ⟨xcl38, xld38, .cell (some (.ref c38)), xls38⟩)
    (xj38 : PySem.W.findIn K (.ref c38) "__setattr__" = some (some (.builtin "object.__setattr__")))
    (xk38 : PySem.W.hasDictIn K c38 = true)
    (xm38 : PySem.W.keepIn K (.ref c38) = true)
    (xn38 : PySem.W.subIn K (.ref c38) (.type "BaseException") = some true)
    (xo38 : PySem.W.typeIn K (.ref c38) = some (.type "type"))
    (xp38 : PySem.W.codeIn K (.ref xcd38) "NotIn.__init__" = true)
    (xq38 : K.lookup xcd38 = some ⟨xqa38, xqb38, .fields xqc38, xqd38⟩)
    (xr38 : xqc38[2]? = some (.str xqe38 xqf38))
    (xs38 : ((l.prog.main.file : Str) == xqe38) = true)
    (xt38_name : PySem.W.takerIn K c38 "name" = some none)
    (xt38_code : PySem.W.takerIn K c38 "code" = some none)
    (xa39 : PySem.W.findIn K (.ref c39) "__init__" = some (some (.ref xf39)))
    (xl39 : K.lookup xf39 = some ⟨xoc39, xod39, .func (PySem.W.ksFn "__init__" "OtherBook.__init__" (defArgs sx_OtherBook) (defBody sx_OtherBook) (defScope sx_OtherBook) .none xkV39 xdc39 xpm39 xan39 (.ref xcd39) xct39 xcc39), xsl39⟩)
    (xb39 : PySem.W.excInitIn K c39 [.type "ValueError", .type "Exception", .type "BaseException", .type "object"] "ValueError.__new__" = true)
    (xc39 : PySem.W.excOver K c39 [.type "ValueError", .type "Exception", .type "BaseException", .type "object"] = true)
    (xd39 : PySem.W.isFn K (.ref xf39) = true)
    (xe39 : PySem.W.ks_superIn K c39 c39 "__init__" = some (some (.builtin "ValueError.__init__")))
    (xg39 : PySem.W.subIn K (.ref c39) (.type "ValueError") = some true)
    (xh39 : PySem.W.mroIn K c39 (.ref c39) = some true)
    (xi39 : K.lookup xcc39 = some ⟨xcl39, xld39, .cell (some (.ref c39)), xls39⟩)
    (xj39 : PySem.W.findIn K (.ref c39) "__setattr__" = some (some (.builtin "object.__setattr__")))
    (xk39 : PySem.W.hasDictIn K c39 = true)
    (xm39 : PySem.W.keepIn K (.ref c39) = true)
    (xn39 : PySem.W.subIn K (.ref c39) (.type "BaseException") = some true)
    (xo39 : PySem.W.typeIn K (.ref c39) = some (.type "type"))
    (xp39 : PySem.W.codeIn K (.ref xcd39) "OtherBook.__init__" = true)
    (xq39 : K.lookup xcd39 = some ⟨xqa39, xqb39, .fields xqc39, xqd39⟩)
    (xr39 : xqc39[2]? = some (.str xqe39 xqf39))
    (xs39 : ((l.prog.main.file : Str) == xqe39) = true)
    (xt39_code : PySem.W.takerIn K c39 "code" = some none)
    (xa40 : PySem.W.findIn K (.ref c40) "__init__" = some (some (.ref xf40)))
    (xl40 : K.lookup xf40 = some ⟨xoc40, xod40, .func (PySem.W.ksFn "__init__" "UnknownSort.__init__" (defArgs sx_UnknownSort) (defBody sx_UnknownSort) (defScope sx_UnknownSort) .none xkV40 xdc40 xpm40 xan40 (.ref xcd40) xct40 xcc40), xsl40⟩)
    (xb40 : PySem.W.excInitIn K c40 [.type "LookupError", .type "Exception", .type "BaseException", .type "object"] "LookupError.__new__" = true)
    (xc40 : PySem.W.excOver K c40 [.type "LookupError", .type "Exception", .type "BaseException", .type "object"] = true)
    (xd40 : PySem.W.isFn K (.ref xf40) = true)
    (xe40 : PySem.W.ks_superIn K c40 c40 "__init__" = some (some (.builtin "LookupError.__init__")))
    (xg40 : PySem.W.subIn K (.ref c40) (.type "LookupError") = some true)
    (xh40 : PySem.W.mroIn K c40 (.ref c40) = some true)
    (xi40 : K.lookup xcc40 = some ⟨xcl40, xld40, .cell (some (.ref c40)), xls40⟩)
    (xj40 : PySem.W.findIn K (.ref c40) "__setattr__" = some (some (.builtin "object.__setattr__")))
    (xk40 : PySem.W.hasDictIn K c40 = true)
    (xm40 : PySem.W.keepIn K (.ref c40) = true)
    (xn40 : PySem.W.subIn K (.ref c40) (.type "BaseException") = some true)
    (xo40 : PySem.W.typeIn K (.ref c40) = some (.type "type"))
    (xp40 : PySem.W.codeIn K (.ref xcd40) "UnknownSort.__init__" = true)
    (xq40 : K.lookup xcd40 = some ⟨xqa40, xqb40, .fields xqc40, xqd40⟩)
    (xr40 : xqc40[2]? = some (.str xqe40 xqf40))
    (xs40 : ((l.prog.main.file : Str) == xqe40) = true)
    (xt40_name : PySem.W.takerIn K c40 "name" = some none)
    (xt40_code : PySem.W.takerIn K c40 "code" = some none)
    (xa41 : PySem.W.findIn K (.ref c41) "__init__" = some (some (.ref xf41)))
    (xl41 : K.lookup xf41 = some ⟨xoc41, xod41, .func (PySem.W.ksFn "__init__" "UnknownWord.__init__" (defArgs sx_UnknownWord) (defBody sx_UnknownWord) (defScope sx_UnknownWord) .none xkV41 xdc41 xpm41 xan41 (.ref xcd41) xct41 xcc41), xsl41⟩)
    (xb41 : PySem.W.excInitIn K c41 [.type "LookupError", .type "Exception", .type "BaseException", .type "object"] "LookupError.__new__" = true)
    (xc41 : PySem.W.excOver K c41 [.type "LookupError", .type "Exception", .type "BaseException", .type "object"] = true)
    (xd41 : PySem.W.isFn K (.ref xf41) = true)
    (xe41 : PySem.W.ks_superIn K c41 c41 "__init__" = some (some (.builtin "LookupError.__init__")))
    (xg41 : PySem.W.subIn K (.ref c41) (.type "LookupError") = some true)
    (xh41 : PySem.W.mroIn K c41 (.ref c41) = some true)
    (xi41 : K.lookup xcc41 = some ⟨xcl41, xld41, .cell (some (.ref c41)), xls41⟩)
    (xj41 : PySem.W.findIn K (.ref c41) "__setattr__" = some (some (.builtin "object.__setattr__")))
    (xk41 : PySem.W.hasDictIn K c41 = true)
    (xm41 : PySem.W.keepIn K (.ref c41) = true)
    (xn41 : PySem.W.subIn K (.ref c41) (.type "BaseException") = some true)
    (xo41 : PySem.W.typeIn K (.ref c41) = some (.type "type"))
    (xp41 : PySem.W.codeIn K (.ref xcd41) "UnknownWord.__init__" = true)
    (xq41 : K.lookup xcd41 = some ⟨xqa41, xqb41, .fields xqc41, xqd41⟩)
    (xr41 : xqc41[2]? = some (.str xqe41 xqf41))
    (xs41 : ((l.prog.main.file : Str) == xqe41) = true)
    (xt41_name : PySem.W.takerIn K c41 "name" = some none)
    (xt41_code : PySem.W.takerIn K c41 "code" = some none)
    (xa42 : PySem.W.findIn K (.ref c42) "__init__" = some (some (.ref xf42)))
    (xl42 : K.lookup xf42 = some ⟨xoc42, xod42, .func (PySem.W.ksFn "__init__" "UnknownState.__init__" (defArgs sx_UnknownState) (defBody sx_UnknownState) (defScope sx_UnknownState) .none xkV42 xdc42 xpm42 xan42 (.ref xcd42) xct42 xcc42), xsl42⟩)
    (xb42 : PySem.W.excInitIn K c42 [.type "LookupError", .type "Exception", .type "BaseException", .type "object"] "LookupError.__new__" = true)
    (xc42 : PySem.W.excOver K c42 [.type "LookupError", .type "Exception", .type "BaseException", .type "object"] = true)
    (xd42 : PySem.W.isFn K (.ref xf42) = true)
    (xe42 : PySem.W.ks_superIn K c42 c42 "__init__" = some (some (.builtin "LookupError.__init__")))
    (xg42 : PySem.W.subIn K (.ref c42) (.type "LookupError") = some true)
    (xh42 : PySem.W.mroIn K c42 (.ref c42) = some true)
    (xi42 : K.lookup xcc42 = some ⟨xcl42, xld42, .cell (some (.ref c42)), xls42⟩)
    (xj42 : PySem.W.findIn K (.ref c42) "__setattr__" = some (some (.builtin "object.__setattr__")))
    (xk42 : PySem.W.hasDictIn K c42 = true)
    (xm42 : PySem.W.keepIn K (.ref c42) = true)
    (xn42 : PySem.W.subIn K (.ref c42) (.type "BaseException") = some true)
    (xo42 : PySem.W.typeIn K (.ref c42) = some (.type "type"))
    (xp42 : PySem.W.codeIn K (.ref xcd42) "UnknownState.__init__" = true)
    (xq42 : K.lookup xcd42 = some ⟨xqa42, xqb42, .fields xqc42, xqd42⟩)
    (xr42 : xqc42[2]? = some (.str xqe42 xqf42))
    (xs42 : ((l.prog.main.file : Str) == xqe42) = true)
    (xt42_state : PySem.W.takerIn K c42 "state" = some none)
    (xt42_code : PySem.W.takerIn K c42 "code" = some none)
    (xa43 : PySem.W.findIn K (.ref c43) "__init__" = some (some (.ref xf43)))
    (xl43 : K.lookup xf43 = some ⟨xoc43, xod43, .func (PySem.W.ksFn "__init__" "UnknownPlace.__init__" (defArgs sx_UnknownPlace) (defBody sx_UnknownPlace) (defScope sx_UnknownPlace) .none xkV43 xdc43 xpm43 xan43 (.ref xcd43) xct43 xcc43), xsl43⟩)
    (xb43 : PySem.W.excInitIn K c43 [.type "LookupError", .type "Exception", .type "BaseException", .type "object"] "LookupError.__new__" = true)
    (xc43 : PySem.W.excOver K c43 [.type "LookupError", .type "Exception", .type "BaseException", .type "object"] = true)
    (xd43 : PySem.W.isFn K (.ref xf43) = true)
    (xe43 : PySem.W.ks_superIn K c43 c43 "__init__" = some (some (.builtin "LookupError.__init__")))
    (xg43 : PySem.W.subIn K (.ref c43) (.type "LookupError") = some true)
    (xh43 : PySem.W.mroIn K c43 (.ref c43) = some true)
    (xi43 : K.lookup xcc43 = some ⟨xcl43, xld43, .cell (some (.ref c43)), xls43⟩)
    (xj43 : PySem.W.findIn K (.ref c43) "__setattr__" = some (some (.builtin "object.__setattr__")))
    (xk43 : PySem.W.hasDictIn K c43 = true)
    (xm43 : PySem.W.keepIn K (.ref c43) = true)
    (xn43 : PySem.W.subIn K (.ref c43) (.type "BaseException") = some true)
    (xo43 : PySem.W.typeIn K (.ref c43) = some (.type "type"))
    (xp43 : PySem.W.codeIn K (.ref xcd43) "UnknownPlace.__init__" = true)
    (xq43 : K.lookup xcd43 = some ⟨xqa43, xqb43, .fields xqc43, xqd43⟩)
    (xr43 : xqc43[2]? = some (.str xqe43 xqf43))
    (xs43 : ((l.prog.main.file : Str) == xqe43) = true)
    (xt43_given : PySem.W.takerIn K c43 "given" = some none)
    (xt43_code : PySem.W.takerIn K c43 "code" = some none)
    (xa44 : PySem.W.findIn K (.ref c44) "__init__" = some (some (.ref xf44)))
    (xl44 : K.lookup xf44 = some ⟨xoc44, xod44, .func (PySem.W.ksFn "__init__" "UnknownPerson.__init__" (defArgs sx_UnknownPerson) (defBody sx_UnknownPerson) (defScope sx_UnknownPerson) .none xkV44 xdc44 xpm44 xan44 (.ref xcd44) xct44 xcc44), xsl44⟩)
    (xb44 : PySem.W.excInitIn K c44 [.type "LookupError", .type "Exception", .type "BaseException", .type "object"] "LookupError.__new__" = true)
    (xc44 : PySem.W.excOver K c44 [.type "LookupError", .type "Exception", .type "BaseException", .type "object"] = true)
    (xd44 : PySem.W.isFn K (.ref xf44) = true)
    (xe44 : PySem.W.ks_superIn K c44 c44 "__init__" = some (some (.builtin "LookupError.__init__")))
    (xg44 : PySem.W.subIn K (.ref c44) (.type "LookupError") = some true)
    (xh44 : PySem.W.mroIn K c44 (.ref c44) = some true)
    (xi44 : K.lookup xcc44 = some ⟨xcl44, xld44, .cell (some (.ref c44)), xls44⟩)
    (xj44 : PySem.W.findIn K (.ref c44) "__setattr__" = some (some (.builtin "object.__setattr__")))
    (xk44 : PySem.W.hasDictIn K c44 = true)
    (xm44 : PySem.W.keepIn K (.ref c44) = true)
    (xn44 : PySem.W.subIn K (.ref c44) (.type "BaseException") = some true)
    (xo44 : PySem.W.typeIn K (.ref c44) = some (.type "type"))
    (xp44 : PySem.W.codeIn K (.ref xcd44) "UnknownPerson.__init__" = true)
    (xq44 : K.lookup xcd44 = some ⟨xqa44, xqb44, .fields xqc44, xqd44⟩)
    (xr44 : xqc44[2]? = some (.str xqe44 xqf44))
    (xs44 : ((l.prog.main.file : Str) == xqe44) = true)
    (xt44_name : PySem.W.takerIn K c44 "name" = some none)
    (xt44_code : PySem.W.takerIn K c44 "code" = some none)
    (xa45 : PySem.W.findIn K (.ref c45) "__init__" = some (some (.ref xf45)))
    (xl45 : K.lookup xf45 = some ⟨xoc45, xod45, .func (PySem.W.ksFn "__init__" "NothingLeft.__init__" (defArgs sx_NothingLeft) (defBody sx_NothingLeft) (defScope sx_NothingLeft) .none xkV45 xdc45 xpm45 xan45 (.ref xcd45) xct45 xcc45), xsl45⟩)
    (xb45 : PySem.W.excInitIn K c45 [.type "IndexError", .type "LookupError", .type "Exception", .type "BaseException", .type "object"] "IndexError.__new__" = true)
    (xc45 : PySem.W.excOver K c45 [.type "IndexError", .type "LookupError", .type "Exception", .type "BaseException", .type "object"] = true)
    (xd45 : PySem.W.isFn K (.ref xf45) = true)
    (xe45 : PySem.W.ks_superIn K c45 c45 "__init__" = some (some (.builtin "IndexError.__init__")))
    (xg45 : PySem.W.subIn K (.ref c45) (.type "IndexError") = some true)
    (xh45 : PySem.W.mroIn K c45 (.ref c45) = some true)
    (xi45 : K.lookup xcc45 = some ⟨xcl45, xld45, .cell (some (.ref c45)), xls45⟩)
    (xj45 : PySem.W.findIn K (.ref c45) "__setattr__" = some (some (.builtin "object.__setattr__")))
    (xk45 : PySem.W.hasDictIn K c45 = true)
    (xm45 : PySem.W.keepIn K (.ref c45) = true)
    (xn45 : PySem.W.subIn K (.ref c45) (.type "BaseException") = some true)
    (xo45 : PySem.W.typeIn K (.ref c45) = some (.type "type"))
    (xp45 : PySem.W.codeIn K (.ref xcd45) "NothingLeft.__init__" = true)
    (xq45 : K.lookup xcd45 = some ⟨xqa45, xqb45, .fields xqc45, xqd45⟩)
    (xr45 : xqc45[2]? = some (.str xqe45 xqf45))
    (xs45 : ((l.prog.main.file : Str) == xqe45) = true)
    (xt45_code : PySem.W.takerIn K c45 "code" = some none)
    (xu37_code : PySem.W.findIn K (.ref c37) "code" = some none)
    (xu37_name : PySem.W.findIn K (.ref c37) "name" = some none)
    (xu33_at : PySem.W.findIn K (.ref c33) "at" = some none)
    (xu33_code : PySem.W.findIn K (.ref c33) "code" = some none)
    (xu29_code : PySem.W.findIn K (.ref c29) "code" = some none)
    (xu29_given : PySem.W.findIn K (.ref c29) "given" = some none)
    (xu26_at : PySem.W.findIn K (.ref c26) "at" = some none)
    (xu26_code : PySem.W.findIn K (.ref c26) "code" = some none)
    (xu23_code : PySem.W.findIn K (.ref c23) "code" = some none)
    (xu23_given : PySem.W.findIn K (.ref c23) "given" = some none)
    (xu34_code : PySem.W.findIn K (.ref c34) "code" = some none)
    (xu34_name : PySem.W.findIn K (.ref c34) "name" = some none)
    (xu32_at : PySem.W.findIn K (.ref c32) "at" = some none)
    (xu32_code : PySem.W.findIn K (.ref c32) "code" = some none)
    (xu31_at : PySem.W.findIn K (.ref c31) "at" = some none)
    (xu31_code : PySem.W.findIn K (.ref c31) "code" = some none)
    (xu25_at : PySem.W.findIn K (.ref c25) "at" = some none)
    (xu25_code : PySem.W.findIn K (.ref c25) "code" = some none)
    (xu30_code : PySem.W.findIn K (.ref c30) "code" = some none)
    (xu30_given : PySem.W.findIn K (.ref c30) "given" = some none)
    (xu21_at : PySem.W.findIn K (.ref c21) "at" = some none)
    (xu21_code : PySem.W.findIn K (.ref c21) "code" = some none)
    (xu28_code : PySem.W.findIn K (.ref c28) "code" = some none)
    (xu28_given : PySem.W.findIn K (.ref c28) "given" = some none)
    (xu27_at : PySem.W.findIn K (.ref c27) "at" = some none)
    (xu27_code : PySem.W.findIn K (.ref c27) "code" = some none)
    (xu35_code : PySem.W.findIn K (.ref c35) "code" = some none)
    (xu35_line : PySem.W.findIn K (.ref c35) "line" = some none)
    (xu24_at : PySem.W.findIn K (.ref c24) "at" = some none)
    (xu24_code : PySem.W.findIn K (.ref c24) "code" = some none)
    (xu22_at : PySem.W.findIn K (.ref c22) "at" = some none)
    (xu22_code : PySem.W.findIn K (.ref c22) "code" = some none)
    (xu38_code : PySem.W.findIn K (.ref c38) "code" = some none)
    (xu38_name : PySem.W.findIn K (.ref c38) "name" = some none)
    (xu45_code : PySem.W.findIn K (.ref c45) "code" = some none)
    (xu39_code : PySem.W.findIn K (.ref c39) "code" = some none)
    (xu36_code : PySem.W.findIn K (.ref c36) "code" = some none)
    (xu36_most : PySem.W.findIn K (.ref c36) "most" = some none)
    (xu44_code : PySem.W.findIn K (.ref c44) "code" = some none)
    (xu44_name : PySem.W.findIn K (.ref c44) "name" = some none)
    (xu43_code : PySem.W.findIn K (.ref c43) "code" = some none)
    (xu43_given : PySem.W.findIn K (.ref c43) "given" = some none)
    (xu40_code : PySem.W.findIn K (.ref c40) "code" = some none)
    (xu40_name : PySem.W.findIn K (.ref c40) "name" = some none)
    (xu42_code : PySem.W.findIn K (.ref c42) "code" = some none)
    (xu42_state : PySem.W.findIn K (.ref c42) "state" = some none)
    (xu41_code : PySem.W.findIn K (.ref c41) "code" = some none)
    (xu41_name : PySem.W.findIn K (.ref c41) "name" = some none)
    (xu20_code : PySem.W.findIn K (.ref c20) "code" = some none)
    (xu20_what : PySem.W.findIn K (.ref c20) "what" = some none)
    (xv37 : PySem.W.findIn K (.ref c37) "__getattribute__" = some (some (.builtin "BaseException.__getattribute__")))
    (xw37 : PySem.W.findIn K (.ref c37) "__getattr__" = some none)
    (xv33 : PySem.W.findIn K (.ref c33) "__getattribute__" = some (some (.builtin "BaseException.__getattribute__")))
    (xw33 : PySem.W.findIn K (.ref c33) "__getattr__" = some none)
    (xv29 : PySem.W.findIn K (.ref c29) "__getattribute__" = some (some (.builtin "BaseException.__getattribute__")))
    (xw29 : PySem.W.findIn K (.ref c29) "__getattr__" = some none)
    (xv26 : PySem.W.findIn K (.ref c26) "__getattribute__" = some (some (.builtin "BaseException.__getattribute__")))
    (xw26 : PySem.W.findIn K (.ref c26) "__getattr__" = some none)
    (xv23 : PySem.W.findIn K (.ref c23) "__getattribute__" = some (some (.builtin "BaseException.__getattribute__")))
    (xw23 : PySem.W.findIn K (.ref c23) "__getattr__" = some none)
    (xv34 : PySem.W.findIn K (.ref c34) "__getattribute__" = some (some (.builtin "BaseException.__getattribute__")))
    (xw34 : PySem.W.findIn K (.ref c34) "__getattr__" = some none)
    (xv32 : PySem.W.findIn K (.ref c32) "__getattribute__" = some (some (.builtin "BaseException.__getattribute__")))
    (xw32 : PySem.W.findIn K (.ref c32) "__getattr__" = some none)
    (xv31 : PySem.W.findIn K (.ref c31) "__getattribute__" = some (some (.builtin "BaseException.__getattribute__")))
    (xw31 : PySem.W.findIn K (.ref c31) "__getattr__" = some none)
    (xv25 : PySem.W.findIn K (.ref c25) "__getattribute__" = some (some (.builtin "BaseException.__getattribute__")))
    (xw25 : PySem.W.findIn K (.ref c25) "__getattr__" = some none)
    (xv30 : PySem.W.findIn K (.ref c30) "__getattribute__" = some (some (.builtin "BaseException.__getattribute__")))
    (xw30 : PySem.W.findIn K (.ref c30) "__getattr__" = some none)
    (xv21 : PySem.W.findIn K (.ref c21) "__getattribute__" = some (some (.builtin "BaseException.__getattribute__")))
    (xw21 : PySem.W.findIn K (.ref c21) "__getattr__" = some none)
    (xv28 : PySem.W.findIn K (.ref c28) "__getattribute__" = some (some (.builtin "BaseException.__getattribute__")))
    (xw28 : PySem.W.findIn K (.ref c28) "__getattr__" = some none)
    (xv27 : PySem.W.findIn K (.ref c27) "__getattribute__" = some (some (.builtin "BaseException.__getattribute__")))
    (xw27 : PySem.W.findIn K (.ref c27) "__getattr__" = some none)
    (xv35 : PySem.W.findIn K (.ref c35) "__getattribute__" = some (some (.builtin "BaseException.__getattribute__")))
    (xw35 : PySem.W.findIn K (.ref c35) "__getattr__" = some none)
    (xv24 : PySem.W.findIn K (.ref c24) "__getattribute__" = some (some (.builtin "BaseException.__getattribute__")))
    (xw24 : PySem.W.findIn K (.ref c24) "__getattr__" = some none)
    (xv22 : PySem.W.findIn K (.ref c22) "__getattribute__" = some (some (.builtin "BaseException.__getattribute__")))
    (xw22 : PySem.W.findIn K (.ref c22) "__getattr__" = some none)
    (xv38 : PySem.W.findIn K (.ref c38) "__getattribute__" = some (some (.builtin "BaseException.__getattribute__")))
    (xw38 : PySem.W.findIn K (.ref c38) "__getattr__" = some none)
    (xv45 : PySem.W.findIn K (.ref c45) "__getattribute__" = some (some (.builtin "BaseException.__getattribute__")))
    (xw45 : PySem.W.findIn K (.ref c45) "__getattr__" = some none)
    (xv39 : PySem.W.findIn K (.ref c39) "__getattribute__" = some (some (.builtin "BaseException.__getattribute__")))
    (xw39 : PySem.W.findIn K (.ref c39) "__getattr__" = some none)
    (xv36 : PySem.W.findIn K (.ref c36) "__getattribute__" = some (some (.builtin "BaseException.__getattribute__")))
    (xw36 : PySem.W.findIn K (.ref c36) "__getattr__" = some none)
    (xv44 : PySem.W.findIn K (.ref c44) "__getattribute__" = some (some (.builtin "BaseException.__getattribute__")))
    (xw44 : PySem.W.findIn K (.ref c44) "__getattr__" = some none)
    (xv43 : PySem.W.findIn K (.ref c43) "__getattribute__" = some (some (.builtin "BaseException.__getattribute__")))
    (xw43 : PySem.W.findIn K (.ref c43) "__getattr__" = some none)
    (xv40 : PySem.W.findIn K (.ref c40) "__getattribute__" = some (some (.builtin "BaseException.__getattribute__")))
    (xw40 : PySem.W.findIn K (.ref c40) "__getattr__" = some none)
    (xv42 : PySem.W.findIn K (.ref c42) "__getattribute__" = some (some (.builtin "BaseException.__getattribute__")))
    (xw42 : PySem.W.findIn K (.ref c42) "__getattr__" = some none)
    (xv41 : PySem.W.findIn K (.ref c41) "__getattribute__" = some (some (.builtin "BaseException.__getattribute__")))
    (xw41 : PySem.W.findIn K (.ref c41) "__getattr__" = some none)
    (xv20 : PySem.W.findIn K (.ref c20) "__getattribute__" = some (some (.builtin "BaseException.__getattribute__")))
    (xw20 : PySem.W.findIn K (.ref c20) "__getattr__" = some none) :
    ∃ fd : FuncData, (∀ (s : Shared) (v : Value), BindsTo s fd ⟨[v], []⟩ [("_law_script", v)]) ∧ ∀ base : Heap, K.In base → base.Ns mainGlobals mg → FnOk l.prog w K mg base CX0 22 fa fd ["_law_script"] (spL K m_law) := by
  have e := hfa.symm.trans (PySem.W.mg_of X G a9)
  obtain rfl : f9 = fa := by cases e; rfl
  let A : Nat → Addr := fun i => [f0, f1, f2, f3, f4, f5, f6, f7, f8, f9].getD i 0
  let FD : Nat → FuncData := fun i => [PySem.W.fnOf "_law_feed" "_law_feed" (defArgs s_law_feed) (defBody s_law_feed) (defScope s_law_feed) .none kV0 dc0 pm0 an0 cd0 ct0, PySem.W.fnOf "_law_pick" "_law_pick" (defArgs s_law_pick) (defBody s_law_pick) (defScope s_law_pick) .none kV1 dc1 pm1 an1 cd1 ct1, PySem.W.fnOf "_law_of" "_law_of" (defArgs s_law_of) (defBody s_law_of) (defScope s_law_of) .none kV2 dc2 pm2 an2 cd2 ct2, PySem.W.fnOf "_law_mixed" "_law_mixed" (defArgs s_law_mixed) (defBody s_law_mixed) (defScope s_law_mixed) .none kV3 dc3 pm3 an3 cd3 ct3, PySem.W.fnOf "_law_names" "_law_names" (defArgs s_law_names) (defBody s_law_names) (defScope s_law_names) .none kV4 dc4 pm4 an4 cd4 ct4, PySem.W.fnOf "_law_places" "_law_places" (defArgs s_law_places) (defBody s_law_places) (defScope s_law_places) .none kV5 dc5 pm5 an5 cd5 ct5, PySem.W.fnOf "_law_given" "_law_given" (defArgs s_law_given) (defBody s_law_given) (defScope s_law_given) .none kV6 dc6 pm6 an6 cd6 ct6, PySem.W.fnOf "_law_named" "_law_named" (defArgs s_law_named) (defBody s_law_named) (defScope s_law_named) .none kV7 dc7 pm7 an7 cd7 ct7, PySem.W.fnOf "_law_same" "_law_same" (defArgs s_law_same) (defBody s_law_same) (defScope s_law_same) .none kV8 dc8 pm8 an8 cd8 ct8, PySem.W.fnOf "law" "law" (defArgs s_law) (defBody s_law) (defScope s_law) .none kV9 dc9 pm9 an9 cd9 ct9].getD i (PySem.W.fnOf "law" "law" (defArgs s_law) (defBody s_law) (defScope s_law) .none kV9 dc9 pm9 an9 cd9 ct9)
  let CL : Nat → Addr := fun i => [0, 0, 0, 0, 0, 0, 0, 0, 0, 0, 0, 0, 0, 0, 0, 0, 0, 0, 0, 0, c20, c21, c22, c23, c24, c25, c26, c27, c28, c29, c30, c31, c32, c33, c34, c35, c36, c37, c38, c39, c40, c41, c42, c43, c44, c45].getD i 0
  let CA : Nat → Addr := fun i => [0].getD i 0
  have T : Txt l.prog K mg A FD CL CA := ⟨(exRK1 DX.exB_Value ⟨xb20, xc20, xa20, xd20, xe20, xg20, xh20, xany, xsup, ⟨_, _, _, xi20⟩, xj20, xk20, xm20, xn20, xo20⟩ (PySem.W.mg_of X G C20) (PySem.W.mg_none_of X G xsup) ⟨⟨_, _, _, _, _, _, _, _, xl20⟩, xp20, ⟨_, _, _, _, _, _, xq20, xr20, xs20⟩, xtop⟩ (st := sx_WrongCount) ⟨rfl, rfl, rfl, by decide +kernel, by decide +kernel, rfl, rfl⟩ rfl rfl rfl (fun L => ⟨_, rfl⟩) xt20_what xt20_code bxk_WrongCount),
    (exRK1 DX.exB_Value ⟨xb21, xc21, xa21, xd21, xe21, xg21, xh21, xany, xsup, ⟨_, _, _, xi21⟩, xj21, xk21, xm21, xn21, xo21⟩ (PySem.W.mg_of X G C21) (PySem.W.mg_none_of X G xsup) ⟨⟨_, _, _, _, _, _, _, _, xl21⟩, xp21, ⟨_, _, _, _, _, _, xq21, xr21, xs21⟩, xtop⟩ (st := sx_InvalidSort) ⟨rfl, rfl, rfl, by decide +kernel, by decide +kernel, rfl, rfl⟩ rfl rfl rfl (fun L => ⟨_, rfl⟩) xt21_at xt21_code bxk_InvalidSort),
    (exRK1 DX.exB_Value ⟨xb22, xc22, xa22, xd22, xe22, xg22, xh22, xany, xsup, ⟨_, _, _, xi22⟩, xj22, xk22, xm22, xn22, xo22⟩ (PySem.W.mg_of X G C22) (PySem.W.mg_none_of X G xsup) ⟨⟨_, _, _, _, _, _, _, _, xl22⟩, xp22, ⟨_, _, _, _, _, _, xq22, xr22, xs22⟩, xtop⟩ (st := sx_InvalidWord) ⟨rfl, rfl, rfl, by decide +kernel, by decide +kernel, rfl, rfl⟩ rfl rfl rfl (fun L => ⟨_, rfl⟩) xt22_at xt22_code bxk_InvalidWord),
    (exRK1 DX.exB_Value ⟨xb23, xc23, xa23, xd23, xe23, xg23, xh23, xany, xsup, ⟨_, _, _, xi23⟩, xj23, xk23, xm23, xn23, xo23⟩ (PySem.W.mg_of X G C23) (PySem.W.mg_none_of X G xsup) ⟨⟨_, _, _, _, _, _, _, _, xl23⟩, xp23, ⟨_, _, _, _, _, _, xq23, xr23, xs23⟩, xtop⟩ (st := sx_InvalidMemory) ⟨rfl, rfl, rfl, by decide +kernel, by decide +kernel, rfl, rfl⟩ rfl rfl rfl (fun L => ⟨_, rfl⟩) xt23_given xt23_code bxk_InvalidMemory),
    (exRK1 DX.exB_Value ⟨xb24, xc24, xa24, xd24, xe24, xg24, xh24, xany, xsup, ⟨_, _, _, xi24⟩, xj24, xk24, xm24, xn24, xo24⟩ (PySem.W.mg_of X G C24) (PySem.W.mg_none_of X G xsup) ⟨⟨_, _, _, _, _, _, _, _, xl24⟩, xp24, ⟨_, _, _, _, _, _, xq24, xr24, xs24⟩, xtop⟩ (st := sx_InvalidThing) ⟨rfl, rfl, rfl, by decide +kernel, by decide +kernel, rfl, rfl⟩ rfl rfl rfl (fun L => ⟨_, rfl⟩) xt24_at xt24_code bxk_InvalidThing),
    (exRK1 DX.exB_Value ⟨xb25, xc25, xa25, xd25, xe25, xg25, xh25, xany, xsup, ⟨_, _, _, xi25⟩, xj25, xk25, xm25, xn25, xo25⟩ (PySem.W.mg_of X G C25) (PySem.W.mg_none_of X G xsup) ⟨⟨_, _, _, _, _, _, _, _, xl25⟩, xp25, ⟨_, _, _, _, _, _, xq25, xr25, xs25⟩, xtop⟩ (st := sx_InvalidSentence) ⟨rfl, rfl, rfl, by decide +kernel, by decide +kernel, rfl, rfl⟩ rfl rfl rfl (fun L => ⟨_, rfl⟩) xt25_at xt25_code bxk_InvalidSentence),
    (exRK1 DX.exB_Value ⟨xb26, xc26, xa26, xd26, xe26, xg26, xh26, xany, xsup, ⟨_, _, _, xi26⟩, xj26, xk26, xm26, xn26, xo26⟩ (PySem.W.mg_of X G C26) (PySem.W.mg_none_of X G xsup) ⟨⟨_, _, _, _, _, _, _, _, xl26⟩, xp26, ⟨_, _, _, _, _, _, xq26, xr26, xs26⟩, xtop⟩ (st := sx_InvalidItem) ⟨rfl, rfl, rfl, by decide +kernel, by decide +kernel, rfl, rfl⟩ rfl rfl rfl (fun L => ⟨_, rfl⟩) xt26_at xt26_code bxk_InvalidItem),
    (exRK1 DX.exB_Value ⟨xb27, xc27, xa27, xd27, xe27, xg27, xh27, xany, xsup, ⟨_, _, _, xi27⟩, xj27, xk27, xm27, xn27, xo27⟩ (PySem.W.mg_of X G C27) (PySem.W.mg_none_of X G xsup) ⟨⟨_, _, _, _, _, _, _, _, xl27⟩, xp27, ⟨_, _, _, _, _, _, xq27, xr27, xs27⟩, xtop⟩ (st := sx_InvalidState) ⟨rfl, rfl, rfl, by decide +kernel, by decide +kernel, rfl, rfl⟩ rfl rfl rfl (fun L => ⟨_, rfl⟩) xt27_at xt27_code bxk_InvalidState),
    (exRK1 DX.exB_Value ⟨xb28, xc28, xa28, xd28, xe28, xg28, xh28, xany, xsup, ⟨_, _, _, xi28⟩, xj28, xk28, xm28, xn28, xo28⟩ (PySem.W.mg_of X G C28) (PySem.W.mg_none_of X G xsup) ⟨⟨_, _, _, _, _, _, _, _, xl28⟩, xp28, ⟨_, _, _, _, _, _, xq28, xr28, xs28⟩, xtop⟩ (st := sx_InvalidStart) ⟨rfl, rfl, rfl, by decide +kernel, by decide +kernel, rfl, rfl⟩ rfl rfl rfl (fun L => ⟨_, rfl⟩) xt28_given xt28_code bxk_InvalidStart),
    (exRK1 DX.exB_Value ⟨xb29, xc29, xa29, xd29, xe29, xg29, xh29, xany, xsup, ⟨_, _, _, xi29⟩, xj29, xk29, xm29, xn29, xo29⟩ (PySem.W.mg_of X G C29) (PySem.W.mg_none_of X G xsup) ⟨⟨_, _, _, _, _, _, _, _, xl29⟩, xp29, ⟨_, _, _, _, _, _, xq29, xr29, xs29⟩, xtop⟩ (st := sx_InvalidCount) ⟨rfl, rfl, rfl, by decide +kernel, by decide +kernel, rfl, rfl⟩ rfl rfl rfl (fun L => ⟨_, rfl⟩) xt29_given xt29_code bxk_InvalidCount),
    (exRK1 DX.exB_Value ⟨xb30, xc30, xa30, xd30, xe30, xg30, xh30, xany, xsup, ⟨_, _, _, xi30⟩, xj30, xk30, xm30, xn30, xo30⟩ (PySem.W.mg_of X G C30) (PySem.W.mg_none_of X G xsup) ⟨⟨_, _, _, _, _, _, _, _, xl30⟩, xp30, ⟨_, _, _, _, _, _, xq30, xr30, xs30⟩, xtop⟩ (st := sx_InvalidSight) ⟨rfl, rfl, rfl, by decide +kernel, by decide +kernel, rfl, rfl⟩ rfl rfl rfl (fun L => ⟨_, rfl⟩) xt30_given xt30_code bxk_InvalidSight),
    (exRK1 DX.exB_Value ⟨xb31, xc31, xa31, xd31, xe31, xg31, xh31, xany, xsup, ⟨_, _, _, xi31⟩, xj31, xk31, xm31, xn31, xo31⟩ (PySem.W.mg_of X G C31) (PySem.W.mg_none_of X G xsup) ⟨⟨_, _, _, _, _, _, _, _, xl31⟩, xp31, ⟨_, _, _, _, _, _, xq31, xr31, xs31⟩, xtop⟩ (st := sx_InvalidSeen) ⟨rfl, rfl, rfl, by decide +kernel, by decide +kernel, rfl, rfl⟩ rfl rfl rfl (fun L => ⟨_, rfl⟩) xt31_at xt31_code bxk_InvalidSeen),
    (exRK1 DX.exB_Value ⟨xb32, xc32, xa32, xd32, xe32, xg32, xh32, xany, xsup, ⟨_, _, _, xi32⟩, xj32, xk32, xm32, xn32, xo32⟩ (PySem.W.mg_of X G C32) (PySem.W.mg_none_of X G xsup) ⟨⟨_, _, _, _, _, _, _, _, xl32⟩, xp32, ⟨_, _, _, _, _, _, xq32, xr32, xs32⟩, xtop⟩ (st := sx_InvalidRow) ⟨rfl, rfl, rfl, by decide +kernel, by decide +kernel, rfl, rfl⟩ rfl rfl rfl (fun L => ⟨_, rfl⟩) xt32_at xt32_code bxk_InvalidRow),
    (exRK1 DX.exB_Value ⟨xb33, xc33, xa33, xd33, xe33, xg33, xh33, xany, xsup, ⟨_, _, _, xi33⟩, xj33, xk33, xm33, xn33, xo33⟩ (PySem.W.mg_of X G C33) (PySem.W.mg_none_of X G xsup) ⟨⟨_, _, _, _, _, _, _, _, xl33⟩, xp33, ⟨_, _, _, _, _, _, xq33, xr33, xs33⟩, xtop⟩ (st := sx_InvalidBell) ⟨rfl, rfl, rfl, by decide +kernel, by decide +kernel, rfl, rfl⟩ rfl rfl rfl (fun L => ⟨_, rfl⟩) xt33_at xt33_code bxk_InvalidBell),
    (exRK1 DX.exB_Value ⟨xb34, xc34, xa34, xd34, xe34, xg34, xh34, xany, xsup, ⟨_, _, _, xi34⟩, xj34, xk34, xm34, xn34, xo34⟩ (PySem.W.mg_of X G C34) (PySem.W.mg_none_of X G xsup) ⟨⟨_, _, _, _, _, _, _, _, xl34⟩, xp34, ⟨_, _, _, _, _, _, xq34, xr34, xs34⟩, xtop⟩ (st := sx_InvalidName) ⟨rfl, rfl, rfl, by decide +kernel, by decide +kernel, rfl, rfl⟩ rfl rfl rfl (fun L => ⟨_, rfl⟩) xt34_name xt34_code bxk_InvalidName),
    (exRK1 DX.exB_Value ⟨xb35, xc35, xa35, xd35, xe35, xg35, xh35, xany, xsup, ⟨_, _, _, xi35⟩, xj35, xk35, xm35, xn35, xo35⟩ (PySem.W.mg_of X G C35) (PySem.W.mg_none_of X G xsup) ⟨⟨_, _, _, _, _, _, _, _, xl35⟩, xp35, ⟨_, _, _, _, _, _, xq35, xr35, xs35⟩, xtop⟩ (st := sx_InvalidText) ⟨rfl, rfl, rfl, by decide +kernel, by decide +kernel, rfl, rfl⟩ rfl rfl rfl (fun L => ⟨_, rfl⟩) xt35_line xt35_code bxk_InvalidText),
    (exRK1 DX.exB_Value ⟨xb36, xc36, xa36, xd36, xe36, xg36, xh36, xany, xsup, ⟨_, _, _, xi36⟩, xj36, xk36, xm36, xn36, xo36⟩ (PySem.W.mg_of X G C36) (PySem.W.mg_none_of X G xsup) ⟨⟨_, _, _, _, _, _, _, _, xl36⟩, xp36, ⟨_, _, _, _, _, _, xq36, xr36, xs36⟩, xtop⟩ (st := sx_TooMany) ⟨rfl, rfl, rfl, by decide +kernel, by decide +kernel, rfl, rfl⟩ rfl rfl rfl (fun L => ⟨_, rfl⟩) xt36_most xt36_code bxk_TooMany),
    (exRK1 DX.exB_Value ⟨xb37, xc37, xa37, xd37, xe37, xg37, xh37, xany, xsup, ⟨_, _, _, xi37⟩, xj37, xk37, xm37, xn37, xo37⟩ (PySem.W.mg_of X G C37) (PySem.W.mg_none_of X G xsup) ⟨⟨_, _, _, _, _, _, _, _, xl37⟩, xp37, ⟨_, _, _, _, _, _, xq37, xr37, xs37⟩, xtop⟩ (st := sx_AlreadyIn) ⟨rfl, rfl, rfl, by decide +kernel, by decide +kernel, rfl, rfl⟩ rfl rfl rfl (fun L => ⟨_, rfl⟩) xt37_name xt37_code bxk_AlreadyIn),
    (exRK1 DX.exB_Value ⟨xb38, xc38, xa38, xd38, xe38, xg38, xh38, xany, xsup, ⟨_, _, _, xi38⟩, xj38, xk38, xm38, xn38, xo38⟩ (PySem.W.mg_of X G C38) (PySem.W.mg_none_of X G xsup) ⟨⟨_, _, _, _, _, _, _, _, xl38⟩, xp38, ⟨_, _, _, _, _, _, xq38, xr38, xs38⟩, xtop⟩ (st := sx_NotIn) ⟨rfl, rfl, rfl, by decide +kernel, by decide +kernel, rfl, rfl⟩ rfl rfl rfl (fun L => ⟨_, rfl⟩) xt38_name xt38_code bxk_NotIn),
    (ExR.none (exR0 DX.exB_Value ⟨xb39, xc39, xa39, xd39, xe39, xg39, xh39, xany, xsup, ⟨_, _, _, xi39⟩, xj39, xk39, xm39, xn39, xo39⟩ (PySem.W.mg_of X G C39) (PySem.W.mg_none_of X G xsup) ⟨⟨_, _, _, _, _, _, _, _, xl39⟩, xp39, ⟨_, _, _, _, _, _, xq39, xr39, xs39⟩, xtop⟩ (st := sx_OtherBook) ⟨rfl, rfl, rfl, by decide +kernel, by decide +kernel, rfl, rfl⟩ rfl rfl rfl (fun L => ⟨_, rfl⟩) xt39_code bx_OtherBook)),
    (exRK1 DX.exB_Lookup ⟨xb40, xc40, xa40, xd40, xe40, xg40, xh40, xany, xsup, ⟨_, _, _, xi40⟩, xj40, xk40, xm40, xn40, xo40⟩ (PySem.W.mg_of X G C40) (PySem.W.mg_none_of X G xsup) ⟨⟨_, _, _, _, _, _, _, _, xl40⟩, xp40, ⟨_, _, _, _, _, _, xq40, xr40, xs40⟩, xtop⟩ (st := sx_UnknownSort) ⟨rfl, rfl, rfl, by decide +kernel, by decide +kernel, rfl, rfl⟩ rfl rfl rfl (fun L => ⟨_, rfl⟩) xt40_name xt40_code bxk_UnknownSort),
    (exRK1 DX.exB_Lookup ⟨xb41, xc41, xa41, xd41, xe41, xg41, xh41, xany, xsup, ⟨_, _, _, xi41⟩, xj41, xk41, xm41, xn41, xo41⟩ (PySem.W.mg_of X G C41) (PySem.W.mg_none_of X G xsup) ⟨⟨_, _, _, _, _, _, _, _, xl41⟩, xp41, ⟨_, _, _, _, _, _, xq41, xr41, xs41⟩, xtop⟩ (st := sx_UnknownWord) ⟨rfl, rfl, rfl, by decide +kernel, by decide +kernel, rfl, rfl⟩ rfl rfl rfl (fun L => ⟨_, rfl⟩) xt41_name xt41_code bxk_UnknownWord),
    (exRK1 DX.exB_Lookup ⟨xb42, xc42, xa42, xd42, xe42, xg42, xh42, xany, xsup, ⟨_, _, _, xi42⟩, xj42, xk42, xm42, xn42, xo42⟩ (PySem.W.mg_of X G C42) (PySem.W.mg_none_of X G xsup) ⟨⟨_, _, _, _, _, _, _, _, xl42⟩, xp42, ⟨_, _, _, _, _, _, xq42, xr42, xs42⟩, xtop⟩ (st := sx_UnknownState) ⟨rfl, rfl, rfl, by decide +kernel, by decide +kernel, rfl, rfl⟩ rfl rfl rfl (fun L => ⟨_, rfl⟩) xt42_state xt42_code bxk_UnknownState),
    (exRK1 DX.exB_Lookup ⟨xb43, xc43, xa43, xd43, xe43, xg43, xh43, xany, xsup, ⟨_, _, _, xi43⟩, xj43, xk43, xm43, xn43, xo43⟩ (PySem.W.mg_of X G C43) (PySem.W.mg_none_of X G xsup) ⟨⟨_, _, _, _, _, _, _, _, xl43⟩, xp43, ⟨_, _, _, _, _, _, xq43, xr43, xs43⟩, xtop⟩ (st := sx_UnknownPlace) ⟨rfl, rfl, rfl, by decide +kernel, by decide +kernel, rfl, rfl⟩ rfl rfl rfl (fun L => ⟨_, rfl⟩) xt43_given xt43_code bxk_UnknownPlace),
    (exRK1 DX.exB_Lookup ⟨xb44, xc44, xa44, xd44, xe44, xg44, xh44, xany, xsup, ⟨_, _, _, xi44⟩, xj44, xk44, xm44, xn44, xo44⟩ (PySem.W.mg_of X G C44) (PySem.W.mg_none_of X G xsup) ⟨⟨_, _, _, _, _, _, _, _, xl44⟩, xp44, ⟨_, _, _, _, _, _, xq44, xr44, xs44⟩, xtop⟩ (st := sx_UnknownPerson) ⟨rfl, rfl, rfl, by decide +kernel, by decide +kernel, rfl, rfl⟩ rfl rfl rfl (fun L => ⟨_, rfl⟩) xt44_name xt44_code bxk_UnknownPerson),
    (ExR.none (exR0 DX.exB_Index ⟨xb45, xc45, xa45, xd45, xe45, xg45, xh45, xany, xsup, ⟨_, _, _, xi45⟩, xj45, xk45, xm45, xn45, xo45⟩ (PySem.W.mg_of X G C45) (PySem.W.mg_none_of X G xsup) ⟨⟨_, _, _, _, _, _, _, _, xl45⟩, xp45, ⟨_, _, _, _, _, _, xq45, xr45, xs45⟩, xtop⟩ (st := sx_NothingLeft) ⟨rfl, rfl, rfl, by decide +kernel, by decide +kernel, rfl, rfl⟩ rfl rfl rfl (fun L => ⟨_, rfl⟩) xt45_code bx_NothingLeft)),
    ⟨xv37, xw37, xn37, xk37, xu37_code⟩,
    ⟨xv37, xw37, xn37, xk37, xu37_name⟩,
    ⟨xv33, xw33, xn33, xk33, xu33_at⟩,
    ⟨xv33, xw33, xn33, xk33, xu33_code⟩,
    ⟨xv29, xw29, xn29, xk29, xu29_code⟩,
    ⟨xv29, xw29, xn29, xk29, xu29_given⟩,
    ⟨xv26, xw26, xn26, xk26, xu26_at⟩,
    ⟨xv26, xw26, xn26, xk26, xu26_code⟩,
    ⟨xv23, xw23, xn23, xk23, xu23_code⟩,
    ⟨xv23, xw23, xn23, xk23, xu23_given⟩,
    ⟨xv34, xw34, xn34, xk34, xu34_code⟩,
    ⟨xv34, xw34, xn34, xk34, xu34_name⟩,
    ⟨xv32, xw32, xn32, xk32, xu32_at⟩,
    ⟨xv32, xw32, xn32, xk32, xu32_code⟩,
    ⟨xv31, xw31, xn31, xk31, xu31_at⟩,
    ⟨xv31, xw31, xn31, xk31, xu31_code⟩,
    ⟨xv25, xw25, xn25, xk25, xu25_at⟩,
    ⟨xv25, xw25, xn25, xk25, xu25_code⟩,
    ⟨xv30, xw30, xn30, xk30, xu30_code⟩,
    ⟨xv30, xw30, xn30, xk30, xu30_given⟩,
    ⟨xv21, xw21, xn21, xk21, xu21_at⟩,
    ⟨xv21, xw21, xn21, xk21, xu21_code⟩,
    ⟨xv28, xw28, xn28, xk28, xu28_code⟩,
    ⟨xv28, xw28, xn28, xk28, xu28_given⟩,
    ⟨xv27, xw27, xn27, xk27, xu27_at⟩,
    ⟨xv27, xw27, xn27, xk27, xu27_code⟩,
    ⟨xv35, xw35, xn35, xk35, xu35_code⟩,
    ⟨xv35, xw35, xn35, xk35, xu35_line⟩,
    ⟨xv24, xw24, xn24, xk24, xu24_at⟩,
    ⟨xv24, xw24, xn24, xk24, xu24_code⟩,
    ⟨xv22, xw22, xn22, xk22, xu22_at⟩,
    ⟨xv22, xw22, xn22, xk22, xu22_code⟩,
    ⟨xv38, xw38, xn38, xk38, xu38_code⟩,
    ⟨xv38, xw38, xn38, xk38, xu38_name⟩,
    ⟨xv45, xw45, xn45, xk45, xu45_code⟩,
    ⟨xv39, xw39, xn39, xk39, xu39_code⟩,
    ⟨xv36, xw36, xn36, xk36, xu36_code⟩,
    ⟨xv36, xw36, xn36, xk36, xu36_most⟩,
    ⟨xv44, xw44, xn44, xk44, xu44_code⟩,
    ⟨xv44, xw44, xn44, xk44, xu44_name⟩,
    ⟨xv43, xw43, xn43, xk43, xu43_code⟩,
    ⟨xv43, xw43, xn43, xk43, xu43_given⟩,
    ⟨xv40, xw40, xn40, xk40, xu40_code⟩,
    ⟨xv40, xw40, xn40, xk40, xu40_name⟩,
    ⟨xv42, xw42, xn42, xk42, xu42_code⟩,
    ⟨xv42, xw42, xn42, xk42, xu42_state⟩,
    ⟨xv41, xw41, xn41, xk41, xu41_code⟩,
    ⟨xv41, xw41, xn41, xk41, xu41_name⟩,
    ⟨xv20, xw20, xn20, xk20, xu20_code⟩,
    ⟨xv20, xw20, xn20, xk20, xu20_what⟩,
    PySem.W.mg_none_of X G z_all,
    PySem.W.mg_none_of X G z_bool,
    PySem.W.mg_none_of X G z_int,
    PySem.W.mg_none_of X G z_isinstance,
    PySem.W.mg_none_of X G z_len,
    PySem.W.mg_none_of X G z_list,
    PySem.W.mg_none_of X G z_range,
    PySem.W.mg_none_of X G z_str,
    PySem.W.mg_none_of X G z_tuple,
    PySem.W.mg_none_of X G z_zip,
    PySem.W.mg_of X G a0,
    FunG.mk' (st := s_law_feed) l0 c0_ k0,
    bd_law_feed,
    PySem.W.mg_of X G a1,
    FunG.mk' (st := s_law_pick) l1 c1_ k1,
    bd_law_pick,
    PySem.W.mg_of X G a2,
    FunG.mk' (st := s_law_of) l2 c2_ k2,
    bd_law_of,
    PySem.W.mg_of X G a3,
    FunG.mk' (st := s_law_mixed) l3 c3_ k3,
    bd_law_mixed,
    PySem.W.mg_of X G a4,
    FunG.mk' (st := s_law_names) l4 c4_ k4,
    bd_law_names,
    PySem.W.mg_of X G a5,
    FunG.mk' (st := s_law_places) l5 c5_ k5,
    bd_law_places,
    PySem.W.mg_of X G a6,
    FunG.mk' (st := s_law_given) l6 c6_ k6,
    bd_law_given,
    PySem.W.mg_of X G a7,
    FunG.mk' (st := s_law_named) l7 c7_ k7,
    bd_law_named,
    PySem.W.mg_of X G a8,
    FunG.mk' (st := s_law_same) l8 c8_ k8,
    bd_law_same,
    PySem.W.mg_of X G a9,
    FunG.mk' (st := s_law) l9 c9_ k9,
    bd_law⟩
  exact ⟨FD 9, fun s v => .of_eq rfl, fun base _ _ => (ok_law (tb := fun _ => 0) T).imp fun vs H Q E z => z CL⟩
theorem walk (true_ : ∀ ns : List Int, ns.length ≤ 63 → ∃ η, m_law [.lst (ns.map .int)] [] = .ok (.bl true) η) {l : PySem.W.OpenLaw} {q : Program} {loose : List Str} {XP : (Str → Option Value) → Heap → Prop} {YP : World → Heap → Prop} {d : DefRec} {K : Params → PySem.W.Frag} (hn : l.most = some 63) (hdf : d.params.defaults = [])
    (hY : ∀ (w : World) (h : Heap), YP w h → (K w.params).In h)
    (F : ∀ (w : World) (mg : Str → Option Value) (fa : Addr) (h : Heap), (K w.params).In h → h.Ns mainGlobals mg → mg d.name = some (.ref fa) →
      ∃ fd : FuncData, (∀ (s : Shared) (u : Value), BindsTo s fd ⟨[u], []⟩ [("_law_script", u)]) ∧ ∀ base : Heap, (K w.params).In base → base.Ns mainGlobals mg → FnOk l.prog w (K w.params) mg base CX0 22 fa fd ["_law_script"] (spL (K w.params) m_law)) :
    PySem.W.WalkO q loose XP YP l.row.toRowW d [] (fun f vs => PySem.call f vs) :=
  L2.walk_of (n := 63) (k := 22) (x := "_law_script") (CX := fun _ => CX0) (sp := fun w => spL (K w.params) m_law) hn (by decide) hdf ⟨rfl, by decide, by decide⟩ hY F (fun w H a ns hl ho hS => law_spL true_ hl ho hS) fun _ _ _ _ _ z => z
end Law
namespace Law
open PySem L2 DL PL
abbrev P1 : S := (sOwn 1 (fLstN (fCons (fNewE 21 ["at"] "InvalidSort" (fCons (fV 0) fNil)) (fCons (fNewE 22 ["at"] "InvalidWord" (fCons (fV 0) fNil)) (fCons (fNewE 24 ["at"] "InvalidThing" (fCons (fV 0) fNil)) (fCons (fNewE 25 ["at"] "InvalidSentence" (fCons (fV 0) fNil)) fNil))))))
abbrev P2 : S := (sOwn 1 (fAddN (fVo 1) (fFrz (fLstN (fCons (fNewE 26 ["at"] "InvalidItem" (fCons (fV 0) fNil)) (fCons (fNewE 27 ["at"] "InvalidState" (fCons (fV 0) fNil)) (fCons (fNewE 31 ["at"] "InvalidSeen" (fCons (fV 0) fNil)) (fCons (fNewE 32 ["at"] "InvalidRow" (fCons (fV 0) fNil)) fNil))))))))
abbrev P3 : S := (sMut 1 muApp (fCons (fNewE 33 ["at"] "InvalidBell" (fCons (fV 0) fNil)) fNil))
abbrev P4z1 : S := (sSet 2 (fC (.str "InvalidSort InvalidWord InvalidThing InvalidSentence InvalidItem")))
abbrev P4z2 : S := (sSet 2 (fOp addD (fV 2) (fC (.str " InvalidState InvalidSeen InvalidRow InvalidBell"))))
abbrev P4z3 : S := (sRet (fFrz (fLstN (fCons (fFrz (fLc [3] (fiA (fV 1)) (.nm 3) fYes (fXf "at" [21, 22, 24, 25, 26, 27, 31, 32, 33] (fV 3)))) (fCons (fFrz (fLc [3] (fiA (fV 1)) (.nm 3) fYes (fXf "code" [20, 21, 22, 23, 24, 25, 26, 27, 28, 29, 30, 31, 32, 33, 34, 35, 36, 37, 38, 39, 40, 41, 42, 43, 44, 45] (fV 3)))) (fCons (fFrz (fStrN splitS (fV 2) (fC (.str " ")))) fNil))))))
abbrev P4z : S := (sSeq P4z1 (sSeq P4z2 P4z3))
abbrev P4 : S := (sFz 1 P4z)
abbrev P : S := (sSeq P1 (sSeq P2 (sSeq P3 P4)))
theorem P_eq : b_law_places = P := rfl
abbrev G1 : S := (sSet 1 (fFrz (fLstN (fCons (fNewE 23 ["given"] "InvalidMemory" (fCons (fV 0) fNil)) (fCons (fNewE 28 ["given"] "InvalidStart" (fCons (fV 0) fNil)) (fCons (fNewE 29 ["given"] "InvalidCount" (fCons (fV 0) fNil)) fNil))))))
abbrev G2 : S := (sSet 1 (fOp addD (fV 1) (fFrz (fLstN (fCons (fNewE 30 ["given"] "InvalidSight" (fCons (fV 0) fNil)) (fCons (fNewE 43 ["given"] "UnknownPlace" (fCons (fV 0) fNil)) fNil))))))
abbrev G3 : S := (sSet 2 (fC (.str "InvalidMemory InvalidStart InvalidCount InvalidSight UnknownPlace")))
abbrev G4 : S := (sRet (fFrz (fLstN (fCons (fFrz (fLc [3] (fiA (fV 1)) (.nm 3) fYes (fXf "given" [23, 28, 29, 30, 43] (fV 3)))) (fCons (fFrz (fLc [3] (fiA (fV 1)) (.nm 3) fYes (fXf "code" [20, 21, 22, 23, 24, 25, 26, 27, 28, 29, 30, 31, 32, 33, 34, 35, 36, 37, 38, 39, 40, 41, 42, 43, 44, 45] (fV 3)))) (fCons (fFrz (fStrN splitS (fV 2) (fC (.str " ")))) fNil))))))
abbrev G : S := (sSeq G1 (sSeq G2 (sSeq G3 G4)))
theorem G_eq : b_law_given = G := rfl
abbrev N1 : S := (sSet 1 (fFrz (fLstN (fCons (fNewE 34 ["name"] "InvalidName" (fCons (fV 0) fNil)) (fCons (fNewE 37 ["name"] "AlreadyIn" (fCons (fV 0) fNil)) (fCons (fNewE 38 ["name"] "NotIn" (fCons (fV 0) fNil)) (fCons (fNewE 40 ["name"] "UnknownSort" (fCons (fV 0) fNil)) fNil)))))))
abbrev N2 : S := (sSet 1 (fOp addD (fV 1) (fFrz (fLstN (fCons (fNewE 41 ["name"] "UnknownWord" (fCons (fV 0) fNil)) (fCons (fNewE 44 ["name"] "UnknownPerson" (fCons (fV 0) fNil)) fNil))))))
abbrev N3 : S := (sSet 2 (fC (.str "InvalidName AlreadyIn NotIn UnknownSort UnknownWord UnknownPerson")))
abbrev N4 : S := (sRet (fFrz (fLstN (fCons (fFrz (fLc [3] (fiA (fV 1)) (.nm 3) fYes (fXf "name" [34, 37, 38, 40, 41, 44] (fV 3)))) (fCons (fFrz (fLc [3] (fiA (fV 1)) (.nm 3) fYes (fXf "code" [20, 21, 22, 23, 24, 25, 26, 27, 28, 29, 30, 31, 32, 33, 34, 35, 36, 37, 38, 39, 40, 41, 42, 43, 44, 45] (fV 3)))) (fCons (fFrz (fStrN splitS (fV 2) (fC (.str " ")))) fNil))))))
abbrev N : S := (sSeq N1 (sSeq N2 (sSeq N3 N4)))
theorem N_eq : b_law_named = N := rfl
abbrev L1 : S := (sSet 1 (fCall 1 m_law_feed (fCons (fV 0) fNil)))
abbrev L2 : S := (sPar 2 3 (fCall 2 m_law_of (fCons (fV 1) (fCons (fFrz (fLstN (fCons (fC (.int 0)) (fCons (fC (.int 1)) (fCons (fNeg (fC (.int 1))) (fCons (fOp powD (fC (.int 10)) (fC (.int 29))) (fCons (fCall 2 m_law_pick (fCons (fV 1) (fCons (fC (.int 1000)) fNil))) fNil))))))) fNil))) (fOp ixD (fCall 2 m_law_names (fCons (fV 1) (fCons (fC (.int 1)) fNil))) (fC (.int 0))))
abbrev L3b1t1 : S := (sRet (fC (.bl false)))
abbrev L3b1t : S := L3b1t1
abbrev L3b1 : S := (sIf (fNotB (fTru (fCall 2 (m_law_same 12) (fCons (fSl (fV 4) fNoP (fPt (fC (.int 2)))) (fCons (fFrz (fLstN (fCons (fOp mulLD (fFrz (fLstN (fCons (fV 5) fNil))) (fCall1 lenD (fOp ixD (fV 4) (fC (.int 2))))) (fCons (fOp ixD (fV 4) (fC (.int 2))) fNil)))) fNil))))) L3b1t SR.nx)
abbrev L3b : S := L3b1
abbrev L3 : S := (sFor (fiA (fFrz (fLstN (fCons (fTup (fCons (fCall 1 m_law_places (fCons (fV 2) fNil)) (fCons (fV 2) fNil))) (fCons (fTup (fCons (fCall 1 m_law_given (fCons (fV 2) fNil)) (fCons (fV 2) fNil))) (fCons (fTup (fCons (fCall 1 m_law_named (fCons (fV 3) fNil)) (fCons (fV 3) fNil))) fNil)))))) (.tp [(.nm 4), (.nm 5)]) L3b)
abbrev L4 : S := (sSet 6 (fFrz (fLstN (fCons (fNewE 20 ["what"] "WrongCount" (fCons (fV 3) fNil)) (fCons (fNewE 35 ["line"] "InvalidText" (fCons (fV 2) fNil)) (fCons (fNewE 36 ["most"] "TooMany" (fCons (fV 2) fNil)) (fCons (fNewE 42 ["state"] "UnknownState" (fCons (fV 2) fNil)) fNil)))))))
abbrev L5 : S := (sSet 7 (fFrz (fLstN (fCons (fNewE 39 [] "OtherBook" fNil) (fCons (fNewE 45 [] "NothingLeft" fNil) fNil)))))
abbrev L6 : S := (sSet 8 (fFrz (fLstN (fCons (fXf "what" [20] (fOp ixD (fV 6) (fC (.int 0)))) (fCons (fXf "line" [35] (fOp ixD (fV 6) (fC (.int 1)))) (fCons (fXf "most" [36] (fOp ixD (fV 6) (fC (.int 2)))) (fCons (fXf "state" [42] (fOp ixD (fV 6) (fC (.int 3)))) fNil)))))))
abbrev L7t1 : S := (sRet (fC (.bl false)))
abbrev L7t : S := L7t1
abbrev L7 : S := (sIf (fNotB (fTru (fCall 2 (m_law_same 12) (fCons (fV 8) (fCons (fFrz (fLstN (fCons (fV 3) (fCons (fV 2) (fCons (fV 2) (fCons (fV 2) fNil)))))) fNil))))) L7t SR.nx)
abbrev L8 : S := (sSet 9 (fFrz (fLstN (fCons (fC (.str "WrongCount")) (fCons (fC (.str "InvalidText")) (fCons (fC (.str "TooMany")) (fCons (fC (.str "UnknownState")) (fCons (fC (.str "OtherBook")) (fCons (fC (.str "NothingLeft")) fNil)))))))))
abbrev L9 : S := (sRet (fOp eqD (fOp addD (fFrz (fLc [10] (fiA (fV 6)) (.nm 10) fYes (fXf "code" [20, 21, 22, 23, 24, 25, 26, 27, 28, 29, 30, 31, 32, 33, 34, 35, 36, 37, 38, 39, 40, 41, 42, 43, 44, 45] (fV 10)))) (fFrz (fLc [10] (fiA (fV 7)) (.nm 10) fYes (fXf "code" [20, 21, 22, 23, 24, 25, 26, 27, 28, 29, 30, 31, 32, 33, 34, 35, 36, 37, 38, 39, 40, 41, 42, 43, 44, 45] (fV 10))))) (fV 9)))
abbrev L : S := (sSeq L1 (sSeq L2 (sSeq L3 (sSeq L4 (sSeq L5 (sSeq L6 (sSeq L7 (sSeq L8 L9))))))))
theorem L_eq : b_law = L := rfl
section
variable {η : List O} {δ : En}
def XV (c : Nat) (f x : Str) (d : D) : D := .exn c [f, "code"] [d, .str x]
theorem newE1 {c : Nat} {f x : Str} {fe : F D} {d : D} (h : fe δ η = .ok d η) : fNewE c [f] x (fCons fe fNil) δ η = .ok (XV c f x d) η := by
  rw [fNewE_a, fCons_a, h]; rfl
theorem newE0 {c : Nat} {x : Str} : fNewE c [] x fNil δ η = .ok (.exn c ["code"] [.str x]) η := rfl
theorem xf_f {c : Nat} {f x : Str} {d : D} {cs : List Nat} {fe : F D} (hc : c ∈ cs) (h : fe δ η = .ok (XV c f x d) η) : fXf f cs fe δ η = .ok d η := by
  have e : (([f, "code"] : List Str).zip [d, .str x]).lookup f = some d := by simp [List.lookup]
  show (fe δ η).bind _ = _
  rw [h, bind_ok]
  show (if c ∈ cs then match (([f, "code"] : List Str).zip [d, .str x]).lookup f with
    | some x => R.ok x η
    | none => .bad else .bad) = _
  rw [if_pos hc, e]
theorem xf_c {c : Nat} {f x : Str} {d : D} {cs : List Nat} {fe : F D} (hf : (f == ("code" : Str)) = false) (hc : c ∈ cs) (h : fe δ η = .ok (XV c f x d) η) : fXf "code" cs fe δ η = .ok (.str x) η := by
  have hf' : (("code" : Str) == f) = false := by
    rw [beq_eq_false_iff_ne] at hf ⊢
    exact Ne.symm hf
  have e : (([f, "code"] : List Str).zip [d, .str x]).lookup ("code" : Str) = some (D.str x) := by simp [List.lookup, hf']
  show (fe δ η).bind _ = _
  rw [h, bind_ok]
  show (if c ∈ cs then match (([f, "code"] : List Str).zip [d, .str x]).lookup ("code" : Str) with
    | some x => R.ok x η
    | none => .bad else .bad) = _
  rw [if_pos hc, e]
/-- a list of made ones: classes and their names -/
abbrev XL : Type := List (Nat × Str)
def xvs (f : Str) (d : D) (l : XL) : List D := l.map fun p => XV p.1 f p.2 d
/-- the fields of all -/
theorem comp_f {f : Str} {d : D} {l : XL} {i : Nat} {cs : List Nat} {δw : En} (hi : i < δw.length) (hc : ∀ p ∈ l, p.1 ∈ cs) : compF (.nm i) fYes (fXf f cs (fV i)) δw (xvs f d l) η = .ok (l.map fun _ => d) η := by
  have := comp_enc (t := .nm i) (ft := fYes) (fe := fXf f cs (fV i)) (δw := δw) (η := η) (fun p : Nat × Str => XV p.1 f p.2 d) (fun _ => true) (fun p => p) (fun _ => d) (xs := l) fun p hp =>
    ⟨_, asg_nm, rfl, fun _ => xf_f (hc p hp) (by rw [fV_a, List.getElem?_set_self hi])⟩
  rw [List.filter_eq_self.mpr fun _ _ => rfl, List.map_id'] at this
  exact this
theorem comp_c {f : Str} {d : D} {l : XL} {i : Nat} {cs : List Nat} {δw : En} (hf : (f == ("code" : Str)) = false) (hi : i < δw.length) (hc : ∀ p ∈ l, p.1 ∈ cs) : compF (.nm i) fYes (fXf "code" cs (fV i)) δw (xvs f d l) η = .ok ((l.map (·.2)).map .str) η := by
  have := comp_enc (t := .nm i) (ft := fYes) (fe := fXf "code" cs (fV i)) (δw := δw) (η := η) (fun p : Nat × Str => XV p.1 f p.2 d) (fun _ => true) (fun p => p.2) D.str (xs := l) fun p hp =>
    ⟨_, asg_nm, rfl, fun _ => xf_c hf (hc p hp) (by rw [fV_a, List.getElem?_set_self hi])⟩
  rw [List.filter_eq_self.mpr fun _ _ => rfl] at this
  exact this
/-- a text of words, split -/
theorem split_w {z : Str} {ws : List Str} (hz : (cd z).length ≤ 1000) (h : TL.spl [32] 0 [] (cd z) = ws.map cd) : splitS z (.str " ") = some (ws.map .str) := by
  rw [blank, ← S_cd z, spl_one (sep := 32) (by omega) (by decide), h, List.map_map]
  congr 1
abbrev atX : XL := [(21, "InvalidSort"), (22, "InvalidWord"), (24, "InvalidThing"), (25, "InvalidSentence"), (26, "InvalidItem"), (27, "InvalidState"), (31, "InvalidSeen"), (32, "InvalidRow"), (33, "InvalidBell")]
abbrev gvX : XL := [(23, "InvalidMemory"), (28, "InvalidStart"), (29, "InvalidCount"), (30, "InvalidSight"), (43, "UnknownPlace")]
abbrev nmX : XL := [(34, "InvalidName"), (37, "AlreadyIn"), (38, "NotIn"), (40, "UnknownSort"), (41, "UnknownWord"), (44, "UnknownPerson")]
def toldX (d : D) (l : XL) : D := .lst [.lst (l.map fun _ => d), .lst ((l.map (·.2)).map .str), .lst ((l.map (·.2)).map .str)]
theorem zN {n : Nat} (h : n ≤ 1000) : n ≤ sizeLine := by rw [sizeLine_eq]; omega
theorem lst4 {a b c e : F D} {x y z w : D} (h1 : a δ η = .ok x η) (h2 : b δ η = .ok y η) (h3 : c δ η = .ok z η) (h4 : e δ η = .ok w η) : fLstN (fCons a (fCons b (fCons c (fCons e fNil)))) δ η = .ok [x, y, z, w] η := by
  rw [fLstN_a, fCons_a, h1, bind_ok, args3 h2 h3 h4, bind_ok, bind_ok]
  exact if_pos (zN (by show 4 ≤ 1000; decide))
theorem lst3 {a b c : F D} {x y z : D} (h1 : a δ η = .ok x η) (h2 : b δ η = .ok y η) (h3 : c δ η = .ok z η) : fLstN (fCons a (fCons b (fCons c fNil))) δ η = .ok [x, y, z] η := by
  rw [fLstN_a, args3 h1 h2 h3, bind_ok]
  exact if_pos (zN (by show 3 ≤ 1000; decide))
theorem lst2 {a b : F D} {x y : D} (h1 : a δ η = .ok x η) (h2 : b δ η = .ok y η) : fLstN (fCons a (fCons b fNil)) δ η = .ok [x, y] η := by
  rw [fLstN_a, args2 h1 h2, bind_ok]
  exact if_pos (zN (by show 2 ≤ 1000; decide))
theorem places_ok (n : Int) : m_law_places [.int n] η = .ok (toldX (.int n) atX) η := by
  refine run_rt2 (δ := [vl (.int n), none, none, none]) rfl ?_
  rw [P_eq]
  have v0 : ∀ {a b c : Option DL.L}, fV 0 [vl (.int n), a, b, c] η = .ok (.int n) η := fun {a b c} => rfl
  have e1 : P1 [vl (.int n), none, none, none] η = .nx [vl (.int n), ow (xvs "at" (.int n) (atX.take 4)), none, none] η := by
    unfold P1
    rw [sOwn_a, lst4 (newE1 v0) (newE1 v0) (newE1 v0) (newE1 v0), toS_ok]; rfl
  refine sq e1 ?_
  have e2 : P2 [vl (.int n), ow (xvs "at" (.int n) (atX.take 4)), none, none] η = .nx [vl (.int n), ow (xvs "at" (.int n) (atX.take 8)), none, none] η := by
    unfold P2
    rw [sOwn_a, fAddN_a, show fVo 1 [vl (.int n), ow (xvs "at" (.int n) (atX.take 4)), none, none] η = .ok (.lst (xvs "at" (.int n) (atX.take 4))) η from rfl, bind_ok, frzE_of (lst4 (newE1 v0) (newE1 v0) (newE1 v0) (newE1 v0)), bind_ok]
    show (if ((xvs "at" (.int n) (atX.take 4)) ++ [_, _, _, _]).length ≤ sizeLine then _ else _ : R (List D)).toS _ _ = _
    rw [if_pos (zN (by simp [xvs]))]
    rfl
  refine sq e2 ?_
  have e3 : P3 [vl (.int n), ow (xvs "at" (.int n) (atX.take 8)), none, none] η = .nx [vl (.int n), ow (xvs "at" (.int n) atX), none, none] η := app_of (l := xvs "at" (.int n) (atX.take 8)) (d := XV 33 "at" "InvalidBell" (.int n)) rfl (args1 (newE1 v0)) (by simp [xvs])
  refine sq e3 ?_
  refine frz_of rfl ?_
  have w : (("InvalidSort InvalidWord InvalidThing InvalidSentence InvalidItem" : Str).length + (" InvalidState InvalidSeen InvalidRow InvalidBell" : Str).length ≤ sizeLine) = True := eq_true (zN (by decide))
  refine sq (δ1 := [vl (.int n), vl (.lst (xvs "at" (.int n) atX)), vl (.str "InvalidSort InvalidWord InvalidThing InvalidSentence InvalidItem"), none]) (η1 := η) rfl ?_
  refine sq (δ1 := [vl (.int n), vl (.lst (xvs "at" (.int n) atX)), vl (.str (("InvalidSort InvalidWord InvalidThing InvalidSentence InvalidItem" : Str) ++ (" InvalidState InvalidSeen InvalidRow InvalidBell" : Str))), none]) (η1 := η) (set_of (by (try simp only [DLS, Int.cast_ofNat_Int, Nat.reduceAdd, Nat.reduceLeDiff, Nat.reduceEqDiff, Nat.reduceSub, Nat.reduceMul, Nat.reduceBEq, Nat.reduceLT, Int.reduceAdd, Int.reduceSub, Int.reduceMul, Int.reduceNeg, Int.reduceLE, Int.reduceLT, Int.reduceEq, Int.reduceNe, Int.reduceToNat, reduceIte, szT, szlT, w]) <;> rfl)) ?_
  have es := split_w (z := ("InvalidSort InvalidWord InvalidThing InvalidSentence InvalidItem" : Str) ++ (" InvalidState InvalidSeen InvalidRow InvalidBell" : Str)) (ws := atX.map (·.2)) (by decide +kernel) (by decide +kernel)
  generalize ("InvalidSort InvalidWord InvalidThing InvalidSentence InvalidItem" : Str) ++ (" InvalidState InvalidSeen InvalidRow InvalidBell" : Str) = Z at *
  refine ret_of (frzE_of (lst3 (frzE_of (lc_of' (vs := [3]) (fiA_of (fa := fV 1) (d := .lst (xvs "at" (.int n) atX)) (η1 := η) rfl rfl) (comp_f (by show 3 < 4; decide) (by decide)))) (frzE_of (lc_of' (vs := [3]) (fiA_of (fa := fV 1) (d := .lst (xvs "at" (.int n) atX)) (η1 := η) rfl rfl) (comp_c (by decide) (by show 3 < 4; decide) (by decide)))) ?_))
  exact (by (try simp only [DLS, Int.cast_ofNat_Int, Nat.reduceAdd, Nat.reduceLeDiff, Nat.reduceEqDiff, Nat.reduceSub, Nat.reduceMul, Nat.reduceBEq, Nat.reduceLT, Int.reduceAdd, Int.reduceSub, Int.reduceMul, Int.reduceNeg, Int.reduceLE, Int.reduceLT, Int.reduceEq, Int.reduceNe, Int.reduceToNat, reduceIte, szT, szlT, es]) <;> rfl)
theorem given_ok (n : Int) : m_law_given [.int n] η = .ok (toldX (.int n) gvX) η := by
  refine run_rt2 (δ := [vl (.int n), none, none, none]) rfl ?_
  rw [G_eq]
  have v0 : ∀ {a b c : Option DL.L}, fV 0 [vl (.int n), a, b, c] η = .ok (.int n) η := fun {a b c} => rfl
  have e1 : G1 [vl (.int n), none, none, none] η = .nx [vl (.int n), vl (.lst (xvs "given" (.int n) (gvX.take 3))), none, none] η := set_of (frzE_of (lst3 (newE1 v0) (newE1 v0) (newE1 v0)))
  refine sq e1 ?_
  have e2 : G2 [vl (.int n), vl (.lst (xvs "given" (.int n) (gvX.take 3))), none, none] η = .nx [vl (.int n), vl (.lst (xvs "given" (.int n) gvX)), none, none] η := by
    refine set_of ?_
    rw [fOp_a, show fV 1 [vl (.int n), vl (.lst (xvs "given" (.int n) (gvX.take 3))), none, none] η = .ok (.lst (xvs "given" (.int n) (gvX.take 3))) η from rfl, bind_ok, frzE_of (lst2 (newE1 v0) (newE1 v0)), bind_ok, addD_ll, if_pos (zN (by simp [xvs]))]
    rfl
  refine sq e2 (sq (δ1 := [vl (.int n), vl (.lst (xvs "given" (.int n) gvX)), vl (.str "InvalidMemory InvalidStart InvalidCount InvalidSight UnknownPlace"), none]) (η1 := η) rfl ?_)
  have es := split_w (z := ("InvalidMemory InvalidStart InvalidCount InvalidSight UnknownPlace" : Str)) (ws := gvX.map (·.2)) (by decide +kernel) (by decide +kernel)
  refine ret_of (frzE_of (lst3 (frzE_of (lc_of' (vs := [3]) (fiA_of (fa := fV 1) (d := .lst (xvs "given" (.int n) gvX)) (η1 := η) rfl rfl) (comp_f (by show 3 < 4; decide) (by decide)))) (frzE_of (lc_of' (vs := [3]) (fiA_of (fa := fV 1) (d := .lst (xvs "given" (.int n) gvX)) (η1 := η) rfl rfl) (comp_c (by decide) (by show 3 < 4; decide) (by decide)))) ?_))
  exact (by (try simp only [DLS, Int.cast_ofNat_Int, Nat.reduceAdd, Nat.reduceLeDiff, Nat.reduceEqDiff, Nat.reduceSub, Nat.reduceMul, Nat.reduceBEq, Nat.reduceLT, Int.reduceAdd, Int.reduceSub, Int.reduceMul, Int.reduceNeg, Int.reduceLE, Int.reduceLT, Int.reduceEq, Int.reduceNe, Int.reduceToNat, reduceIte, szT, szlT, es]) <;> rfl)
theorem named_ok (z : Str) : m_law_named [.str z] η = .ok (toldX (.str z) nmX) η := by
  refine run_rt2 (δ := [vl (.str z), none, none, none]) rfl ?_
  rw [N_eq]
  have v0 : ∀ {a b c : Option DL.L}, fV 0 [vl (.str z), a, b, c] η = .ok (.str z) η := fun {a b c} => rfl
  have e1 : N1 [vl (.str z), none, none, none] η = .nx [vl (.str z), vl (.lst (xvs "name" (.str z) (nmX.take 4))), none, none] η := set_of (frzE_of (lst4 (newE1 v0) (newE1 v0) (newE1 v0) (newE1 v0)))
  refine sq e1 ?_
  have e2 : N2 [vl (.str z), vl (.lst (xvs "name" (.str z) (nmX.take 4))), none, none] η = .nx [vl (.str z), vl (.lst (xvs "name" (.str z) nmX)), none, none] η := by
    refine set_of ?_
    rw [fOp_a, show fV 1 [vl (.str z), vl (.lst (xvs "name" (.str z) (nmX.take 4))), none, none] η = .ok (.lst (xvs "name" (.str z) (nmX.take 4))) η from rfl, bind_ok, frzE_of (lst2 (newE1 v0) (newE1 v0)), bind_ok, addD_ll, if_pos (zN (by simp [xvs]))]
    rfl
  refine sq e2 (sq (δ1 := [vl (.str z), vl (.lst (xvs "name" (.str z) nmX)), vl (.str "InvalidName AlreadyIn NotIn UnknownSort UnknownWord UnknownPerson"), none]) (η1 := η) rfl ?_)
  have es := split_w (z := ("InvalidName AlreadyIn NotIn UnknownSort UnknownWord UnknownPerson" : Str)) (ws := nmX.map (·.2)) (by decide +kernel) (by decide +kernel)
  refine ret_of (frzE_of (lst3 (frzE_of (lc_of' (vs := [3]) (fiA_of (fa := fV 1) (d := .lst (xvs "name" (.str z) nmX)) (η1 := η) rfl rfl) (comp_f (by show 3 < 4; decide) (by decide)))) (frzE_of (lc_of' (vs := [3]) (fiA_of (fa := fV 1) (d := .lst (xvs "name" (.str z) nmX)) (η1 := η) rfl rfl) (comp_c (by decide) (by show 3 < 4; decide) (by decide)))) ?_))
  exact (by (try simp only [DLS, Int.cast_ofNat_Int, Nat.reduceAdd, Nat.reduceLeDiff, Nat.reduceEqDiff, Nat.reduceSub, Nat.reduceMul, Nat.reduceBEq, Nat.reduceLT, Int.reduceAdd, Int.reduceSub, Int.reduceMul, Int.reduceNeg, Int.reduceLE, Int.reduceLT, Int.reduceEq, Int.reduceNe, Int.reduceToNat, reduceIte, szT, szlT, es]) <;> rfl)
end
section
variable {η : List O} {δ : En}
/-- one of the three tellings -/
theorem told_ok (hl : δ.length = 11) {d : D} {X : XL} (hX : 1 ≤ X.length ∧ X.length ≤ 9) (h4 : δ[4]? = some (vl (toldX d X))) (h5 : δ[5]? = some (vl d)) (hs : samB 12 (.lst [.lst (X.map fun _ => d), .lst ((X.map (·.2)).map .str)]) = true) : L3b1 δ η = .nx δ η := by
  have cu : cutD [D.lst (X.map fun _ => d), .lst ((X.map (·.2)).map .str), .lst ((X.map (·.2)).map .str)] none (some 2) = [D.lst (X.map fun _ => d), .lst ((X.map (·.2)).map .str)] := cut_to (k := 2) (by simp)
  have i2 : L2.atI [D.lst (X.map fun _ => d), .lst ((X.map (·.2)).map .str), .lst ((X.map (·.2)).map .str)] 2 = some (.lst ((X.map (·.2)).map .str)) := rfl
  have el : lenD (.lst ((X.map (·.2)).map .str)) = some (.int (X.length : Nat)) := by rw [lenD_l, List.length_map, List.length_map]
  have rb : repB [d].length ((X.length : Nat) : Int) = true := by
    unfold repB
    rw [sizeLine_eq, List.length_singleton, Int.toNat_natCast]
    simp
    omega
  have ml : mulLD (.lst [d]) (.int (X.length : Nat)) = some (.lst (X.map fun _ => d)) := by
    rw [mulLD_l, if_pos rb, Int.toNat_natCast]
    have : (List.replicate X.length [d]).flatten = X.map fun _ => d := by
      rw [List.flatten_replicate_singleton, List.map_const']
    rw [this]
  have es := same_ok (η := η) hs
  have h4 : δ[4]? = some (vl (.lst [.lst (X.map fun _ => d), .lst ((X.map (·.2)).map .str), .lst ((X.map (·.2)).map .str)])) := h4
  have x4 : fV 4 δ η = .ok (.lst [.lst (X.map fun _ => d), .lst ((X.map (·.2)).map .str), .lst ((X.map (·.2)).map .str)]) η := (by (try simp only [DLS, Int.cast_ofNat_Int, Nat.reduceAdd, Nat.reduceLeDiff, Nat.reduceEqDiff, Nat.reduceSub, Nat.reduceMul, Nat.reduceBEq, Nat.reduceLT, Int.reduceAdd, Int.reduceSub, Int.reduceMul, Int.reduceNeg, Int.reduceLE, Int.reduceLT, Int.reduceEq, Int.reduceNe, Int.reduceToNat, reduceIte, szT, szlT, h4]) <;> rfl)
  generalize hA : D.lst (X.map fun _ => d) = A at *
  generalize hW : D.lst ((X.map (·.2)).map .str) = W at *
  have a1 : fSl (fV 4) fNoP (fPt (fC (.int 2))) δ η = .ok (.lst [A, W]) η := (by (try simp only [DLS, Int.cast_ofNat_Int, Nat.reduceAdd, Nat.reduceLeDiff, Nat.reduceEqDiff, Nat.reduceSub, Nat.reduceMul, Nat.reduceBEq, Nat.reduceLT, Int.reduceAdd, Int.reduceSub, Int.reduceMul, Int.reduceNeg, Int.reduceLE, Int.reduceLT, Int.reduceEq, Int.reduceNe, Int.reduceToNat, reduceIte, szT, szlT, h4, cu]) <;> rfl)
  have a2 : fFrz (fLstN (fCons (fOp mulLD (fFrz (fLstN (fCons (fV 5) fNil))) (fCall1 lenD (fOp ixD (fV 4) (fC (.int 2))))) (fCons (fOp ixD (fV 4) (fC (.int 2))) fNil))) δ η = .ok (.lst [A, W]) η := by
    have z1 : (1 : Nat) ≤ sizeLine := zN (by decide)
    have b1 : fOp mulLD (fFrz (fLstN (fCons (fV 5) fNil))) (fCall1 lenD (fOp ixD (fV 4) (fC (.int 2)))) δ η = .ok A η := by
      rw [fOp_a, show fFrz (fLstN (fCons (fV 5) fNil)) δ η = .ok (.lst [d]) η from (by (try simp only [DLS, Int.cast_ofNat_Int, Nat.reduceAdd, Nat.reduceLeDiff, Nat.reduceEqDiff, Nat.reduceSub, Nat.reduceMul, Nat.reduceBEq, Nat.reduceLT, Int.reduceAdd, Int.reduceSub, Int.reduceMul, Int.reduceNeg, Int.reduceLE, Int.reduceLT, Int.reduceEq, Int.reduceNe, Int.reduceToNat, reduceIte, szT, szlT, h5, z1]) <;> rfl), bind_ok, show fCall1 lenD (fOp ixD (fV 4) (fC (.int 2))) δ η = .ok (.int (X.length : Nat)) η from (by (try simp only [DLS, Int.cast_ofNat_Int, Nat.reduceAdd, Nat.reduceLeDiff, Nat.reduceEqDiff, Nat.reduceSub, Nat.reduceMul, Nat.reduceBEq, Nat.reduceLT, Int.reduceAdd, Int.reduceSub, Int.reduceMul, Int.reduceNeg, Int.reduceLE, Int.reduceLT, Int.reduceEq, Int.reduceNe, Int.reduceToNat, reduceIte, szT, szlT, h4, i2, el]) <;> rfl), bind_ok, ml]; rfl
    exact frzE_of (lst2 b1 (by (try simp only [DLS, Int.cast_ofNat_Int, Nat.reduceAdd, Nat.reduceLeDiff, Nat.reduceEqDiff, Nat.reduceSub, Nat.reduceMul, Nat.reduceBEq, Nat.reduceLT, Int.reduceAdd, Int.reduceSub, Int.reduceMul, Int.reduceNeg, Int.reduceLE, Int.reduceLT, Int.reduceEq, Int.reduceNe, Int.reduceToNat, reduceIte, szT, szlT, h4, i2]) <;> rfl))
  refine if_fn (η1 := η) ?_
  rw [fNotB_a, fTru_a, call_of (k := 2) (args2 a1 a2) rfl es]
  rfl
theorem law_true : ∀ ns : List Int, ns.length ≤ 63 → ∃ η, m_law [DL.D.lst (ns.map DL.D.int)] [] = DL.R.ok (DL.D.bl true) η := by
  intro ns hns
  obtain ⟨η1, e1, f1, _⟩ := feedF hns []
  have e1 : m_law_feed [.lst (ns.map .int)] [] = .ok (.obj 0) η1 := e1
  have f1 : FA_ 0 η1 := f1
  generalize hN : D.lst (ns.map D.int) = N0 at *
  suffices h : ∃ η', b_law [vl N0, none, none, none, none, none, none, none, none, none, none] [] = .rt (.bl true) η' by
    obtain ⟨η', h⟩ := h
    exact ⟨η', run_rt2 rfl h⟩
  rw [L_eq]
  refine sqE (P := fun r => ∃ η', r = SR.rt (.bl true) η') (δ1 := [vl N0, vl (.obj 0), none, none, none, none, none, none, none, none, none]) (η1 := η1) (by (try simp only [DLS, Int.cast_ofNat_Int, Nat.reduceAdd, Nat.reduceLeDiff, Nat.reduceEqDiff, Nat.reduceSub, Nat.reduceMul, Nat.reduceBEq, Nat.reduceLT, Int.reduceAdd, Int.reduceSub, Int.reduceMul, Int.reduceNeg, Int.reduceLE, Int.reduceLT, Int.reduceEq, Int.reduceNe, Int.reduceToNat, reduceIte, szT, szlT, e1]) <;> rfl) ?_
  obtain ⟨p, η2, e2, s2, _⟩ := pickF f1 1000 (by decide) (by decide)
  have e2 : m_law_pick [.obj 0, .int 1000] η1 = .ok (.int p) η2 := e2
  obtain ⟨v, η3, e3, s3, _⟩ := ofM (enc := D.int) s2.feed [0, 1, -1, 10 ^ 29, (p : Int)] (by simp) (by simp)
  have e3 : m_law_of [.obj 0, .lst [.int 0, .int 1, .int (-1), .int (10 ^ 29), .int p]] η2 = .ok (.int v) η3 := e3
  obtain ⟨nm, η4, e4, s4, n1, _⟩ := namesF s3.feed (m := 1) (by decide)
  have e4 : m_law_names [.obj 0, .int 1] η3 = .ok (.lst (nm.map .str)) η4 := e4
  obtain ⟨z, rfl⟩ : ∃ z, nm = [z] := by
    match nm, n1 with
    | [z], _ => exact ⟨z, rfl⟩
  have pw : powD (.int 10) (.int 29) = some (.int (10 ^ 29)) := by rfl
  have z5 : (5 : Nat) ≤ sizeLine := zN (by decide)
  have q2 : fCall 2 m_law_of (fCons (fV 1) (fCons (fFrz (fLstN (fCons (fC (.int 0)) (fCons (fC (.int 1)) (fCons (fNeg (fC (.int 1))) (fCons (fOp powD (fC (.int 10)) (fC (.int 29))) (fCons (fCall 2 m_law_pick (fCons (fV 1) (fCons (fC (.int 1000)) fNil))) fNil))))))) fNil)) [vl N0, vl (.obj 0), none, none, none, none, none, none, none, none, none] η1 = .ok (.int v) η3 := by
    have c29 : fOp powD (fC (.int 10)) (fC (.int 29)) [vl N0, vl (.obj 0), none, none, none, none, none, none, none, none, none] η1 = .ok (.int (10 ^ 29)) η1 := by rw [fOp_a, fC_a, bind_ok, fC_a, bind_ok, pw]; rfl
    generalize (10 ^ 29 : Int) = BIG at *
    generalize fOp powD (fC (.int 10)) (fC (.int 29)) = FB at *
    exact (by (try simp only [DLS, Int.cast_ofNat_Int, Nat.reduceAdd, Nat.reduceLeDiff, Nat.reduceEqDiff, Nat.reduceSub, Nat.reduceMul, Nat.reduceBEq, Nat.reduceLT, Int.reduceAdd, Int.reduceSub, Int.reduceMul, Int.reduceNeg, Int.reduceLE, Int.reduceLT, Int.reduceEq, Int.reduceNe, Int.reduceToNat, reduceIte, szT, szlT, c29, e2, e3, z5]) <;> rfl)
  have q3 : fOp ixD (fCall 2 m_law_names (fCons (fV 1) (fCons (fC (.int 1)) fNil))) (fC (.int 0)) [vl N0, vl (.obj 0), none, none, none, none, none, none, none, none, none] η3 = .ok (.str z) η4 := by
    have i0 : L2.atI [D.str z] 0 = some (.str z) := rfl
    exact (by (try simp only [DLS, Int.cast_ofNat_Int, Nat.reduceAdd, Nat.reduceLeDiff, Nat.reduceEqDiff, Nat.reduceSub, Nat.reduceMul, Nat.reduceBEq, Nat.reduceLT, Int.reduceAdd, Int.reduceSub, Int.reduceMul, Int.reduceNeg, Int.reduceLE, Int.reduceLT, Int.reduceEq, Int.reduceNe, Int.reduceToNat, reduceIte, szT, szlT, e4, i0]) <;> rfl)
  have r2 : L2 [vl N0, vl (.obj 0), none, none, none, none, none, none, none, none, none] η1 = .nx [vl N0, vl (.obj 0), vl (.int v), vl (.str z), none, none, none, none, none, none, none] η4 := by
    unfold L2
    rw [sPar_a, q2, toS_ok, q3, toS_ok]; rfl
  refine sqE (P := fun r => ∃ η', r = SR.rt (.bl true) η') r2 ?_
  -- the three
  have p1 := places_ok (η := η4) v
  have p2 := given_ok (η := η4) v
  have p3 := named_ok (η := η4) z
  have g3 : ∀ {d x : D}, (2 : Nat) ≤ sizeLine := fun {d x} => zN (by decide)
  have z2 : (2 : Nat) ≤ sizeLine := zN (by decide)
  have hR : fiA (fFrz (fLstN (fCons (fTup (fCons (fCall 1 m_law_places (fCons (fV 2) fNil)) (fCons (fV 2) fNil))) (fCons (fTup (fCons (fCall 1 m_law_given (fCons (fV 2) fNil)) (fCons (fV 2) fNil))) (fCons (fTup (fCons (fCall 1 m_law_named (fCons (fV 3) fNil)) (fCons (fV 3) fNil))) fNil))))) [vl N0, vl (.obj 0), vl (.int v), vl (.str z), none, none, none, none, none, none, none] η4 =
      .ok [.tup [toldX (.int v) atX, .int v], .tup [toldX (.int v) gvX, .int v], .tup [toldX (.str z) nmX, .str z]] η4 := by
    generalize toldX (.int v) atX = A1 at *
    generalize toldX (.int v) gvX = A2 at *
    generalize toldX (.str z) nmX = A3 at *
    exact fiA_of (frzE_of (lst3 (by (try simp only [DLS, Int.cast_ofNat_Int, Nat.reduceAdd, Nat.reduceLeDiff, Nat.reduceEqDiff, Nat.reduceSub, Nat.reduceMul, Nat.reduceBEq, Nat.reduceLT, Int.reduceAdd, Int.reduceSub, Int.reduceMul, Int.reduceNeg, Int.reduceLE, Int.reduceLT, Int.reduceEq, Int.reduceNe, Int.reduceToNat, reduceIte, szT, szlT, p1, z2]) <;> rfl) (by (try simp only [DLS, Int.cast_ofNat_Int, Nat.reduceAdd, Nat.reduceLeDiff, Nat.reduceEqDiff, Nat.reduceSub, Nat.reduceMul, Nat.reduceBEq, Nat.reduceLT, Int.reduceAdd, Int.reduceSub, Int.reduceMul, Int.reduceNeg, Int.reduceLE, Int.reduceLT, Int.reduceEq, Int.reduceNe, Int.reduceToNat, reduceIte, szT, szlT, p2, z2]) <;> rfl) (by (try simp only [DLS, Int.cast_ofNat_Int, Nat.reduceAdd, Nat.reduceLeDiff, Nat.reduceEqDiff, Nat.reduceSub, Nat.reduceMul, Nat.reduceBEq, Nat.reduceLT, Int.reduceAdd, Int.reduceSub, Int.reduceMul, Int.reduceNeg, Int.reduceLE, Int.reduceLT, Int.reduceEq, Int.reduceNe, Int.reduceToNat, reduceIte, szT, szlT, p3, z2]) <;> rfl))) rfl
  have el : loopF (.tp [.nm 4, .nm 5]) L3b [.tup [toldX (.int v) atX, .int v], .tup [toldX (.int v) gvX, .int v], .tup [toldX (.str z) nmX, .str z]] [vl N0, vl (.obj 0), vl (.int v), vl (.str z), none, none, none, none, none, none, none] η4 = .nx [vl N0, vl (.obj 0), vl (.int v), vl (.str z), vl (toldX (.str z) nmX), vl (.str z), none, none, none, none, none] η4 := by
    have t1 := told_ok (η := η4) (δ := [vl N0, vl (.obj 0), vl (.int v), vl (.str z), vl (toldX (.int v) atX), vl (.int v), none, none, none, none, none]) rfl (d := .int v) (X := atX) (by decide) rfl rfl rfl
    have t2 := told_ok (η := η4) (δ := [vl N0, vl (.obj 0), vl (.int v), vl (.str z), vl (toldX (.int v) gvX), vl (.int v), none, none, none, none, none]) rfl (d := .int v) (X := gvX) (by decide) rfl rfl rfl
    have t3 := told_ok (η := η4) (δ := [vl N0, vl (.obj 0), vl (.int v), vl (.str z), vl (toldX (.str z) nmX), vl (.str z), none, none, none, none, none]) rfl (d := .str z) (X := nmX) (by decide) rfl rfl rfl
    generalize toldX (.int v) atX = A1 at *
    generalize toldX (.int v) gvX = A2 at *
    generalize toldX (.str z) nmX = A3 at *
    rw [loopF, show asg (.tp [.nm 4, .nm 5]) (.tup [A1, .int v]) _ = some [vl N0, vl (.obj 0), vl (.int v), vl (.str z), vl A1, vl (.int v), none, none, none, none, none] from rfl]
    dsimp only
    rw [show L3b _ _ = _ from t1]
    show loopF _ _ _ _ _ = _
    rw [loopF, show asg (.tp [.nm 4, .nm 5]) (.tup [A2, .int v]) _ = some [vl N0, vl (.obj 0), vl (.int v), vl (.str z), vl A2, vl (.int v), none, none, none, none, none] from rfl]
    dsimp only
    rw [show L3b _ _ = _ from t2]
    show loopF _ _ _ _ _ = _
    rw [loopF, show asg (.tp [.nm 4, .nm 5]) (.tup [A3, .str z]) _ = some [vl N0, vl (.obj 0), vl (.int v), vl (.str z), vl A3, vl (.str z), none, none, none, none, none] from rfl]
    dsimp only
    rw [show L3b _ _ = _ from t3]
    rfl
  refine sqE (P := fun r => ∃ η', r = SR.rt (.bl true) η') (for_of hR el) ?_
  generalize toldX (.str z) nmX = T4
  -- the last six
  have v2 : ∀ {a b c d e f g : Option DL.L}, fV 2 [vl N0, vl (.obj 0), vl (.int v), vl (.str z), a, b, c, d, e, f, g] η4 = .ok (.int v) η4 := fun {a b c d e f g} => rfl
  have v3 : ∀ {a b c d e f g : Option DL.L}, fV 3 [vl N0, vl (.obj 0), vl (.int v), vl (.str z), a, b, c, d, e, f, g] η4 = .ok (.str z) η4 := fun {a b c d e f g} => rfl
  have r4 : L4 [vl N0, vl (.obj 0), vl (.int v), vl (.str z), vl T4, vl (.str z), none, none, none, none, none] η4 = .nx [vl N0, vl (.obj 0), vl (.int v), vl (.str z), vl T4, vl (.str z), vl (.lst [XV 20 "what" "WrongCount" (.str z), XV 35 "line" "InvalidText" (.int v), XV 36 "most" "TooMany" (.int v), XV 42 "state" "UnknownState" (.int v)]), none, none, none, none] η4 :=
    set_of (frzE_of (lst4 (newE1 v3) (newE1 v2) (newE1 v2) (newE1 v2)))
  refine sqE (P := fun r => ∃ η', r = SR.rt (.bl true) η') r4 ?_
  generalize hM : D.lst [XV 20 "what" "WrongCount" (.str z), XV 35 "line" "InvalidText" (.int v), XV 36 "most" "TooMany" (.int v), XV 42 "state" "UnknownState" (.int v)] = M6
  have r5 : L5 [vl N0, vl (.obj 0), vl (.int v), vl (.str z), vl T4, vl (.str z), vl M6, none, none, none, none] η4 = .nx [vl N0, vl (.obj 0), vl (.int v), vl (.str z), vl T4, vl (.str z), vl M6, vl (.lst [.exn 39 ["code"] [.str "OtherBook"], .exn 45 ["code"] [.str "NothingLeft"]]), none, none, none] η4 := set_of (frzE_of (lst2 newE0 newE0))
  refine sqE (P := fun r => ∃ η', r = SR.rt (.bl true) η') r5 ?_
  generalize hM7 : D.lst [D.exn 39 ["code"] [.str "OtherBook"], .exn 45 ["code"] [.str "NothingLeft"]] = M7
  have ix : ∀ (k : Int) (d : D) {a b c e : Option DL.L}, L2.atI [XV 20 "what" "WrongCount" (.str z), XV 35 "line" "InvalidText" (.int v), XV 36 "most" "TooMany" (.int v), XV 42 "state" "UnknownState" (.int v)] k = some d → fOp ixD (fV 6) (fC (.int k)) [vl N0, vl (.obj 0), vl (.int v), vl (.str z), vl T4, vl (.str z), vl M6, a, b, c, e] η4 = .ok d η4 := fun k d {a b c e} h => by
    rw [fOp_a, show fV 6 [vl N0, vl (.obj 0), vl (.int v), vl (.str z), vl T4, vl (.str z), vl M6, a, b, c, e] η4 = .ok M6 η4 from rfl, bind_ok, fC_a, bind_ok, ← hM, ixD_l, h]; rfl
  have r6 : L6 [vl N0, vl (.obj 0), vl (.int v), vl (.str z), vl T4, vl (.str z), vl M6, vl M7, none, none, none] η4 = .nx [vl N0, vl (.obj 0), vl (.int v), vl (.str z), vl T4, vl (.str z), vl M6, vl M7, vl (.lst [.str z, .int v, .int v, .int v]), none, none] η4 :=
    set_of (frzE_of (lst4 (xf_f (c := 20) (x := "WrongCount") (by decide) (ix 0 _ rfl)) (xf_f (c := 35) (x := "InvalidText") (by decide) (ix 1 _ rfl)) (xf_f (c := 36) (x := "TooMany") (by decide) (ix 2 _ rfl)) (xf_f (c := 42) (x := "UnknownState") (by decide) (ix 3 _ rfl))))
  refine sqE (P := fun r => ∃ η', r = SR.rt (.bl true) η') r6 ?_
  have es := same_ok (n := 12) (d := .lst [.str z, .int v, .int v, .int v]) (η := η4) rfl
  have r7 : L7 [vl N0, vl (.obj 0), vl (.int v), vl (.str z), vl T4, vl (.str z), vl M6, vl M7, vl (.lst [.str z, .int v, .int v, .int v]), none, none] η4 = .nx [vl N0, vl (.obj 0), vl (.int v), vl (.str z), vl T4, vl (.str z), vl M6, vl M7, vl (.lst [.str z, .int v, .int v, .int v]), none, none] η4 := by
    refine if_fn (η1 := η4) ?_
    rw [fNotB_a, fTru_a, call_of (k := 2) (args2 (d := .lst [.str z, .int v, .int v, .int v]) (η1 := η4) rfl (frzE_of (lst4 v3 v2 v2 v2))) rfl es]
    rfl
  refine sqE (P := fun r => ∃ η', r = SR.rt (.bl true) η') r7 ?_
  have z6 : (6 : Nat) ≤ sizeLine := zN (by decide)
  refine sqE (P := fun r => ∃ η', r = SR.rt (.bl true) η') (δ1 := [vl N0, vl (.obj 0), vl (.int v), vl (.str z), vl T4, vl (.str z), vl M6, vl M7, vl (.lst [.str z, .int v, .int v, .int v]), vl (.lst [.str "WrongCount", .str "InvalidText", .str "TooMany", .str "UnknownState", .str "OtherBook", .str "NothingLeft"]), none]) (η1 := η4) (by (try simp only [DLS, Int.cast_ofNat_Int, Nat.reduceAdd, Nat.reduceLeDiff, Nat.reduceEqDiff, Nat.reduceSub, Nat.reduceMul, Nat.reduceBEq, Nat.reduceLT, Int.reduceAdd, Int.reduceSub, Int.reduceMul, Int.reduceNeg, Int.reduceLE, Int.reduceLT, Int.reduceEq, Int.reduceNe, Int.reduceToNat, reduceIte, szT, szlT, z6]) <;> rfl) ?_
  refine ⟨η4, ret_of ?_⟩
  generalize hδ : [vl N0, vl (.obj 0), vl (.int v), vl (.str z), vl T4, vl (.str z), vl M6, vl M7, vl (.lst [.str z, .int v, .int v, .int v]), vl (.lst [.str "WrongCount", .str "InvalidText", .str "TooMany", .str "UnknownState", .str "OtherBook", .str "NothingLeft"]), none] = δ
  have d6 : fV 6 δ η4 = .ok M6 η4 := by rw [← hδ]; rfl
  have d7 : fV 7 δ η4 = .ok M7 η4 := by rw [← hδ]; rfl
  have d9 : fV 9 δ η4 = .ok (.lst [.str "WrongCount", .str "InvalidText", .str "TooMany", .str "UnknownState", .str "OtherBook", .str "NothingLeft"]) η4 := by rw [← hδ]; rfl
  have lδ : (wipeD δ [10]).length = 11 := by rw [← hδ]; rfl
  clear hδ
  have one : ∀ {c : Nat} {ns : List Str} {l : List D} {x : Str} {ds ys : List D}, c ∈ ([20, 21, 22, 23, 24, 25, 26, 27, 28, 29, 30, 31, 32, 33, 34, 35, 36, 37, 38, 39, 40, 41, 42, 43, 44, 45] : List Nat) → (ns.zip l).lookup ("code" : Str) = some (D.str x) →
      compF (.nm 10) fYes (fXf "code" [20, 21, 22, 23, 24, 25, 26, 27, 28, 29, 30, 31, 32, 33, 34, 35, 36, 37, 38, 39, 40, 41, 42, 43, 44, 45] (fV 10)) (wipeD δ [10]) ds η4 = .ok ys η4 →
      compF (.nm 10) fYes (fXf "code" [20, 21, 22, 23, 24, 25, 26, 27, 28, 29, 30, 31, 32, 33, 34, 35, 36, 37, 38, 39, 40, 41, 42, 43, 44, 45] (fV 10)) (wipeD δ [10]) (.exn c ns l :: ds) η4 = .ok (.str x :: ys) η4 := fun {c ns l x ds ys} hc hx hr => by
    have e : fXf "code" [20, 21, 22, 23, 24, 25, 26, 27, 28, 29, 30, 31, 32, 33, 34, 35, 36, 37, 38, 39, 40, 41, 42, 43, 44, 45] (fV 10) ((wipeD δ [10]).set 10 (vl (.exn c ns l))) η4 = .ok (.str x) η4 := by
      show (fV 10 ((wipeD δ [10]).set 10 (vl (.exn c ns l))) η4).bind _ = _
      rw [fV_a, List.getElem?_set_self (by rw [lδ]; decide)]
      show (if c ∈ [20, 21, 22, 23, 24, 25, 26, 27, 28, 29, 30, 31, 32, 33, 34, 35, 36, 37, 38, 39, 40, 41, 42, 43, 44, 45] then match (ns.zip l).lookup ("code" : Str) with
        | some x => R.ok x η4
        | none => .bad else .bad) = _
      rw [if_pos hc, hx]
    have y : fYes ((wipeD δ [10]).set 10 (vl (.exn c ns l))) η4 = .ok true η4 := rfl
    rw [compF, asg_nm]
    dsimp only
    rw [y]
    simp only [bind_ok, if_true, nox_ok]
    rw [e]
    simp only [bind_ok, nox_ok]
    rw [hr]
    rfl
  have nil : compF (.nm 10) fYes (fXf "code" [20, 21, 22, 23, 24, 25, 26, 27, 28, 29, 30, 31, 32, 33, 34, 35, 36, 37, 38, 39, 40, 41, 42, 43, 44, 45] (fV 10)) (wipeD δ [10]) [] η4 = .ok [] η4 := rfl
  have c6 := frzE_of (lc_of' (vs := [10]) (fiA_of (fa := fV 6) (d := M6) (η1 := η4) d6 (by rw [← hM]; rfl)) (one (by decide) rfl (one (by decide) rfl (one (by decide) rfl (one (by decide) rfl nil)))))
  have c7 := frzE_of (lc_of' (vs := [10]) (fiA_of (fa := fV 7) (d := M7) (η1 := η4) d7 (by rw [← hM7]; rfl)) (one (by decide) rfl (one (by decide) rfl nil)))
  have q : eqD (.lst [.str "WrongCount", .str "InvalidText", .str "TooMany", .str "UnknownState", .str "OtherBook", .str "NothingLeft"]) (.lst [.str "WrongCount", .str "InvalidText", .str "TooMany", .str "UnknownState", .str "OtherBook", .str "NothingLeft"]) = some (.bl true) := eqD_self rfl
  rw [fOp_a, fOp_a, c6, bind_ok, c7, bind_ok, addD_ll, if_pos (zN (by show 6 ≤ 1000; decide)), lift_some, bind_ok, d9, bind_ok]
  show lift (eqD (.lst [.str "WrongCount", .str "InvalidText", .str "TooMany", .str "UnknownState", .str "OtherBook", .str "NothingLeft"]) _) η4 = _
  rw [q]
  rfl
end
end Law
open PySem PySem.W PyProof.Rows in
set_option maxRecDepth 100000 in
set_option maxHeartbeats 0 in
theorem PySem.Challenge.cw_lastheard_k69_errors_made_by_name_holds : PySem.Challenge.rw_lastheard_k69_errors_made_by_name.Holds := by
  w_on; o_law; k_head; (case hw => w_witness2)
  k_fill
  refine Law.walk Law.law_true (l := PySem.Challenge.rw_lastheard_k69_errors_made_by_name) rfl rfl (fun w h Y => PySem.W.kIn_of Y) ?F
  case F =>
    intro w mg fa h KX G hmg
    refine' Law.all_mk KX G hmg ?a0 ?l0 ?c0_ ?k0 ?a1 ?l1 ?c1_ ?k1 ?a2 ?l2 ?c2_ ?k2 ?a3 ?l3 ?c3_ ?k3 ?a4 ?l4 ?c4_ ?k4 ?a5 ?l5 ?c5_ ?k5 ?a6 ?l6 ?c6_ ?k6 ?a7 ?l7 ?c7_ ?k7 ?a8 ?l8 ?c8_ ?k8 ?a9 ?l9 ?c9_ ?k9 ?z_all ?z_bool ?z_int ?z_isinstance ?z_len ?z_list ?z_range ?z_str ?z_tuple ?z_zip ?C20 ?C21 ?C22 ?C23 ?C24 ?C25 ?C26 ?C27 ?C28 ?C29 ?C30 ?C31 ?C32 ?C33 ?C34 ?C35 ?C36 ?C37 ?C38 ?C39 ?C40 ?C41 ?C42 ?C43 ?C44 ?C45 ?xany ?xsup ?xtop ?xa20 ?xl20 ?xb20 ?xc20 ?xd20 ?xe20 ?xg20 ?xh20 ?xi20 ?xj20 ?xk20 ?xm20 ?xn20 ?xo20 ?xp20 ?xq20 ?xr20 ?xs20 ?xt20_what ?xt20_code ?xa21 ?xl21 ?xb21 ?xc21 ?xd21 ?xe21 ?xg21 ?xh21 ?xi21 ?xj21 ?xk21 ?xm21 ?xn21 ?xo21 ?xp21 ?xq21 ?xr21 ?xs21 ?xt21_at ?xt21_code ?xa22 ?xl22 ?xb22 ?xc22 ?xd22 ?xe22 ?xg22 ?xh22 ?xi22 ?xj22 ?xk22 ?xm22 ?xn22 ?xo22 ?xp22 ?xq22 ?xr22 ?xs22 ?xt22_at ?xt22_code ?xa23 ?xl23 ?xb23 ?xc23 ?xd23 ?xe23 ?xg23 ?xh23 ?xi23 ?xj23 ?xk23 ?xm23 ?xn23 ?xo23 ?xp23 ?xq23 ?xr23 ?xs23 ?xt23_given ?xt23_code ?xa24 ?xl24 ?xb24 ?xc24 ?xd24 ?xe24 ?xg24 ?xh24 ?xi24 ?xj24 ?xk24 ?xm24 ?xn24 ?xo24 ?xp24 ?xq24 ?xr24 ?xs24 ?xt24_at ?xt24_code ?xa25 ?xl25 ?xb25 ?xc25 ?xd25 ?xe25 ?xg25 ?xh25 ?xi25 ?xj25 ?xk25 ?xm25 ?xn25 ?xo25 ?xp25 ?xq25 ?xr25 ?xs25 ?xt25_at ?xt25_code ?xa26 ?xl26 ?xb26 ?xc26 ?xd26 ?xe26 ?xg26 ?xh26 ?xi26 ?xj26 ?xk26 ?xm26 ?xn26 ?xo26 ?xp26 ?xq26 ?xr26 ?xs26 ?xt26_at ?xt26_code ?xa27 ?xl27 ?xb27 ?xc27 ?xd27 ?xe27 ?xg27 ?xh27 ?xi27 ?xj27 ?xk27 ?xm27 ?xn27 ?xo27 ?xp27 ?xq27 ?xr27 ?xs27 ?xt27_at ?xt27_code ?xa28 ?xl28 ?xb28 ?xc28 ?xd28 ?xe28 ?xg28 ?xh28 ?xi28 ?xj28 ?xk28 ?xm28 ?xn28 ?xo28 ?xp28 ?xq28 ?xr28 ?xs28 ?xt28_given ?xt28_code ?xa29 ?xl29 ?xb29 ?xc29 ?xd29 ?xe29 ?xg29 ?xh29 ?xi29 ?xj29 ?xk29 ?xm29 ?xn29 ?xo29 ?xp29 ?xq29 ?xr29 ?xs29 ?xt29_given ?xt29_code ?xa30 ?xl30 ?xb30 ?xc30 ?xd30 ?xe30 ?xg30 ?xh30 ?xi30 ?xj30 ?xk30 ?xm30 ?xn30 ?xo30 ?xp30 ?xq30 ?xr30 ?xs30 ?xt30_given ?xt30_code ?xa31 ?xl31 ?xb31 ?xc31 ?xd31 ?xe31 ?xg31 ?xh31 ?xi31 ?xj31 ?xk31 ?xm31 ?xn31 ?xo31 ?xp31 ?xq31 ?xr31 ?xs31 ?xt31_at ?xt31_code ?xa32 ?xl32 ?xb32 ?xc32 ?xd32 ?xe32 ?xg32 ?xh32 ?xi32 ?xj32 ?xk32 ?xm32 ?xn32 ?xo32 ?xp32 ?xq32 ?xr32 ?xs32 ?xt32_at ?xt32_code ?xa33 ?xl33 ?xb33 ?xc33 ?xd33 ?xe33 ?xg33 ?xh33 ?xi33 ?xj33 ?xk33 ?xm33 ?xn33 ?xo33 ?xp33 ?xq33 ?xr33 ?xs33 ?xt33_at ?xt33_code ?xa34 ?xl34 ?xb34 ?xc34 ?xd34 ?xe34 ?xg34 ?xh34 ?xi34 ?xj34 ?xk34 ?xm34 ?xn34 ?xo34 ?xp34 ?xq34 ?xr34 ?xs34 ?xt34_name ?xt34_code ?xa35 ?xl35 ?xb35 ?xc35 ?xd35 ?xe35 ?xg35 ?xh35 ?xi35 ?xj35 ?xk35 ?xm35 ?xn35 ?xo35 ?xp35 ?xq35 ?xr35 ?xs35 ?xt35_line ?xt35_code ?xa36 ?xl36 ?xb36 ?xc36 ?xd36 ?xe36 ?xg36 ?xh36 ?xi36 ?xj36 ?xk36 ?xm36 ?xn36 ?xo36 ?xp36 ?xq36 ?xr36 ?xs36 ?xt36_most ?xt36_code ?xa37 ?xl37 ?xb37 ?xc37 ?xd37 ?xe37 ?xg37 ?xh37 ?xi37 ?xj37 ?xk37 ?xm37 ?xn37 ?xo37 ?xp37 ?xq37 ?xr37 ?xs37 ?xt37_name ?xt37_code ?xa38 ?xl38 ?xb38 ?xc38 ?xd38 ?xe38 ?xg38 ?xh38 ?xi38 ?xj38 ?xk38 ?xm38 ?xn38 ?xo38 ?xp38 ?xq38 ?xr38 ?xs38 ?xt38_name ?xt38_code ?xa39 ?xl39 ?xb39 ?xc39 ?xd39 ?xe39 ?xg39 ?xh39 ?xi39 ?xj39 ?xk39 ?xm39 ?xn39 ?xo39 ?xp39 ?xq39 ?xr39 ?xs39 ?xt39_code ?xa40 ?xl40 ?xb40 ?xc40 ?xd40 ?xe40 ?xg40 ?xh40 ?xi40 ?xj40 ?xk40 ?xm40 ?xn40 ?xo40 ?xp40 ?xq40 ?xr40 ?xs40 ?xt40_name ?xt40_code ?xa41 ?xl41 ?xb41 ?xc41 ?xd41 ?xe41 ?xg41 ?xh41 ?xi41 ?xj41 ?xk41 ?xm41 ?xn41 ?xo41 ?xp41 ?xq41 ?xr41 ?xs41 ?xt41_name ?xt41_code ?xa42 ?xl42 ?xb42 ?xc42 ?xd42 ?xe42 ?xg42 ?xh42 ?xi42 ?xj42 ?xk42 ?xm42 ?xn42 ?xo42 ?xp42 ?xq42 ?xr42 ?xs42 ?xt42_state ?xt42_code ?xa43 ?xl43 ?xb43 ?xc43 ?xd43 ?xe43 ?xg43 ?xh43 ?xi43 ?xj43 ?xk43 ?xm43 ?xn43 ?xo43 ?xp43 ?xq43 ?xr43 ?xs43 ?xt43_given ?xt43_code ?xa44 ?xl44 ?xb44 ?xc44 ?xd44 ?xe44 ?xg44 ?xh44 ?xi44 ?xj44 ?xk44 ?xm44 ?xn44 ?xo44 ?xp44 ?xq44 ?xr44 ?xs44 ?xt44_name ?xt44_code ?xa45 ?xl45 ?xb45 ?xc45 ?xd45 ?xe45 ?xg45 ?xh45 ?xi45 ?xj45 ?xk45 ?xm45 ?xn45 ?xo45 ?xp45 ?xq45 ?xr45 ?xs45 ?xt45_code ?xu37_code ?xu37_name ?xu33_at ?xu33_code ?xu29_code ?xu29_given ?xu26_at ?xu26_code ?xu23_code ?xu23_given ?xu34_code ?xu34_name ?xu32_at ?xu32_code ?xu31_at ?xu31_code ?xu25_at ?xu25_code ?xu30_code ?xu30_given ?xu21_at ?xu21_code ?xu28_code ?xu28_given ?xu27_at ?xu27_code ?xu35_code ?xu35_line ?xu24_at ?xu24_code ?xu22_at ?xu22_code ?xu38_code ?xu38_name ?xu45_code ?xu39_code ?xu36_code ?xu36_most ?xu44_code ?xu44_name ?xu43_code ?xu43_given ?xu40_code ?xu40_name ?xu42_code ?xu42_state ?xu41_code ?xu41_name ?xu20_code ?xu20_what ?xv37 ?xw37 ?xv33 ?xw33 ?xv29 ?xw29 ?xv26 ?xw26 ?xv23 ?xw23 ?xv34 ?xw34 ?xv32 ?xw32 ?xv31 ?xw31 ?xv25 ?xw25 ?xv30 ?xw30 ?xv21 ?xw21 ?xv28 ?xw28 ?xv27 ?xw27 ?xv35 ?xw35 ?xv24 ?xw24 ?xv22 ?xw22 ?xv38 ?xw38 ?xv45 ?xw45 ?xv39 ?xw39 ?xv36 ?xw36 ?xv44 ?xw44 ?xv43 ?xw43 ?xv40 ?xw40 ?xv42 ?xw42 ?xv41 ?xw41 ?xv20 ?xw20
    (case a0 => k_is)
    (case l0 => k_is)
    (case c0_ => k_is)
    (case k0 => k_is)
    (case a1 => k_is)
    (case l1 => k_is)
    (case c1_ => k_is)
    (case k1 => k_is)
    (case a2 => k_is)
    (case l2 => k_is)
    (case c2_ => k_is)
    (case k2 => k_is)
    (case a3 => k_is)
    (case l3 => k_is)
    (case c3_ => k_is)
    (case k3 => k_is)
    (case a4 => k_is)
    (case l4 => k_is)
    (case c4_ => k_is)
    (case k4 => k_is)
    (case a5 => k_is)
    (case l5 => k_is)
    (case c5_ => k_is)
    (case k5 => k_is)
    (case a6 => k_is)
    (case l6 => k_is)
    (case c6_ => k_is)
    (case k6 => k_is)
    (case a7 => k_is)
    (case l7 => k_is)
    (case c7_ => k_is)
    (case k7 => k_is)
    (case a8 => k_is)
    (case l8 => k_is)
    (case c8_ => k_is)
    (case k8 => k_is)
    (case a9 => k_is)
    (case l9 => k_is)
    (case c9_ => k_is)
    (case k9 => k_is)
    (case z_all => k_is)
    (case z_bool => k_is)
    (case z_int => k_is)
    (case z_isinstance => k_is)
    (case z_len => k_is)
    (case z_list => k_is)
    (case z_range => k_is)
    (case z_str => k_is)
    (case z_tuple => k_is)
    (case z_zip => k_is)
    (case C20 => k_is)
    (case C21 => k_is)
    (case C22 => k_is)
    (case C23 => k_is)
    (case C24 => k_is)
    (case C25 => k_is)
    (case C26 => k_is)
    (case C27 => k_is)
    (case C28 => k_is)
    (case C29 => k_is)
    (case C30 => k_is)
    (case C31 => k_is)
    (case C32 => k_is)
    (case C33 => k_is)
    (case C34 => k_is)
    (case C35 => k_is)
    (case C36 => k_is)
    (case C37 => k_is)
    (case C38 => k_is)
    (case C39 => k_is)
    (case C40 => k_is)
    (case C41 => k_is)
    (case C42 => k_is)
    (case C43 => k_is)
    (case C44 => k_is)
    (case C45 => k_is)
    (case xany => k_is)
    (case xsup => k_is)
    (case xtop => first | rfl | decide +kernel)
    (case xa20 => k_is)
    (case xl20 => k_is)
    (case xb20 => kx_is)
    (case xc20 => kx_is)
    (case xd20 => k_is)
    (case xe20 => ks_is)
    (case xg20 => k_is)
    (case xh20 => k_is)
    (case xi20 => k_is)
    (case xj20 => k_is)
    (case xk20 => k_is)
    (case xm20 => k_is)
    (case xn20 => k_is)
    (case xo20 => k_is)
    (case xp20 => k_is)
    (case xq20 => k_is)
    (case xr20 => first | rfl | decide +kernel)
    (case xs20 => first | rfl | decide +kernel)
    (case xt20_what => k_is)
    (case xt20_code => k_is)
    (case xa21 => k_is)
    (case xl21 => k_is)
    (case xb21 => kx_is)
    (case xc21 => kx_is)
    (case xd21 => k_is)
    (case xe21 => ks_is)
    (case xg21 => k_is)
    (case xh21 => k_is)
    (case xi21 => k_is)
    (case xj21 => k_is)
    (case xk21 => k_is)
    (case xm21 => k_is)
    (case xn21 => k_is)
    (case xo21 => k_is)
    (case xp21 => k_is)
    (case xq21 => k_is)
    (case xr21 => first | rfl | decide +kernel)
    (case xs21 => first | rfl | decide +kernel)
    (case xt21_at => k_is)
    (case xt21_code => k_is)
    (case xa22 => k_is)
    (case xl22 => k_is)
    (case xb22 => kx_is)
    (case xc22 => kx_is)
    (case xd22 => k_is)
    (case xe22 => ks_is)
    (case xg22 => k_is)
    (case xh22 => k_is)
    (case xi22 => k_is)
    (case xj22 => k_is)
    (case xk22 => k_is)
    (case xm22 => k_is)
    (case xn22 => k_is)
    (case xo22 => k_is)
    (case xp22 => k_is)
    (case xq22 => k_is)
    (case xr22 => first | rfl | decide +kernel)
    (case xs22 => first | rfl | decide +kernel)
    (case xt22_at => k_is)
    (case xt22_code => k_is)
    (case xa23 => k_is)
    (case xl23 => k_is)
    (case xb23 => kx_is)
    (case xc23 => kx_is)
    (case xd23 => k_is)
    (case xe23 => ks_is)
    (case xg23 => k_is)
    (case xh23 => k_is)
    (case xi23 => k_is)
    (case xj23 => k_is)
    (case xk23 => k_is)
    (case xm23 => k_is)
    (case xn23 => k_is)
    (case xo23 => k_is)
    (case xp23 => k_is)
    (case xq23 => k_is)
    (case xr23 => first | rfl | decide +kernel)
    (case xs23 => first | rfl | decide +kernel)
    (case xt23_given => k_is)
    (case xt23_code => k_is)
    (case xa24 => k_is)
    (case xl24 => k_is)
    (case xb24 => kx_is)
    (case xc24 => kx_is)
    (case xd24 => k_is)
    (case xe24 => ks_is)
    (case xg24 => k_is)
    (case xh24 => k_is)
    (case xi24 => k_is)
    (case xj24 => k_is)
    (case xk24 => k_is)
    (case xm24 => k_is)
    (case xn24 => k_is)
    (case xo24 => k_is)
    (case xp24 => k_is)
    (case xq24 => k_is)
    (case xr24 => first | rfl | decide +kernel)
    (case xs24 => first | rfl | decide +kernel)
    (case xt24_at => k_is)
    (case xt24_code => k_is)
    (case xa25 => k_is)
    (case xl25 => k_is)
    (case xb25 => kx_is)
    (case xc25 => kx_is)
    (case xd25 => k_is)
    (case xe25 => ks_is)
    (case xg25 => k_is)
    (case xh25 => k_is)
    (case xi25 => k_is)
    (case xj25 => k_is)
    (case xk25 => k_is)
    (case xm25 => k_is)
    (case xn25 => k_is)
    (case xo25 => k_is)
    (case xp25 => k_is)
    (case xq25 => k_is)
    (case xr25 => first | rfl | decide +kernel)
    (case xs25 => first | rfl | decide +kernel)
    (case xt25_at => k_is)
    (case xt25_code => k_is)
    (case xa26 => k_is)
    (case xl26 => k_is)
    (case xb26 => kx_is)
    (case xc26 => kx_is)
    (case xd26 => k_is)
    (case xe26 => ks_is)
    (case xg26 => k_is)
    (case xh26 => k_is)
    (case xi26 => k_is)
    (case xj26 => k_is)
    (case xk26 => k_is)
    (case xm26 => k_is)
    (case xn26 => k_is)
    (case xo26 => k_is)
    (case xp26 => k_is)
    (case xq26 => k_is)
    (case xr26 => first | rfl | decide +kernel)
    (case xs26 => first | rfl | decide +kernel)
    (case xt26_at => k_is)
    (case xt26_code => k_is)
    (case xa27 => k_is)
    (case xl27 => k_is)
    (case xb27 => kx_is)
    (case xc27 => kx_is)
    (case xd27 => k_is)
    (case xe27 => ks_is)
    (case xg27 => k_is)
    (case xh27 => k_is)
    (case xi27 => k_is)
    (case xj27 => k_is)
    (case xk27 => k_is)
    (case xm27 => k_is)
    (case xn27 => k_is)
    (case xo27 => k_is)
    (case xp27 => k_is)
    (case xq27 => k_is)
    (case xr27 => first | rfl | decide +kernel)
    (case xs27 => first | rfl | decide +kernel)
    (case xt27_at => k_is)
    (case xt27_code => k_is)
    (case xa28 => k_is)
    (case xl28 => k_is)
    (case xb28 => kx_is)
    (case xc28 => kx_is)
    (case xd28 => k_is)
    (case xe28 => ks_is)
    (case xg28 => k_is)
    (case xh28 => k_is)
    (case xi28 => k_is)
    (case xj28 => k_is)
    (case xk28 => k_is)
    (case xm28 => k_is)
    (case xn28 => k_is)
    (case xo28 => k_is)
    (case xp28 => k_is)
    (case xq28 => k_is)
    (case xr28 => first | rfl | decide +kernel)
    (case xs28 => first | rfl | decide +kernel)
    (case xt28_given => k_is)
    (case xt28_code => k_is)
    (case xa29 => k_is)
    (case xl29 => k_is)
    (case xb29 => kx_is)
    (case xc29 => kx_is)
    (case xd29 => k_is)
    (case xe29 => ks_is)
    (case xg29 => k_is)
    (case xh29 => k_is)
    (case xi29 => k_is)
    (case xj29 => k_is)
    (case xk29 => k_is)
    (case xm29 => k_is)
    (case xn29 => k_is)
    (case xo29 => k_is)
    (case xp29 => k_is)
    (case xq29 => k_is)
    (case xr29 => first | rfl | decide +kernel)
    (case xs29 => first | rfl | decide +kernel)
    (case xt29_given => k_is)
    (case xt29_code => k_is)
    (case xa30 => k_is)
    (case xl30 => k_is)
    (case xb30 => kx_is)
    (case xc30 => kx_is)
    (case xd30 => k_is)
    (case xe30 => ks_is)
    (case xg30 => k_is)
    (case xh30 => k_is)
    (case xi30 => k_is)
    (case xj30 => k_is)
    (case xk30 => k_is)
    (case xm30 => k_is)
    (case xn30 => k_is)
    (case xo30 => k_is)
    (case xp30 => k_is)
    (case xq30 => k_is)
    (case xr30 => first | rfl | decide +kernel)
    (case xs30 => first | rfl | decide +kernel)
    (case xt30_given => k_is)
    (case xt30_code => k_is)
    (case xa31 => k_is)
    (case xl31 => k_is)
    (case xb31 => kx_is)
    (case xc31 => kx_is)
    (case xd31 => k_is)
    (case xe31 => ks_is)
    (case xg31 => k_is)
    (case xh31 => k_is)
    (case xi31 => k_is)
    (case xj31 => k_is)
    (case xk31 => k_is)
    (case xm31 => k_is)
    (case xn31 => k_is)
    (case xo31 => k_is)
    (case xp31 => k_is)
    (case xq31 => k_is)
    (case xr31 => first | rfl | decide +kernel)
    (case xs31 => first | rfl | decide +kernel)
    (case xt31_at => k_is)
    (case xt31_code => k_is)
    (case xa32 => k_is)
    (case xl32 => k_is)
    (case xb32 => kx_is)
    (case xc32 => kx_is)
    (case xd32 => k_is)
    (case xe32 => ks_is)
    (case xg32 => k_is)
    (case xh32 => k_is)
    (case xi32 => k_is)
    (case xj32 => k_is)
    (case xk32 => k_is)
    (case xm32 => k_is)
    (case xn32 => k_is)
    (case xo32 => k_is)
    (case xp32 => k_is)
    (case xq32 => k_is)
    (case xr32 => first | rfl | decide +kernel)
    (case xs32 => first | rfl | decide +kernel)
    (case xt32_at => k_is)
    (case xt32_code => k_is)
    (case xa33 => k_is)
    (case xl33 => k_is)
    (case xb33 => kx_is)
    (case xc33 => kx_is)
    (case xd33 => k_is)
    (case xe33 => ks_is)
    (case xg33 => k_is)
    (case xh33 => k_is)
    (case xi33 => k_is)
    (case xj33 => k_is)
    (case xk33 => k_is)
    (case xm33 => k_is)
    (case xn33 => k_is)
    (case xo33 => k_is)
    (case xp33 => k_is)
    (case xq33 => k_is)
    (case xr33 => first | rfl | decide +kernel)
    (case xs33 => first | rfl | decide +kernel)
    (case xt33_at => k_is)
    (case xt33_code => k_is)
    (case xa34 => k_is)
    (case xl34 => k_is)
    (case xb34 => kx_is)
    (case xc34 => kx_is)
    (case xd34 => k_is)
    (case xe34 => ks_is)
    (case xg34 => k_is)
    (case xh34 => k_is)
    (case xi34 => k_is)
    (case xj34 => k_is)
    (case xk34 => k_is)
    (case xm34 => k_is)
    (case xn34 => k_is)
    (case xo34 => k_is)
    (case xp34 => k_is)
    (case xq34 => k_is)
    (case xr34 => first | rfl | decide +kernel)
    (case xs34 => first | rfl | decide +kernel)
    (case xt34_name => k_is)
    (case xt34_code => k_is)
    (case xa35 => k_is)
    (case xl35 => k_is)
    (case xb35 => kx_is)
    (case xc35 => kx_is)
    (case xd35 => k_is)
    (case xe35 => ks_is)
    (case xg35 => k_is)
    (case xh35 => k_is)
    (case xi35 => k_is)
    (case xj35 => k_is)
    (case xk35 => k_is)
    (case xm35 => k_is)
    (case xn35 => k_is)
    (case xo35 => k_is)
    (case xp35 => k_is)
    (case xq35 => k_is)
    (case xr35 => first | rfl | decide +kernel)
    (case xs35 => first | rfl | decide +kernel)
    (case xt35_line => k_is)
    (case xt35_code => k_is)
    (case xa36 => k_is)
    (case xl36 => k_is)
    (case xb36 => kx_is)
    (case xc36 => kx_is)
    (case xd36 => k_is)
    (case xe36 => ks_is)
    (case xg36 => k_is)
    (case xh36 => k_is)
    (case xi36 => k_is)
    (case xj36 => k_is)
    (case xk36 => k_is)
    (case xm36 => k_is)
    (case xn36 => k_is)
    (case xo36 => k_is)
    (case xp36 => k_is)
    (case xq36 => k_is)
    (case xr36 => first | rfl | decide +kernel)
    (case xs36 => first | rfl | decide +kernel)
    (case xt36_most => k_is)
    (case xt36_code => k_is)
    (case xa37 => k_is)
    (case xl37 => k_is)
    (case xb37 => kx_is)
    (case xc37 => kx_is)
    (case xd37 => k_is)
    (case xe37 => ks_is)
    (case xg37 => k_is)
    (case xh37 => k_is)
    (case xi37 => k_is)
    (case xj37 => k_is)
    (case xk37 => k_is)
    (case xm37 => k_is)
    (case xn37 => k_is)
    (case xo37 => k_is)
    (case xp37 => k_is)
    (case xq37 => k_is)
    (case xr37 => first | rfl | decide +kernel)
    (case xs37 => first | rfl | decide +kernel)
    (case xt37_name => k_is)
    (case xt37_code => k_is)
    (case xa38 => k_is)
    (case xl38 => k_is)
    (case xb38 => kx_is)
    (case xc38 => kx_is)
    (case xd38 => k_is)
    (case xe38 => ks_is)
    (case xg38 => k_is)
    (case xh38 => k_is)
    (case xi38 => k_is)
    (case xj38 => k_is)
    (case xk38 => k_is)
    (case xm38 => k_is)
    (case xn38 => k_is)
    (case xo38 => k_is)
    (case xp38 => k_is)
    (case xq38 => k_is)
    (case xr38 => first | rfl | decide +kernel)
    (case xs38 => first | rfl | decide +kernel)
    (case xt38_name => k_is)
    (case xt38_code => k_is)
    (case xa39 => k_is)
    (case xl39 => k_is)
    (case xb39 => kx_is)
    (case xc39 => kx_is)
    (case xd39 => k_is)
    (case xe39 => ks_is)
    (case xg39 => k_is)
    (case xh39 => k_is)
    (case xi39 => k_is)
    (case xj39 => k_is)
    (case xk39 => k_is)
    (case xm39 => k_is)
    (case xn39 => k_is)
    (case xo39 => k_is)
    (case xp39 => k_is)
    (case xq39 => k_is)
    (case xr39 => first | rfl | decide +kernel)
    (case xs39 => first | rfl | decide +kernel)
    (case xt39_code => k_is)
    (case xa40 => k_is)
    (case xl40 => k_is)
    (case xb40 => kx_is)
    (case xc40 => kx_is)
    (case xd40 => k_is)
    (case xe40 => ks_is)
    (case xg40 => k_is)
    (case xh40 => k_is)
    (case xi40 => k_is)
    (case xj40 => k_is)
    (case xk40 => k_is)
    (case xm40 => k_is)
    (case xn40 => k_is)
    (case xo40 => k_is)
    (case xp40 => k_is)
    (case xq40 => k_is)
    (case xr40 => first | rfl | decide +kernel)
    (case xs40 => first | rfl | decide +kernel)
    (case xt40_name => k_is)
    (case xt40_code => k_is)
    (case xa41 => k_is)
    (case xl41 => k_is)
    (case xb41 => kx_is)
    (case xc41 => kx_is)
    (case xd41 => k_is)
    (case xe41 => ks_is)
    (case xg41 => k_is)
    (case xh41 => k_is)
    (case xi41 => k_is)
    (case xj41 => k_is)
    (case xk41 => k_is)
    (case xm41 => k_is)
    (case xn41 => k_is)
    (case xo41 => k_is)
    (case xp41 => k_is)
    (case xq41 => k_is)
    (case xr41 => first | rfl | decide +kernel)
    (case xs41 => first | rfl | decide +kernel)
    (case xt41_name => k_is)
    (case xt41_code => k_is)
    (case xa42 => k_is)
    (case xl42 => k_is)
    (case xb42 => kx_is)
    (case xc42 => kx_is)
    (case xd42 => k_is)
    (case xe42 => ks_is)
    (case xg42 => k_is)
    (case xh42 => k_is)
    (case xi42 => k_is)
    (case xj42 => k_is)
    (case xk42 => k_is)
    (case xm42 => k_is)
    (case xn42 => k_is)
    (case xo42 => k_is)
    (case xp42 => k_is)
    (case xq42 => k_is)
    (case xr42 => first | rfl | decide +kernel)
    (case xs42 => first | rfl | decide +kernel)
    (case xt42_state => k_is)
    (case xt42_code => k_is)
    (case xa43 => k_is)
    (case xl43 => k_is)
    (case xb43 => kx_is)
    (case xc43 => kx_is)
    (case xd43 => k_is)
    (case xe43 => ks_is)
    (case xg43 => k_is)
    (case xh43 => k_is)
    (case xi43 => k_is)
    (case xj43 => k_is)
    (case xk43 => k_is)
    (case xm43 => k_is)
    (case xn43 => k_is)
    (case xo43 => k_is)
    (case xp43 => k_is)
    (case xq43 => k_is)
    (case xr43 => first | rfl | decide +kernel)
    (case xs43 => first | rfl | decide +kernel)
    (case xt43_given => k_is)
    (case xt43_code => k_is)
    (case xa44 => k_is)
    (case xl44 => k_is)
    (case xb44 => kx_is)
    (case xc44 => kx_is)
    (case xd44 => k_is)
    (case xe44 => ks_is)
    (case xg44 => k_is)
    (case xh44 => k_is)
    (case xi44 => k_is)
    (case xj44 => k_is)
    (case xk44 => k_is)
    (case xm44 => k_is)
    (case xn44 => k_is)
    (case xo44 => k_is)
    (case xp44 => k_is)
    (case xq44 => k_is)
    (case xr44 => first | rfl | decide +kernel)
    (case xs44 => first | rfl | decide +kernel)
    (case xt44_name => k_is)
    (case xt44_code => k_is)
    (case xa45 => k_is)
    (case xl45 => k_is)
    (case xb45 => kx_is)
    (case xc45 => kx_is)
    (case xd45 => k_is)
    (case xe45 => ks_is)
    (case xg45 => k_is)
    (case xh45 => k_is)
    (case xi45 => k_is)
    (case xj45 => k_is)
    (case xk45 => k_is)
    (case xm45 => k_is)
    (case xn45 => k_is)
    (case xo45 => k_is)
    (case xp45 => k_is)
    (case xq45 => k_is)
    (case xr45 => first | rfl | decide +kernel)
    (case xs45 => first | rfl | decide +kernel)
    (case xt45_code => k_is)
    (case xu37_code => k_is)
    (case xu37_name => k_is)
    (case xu33_at => k_is)
    (case xu33_code => k_is)
    (case xu29_code => k_is)
    (case xu29_given => k_is)
    (case xu26_at => k_is)
    (case xu26_code => k_is)
    (case xu23_code => k_is)
    (case xu23_given => k_is)
    (case xu34_code => k_is)
    (case xu34_name => k_is)
    (case xu32_at => k_is)
    (case xu32_code => k_is)
    (case xu31_at => k_is)
    (case xu31_code => k_is)
    (case xu25_at => k_is)
    (case xu25_code => k_is)
    (case xu30_code => k_is)
    (case xu30_given => k_is)
    (case xu21_at => k_is)
    (case xu21_code => k_is)
    (case xu28_code => k_is)
    (case xu28_given => k_is)
    (case xu27_at => k_is)
    (case xu27_code => k_is)
    (case xu35_code => k_is)
    (case xu35_line => k_is)
    (case xu24_at => k_is)
    (case xu24_code => k_is)
    (case xu22_at => k_is)
    (case xu22_code => k_is)
    (case xu38_code => k_is)
    (case xu38_name => k_is)
    (case xu45_code => k_is)
    (case xu39_code => k_is)
    (case xu36_code => k_is)
    (case xu36_most => k_is)
    (case xu44_code => k_is)
    (case xu44_name => k_is)
    (case xu43_code => k_is)
    (case xu43_given => k_is)
    (case xu40_code => k_is)
    (case xu40_name => k_is)
    (case xu42_code => k_is)
    (case xu42_state => k_is)
    (case xu41_code => k_is)
    (case xu41_name => k_is)
    (case xu20_code => k_is)
    (case xu20_what => k_is)
    (case xv37 => k_is)
    (case xw37 => k_is)
    (case xv33 => k_is)
    (case xw33 => k_is)
    (case xv29 => k_is)
    (case xw29 => k_is)
    (case xv26 => k_is)
    (case xw26 => k_is)
    (case xv23 => k_is)
    (case xw23 => k_is)
    (case xv34 => k_is)
    (case xw34 => k_is)
    (case xv32 => k_is)
    (case xw32 => k_is)
    (case xv31 => k_is)
    (case xw31 => k_is)
    (case xv25 => k_is)
    (case xw25 => k_is)
    (case xv30 => k_is)
    (case xw30 => k_is)
    (case xv21 => k_is)
    (case xw21 => k_is)
    (case xv28 => k_is)
    (case xw28 => k_is)
    (case xv27 => k_is)
    (case xw27 => k_is)
    (case xv35 => k_is)
    (case xw35 => k_is)
    (case xv24 => k_is)
    (case xw24 => k_is)
    (case xv22 => k_is)
    (case xw22 => k_is)
    (case xv38 => k_is)
    (case xw38 => k_is)
    (case xv45 => k_is)
    (case xw45 => k_is)
    (case xv39 => k_is)
    (case xw39 => k_is)
    (case xv36 => k_is)
    (case xw36 => k_is)
    (case xv44 => k_is)
    (case xw44 => k_is)
    (case xv43 => k_is)
    (case xw43 => k_is)
    (case xv40 => k_is)
    (case xw40 => k_is)
    (case xv42 => k_is)
    (case xw42 => k_is)
    (case xv41 => k_is)
    (case xw41 => k_is)
    (case xv20 => k_is)
    (case xw20 => k_is)
