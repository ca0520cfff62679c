import PyProof.Rows.All
import Wide.All
import OpenK.AllK
import Wide.FinOn
import HandS.ForMost
import HandS.Wide
import HandS.WideBits
import HandS.TupAny
import HandS.TupMul
import HandS.Style
import HandS.Deep
import HandS.IsInst
import HandS.Replace
import HandS.Flow
import HandS.Gcd
import HandS.Iter
import HandS.Walk
import PyProof.Draws
import PyProof.EnumMake
import HandS.EndBits
import HandS.ReplaceLit
import HandS.ReplaceList
import PySem.Challenge.RW_bellring_k87_whole_lines_checked_by_turn
set_option Elab.async false
set_option linter.all false
set_option maxRecDepth 100000
set_option maxHeartbeats 2000000
/-! BD: plain data over the hand layer. -/
namespace BD
open PySem PySem.Spec PyProof.Rows L2

/-- plain data -/
inductive D where
  | non | bl (b : Bool) | int (i : Int) | str (x : Str)
  | lst (xs : List D) | tup (xs : List D)
  | dk (kvs : List (Key × D)) | dt (kvs : List (List Key × D))
  | scr (ns : List Int)

def TupAt (kt : Bool) (K : PySem.W.Frag) (H : Hp) (a : Addr) (vs : List V) : Prop := H a = some (.tup vs) ∨ (kt = true ∧ SqT K H a vs)

section
variable (kt : Bool) (K : PySem.W.Frag) (H : Hp)
mutual
/-- the value v stands for the data d, in H -/
inductive Rp : V → D → Prop
  | non : Rp .non .non
  | bl (b : Bool) : Rp (.bl b) (.bl b)
  | int (i : Int) : Rp (.int i) (.int i)
  | str (x : Str) : Rp (.str x) (.str x)
  | lst {a : Addr} {vs : List V} {ds : List D} : H a = some (.lst vs) → RpL vs ds → Rp (.ref a) (.lst ds)
  | tup {a : Addr} {vs : List V} {ds : List D} : TupAt kt K H a vs → RpL vs ds → Rp (.ref a) (.tup ds)
  | dk {a : Addr} {kvs : List (Key × V)} {kds : List (Key × D)} : Rd H a (.dK kvs) → RpK kvs kds → Rp (.ref a) (.dk kds)
  | dt {a : Addr} {kvs : List (List Key × V)} {kds : List (List Key × D)} : Rd H a (.dT kvs) → RpT kvs kds → Rp (.ref a) (.dt kds)
  | scr {a : Addr} {ns : List Int} : SqL K H a (ns.map V.int) → Rp (.ref a) (.scr ns)
inductive RpL : List V → List D → Prop
  | nil : RpL [] []
  | cons {v : V} {vs : List V} {d : D} {ds : List D} : Rp v d → RpL vs ds → RpL (v :: vs) (d :: ds)
inductive RpK : List (Key × V) → List (Key × D) → Prop
  | nil : RpK [] []
  | cons {k : Key} {v : V} {vs : List (Key × V)} {d : D} {ds : List (Key × D)} : Rp v d → RpK vs ds → RpK ((k, v) :: vs) ((k, d) :: ds)
inductive RpT : List (List Key × V) → List (List Key × D) → Prop
  | nil : RpT [] []
  | cons {k : List Key} {v : V} {vs : List (List Key × V)} {d : D} {ds : List (List Key × D)} : Rp v d → RpT vs ds → RpT ((k, v) :: vs) ((k, d) :: ds)
end
end

/-- what Rp asks of a heap stays -/
structure Le (K : PySem.W.Frag) (H H' : Hp) : Prop where
  lst : ∀ a vs, H a = some (.lst vs) → H' a = some (.lst vs)
  tup : ∀ a vs, H a = some (.tup vs) → H' a = some (.tup vs)
  sqt : ∀ a vs, SqT K H a vs → SqT K H' a vs
  sql : ∀ a vs, SqL K H a vs → SqL K H' a vs
  dk : ∀ a vs, Rd H a (.dK vs) → Rd H' a (.dK vs)
  dt : ∀ a vs, Rd H a (.dT vs) → Rd H' a (.dT vs)
section
variable {kt : Bool} {K : PySem.W.Frag} {H H' : Hp}
mutual
theorem Rp.mono (e : Le K H H') : ∀ {v : V} {d : D}, Rp kt K H v d → Rp kt K H' v d
  | _, _, .non => .non
  | _, _, .bl b => .bl b
  | _, _, .int i => .int i
  | _, _, .str x => .str x
  | _, _, .lst h r => .lst (e.lst _ _ h) (RpL.mono e r)
  | _, _, .tup h r => .tup (h.elim (fun z => .inl (e.tup _ _ z)) fun z => .inr ⟨z.1, e.sqt _ _ z.2⟩) (RpL.mono e r)
  | _, _, .dk h r => .dk (e.dk _ _ h) (RpK.mono e r)
  | _, _, .dt h r => .dt (e.dt _ _ h) (RpT.mono e r)
  | _, _, .scr h => .scr (e.sql _ _ h)
theorem RpL.mono (e : Le K H H') : ∀ {vs : List V} {ds : List D}, RpL kt K H vs ds → RpL kt K H' vs ds
  | _, _, .nil => .nil
  | _, _, .cons r t => .cons (Rp.mono e r) (RpL.mono e t)
theorem RpK.mono (e : Le K H H') : ∀ {vs : List (Key × V)} {ds : List (Key × D)}, RpK kt K H vs ds → RpK kt K H' vs ds
  | _, _, .nil => .nil
  | _, _, .cons r t => .cons (Rp.mono e r) (RpK.mono e t)
theorem RpT.mono (e : Le K H H') : ∀ {vs : List (List Key × V)} {ds : List (List Key × D)}, RpT kt K H vs ds → RpT kt K H' vs ds
  | _, _, .nil => .nil
  | _, _, .cons r t => .cons (Rp.mono e r) (RpT.mono e t)
end
theorem Le.refl : Le K H H := ⟨fun _ _ h => h, fun _ _ h => h, fun _ _ h => h, fun _ _ h => h, fun _ _ h => h, fun _ _ h => h⟩
theorem Le.trans {H2 : Hp} (a : Le K H H') (b : Le K H' H2) : Le K H H2 :=
  ⟨fun x v h => b.lst x v (a.lst x v h), fun x v h => b.tup x v (a.tup x v h), fun x v h => b.sqt x v (a.sqt x v h), fun x v h => b.sql x v (a.sql x v h), fun x v h => b.dk x v (a.dk x v h), fun x v h => b.dt x v (a.dt x v h)⟩
theorem same_rd {a : Addr} {u : HO} (e : Same H H') (h : Rd H a u) : Rd H' a u := h.elim (fun z => .inl (e _ _ z)) fun ⟨o, z⟩ => .inr ⟨o, e _ _ z⟩
theorem le_of (e : Same H H') : Le K H H' :=
  ⟨fun _ _ h => e _ _ h, fun _ _ h => e _ _ h, fun _ _ h => h.elim (fun z => .inl (same_rd e z)) .inr, fun _ _ h => h.elim (fun z => .inl (same_rd e z)) .inr, fun _ _ h => same_rd e h, fun _ _ h => same_rd e h⟩
theorem RpL.length : ∀ {vs : List V} {ds : List D}, RpL kt K H vs ds → vs.length = ds.length
  | _, _, .nil => rfl
  | _, _, .cons _ t => congrArg (· + 1) (RpL.length t)
end
end BD
set_option Elab.async false
set_option linter.all false
set_option maxRecDepth 100000
set_option maxHeartbeats 2000000
/-! BD: cells, states, steps. -/
namespace BD
open PySem PySem.Spec PyProof.Rows L2

/-- what a slot holds: nothing; data that stays; a container that is only read here; a container of our own; one lent by the caller -/
inductive Cell where
  | un | val (d : D) | ro (d : D) | own (d : D) | bor (d : D)
/-- what an expression gives: data that stays, a new container, the container of a slot -/
inductive R where
  | val (d : D) | fr (d : D) | cell (i : Nat)

def nth : List Cell → Nat → Cell
  | [], _ => .un
  | c :: _, 0 => c
  | _ :: r, n + 1 => nth r n
def put : List Cell → Nat → Cell → List Cell
  | [], _, _ => []
  | _ :: r, 0, c => c :: r
  | x :: r, n + 1, c => x :: put r n c
theorem put_len : ∀ (E : List Cell) (i : Nat) (c : Cell), (put E i c).length = E.length
  | [], _, _ => rfl
  | _ :: _, 0, _ => rfl
  | _ :: r, n + 1, c => congrArg (· + 1) (put_len r n c)
theorem nth_put_self : ∀ {E : List Cell} {i : Nat} {c : Cell}, i < E.length → nth (put E i c) i = c
  | [], i, _, h => absurd h (Nat.not_lt_zero i)
  | _ :: _, 0, _, _ => rfl
  | _ :: r, n + 1, c, h => nth_put_self (E := r) (Nat.lt_of_succ_lt_succ h)
theorem nth_put_ne : ∀ {E : List Cell} {i j : Nat} {c : Cell}, j ≠ i → nth (put E i c) j = nth E j
  | [], _, _, _, _ => rfl
  | _ :: _, 0, 0, _, h => absurd rfl h
  | _ :: _, 0, _ + 1, _, _ => rfl
  | _ :: _, _ + 1, 0, _, _ => rfl
  | _ :: r, n + 1, m + 1, c, h => nth_put_ne (E := r) fun e => h (congrArg (· + 1) e)
theorem nth_out : ∀ {E : List Cell} {i : Nat}, E.length ≤ i → nth E i = .un
  | [], _, _ => rfl
  | _ :: _, 0, h => absurd h (Nat.not_succ_le_zero _)
  | _ :: r, n + 1, h => nth_out (E := r) (Nat.le_of_succ_le_succ h)
theorem nth_in {E : List Cell} {i : Nat} (h : nth E i ≠ .un) : i < E.length := Nat.lt_of_not_le fun q => h (nth_out q)
theorem nth_put {E : List Cell} {i j : Nat} {c : Cell} (h : nth E i ≠ .un) : nth (put E i c) j = if j = i then c else nth E j := by
  by_cases e : j = i
  · rw [if_pos e, e]; exact nth_put_self (nth_in h)
  · rw [if_neg e]; exact nth_put_ne e

section
variable (kt : Bool) (K : PySem.W.Frag)
/-- the object o holds d, its items in S -/
def Own (S : Hp) (o : HO) : D → Prop
  | .lst ds => ∃ vs, o = .lst vs ∧ RpL kt K S vs ds
  | .dk ds => ∃ vs, o = .dK vs ∧ RpK kt K S vs ds
  | .dt ds => ∃ vs, o = .dT vs ∧ RpT kt K S vs ds
  | _ => False
/-- o stands at p, or a dict o that a walk has locked -/
def RdD (H : Hp) (p : Addr) (o : HO) : Prop := H p = some o ∨ ((∃ w, H p = some (.frz w o)) ∧ ∀ xs, o ≠ .lst xs ∧ o ≠ .tup xs)
/-- v may be read as d -/
def Vw (S H : Hp) (v : V) (d : D) : Prop := Rp kt K S v d ∨ ∃ p o, v = .ref p ∧ RdD H p o ∧ Own kt K S o d
/-- a is the address of a container of ours -/
def ownA (σ : L2.St) (E : List Cell) (a : Addr) : Prop := ∃ i d, (nth E i = .own d ∨ nth E i = .bor d) ∧ σ[i]? = some (some (.ref a))

/-- a container that is not ours and stays, or data -/
def RoV (S H : Hp) (A : Addr → Prop) (v : V) (d : D) : Prop := Rp kt K S v d ∨ ∃ p o, v = .ref p ∧ RdD H p o ∧ Own kt K S o d ∧ ¬ A p
structure SI (S H : Hp) (σ : L2.St) (E : List Cell) : Prop where
  ex : Same S H
  len : σ.length = E.length
  val : ∀ i d, nth E i = .val d → ∃ v, σ[i]? = some (some v) ∧ Rp kt K S v d
  ro : ∀ i d, nth E i = .ro d → ∃ v, σ[i]? = some (some v) ∧ RoV kt K S H (ownA σ E) v d
  own : ∀ i d, (nth E i = .own d ∨ nth E i = .bor d) → ∃ p o, σ[i]? = some (some (.ref p)) ∧ S p = none ∧ H p = some o ∧ Own kt K S o d
  dis : ∀ i j d e p, (nth E i = .own d ∨ nth E i = .bor d) → (nth E j = .own e ∨ nth E j = .bor e) → σ[i]? = some (some (.ref p)) → σ[j]? = some (some (.ref p)) → i = j
end
structure Fr (S H : Hp) (A : Addr → Prop) (S' H' : Hp) (A' : Addr → Prop) : Prop where
  ex : Same S S'
  keep : ∀ a o, H a = some o → ¬ A a → H' a = some o
  free : ∀ a, H a ≠ none → S a = none → ¬ A a → S' a = none
  own : ∀ a, A' a → A a ∨ H a = none
  alive : ∀ a, H a ≠ none → H' a ≠ none
theorem Fr.refl {S H : Hp} {A : Addr → Prop} : Fr S H A S H A := ⟨fun _ _ h => h, fun _ _ h _ => h, fun _ _ h _ => h, fun _ h => .inl h, fun _ h => h⟩
theorem Fr.trans {S H S1 H1 S2 H2 : Hp} {A A1 A2 : Addr → Prop} (a : Fr S H A S1 H1 A1) (b : Fr S1 H1 A1 S2 H2 A2) : Fr S H A S2 H2 A2 where
  ex := a.ex.trans b.ex
  keep := fun x o h n => b.keep x o (a.keep x o h n) fun z => (a.own x z).elim n fun q => by rw [q] at h; cases h
  free := fun x h s n => b.free x (a.alive x h) (a.free x h s n) fun z => (a.own x z).elim n h
  own := fun x z => (b.own x z).elim (a.own x) fun q => .inr (by
    cases e : H x with
    | none => rfl
    | some o => exact absurd q (a.alive x (by rw [e]; exact fun z => nomatch z)))
  alive := fun x h => b.alive x (a.alive x h)
theorem Fr.back {S H S1 H1 : Hp} {A A1 : Addr → Prop} (a : Fr S H A S1 H1 A1) {p : Addr} (h : H1 p = none) : H p = none := by
  cases e : H p with
  | none => rfl
  | some o => exact absurd h (a.alive p (by rw [e]; exact fun z => nomatch z))
def CellStep : Cell → Cell → Prop
  | .un, c => c = .un
  | .val d, c => c = .val d
  | .ro d, c => c = .ro d
  | .own _, c => (∃ d, c = .own d) ∨ ∃ d, c = .val d
  | .bor _, c => ∃ d, c = .bor d
theorem CellStep.refl : ∀ c, CellStep c c
  | .un => rfl
  | .val _ => rfl
  | .ro _ => rfl
  | .own d => .inl ⟨d, rfl⟩
  | .bor d => ⟨d, rfl⟩
theorem CellStep.trans : ∀ {a b c : Cell}, CellStep a b → CellStep b c → CellStep a c
  | .un, b, c, h, g => by cases (show b = .un from h); exact g
  | .val d, b, c, h, g => by cases (show b = .val d from h); exact g
  | .ro d, b, c, h, g => by cases (show b = .ro d from h); exact g
  | .own _, b, c, h, g => by
    rcases (show (∃ d, b = .own d) ∨ ∃ d, b = .val d from h) with ⟨d, rfl⟩ | ⟨d, rfl⟩
    · exact g
    · exact .inr ⟨d, g⟩
  | .bor _, b, c, h, g => by
    obtain ⟨d, rfl⟩ := (show ∃ d, b = .bor d from h)
    exact g
theorem CellStep.un_iff {a b : Cell} (h : CellStep a b) : a ≠ .un → b ≠ .un := fun ha hb => by
  subst hb
  cases a with
  | un => exact ha rfl
  | val d => exact nomatch (show Cell.un = .val d from h)
  | ro d => exact nomatch (show Cell.un = .ro d from h)
  | own d => rcases (show (∃ d, Cell.un = .own d) ∨ ∃ d, Cell.un = .val d from h) with ⟨d, e⟩ | ⟨d, e⟩ <;> cases e
  | bor d => obtain ⟨d, e⟩ := (show ∃ d, Cell.un = .bor d from h); cases e
theorem CellStep.own_of {a b : Cell} (h : CellStep a b) {d : D} (e : b = .own d ∨ b = .bor d) : ∃ d', a = .own d' ∨ a = .bor d' := by
  cases a with
  | un => cases (show b = .un from h); rcases e with e | e <;> cases e
  | val x => cases (show b = .val x from h); rcases e with e | e <;> cases e
  | ro x => cases (show b = .ro x from h); rcases e with e | e <;> cases e
  | own x => exact ⟨x, .inl rfl⟩
  | bor x => exact ⟨x, .inr rfl⟩

section
variable (kt : Bool) (K : PySem.W.Frag)
/-- an expression's step: the slots' values stay -/
structure Ev (S H : Hp) (σ : L2.St) (E : List Cell) (S' H' : Hp) (E' : List Cell) : Prop where
  si : SI kt K S' H' σ E'
  fr : Fr S H (ownA σ E) S' H' (ownA σ E')
  cells : ∀ i, CellStep (nth E i) (nth E' i)
def RepR (S H : Hp) (σ : L2.St) (E : List Cell) (v : V) : R → Prop
  | .val d => Rp kt K S v d
  | .fr d => ∃ p o, v = .ref p ∧ S p = none ∧ ¬ ownA σ E p ∧ H p = some o ∧ Own kt K S o d
  | .cell i => σ[i]? = some (some v) ∧ nth E i ≠ .un
end
/-- a new container is newer than H -/
def New (H : Hp) (v : V) : R → Prop
  | .fr _ => ∀ p, v = .ref p → H p = none
  | _ => True
def vw (E : List Cell) (r : R) (k : D → Prop) : Prop := match r with
  | .val d => k d
  | .fr d => k d
  | .cell i => match nth E i with
    | .un => False
    | .val d => k d
    | .ro d => k d
    | .own d => k d
    | .bor d => k d
def frz (E : List Cell) (r : R) (k : D → List Cell → Prop) : Prop := match r with
  | .val d => k d E
  | .fr d => k d E
  | .cell i => match nth E i with
    | .val d => k d E
    | .own d => k d (put E i (.val d))
    | _ => False

section
variable {kt : Bool} {K : PySem.W.Frag} {S H S' H' S1 H1 S2 H2 : Hp} {σ : L2.St} {E E' E1 E2 : List Cell} {v : V} {r : R}
theorem Own.mono {o : HO} {d : D} (e : Le K S S') (h : Own kt K S o d) : Own kt K S' o d := by
  cases d with
  | lst ds => obtain ⟨vs, h1, h2⟩ := (show ∃ vs, o = .lst vs ∧ RpL kt K S vs ds from h); exact ⟨vs, h1, h2.mono e⟩
  | dk ds => obtain ⟨vs, h1, h2⟩ := (show ∃ vs, o = .dK vs ∧ RpK kt K S vs ds from h); exact ⟨vs, h1, h2.mono e⟩
  | dt ds => obtain ⟨vs, h1, h2⟩ := (show ∃ vs, o = .dT vs ∧ RpT kt K S vs ds from h); exact ⟨vs, h1, h2.mono e⟩
  | _ => exact (show False from h).elim
theorem Own.rp {o : HO} {d : D} {p : Addr} (h : Own kt K S o d) (hp : S p = some o) : Rp kt K S (.ref p) d := by
  cases d with
  | lst ds => obtain ⟨vs, rfl, h2⟩ := (show ∃ vs, o = .lst vs ∧ RpL kt K S vs ds from h); exact .lst hp h2
  | dk ds => obtain ⟨vs, rfl, h2⟩ := (show ∃ vs, o = .dK vs ∧ RpK kt K S vs ds from h); exact .dk (.inl hp) h2
  | dt ds => obtain ⟨vs, rfl, h2⟩ := (show ∃ vs, o = .dT vs ∧ RpT kt K S vs ds from h); exact .dt (.inl hp) h2
  | _ => exact (show False from h).elim
theorem RoV.vw {A : Addr → Prop} {d : D} (h : RoV kt K S H A v d) : Vw kt K S H v d := h.elim .inl fun ⟨p, o, h1, h2, h3, _⟩ => .inr ⟨p, o, h1, h2, h3⟩
theorem RoV.mono {A A' : Addr → Prop} {d : D} (e : Le K S S') (eh : ∀ p o, RdD H p o → ¬ A p → RdD H' p o) (ea : ∀ p o, RdD H p o → A' p → A p) (h : RoV kt K S H A v d) : RoV kt K S' H' A' v d :=
  h.elim (fun z => .inl (z.mono e)) fun ⟨p, o, h1, h2, h3, h4⟩ => .inr ⟨p, o, h1, eh p o h2 h4, h3.mono e, fun z => h4 (ea p o h2 z)⟩
theorem Ev.refl (I : SI kt K S H σ E) : Ev kt K S H σ E S H E := ⟨I, .refl, fun _ => .refl _⟩
theorem Ev.trans (a : Ev kt K S H σ E S1 H1 E1) (b : Ev kt K S1 H1 σ E1 S2 H2 E2) : Ev kt K S H σ E S2 H2 E2 := ⟨b.si, a.fr.trans b.fr, fun i => (a.cells i).trans (b.cells i)⟩
theorem RepR.step (e : Ev kt K S H σ E S' H' E') (h : RepR kt K S H σ E v r) : RepR kt K S' H' σ E' v r := by
  cases r with
  | val d => exact Rp.mono (le_of e.fr.ex) h
  | fr d =>
    obtain ⟨p, o, hv, hs, ha, hh, ho⟩ := h
    refine ⟨p, o, hv, e.fr.free p (by rw [hh]; exact fun z => nomatch z) hs ha, fun z => ?_, e.fr.keep p o hh ha, ho.mono (le_of e.fr.ex)⟩
    rcases e.fr.own p z with q | q
    · exact ha q
    · rw [q] at hh; cases hh
  | cell i => exact ⟨h.1, (e.cells i).un_iff h.2⟩
theorem New.back (e : ∀ p, H1 p = none → H p = none) (h : New H1 v r) : New H v r := by
  cases r with
  | fr d => exact fun p hp => e p (h p hp)
  | val d => trivial
  | cell i => trivial
theorem vw_ok {k : D → Prop} (I : SI kt K S H σ E) (h : RepR kt K S H σ E v r) (q : vw E r k) : ∃ d, Vw kt K S H v d ∧ k d := by
  cases r with
  | val d => exact ⟨d, .inl h, q⟩
  | fr d =>
    obtain ⟨p, o, hv, hs, ha, hh, ho⟩ := h
    exact ⟨d, .inr ⟨p, o, hv, .inl hh, ho⟩, q⟩
  | cell i =>
    obtain ⟨h1, h2⟩ := h
    have q' : (match nth E i with | .un => False | .val d => k d | .ro d => k d | .own d => k d | .bor d => k d) := q
    cases e : nth E i with
    | un => exact absurd e h2
    | val d =>
      rw [e] at q'
      obtain ⟨w, hw, hr⟩ := I.val i d e
      rw [h1] at hw; cases hw
      exact ⟨d, .inl hr, q'⟩
    | ro d =>
      rw [e] at q'
      obtain ⟨w, hw, hr⟩ := I.ro i d e
      rw [h1] at hw; cases hw
      exact ⟨d, hr.vw, q'⟩
    | own d =>
      rw [e] at q'
      obtain ⟨p, o, hw, hs, hh, ho⟩ := I.own i d (.inl e)
      rw [h1] at hw; cases hw
      exact ⟨d, .inr ⟨p, o, rfl, .inl hh, ho⟩, q'⟩
    | bor d =>
      rw [e] at q'
      obtain ⟨p, o, hw, hs, hh, ho⟩ := I.own i d (.inr e)
      rw [h1] at hw; cases hw
      exact ⟨d, .inr ⟨p, o, rfl, .inl hh, ho⟩, q'⟩
theorem Vw.mono {d : D} (e : Le K S S') (eh : ∀ p o, v = .ref p → RdD H p o → RdD H' p o) (h : Vw kt K S H v d) : Vw kt K S' H' v d := by
  rcases h with h | ⟨p, o, hv, hr, ho⟩
  · exact .inl (h.mono e)
  · exact .inr ⟨p, o, hv, eh p o hv hr, ho.mono e⟩
/-- what lies at p comes to stay -/
theorem SI.stay {p : Addr} {o : HO} (I : SI kt K S H σ E) (hp : H p = some o) (hs : S p = none) (ha : ¬ ownA σ E p) : SI kt K (upd S p o) H σ E := by
  have le : Same S (upd S p o) := fun b u e => by rw [upd_ne (ne_of_none e hs)]; exact e
  refine ⟨fun b u e => ?_, I.len, fun i d e => ?_, fun i d e => ?_, fun i d e => ?_, I.dis⟩
  · by_cases h : b = p
    · subst h; rw [upd_same] at e; cases e; exact hp
    · rw [upd_ne h] at e; exact I.ex b u e
  · obtain ⟨v, h1, h2⟩ := I.val i d e
    exact ⟨v, h1, h2.mono (le_of le)⟩
  · obtain ⟨v, h1, h2⟩ := I.ro i d e
    exact ⟨v, h1, h2.mono (le_of le) (fun _ _ h _ => h) (fun _ _ _ h => h)⟩
  · obtain ⟨q, o', h1, h2, h3, h4⟩ := I.own i d e
    refine ⟨q, o', h1, ?_, h3, h4.mono (le_of le)⟩
    rw [upd_ne (show q ≠ p from fun z => ha (by rw [← z]; exact ⟨i, d, e, h1⟩))]
    exact h2
theorem ownA_put_val {i : Nat} {d : D} {p a : Addr} (I : SI kt K S H σ E) (e : nth E i = .own d) (hp : σ[i]? = some (some (.ref p))) (h : ownA σ (put E i (.val d)) a) : ownA σ E a ∧ a ≠ p := by
  obtain ⟨j, d', hj, hσ⟩ := h
  by_cases hji : j = i
  · subst hji
    rw [nth_put_self (nth_in (by rw [e]; exact fun z => nomatch z))] at hj
    rcases hj with z | z <;> cases z
  · rw [nth_put_ne hji] at hj
    exact ⟨⟨j, d', hj, hσ⟩, fun z => hji (I.dis j i d' d p hj (.inl e) (by rw [← z]; exact hσ) hp)⟩
/-- a slot's own container comes to stay -/
theorem SI.stayCell {i : Nat} {d : D} {p : Addr} {o : HO} (I : SI kt K S H σ E) (e : nth E i = .own d) (hσ : σ[i]? = some (some (.ref p))) (hs : S p = none) (hp : H p = some o) (ho : Own kt K S o d) : SI kt K (upd S p o) H σ (put E i (.val d)) := by
  have le : Same S (upd S p o) := fun b u e => by rw [upd_ne (ne_of_none e hs)]; exact e
  have hi : i < E.length := nth_in (by rw [e]; exact fun z => nomatch z)
  refine ⟨fun b u e => ?_, by rw [put_len]; exact I.len, fun j d' e' => ?_, fun j d' e' => ?_, fun j d' e' => ?_, fun j k d1 d2 q h1 h2 => ?_⟩
  · by_cases h : b = p
    · subst h; rw [upd_same] at e; cases e; exact hp
    · rw [upd_ne h] at e; exact I.ex b u e
  · by_cases hj : j = i
    · subst hj
      rw [nth_put_self hi] at e'; cases e'
      exact ⟨_, hσ, (ho.mono (le_of le)).rp upd_same⟩
    · rw [nth_put_ne hj] at e'
      obtain ⟨v, h1, h2⟩ := I.val j d' e'
      exact ⟨v, h1, h2.mono (le_of le)⟩
  · by_cases hj : j = i
    · subst hj
      rw [nth_put_self hi] at e'; cases e'
    · rw [nth_put_ne hj] at e'
      obtain ⟨v, h1, h2⟩ := I.ro j d' e'
      exact ⟨v, h1, h2.mono (le_of le) (fun _ _ h _ => h) (fun _ _ _ z => (ownA_put_val I e hσ z).1)⟩
  · by_cases hj : j = i
    · subst hj
      rw [nth_put_self hi] at e'
      rcases e' with z | z <;> cases z
    · rw [nth_put_ne hj] at e'
      obtain ⟨q, o', h1, h2, h3, h4⟩ := I.own j d' e'
      refine ⟨q, o', h1, ?_, h3, h4.mono (le_of le)⟩
      rw [upd_ne (show q ≠ p from fun z => hj (I.dis j i d' d p e' (.inl e) (by rw [← z]; exact h1) hσ))]
      exact h2
  · have g : ∀ m dd, (nth (put E i (.val d)) m = .own dd ∨ nth (put E i (.val d)) m = .bor dd) → (nth E m = .own dd ∨ nth E m = .bor dd) := fun m dd z => by
      by_cases hm : m = i
      · subst hm
        rw [nth_put_self hi] at z
        rcases z with z | z <;> cases z
      · rw [nth_put_ne hm] at z; exact z
    exact I.dis j k d1 d2 q (g _ _ h1) (g _ _ h2)
theorem cells_put {i : Nat} {c : Cell} (h : nth E i ≠ .un) (hs : CellStep (nth E i) c) : ∀ j, CellStep (nth E j) (nth (put E i c) j) := fun j => by
  by_cases hj : j = i
  · subst hj; rw [nth_put_self (nth_in h)]; exact hs
  · rw [nth_put_ne hj]; exact .refl _
/-- freezing, from the start S0 H0 A0 on -/
theorem frz_ok {S0 H0 : Hp} {A0 : Addr → Prop} {k : D → List Cell → Prop} (F : Fr S0 H0 A0 S H (ownA σ E)) (I : SI kt K S H σ E) (h : RepR kt K S H σ E v r) (n : New H0 v r) (q : frz E r k) :
    ∃ S' E' d, SI kt K S' H σ E' ∧ Fr S0 H0 A0 S' H (ownA σ E') ∧ (∀ i, CellStep (nth E i) (nth E' i)) ∧ Same S S' ∧ Rp kt K S' v d ∧ k d E' := by
  cases r with
  | val d => exact ⟨S, E, d, I, F, fun _ => .refl _, .refl S, h, q⟩
  | fr d =>
    obtain ⟨p, o, rfl, hs, ha, hh, ho⟩ := h
    have hn : H0 p = none := n p rfl
    have le : Same S (upd S p o) := fun b u e => by rw [upd_ne (ne_of_none e hs)]; exact e
    refine ⟨upd S p o, E, d, I.stay hh hs ha, ⟨F.ex.trans le, F.keep, fun a h1 h2 h3 => ?_, F.own, F.alive⟩, fun _ => .refl _, le, (ho.mono (le_of le)).rp upd_same, q⟩
    rw [upd_ne (show a ≠ p from fun z => h1 (by rw [z]; exact hn))]
    exact F.free a h1 h2 h3
  | cell i =>
    obtain ⟨h1, h2⟩ := h
    have q' : (match nth E i with | .val d => k d E | .own d => k d (put E i (.val d)) | _ => False) := q
    cases e : nth E i with
    | un => exact absurd e h2
    | val d =>
      rw [e] at q'
      obtain ⟨w, hw, hr⟩ := I.val i d e
      rw [h1] at hw; cases hw
      exact ⟨S, E, d, I, F, fun _ => .refl _, .refl S, hr, q'⟩
    | ro d => rw [e] at q'; exact q'.elim
    | bor d => rw [e] at q'; exact q'.elim
    | own d =>
      rw [e] at q'
      obtain ⟨p, o, hw, hs, hh, ho⟩ := I.own i d (.inl e)
      have hvp := hw
      rw [h1] at hw; cases hw
      have le : Same S (upd S p o) := fun b u e => by rw [upd_ne (ne_of_none e hs)]; exact e
      have hA : ownA σ E p := ⟨i, d, .inl e, hvp⟩
      refine ⟨upd S p o, put E i (.val d), d, I.stayCell e hvp hs hh ho, ⟨F.ex.trans le, F.keep, fun a g1 g2 g3 => ?_, fun a z => F.own a (ownA_put_val I e hvp z).1, F.alive⟩, cells_put h2 (by rw [e]; exact .inr ⟨d, rfl⟩), le, (ho.mono (le_of le)).rp upd_same, q'⟩
      rw [upd_ne (show a ≠ p from fun z => ?_)]
      · exact F.free a g1 g2 g3
      · subst z
        rcases F.own a hA with z | z
        · exact g3 z
        · exact g1 z
end
end BD
set_option Elab.async false
set_option linter.all false
set_option maxRecDepth 100000
set_option maxHeartbeats 2000000
/-! BD: judgements over data; names, constants, operators, tests. -/
namespace BD
open PySem PySem.Spec PyProof.Rows L2

abbrev DE := List Cell → (R → List Cell → Prop) → Prop
abbrev DV := List Cell → (D → List Cell → Prop) → Prop
abbrev DT := List Cell → (Bool → List Cell → Prop) → Prop
abbrev DA := List Cell → (List D → List Cell → Prop) → Prop
abbrev DR := List Cell → (List R → List Cell → Prop) → Prop

section
variable (kt : Bool) (K : PySem.W.Frag)
inductive RepRs (S H : Hp) (σ : L2.St) (E : List Cell) : List V → List R → Prop
  | nil : RepRs S H σ E [] []
  | cons {v : V} {vs : List V} {r : R} {rs : List R} : RepR kt K S H σ E v r → RepRs S H σ E vs rs → RepRs S H σ E (v :: vs) (r :: rs)
def LkE (t : TE) (d : DE) : Prop := ∀ (S H : Hp) (σ : L2.St) (E : List Cell) (Q : R → List Cell → Prop) (Q' : VK), SI kt K S H σ E → d E Q →
  (∀ S' H' E' v r, Ev kt K S H σ E S' H' E' → RepR kt K S' H' σ E' v r → New H v r → Q r E' → Q' v H') → t σ H Q'
def LkV (t : TE) (d : DV) : Prop := ∀ (S H : Hp) (σ : L2.St) (E : List Cell) (Q : D → List Cell → Prop) (Q' : VK), SI kt K S H σ E → d E Q →
  (∀ S' H' E' v x, Ev kt K S H σ E S' H' E' → Rp kt K S' v x → Q x E' → Q' v H') → t σ H Q'
def LkT (t : TT) (d : DT) : Prop := ∀ (S H : Hp) (σ : L2.St) (E : List Cell) (Q : Bool → List Cell → Prop) (Q' : Bool → Hp → Prop), SI kt K S H σ E → d E Q →
  (∀ S' H' E' b, Ev kt K S H σ E S' H' E' → Q b E' → Q' b H') → t σ H Q'
def LkA (t : TA) (d : DA) : Prop := ∀ (S H : Hp) (σ : L2.St) (E : List Cell) (Q : List D → List Cell → Prop) (Q' : List V → Hp → Prop), SI kt K S H σ E → d E Q →
  (∀ S' H' E' vs xs, Ev kt K S H σ E S' H' E' → RpL kt K S' vs xs → Q xs E' → Q' vs H') → t σ H Q'
inductive News (H : Hp) : List V → List R → Prop
  | nil : News H [] []
  | cons {v : V} {vs : List V} {r : R} {rs : List R} : New H v r → News H vs rs → News H (v :: vs) (r :: rs)
def LkR (t : TA) (d : DR) : Prop := ∀ (S H : Hp) (σ : L2.St) (E : List Cell) (Q : List R → List Cell → Prop) (Q' : List V → Hp → Prop), SI kt K S H σ E → d E Q →
  (∀ S' H' E' vs rs, Ev kt K S H σ E S' H' E' → RepRs kt K S' H' σ E' vs rs → News H vs rs → Q rs E' → Q' vs H') → t σ H Q'
end
structure SE (X : Cx) (kt : Bool) (e : Expr) (d : DE) : Prop where
  ex : ∃ t, PE X e t ∧ LkE kt X.K t d
structure SV (X : Cx) (kt : Bool) (e : Expr) (d : DV) : Prop where
  ex : ∃ t, PE X e t ∧ LkV kt X.K t d
structure ST (X : Cx) (kt : Bool) (e : Expr) (d : DT) : Prop where
  ex : ∃ t, PT X e t ∧ LkT kt X.K t d
structure SW (X : Cx) (kt : Bool) (e : Expr) (d : DT) : Prop where
  ex : ∃ t, PW X e t ∧ LkT kt X.K t d
structure SA (X : Cx) (kt : Bool) (es : List Expr) (d : DA) : Prop where
  ex : ∃ t, PA X es t ∧ LkA kt X.K t d
structure SR (X : Cx) (kt : Bool) (es : List Expr) (d : DR) : Prop where
  ex : ∃ t, PA X es t ∧ LkR kt X.K t d

section
variable {kt : Bool} {K : PySem.W.Frag} {S H S' H' S1 H1 S2 H2 : Hp} {σ : L2.St} {E E' E1 E2 : List Cell} {v : V} {r : R}
theorem ownA_alive (I : SI kt K S H σ E) {a : Addr} (h : ownA σ E a) : H a ≠ none := by
  obtain ⟨i, d, hi, hσ⟩ := h
  obtain ⟨p, o, h1, h2, h3, h4⟩ := I.own i d hi
  rw [hσ] at h1; cases h1
  rw [h3]; exact fun z => nomatch z
/-- a new object -/
theorem SI.alloc {p : Addr} {o : HO} (I : SI kt K S H σ E) (hp : H p = none) : SI kt K S (upd H p o) σ E := by
  have ne : ∀ {q u}, H q = some u → q ≠ p := fun h => ne_of_none h hp
  have up : ∀ q u, H q = some u → upd H p o q = some u := fun q u h => by rw [upd_ne (ne h)]; exact h
  refine ⟨fun b u e => up b u (I.ex b u e), I.len, I.val, fun i d e => ?_, fun i d e => ?_, I.dis⟩
  · obtain ⟨v, h1, h2⟩ := I.ro i d e
    exact ⟨v, h1, h2.mono .refl (fun q u hr _ => hr.elim (fun z => .inl (up _ _ z)) fun ⟨⟨w, z⟩, y⟩ => .inr ⟨⟨w, up _ _ z⟩, y⟩) (fun _ _ _ z => z)⟩
  · obtain ⟨q, o', h1, h2, h3, h4⟩ := I.own i d e
    exact ⟨q, o', h1, h2, up _ _ h3, h4⟩
theorem Fr.alloc {S0 H0 : Hp} {A0 A : Addr → Prop} {p : Addr} {o : HO} (F : Fr S0 H0 A0 S H A) (hp : H p = none) : Fr S0 H0 A0 S (upd H p o) A :=
  ⟨F.ex, fun a u h n => by rw [upd_ne (ne_of_none (F.keep a u h n) hp)]; exact F.keep a u h n, F.free, F.own, fun a h => by
    by_cases e : a = p
    · subst e; rw [upd_same]; exact fun z => nomatch z
    · rw [upd_ne e]; exact F.alive a h⟩
theorem Ev.alloc {p : Addr} {o : HO} (e : Ev kt K S H σ E S1 H1 E1) (hp : H1 p = none) : Ev kt K S H σ E S1 (upd H1 p o) E1 := ⟨e.si.alloc hp, e.fr.alloc hp, e.cells⟩
/-- what lies at p, newer than the start, comes to stay -/
theorem Ev.stay {p : Addr} {o : HO} (e : Ev kt K S H σ E S1 H1 E1) (hp : H1 p = some o) (hs : S1 p = none) (ha : ¬ ownA σ E1 p) (hn : H p = none) : Ev kt K S H σ E (upd S1 p o) H1 E1 :=
  ⟨e.si.stay hp hs ha, ⟨e.fr.ex.trans fun b u z => by rw [upd_ne (ne_of_none z hs)]; exact z, e.fr.keep, fun a h1 h2 h3 => by
    rw [upd_ne (show a ≠ p from fun z => h1 (by rw [z]; exact hn))]
    exact e.fr.free a h1 h2 h3, e.fr.own, e.fr.alive⟩, e.cells⟩
theorem SI.none (I : SI kt K S H σ E) {p : Addr} (h : H p = none) : S p = none := by
  cases e : S p with
  | none => rfl
  | some o => rw [I.ex p o e] at h; cases h
/-- what an operation may give -/
structure Outs (kt : Bool) (K : PySem.W.Frag) (S H : Hp) (Q : R → Prop) (Q' : VK) : Prop where
  val : ∀ v d, Rp kt K S v d → Q (.val d) → Q' v H
  fr : ∀ p o d, H p = none → Own kt K S o d → Q (.fr d) → Q' (.ref p) (upd H p o)
  tup : ∀ p vs ds, H p = none → RpL kt K S vs ds → Q (.val (.tup ds)) → Q' (.ref p) (upd H p (.tup vs))
theorem Outs.lst {Q : R → Prop} {Q' : VK} (o : Outs kt K S H Q Q') {p : Addr} {vs : List V} {ds : List D} (hp : H p = none) (r : RpL kt K S vs ds) (q : Q (.fr (.lst ds))) : Q' (.ref p) (upd H p (.lst vs)) := o.fr p _ (.lst ds) hp ⟨vs, rfl, r⟩ q
theorem outs_of {Q : R → List Cell → Prop} {Q' : VK} (e : Ev kt K S H σ E S2 H2 E2) (k : ∀ S' H' E' v r, Ev kt K S H σ E S' H' E' → RepR kt K S' H' σ E' v r → New H v r → Q r E' → Q' v H') :
    Outs kt K S2 H2 (fun r => Q r E2) Q' := by
  refine ⟨fun v d h q => k _ _ _ v (.val d) e h trivial q, fun p o d hp ho q => ?_, fun p vs ds hp hr q => ?_⟩
  · refine k _ _ _ _ (.fr d) (e.alloc (o := o) hp) ⟨p, o, rfl, e.si.none hp, fun z => ownA_alive e.si z hp, upd_same, ho⟩ (fun q' z => ?_) q
    cases z
    exact e.fr.back hp
  · have e1 := e.alloc (o := .tup vs) hp
    have e2 := e1.stay (o := .tup vs) upd_same (e.si.none hp) (fun z => ownA_alive e.si z hp) (e.fr.back hp)
    have le : Same S2 (upd S2 p (.tup vs)) := fun b u z => by rw [upd_ne (ne_of_none z (e.si.none hp))]; exact z
    exact k _ _ _ _ (.val (.tup ds)) e2 (.tup (.inl upd_same) (hr.mono (le_of le))) trivial q
end

/-! ### operations on data -/
def OpD (kt : Bool) (K : PySem.W.Frag) (r : R2) (rd : D → D → (R → Prop) → Prop) : Prop := ∀ (S H : Hp) (v1 v2 : V) (d1 d2 : D) (Q : R → Prop) (Q' : VK), Same S H →
  Vw kt K S H v1 d1 → Vw kt K S H v2 d2 → rd d1 d2 Q → Outs kt K S H Q Q' → r v1 v2 H Q'
def dBin (rd : D → D → (R → Prop) → Prop) (da db : DE) : DE := fun E Q => da E fun r1 E1 => db E1 fun r2 E2 => vw E2 r1 fun d1 => vw E2 r2 fun d2 => rd d1 d2 fun r => Q r E2
def UnD (kt : Bool) (K : PySem.W.Frag) (r : V → Hp → VK → Prop) (rd : D → (R → Prop) → Prop) : Prop := ∀ (S H : Hp) (v1 : V) (d1 : D) (Q : R → Prop) (Q' : VK), Same S H →
  Vw kt K S H v1 d1 → rd d1 Q → Outs kt K S H Q Q' → r v1 H Q'
def dUn (rd : D → (R → Prop) → Prop) (da : DE) : DE := fun E Q => da E fun r1 E1 => vw E1 r1 fun d1 => rd d1 fun r => Q r E1
/-- an operator with its reading on data -/
structure OpB (X : Cx) (kt : Bool) (f : Value → Value → Sem Value) (rd : D → D → (R → Prop) → Prop) : Prop where
  ex : ∃ r, OpR X f r ∧ OpD kt X.K r rd
section
variable {X : Cx} {kt : Bool} {a b c e : Expr} {es : List Expr} {pos : Pos} {da db dc : DE} {tx ty tz : DT}
theorem bin_lk {r : R2} {rd : D → D → (R → Prop) → Prop} {K : PySem.W.Frag} {ta tb : TE} (hd : OpD kt K r rd) (la : LkE kt K ta da) (lb : LkE kt K tb db) : LkE kt K (tOp r ta tb) (dBin rd da db) :=
  fun S H σ E Q Q' I h k => la S H σ E _ _ I h fun S1 H1 E1 v1 r1 e1 q1 n1 h1 => lb S1 H1 σ E1 _ _ e1.si h1 fun S2 H2 E2 v2 r2 e2 q2 n2 h2 => by
    obtain ⟨d1, w1, h3⟩ := vw_ok e2.si (q1.step e2) h2
    obtain ⟨d2, w2, h4⟩ := vw_ok e2.si q2 h3
    exact hd S2 H2 v1 v2 d1 d2 _ _ e2.si.ex w1 w2 h4 (outs_of (e1.trans e2) k)
theorem se_bin {op : Operator} {rd : D → D → (R → Prop) → Prop} (o : OpB X kt (binaryOp op) rd) (ha : SE X kt a da) (hb : SE X kt b db) : SE X kt (.BinOp a op b pos) (dBin rd da db) := by
  obtain ⟨r, ho, hd⟩ := o.ex
  obtain ⟨ta, pa, la⟩ := ha.ex
  obtain ⟨tb, pb, lb⟩ := hb.ex
  exact ⟨_, pe_op ho pa pb, bin_lk hd la lb⟩
theorem se_cmp {op : CmpOp} {rd : D → D → (R → Prop) → Prop} (o : OpB X kt (compareOp op) rd) (ha : SE X kt a da) (hb : SE X kt b db) (hm : behindInMarks op b = false := by first | exact nomark _ | with_unfolding_all rfl) : SE X kt (.Compare a [op] [b] pos) (dBin rd da db) := by
  obtain ⟨r, ho, hd⟩ := o.ex
  obtain ⟨ta, pa, la⟩ := ha.ex
  obtain ⟨tb, pb, lb⟩ := hb.ex
  exact ⟨_, pe_cmpR ho pa pb hm, bin_lk hd la lb⟩
theorem se_un {op : UnaryOp} {r : V → Hp → VK → Prop} {rd : D → (R → Prop) → Prop} (ho : UnR X (unaryOp op) r) (hd : UnD kt X.K r rd) (ha : SE X kt a da) : SE X kt (.UnaryOp op a pos) (dUn rd da) := by
  obtain ⟨ta, pa, la⟩ := ha.ex
  exact ⟨_, pe_un ho pa, fun S H σ E Q Q' I h k => la S H σ E _ _ I h fun S1 H1 E1 v1 r1 e1 q1 n1 h1 => by
    obtain ⟨d1, w1, h3⟩ := vw_ok e1.si q1 h1
    exact hd S1 H1 v1 d1 _ _ e1.si.ex w1 h3 (outs_of e1 k)⟩
/-! ### names, constants -/
def dVar (i : Nat) : DE := fun E Q => match nth E i with
  | .un => False
  | .val d => Q (.val d) E
  | _ => Q (.cell i) E
theorem var_lk {K : PySem.W.Frag} {i : Nat} : LkE kt K (tVar i) (dVar i) := fun S H σ E Q Q' I h k => by
  have h' : (match nth E i with | .un => False | .val d => Q (.val d) E | _ => Q (.cell i) E) := h
  cases e : nth E i with
  | un => rw [e] at h'; exact h'.elim
  | val d =>
    rw [e] at h'
    obtain ⟨v, h1, h2⟩ := I.val i d e
    exact ⟨v, h1, k S H E v (.val d) (.refl I) h2 trivial h'⟩
  | ro d =>
    rw [e] at h'
    obtain ⟨v, h1, h2⟩ := I.ro i d e
    exact ⟨v, h1, k S H E v (.cell i) (.refl I) ⟨h1, by rw [e]; exact fun z => nomatch z⟩ trivial h'⟩
  | own d =>
    rw [e] at h'
    obtain ⟨p, o, h1, h2, h3, h4⟩ := I.own i d (.inl e)
    exact ⟨_, h1, k S H E _ (.cell i) (.refl I) ⟨h1, by rw [e]; exact fun z => nomatch z⟩ trivial h'⟩
  | bor d =>
    rw [e] at h'
    obtain ⟨p, o, h1, h2, h3, h4⟩ := I.own i d (.inr e)
    exact ⟨_, h1, k S H E _ (.cell i) (.refl I) ⟨h1, by rw [e]; exact fun z => nomatch z⟩ trivial h'⟩
/-- the name in slot i -/
theorem sv (i : Nat) {x : Str} {pos : Pos} (hN : X.N[i]? = some x := by rfl) (hv : Vis X.env.scope x := by first | exact Or.inl rfl | exact Or.inr (Or.inl rfl) | exact Or.inr (Or.inr rfl)) (hd : (x == ("__debug__" : Str)) = false := by decide)
    (hcd : (x == ("__classdict__" : Str)) = false := by decide) : SE X kt (.Name x pos) (dVar i) := ⟨_, pe_var hN hv hd hcd, var_lk⟩
def dC (d : D) : DE := fun E Q => Q (.val d) E
theorem c_lk {K : PySem.W.Frag} {v : V} {d : D} (h : ∀ S, Rp kt K S v d) : LkE kt K (tC v) (dC d) := fun S H σ E Q Q' I q k => k S H E v (.val d) (.refl I) (h S) trivial q
theorem se_int {i : Int} {j pos} : SE X kt (.Constant (.int i) j pos) (dC (.int i)) := ⟨_, pe_int, c_lk fun _ => .int i⟩
theorem se_bl {b j pos} : SE X kt (.Constant (.bool b) j pos) (dC (.bl b)) := ⟨_, pe_bl, c_lk fun _ => .bl b⟩
theorem se_non {j pos} : SE X kt (.Constant .none j pos) (dC .non) := ⟨_, pe_non, c_lk fun _ => .non⟩
theorem se_str {x j pos} : SE X kt (.Constant (.str x) j pos) (dC (.str x)) := ⟨_, pe_str, c_lk fun _ => .str x⟩
/-- a module's constant int, text -/
theorem se_globI {x : Str} {i : Int} {u : Value} {pos : Pos} (hg : Gl X x) (hm : X.mg x = some u) (r : RelV (.int i) u) (hd : (x == ("__debug__" : Str)) = false := by decide) : SE X kt (.Name x pos) (dC (.int i)) := ⟨_, pe_glob hg hm r hd, c_lk fun _ => .int i⟩
theorem se_globS {x : Str} {z : Str} {u : Value} {pos : Pos} (hg : Gl X x) (hm : X.mg x = some u) (r : RelV (.str z) u) (hd : (x == ("__debug__" : Str)) = false := by decide) : SE X kt (.Name x pos) (dC (.str z)) := ⟨_, pe_glob hg hm r hd, c_lk fun _ => .str z⟩
/-! ### values that stay -/
def dFz (da : DE) : DV := fun E Q => da E fun r E1 => frz E1 r Q
theorem fz_lk {K : PySem.W.Frag} {ta : TE} (la : LkE kt K ta da) : LkV kt K ta (dFz da) := fun S H σ E Q Q' I h k => la S H σ E _ _ I h fun S1 H1 E1 v1 r1 e1 q1 n1 h1 => by
  obtain ⟨S2, E2, d, I2, F2, c2, _, r2, q2⟩ := frz_ok e1.fr e1.si q1 n1 h1
  exact k S2 H1 E2 v1 d ⟨I2, F2, fun i => (e1.cells i).trans (c2 i)⟩ r2 q2
theorem fz (h : SE X kt e da) : SV X kt e (dFz da) := by
  obtain ⟨t, p, l⟩ := h.ex
  exact ⟨t, p, fz_lk l⟩
def dNilA : DA := fun E Q => Q [] E
def dConsA (dv : DV) (dr : DA) : DA := fun E Q => dv E fun x E1 => dr E1 fun xs E2 => Q (x :: xs) E2
theorem sa_nil : SA X kt [] dNilA := ⟨_, pa_nil, fun S H σ E Q Q' I h k => k S H E [] [] (.refl I) .nil h⟩
theorem sa_cons {dv : DE} {dr : DA} (h : SE X kt e dv) (hr : SA X kt es dr) (hs : starEach (e :: es) X.env = (false, eval e X.env) :: starEach es X.env := by rfl) : SA X kt (e :: es) (dConsA (dFz dv) dr) := by
  obtain ⟨t, p, l⟩ := (fz h).ex
  obtain ⟨tr, pr, lr⟩ := hr.ex
  exact ⟨_, pa_cons p pr hs, fun S H σ E Q Q' I h k => l S H σ E _ _ I h fun S1 H1 E1 v1 x1 e1 r1 h1 => lr S1 H1 σ E1 _ _ e1.si h1 fun S2 H2 E2 vs xs e2 rs h2 =>
    k S2 H2 E2 (v1 :: vs) (x1 :: xs) (e1.trans e2) (.cons (r1.mono (le_of e2.fr.ex)) rs) h2⟩
/-! ### displays -/
def dTup (d : DA) : DE := fun E Q => d E fun xs E1 => xs.length ≤ sizeLine ∧ Q (.val (.tup xs)) E1
def dLst (d : DA) : DE := fun E Q => d E fun xs E1 => xs.length ≤ sizeLine ∧ Q (.fr (.lst xs)) E1
theorem se_tup {x1} {d : DA} (h : SA X kt es d) : SE X kt (.Tuple es x1 pos) (dTup d) := by
  obtain ⟨t, p, l⟩ := h.ex
  exact ⟨_, pe_tup p, fun S H σ E Q Q' I h k => l S H σ E _ _ I h fun S1 H1 E1 vs xs e1 r1 h1 => ⟨by rw [r1.length]; exact h1.1, fun p hp => (outs_of e1 k).tup p vs xs hp r1 h1.2⟩⟩
theorem se_lst {d : DA} (h : SA X kt es d) : SE X kt (.List es pos) (dLst d) := by
  obtain ⟨t, p, l⟩ := h.ex
  exact ⟨_, pe_lst p, fun S H σ E Q Q' I h k => l S H σ E _ _ I h fun S1 H1 E1 vs xs e1 r1 h1 => ⟨by rw [r1.length]; exact h1.1, fun p hp => (outs_of e1 k).fr p (.lst vs) (.lst xs) hp ⟨vs, rfl, r1⟩ h1.2⟩⟩
/-! ### tests -/
def dB (da : DE) : DT := fun E Q => da E fun r E1 => match r with
  | .val (.bl b) => Q b E1
  | _ => False
theorem b_lk {K : PySem.W.Frag} {ta : TE} (la : LkE kt K ta da) : LkT kt K (tB ta) (dB da) := fun S H σ E Q Q' I h k => la S H σ E _ _ I h fun S1 H1 E1 v1 r1 e1 q1 n1 h1 => by
  cases r1 with
  | val d =>
    cases d with
    | bl b =>
      cases (show Rp kt K S1 v1 (.bl b) from q1)
      exact ⟨b, rfl, k S1 H1 E1 b e1 h1⟩
    | _ => exact (show False from h1).elim
  | fr d => exact (show False from h1).elim
  | cell i => exact (show False from h1).elim
/-- a comparison as a test -/
theorem st_cmp {op : CmpOp} {rd : D → D → (R → Prop) → Prop} (o : OpB X kt (compareOp op) rd) (ha : SE X kt a da) (hb : SE X kt b db) (hm : behindInMarks op b = false := by first | exact nomark _ | with_unfolding_all rfl) : ST X kt (.Compare a [op] [b] pos) (dB (dBin rd da db)) := by
  obtain ⟨r, ho, hd⟩ := o.ex
  obtain ⟨ta, pa, la⟩ := ha.ex
  obtain ⟨tb, pb, lb⟩ := hb.ex
  exact ⟨_, pt_cmpR ho pa pb hm, b_lk (bin_lk hd la lb)⟩
/-- an expression that gives True or False, as a test -/
theorem st_val (h : SE X kt e da) (he : ∀ whole, isTrue e X.env whole = (do let v ← whole; standAt e.pos; holding [v] (truthy v)) := by intro _; rfl) : ST X kt e (dB da) := by
  obtain ⟨t, p, l⟩ := h.ex
  exact ⟨_, pt_val p he, b_lk l⟩
def tru : D → Bool → Prop
  | .non, k => k = false
  | .bl b, k => k = b
  | .int i, k => k = (i != 0)
  | .str x, k => x.length ≤ sizeLine ∧ k = ((x.length : Int) != 0)
  | .lst xs, k => k = !xs.isEmpty
  | .tup xs, k => k = !xs.isEmpty
  | _, _ => False
def dTru (da : DE) : DT := fun E Q => da E fun r E1 => vw E1 r fun d => ∃ k, tru d k ∧ Q k E1
/-! and, or, not, .. if .. else .. -/
def dAnd (t u : DT) : DT := fun E Q => t E fun b E1 => if b = true then u E1 Q else Q false E1
def dOr (t u : DT) : DT := fun E Q => t E fun b E1 => if b = true then Q true E1 else u E1 Q
def dNot (t : DT) : DT := fun E Q => t E fun b E1 => Q (!b) E1
theorem SW.st (h : SW X kt e tx) : ST X kt e tx := by
  obtain ⟨t, p, l⟩ := h.ex
  exact ⟨t, p.pt, l⟩
theorem sw_and1 (h : ST X kt a tx) : SW X kt (.BoolOp .And [a] pos) tx := by
  obtain ⟨t, p, l⟩ := h.ex
  exact ⟨t, pw_and1 p, l⟩
theorem sw_or1 (h : ST X kt a tx) : SW X kt (.BoolOp .Or [a] pos) tx := by
  obtain ⟨t, p, l⟩ := h.ex
  exact ⟨t, pw_or1 p, l⟩
theorem and_lk {K : PySem.W.Frag} {t u : TT} (l : LkT kt K t tx) (m : LkT kt K u ty) : LkT kt K (tAnd t u) (dAnd tx ty) := fun S H σ E Q Q' I h k => l S H σ E _ _ I h fun S1 H1 E1 b e1 h1 => by
  cases b with
  | true => rw [if_pos rfl] at h1 ⊢; exact m S1 H1 σ E1 _ _ e1.si h1 fun S2 H2 E2 b e2 h2 => k S2 H2 E2 b (e1.trans e2) h2
  | false => rw [if_neg Bool.false_ne_true] at h1 ⊢; exact k S1 H1 E1 false e1 h1
theorem or_lk {K : PySem.W.Frag} {t u : TT} (l : LkT kt K t tx) (m : LkT kt K u ty) : LkT kt K (tOr t u) (dOr tx ty) := fun S H σ E Q Q' I h k => l S H σ E _ _ I h fun S1 H1 E1 b e1 h1 => by
  cases b with
  | true => rw [if_pos rfl] at h1 ⊢; exact k S1 H1 E1 true e1 h1
  | false => rw [if_neg Bool.false_ne_true] at h1 ⊢; exact m S1 H1 σ E1 _ _ e1.si h1 fun S2 H2 E2 b e2 h2 => k S2 H2 E2 b (e1.trans e2) h2
theorem sw_and (h : ST X kt a tx) (hr : SW X kt (.BoolOp .And (b :: es) pos) ty) : SW X kt (.BoolOp .And (a :: b :: es) pos) (dAnd tx ty) := by
  obtain ⟨t, p, l⟩ := h.ex
  obtain ⟨u, q, m⟩ := hr.ex
  exact ⟨_, pw_and p q, and_lk l m⟩
theorem sw_or (h : ST X kt a tx) (hr : SW X kt (.BoolOp .Or (b :: es) pos) ty) : SW X kt (.BoolOp .Or (a :: b :: es) pos) (dOr tx ty) := by
  obtain ⟨t, p, l⟩ := h.ex
  obtain ⟨u, q, m⟩ := hr.ex
  exact ⟨_, pw_or p q, or_lk l m⟩
theorem st_not (h : ST X kt a tx) : ST X kt (.UnaryOp .Not a pos) (dNot tx) := by
  obtain ⟨t, p, l⟩ := h.ex
  exact ⟨_, pt_not p, fun S H σ E Q Q' I h k => l S H σ E _ _ I h fun S1 H1 E1 b e1 h1 => k S1 H1 E1 (!b) e1 h1⟩
def dIf (t : DT) (da db : DE) : DE := fun E Q => t E fun b E1 => if b = true then da E1 Q else db E1 Q
theorem se_if (h : ST X kt c tx) (ha : SE X kt a da) (hb : SE X kt b db) : SE X kt (.IfExp c a b pos) (dIf tx da db) := by
  obtain ⟨t, p, l⟩ := h.ex
  obtain ⟨ta, pa, la⟩ := ha.ex
  obtain ⟨tb, pb, lb⟩ := hb.ex
  refine ⟨_, pe_ifExp p pa pb, fun S H σ E Q Q' I h k => l S H σ E _ _ I h fun S1 H1 E1 b e1 h1 => ?_⟩
  cases b with
  | true =>
    rw [if_pos rfl] at h1 ⊢
    exact la S1 H1 σ E1 _ _ e1.si h1 fun S2 H2 E2 v r e2 q n h2 => k S2 H2 E2 v r (e1.trans e2) q (n.back fun p => e1.fr.back) h2
  | false =>
    rw [if_neg Bool.false_ne_true] at h1 ⊢
    exact lb S1 H1 σ E1 _ _ e1.si h1 fun S2 H2 E2 v r e2 q n h2 => k S2 H2 E2 v r (e1.trans e2) q (n.back fun p => e1.fr.back) h2
/-- and, or, not as values: all True or False -/
def dBl (t : DT) : DE := fun E Q => t E fun b E1 => Q (.val (.bl b)) E1
end
end BD
set_option Elab.async false
set_option linter.all false
set_option maxRecDepth 100000
set_option maxHeartbeats 2000000
/-! BD: operators on data. -/
namespace BD
open PySem PySem.Spec PyProof.Rows L2
section
variable {kt : Bool} {K : PySem.W.Frag} {S H : Hp} {v w : V}
theorem Vw.int {i : Int} (h : Vw kt K S H v (.int i)) : v = .int i := by
  rcases h with h | ⟨p, o, _, _, h⟩
  · cases h; rfl
  · exact (show False from h).elim
theorem Vw.bl {i : Bool} (h : Vw kt K S H v (.bl i)) : v = .bl i := by
  rcases h with h | ⟨p, o, _, _, h⟩
  · cases h; rfl
  · exact (show False from h).elim
theorem Vw.non (h : Vw kt K S H v .non) : v = .non := by
  rcases h with h | ⟨p, o, _, _, h⟩
  · cases h; rfl
  · exact (show False from h).elim
theorem Vw.str {i : Str} (h : Vw kt K S H v (.str i)) : v = .str i := by
  rcases h with h | ⟨p, o, _, _, h⟩
  · cases h; rfl
  · exact (show False from h).elim
theorem RdD.lst {p : Addr} {vs : List V} (h : RdD H p (.lst vs)) : H p = some (.lst vs) := h.elim id fun z => absurd rfl (z.2 vs).1
theorem RdD.tup {p : Addr} {vs : List V} (h : RdD H p (.tup vs)) : H p = some (.tup vs) := h.elim id fun z => absurd rfl (z.2 vs).2
theorem RdD.rd {p : Addr} {o : HO} (h : RdD H p o) : Rd H p o := h.elim .inl fun z => .inr z.1
/-- a list that may be read -/
theorem Vw.lst {ds : List D} (e : Same S H) (h : Vw kt K S H v (.lst ds)) : ∃ p vs, v = .ref p ∧ H p = some (.lst vs) ∧ RpL kt K S vs ds := by
  rcases h with h | ⟨p, o, hv, hr, h⟩
  · cases h with
    | lst h1 h2 => exact ⟨_, _, rfl, e _ _ h1, h2⟩
  · obtain ⟨vs, rfl, h2⟩ := h
    exact ⟨p, vs, hv, hr.lst, h2⟩
theorem TupAt.sqt {a : Addr} {vs : List V} (h : TupAt kt K H a vs) : SqT K H a vs := h.elim (fun z => .inl (.inl z)) fun z => z.2
theorem TupAt.mono {H' : Hp} {a : Addr} {vs : List V} (e : Same H H') (h : TupAt kt K H a vs) : TupAt kt K H' a vs := h.elim (fun z => .inl (e _ _ z)) fun z => .inr ⟨z.1, (le_of e).sqt _ _ z.2⟩
theorem Vw.rpT {ds : List D} (h : Vw kt K S H v (.tup ds)) : Rp kt K S v (.tup ds) := h.elim id fun ⟨_, _, _, _, z⟩ => (show False from z).elim
theorem Vw.tup {ds : List D} (e : Same S H) (h : Vw kt K S H v (.tup ds)) : ∃ p vs, v = .ref p ∧ SqT K H p vs ∧ RpL kt K S vs ds := by
  cases h.rpT with
  | tup h1 h2 => exact ⟨_, _, rfl, (h1.mono e).sqt, h2⟩
theorem Vw.scr {ns : List Int} (e : Same S H) (h : Vw kt K S H v (.scr ns)) : ∃ p, v = .ref p ∧ SqL K H p (ns.map V.int) := by
  rcases h with h | ⟨p, o, hv, hr, h⟩
  · cases h with
    | scr h1 => exact ⟨_, rfl, (le_of e).sql _ _ h1⟩
  · exact (show False from h).elim
theorem RpL.get : ∀ {vs : List V} {ds : List D} {i : Nat} {d : D}, RpL kt K S vs ds → ds[i]? = some d → ∃ v, vs[i]? = some v ∧ Rp kt K S v d
  | _, _, _, _, .nil, h => by simp at h
  | _, _, 0, _, .cons r _, h => by simp at h; subst h; exact ⟨_, rfl, r⟩
  | _, _, i + 1, _, .cons _ t, h => by
    obtain ⟨v, h1, h2⟩ := RpL.get (i := i) t (by simpa using h)
    exact ⟨v, by simpa using h1, h2⟩
theorem RpL.atI {vs : List V} {ds : List D} {i : Int} {d : D} (r : RpL kt K S vs ds) (h : L2.atI ds i = some d) : ∃ v, L2.atI vs i = some v ∧ Rp kt K S v d := by
  unfold L2.atI at h ⊢
  rw [r.length]
  cases e : ixN ds.length i with
  | none => rw [e] at h; cases h
  | some j =>
    rw [e] at h
    exact r.get h
theorem RpL.append : ∀ {vs ws : List V} {ds es : List D}, RpL kt K S vs ds → RpL kt K S ws es → RpL kt K S (vs ++ ws) (ds ++ es)
  | _, _, _, _, .nil, s => s
  | _, _, _, _, .cons r t, s => .cons r (RpL.append t s)
theorem RpL.drop : ∀ {vs : List V} {ds : List D} (n : Nat), RpL kt K S vs ds → RpL kt K S (vs.drop n) (ds.drop n)
  | _, _, 0, r => r
  | _, _, _ + 1, .nil => .nil
  | _, _, n + 1, .cons _ t => RpL.drop n t
theorem RpL.take : ∀ {vs : List V} {ds : List D} (n : Nat), RpL kt K S vs ds → RpL kt K S (vs.take n) (ds.take n)
  | _, _, 0, _ => .nil
  | _, _, _ + 1, .nil => .nil
  | _, _, n + 1, .cons r t => .cons r (RpL.take n t)
theorem RpL.set : ∀ {vs : List V} {ds : List D} (n : Nat) {v : V} {d : D}, RpL kt K S vs ds → Rp kt K S v d → RpL kt K S (vs.set n v) (ds.set n d)
  | _, _, _, _, _, .nil, _ => .nil
  | _, _, 0, _, _, .cons _ t, q => .cons q t
  | _, _, n + 1, _, _, .cons r t, q => .cons r (RpL.set n t q)
theorem RpL.eraseIdx : ∀ {vs : List V} {ds : List D} (n : Nat), RpL kt K S vs ds → RpL kt K S (vs.eraseIdx n) (ds.eraseIdx n)
  | _, _, _, .nil => .nil
  | _, _, 0, .cons _ t => t
  | _, _, n + 1, .cons r t => .cons r (RpL.eraseIdx n t)
theorem RpL.dropLast : ∀ {vs : List V} {ds : List D}, RpL kt K S vs ds → RpL kt K S vs.dropLast ds.dropLast
  | _, _, .nil => .nil
  | _, _, .cons _ .nil => .nil
  | _, _, .cons r (.cons q t) => .cons r (RpL.dropLast (.cons q t))
theorem RpL.reverse : ∀ {vs : List V} {ds : List D}, RpL kt K S vs ds → RpL kt K S vs.reverse ds.reverse
  | _, _, .nil => .nil
  | _, _, .cons r t => by rw [List.reverse_cons, List.reverse_cons]; exact (RpL.reverse t).append (.cons r .nil)
theorem RpL.rep {vs : List V} {ds : List D} (h : RpL kt K S vs ds) : ∀ k : Nat, RpL kt K S (List.replicate k vs).flatten (List.replicate k ds).flatten
  | 0 => .nil
  | k + 1 => by rw [List.replicate_succ, List.replicate_succ, List.flatten_cons, List.flatten_cons]; exact h.append (RpL.rep h k)
theorem rpl_ints : ∀ {vs : List V} {ns : List Int}, RpL kt K S vs (ns.map D.int) → vs = ns.map V.int
  | [], [], _ => rfl
  | _ :: _, _ :: _, .cons r t => by
    cases r
    rw [List.map_cons, ← rpl_ints t]
  | _ :: _, [], h => nomatch h
  | [], _ :: _, h => nomatch h
theorem rpl_strs : ∀ {vs : List V} {ns : List Str}, RpL kt K S vs (ns.map D.str) → vs = ns.map V.str
  | [], [], _ => rfl
  | _ :: _, _ :: _, .cons r t => by
    cases r
    rw [List.map_cons, ← rpl_strs t]
  | _ :: _, [], h => nomatch h
  | [], _ :: _, h => nomatch h
theorem rpl_bls : ∀ {vs : List V} {ns : List Bool}, RpL kt K S vs (ns.map D.bl) → vs = ns.map V.bl
  | [], [], _ => rfl
  | _ :: _, _ :: _, .cons r t => by
    cases r
    rw [List.map_cons, ← rpl_bls t]
  | _ :: _, [], h => nomatch h
  | [], _ :: _, h => nomatch h
theorem rpl_of_ints : ∀ ns : List Int, RpL kt K S (ns.map V.int) (ns.map D.int)
  | [] => .nil
  | n :: r => .cons (.int n) (rpl_of_ints r)
end

/-! ### two ints -/
def dI (g : Int → Int → D) : D → D → (R → Prop) → Prop
  | .int i, .int j, Q => Q (.val (g i j))
  | _, _, _ => False
def dIC (C : Int → Int → Prop) (g : Int → Int → D) : D → D → (R → Prop) → Prop
  | .int i, .int j, Q => C i j ∧ Q (.val (g i j))
  | _, _, _ => False
section
variable {X : Cx} {kt : Bool}
theorem od_I0 {K : PySem.W.Frag} {g : Int → Int → V} {g' : Int → Int → D} (hg : ∀ S i j, Rp kt K S (g i j) (g' i j)) : OpD kt K (rI0 g) (dI g') := by
  intro S H v1 v2 d1 d2 Q Q' e h1 h2 h o
  cases d1 with
  | int i =>
    cases d2 with
    | int j => exact ⟨i, j, h1.int, h2.int, o.val _ _ (hg S i j) h⟩
    | _ => exact (show False from h).elim
  | _ => exact (show False from h).elim
theorem od_IC {K : PySem.W.Frag} {C : Int → Int → Prop} {g : Int → Int → V} {g' : Int → Int → D} (hg : ∀ S i j, Rp kt K S (g i j) (g' i j)) : OpD kt K (rI C g) (dIC C g') := by
  intro S H v1 v2 d1 d2 Q Q' e h1 h2 h o
  cases d1 with
  | int i =>
    cases d2 with
    | int j => exact ⟨i, j, h1.int, h2.int, h.1, o.val _ _ (hg S i j) h.2⟩
    | _ => exact (show False from h).elim
  | _ => exact (show False from h).elim
theorem od_or {K : PySem.W.Frag} {r r' : R2} {d d' : D → D → (R → Prop) → Prop} (h : OpD kt K r d) (h' : OpD kt K r' d') : OpD kt K (fun x y H Q => r x y H Q ∨ r' x y H Q) (fun x y Q => d x y Q ∨ d' x y Q) :=
  fun S H v1 v2 d1 d2 Q Q' e h1 h2 q o => q.elim (fun q => .inl (h S H v1 v2 d1 d2 Q Q' e h1 h2 q o)) fun q => .inr (h' S H v1 v2 d1 d2 Q Q' e h1 h2 q o)
/-- the reading on data may be stronger -/
theorem od_imp {K : PySem.W.Frag} {r : R2} {d d' : D → D → (R → Prop) → Prop} (h : OpD kt K r d) (i : ∀ x y Q, d' x y Q → d x y Q) : OpD kt K r d' := fun S H v1 v2 d1 d2 Q Q' e h1 h2 q o => h S H v1 v2 d1 d2 Q Q' e h1 h2 (i _ _ _ q) o
theorem OpB.or {f : Value → Value → Sem Value} {d d' : D → D → (R → Prop) → Prop} (h : OpB X kt f d) (h' : OpB X kt f d') : OpB X kt f (fun x y Q => d x y Q ∨ d' x y Q) := by
  obtain ⟨r, o, l⟩ := h.ex
  obtain ⟨r', o', l'⟩ := h'.ex
  exact ⟨_, o.or o', od_or l l'⟩
theorem OpB.imp {f : Value → Value → Sem Value} {d d' : D → D → (R → Prop) → Prop} (h : OpB X kt f d) (i : ∀ x y Q, d' x y Q → d x y Q) : OpB X kt f d' := by
  obtain ⟨r, o, l⟩ := h.ex
  exact ⟨r, o, od_imp l i⟩
/-! ### + -/
def dAddS : D → D → (R → Prop) → Prop
  | .str x, .str y, Q => x.length + y.length ≤ sizeLine ∧ Q (.val (.str (x ++ y)))
  | _, _, _ => False
def dCat : D → D → (R → Prop) → Prop
  | .lst x, .lst y, Q => x.length + y.length ≤ sizeLine ∧ Q (.fr (.lst (x ++ y)))
  | _, _, _ => False
def dCatT : D → D → (R → Prop) → Prop
  | .tup x, .tup y, Q => x.length + y.length ≤ sizeLine ∧ Q (.val (.tup (x ++ y)))
  | _, _, _ => False
theorem od_addS {K : PySem.W.Frag} : OpD kt K (fun x y H Q => ∃ i j, x = .str i ∧ y = .str j ∧ i.length + j.length ≤ sizeLine ∧ Q (.str (i ++ j)) H) dAddS := by
  intro S H v1 v2 d1 d2 Q Q' e h1 h2 h o
  cases d1 with
  | str i =>
    cases d2 with
    | str j => exact ⟨i, j, h1.str, h2.str, h.1, o.val _ _ (.str _) h.2⟩
    | _ => exact (show False from h).elim
  | _ => exact (show False from h).elim
end
end BD
set_option Elab.async false
set_option linter.all false
set_option maxRecDepth 100000
set_option maxHeartbeats 2000000
/-! BD: operators on data, further. -/
namespace BD
open PySem PySem.Spec PyProof.Rows L2

/-! ### == -/
mutual
def D.eq : D → D → Bool
  | .non, .non => true
  | .bl a, .bl b => a == b
  | .bl a, .int j => (if a then 1 else 0) == j
  | .int i, .bl b => i == (if b then 1 else 0)
  | .int i, .int j => i == j
  | .str x, .str y => x == y
  | .lst xs, .lst ys => D.eqs xs ys
  | .tup xs, .tup ys => D.eqs xs ys
  | _, _ => false
def D.eqs : List D → List D → Bool
  | [], [] => true
  | x :: xs, y :: ys => D.eq x y && D.eqs xs ys
  | _, _ => false
end
mutual
def py : D → PyData
  | .non => .none
  | .bl b => .bool b
  | .int i => .int i
  | .str x => .str x
  | .lst xs => .list (pys xs)
  | .tup xs => .tuple (pys xs)
  | _ => .dict []
def pys : List D → List PyData
  | [] => []
  | x :: xs => py x :: pys xs
end
/-- data that == goes through: no dicts, at most n deep -/
def okd : Nat → D → Bool
  | _, .non => true
  | _, .bl _ => true
  | _, .int _ => true
  | _, .str x => PyData.strOk x
  | n + 1, .lst xs => xs.all (okd n)
  | n + 1, .tup xs => xs.all (okd n)
  | _, _ => false
theorem eqv_py : ∀ (n : Nat) (a b : D), okd n a = true → okd n b = true → PyData.eqv (py a) (py b) = D.eq a b
  | n, .non, b, _, hb => by cases b <;> first | rfl | (cases n <;> exact nomatch hb) | (simp [py, PyData.eqv, D.eq])
  | n, .bl x, b, _, hb => by cases b <;> first | rfl | (cases n <;> exact nomatch hb) | (simp [py, PyData.eqv, D.eq])
  | n, .int x, b, _, hb => by cases b <;> first | rfl | (cases n <;> exact nomatch hb) | (simp [py, PyData.eqv, D.eq])
  | n, .str x, b, _, hb => by cases b <;> first | rfl | (cases n <;> exact nomatch hb) | (simp [py, PyData.eqv, D.eq])
  | 0, .lst xs, _, h, _ => nomatch h
  | 0, .tup xs, _, h, _ => nomatch h
  | n, .dk _, _, h, _ => by cases n <;> exact nomatch h
  | n, .dt _, _, h, _ => by cases n <;> exact nomatch h
  | n, .scr _, _, h, _ => by cases n <;> exact nomatch h
  | n + 1, .lst xs, b, h, hb => by
    cases b with
    | lst ys =>
      have h1 : xs.all (okd n) = true := h
      have h2 : ys.all (okd n) = true := hb
      show PyData.eqvAll (pys xs) (pys ys) = D.eqs xs ys
      clear h hb
      induction xs generalizing ys with
      | nil => cases ys <;> rfl
      | cons x r ih =>
        cases ys with
        | nil => rfl
        | cons y t =>
          simp only [List.all_cons, Bool.and_eq_true] at h1 h2
          simp only [pys, PyData.eqvAll, D.eqs]
          rw [eqv_py n x y h1.1 h2.1, ih t h1.2 h2.2]
    | dk _ => exact nomatch hb
    | dt _ => exact nomatch hb
    | scr _ => exact nomatch hb
    | _ => simp [py, PyData.eqv, D.eq]
  | n + 1, .tup xs, b, h, hb => by
    cases b with
    | tup ys =>
      have h1 : xs.all (okd n) = true := h
      have h2 : ys.all (okd n) = true := hb
      show PyData.eqvAll (pys xs) (pys ys) = D.eqs xs ys
      clear h hb
      induction xs generalizing ys with
      | nil => cases ys <;> rfl
      | cons x r ih =>
        cases ys with
        | nil => rfl
        | cons y t =>
          simp only [List.all_cons, Bool.and_eq_true] at h1 h2
          simp only [pys, PyData.eqvAll, D.eqs]
          rw [eqv_py n x y h1.1 h2.1, ih t h1.2 h2.2]
    | dk _ => exact nomatch hb
    | dt _ => exact nomatch hb
    | scr _ => exact nomatch hb
    | _ => simp [py, PyData.eqv, D.eq]
theorem canLay_py : ∀ (n : Nat) (a : D), okd n a = true → (py a).canLay0 = true ∧ (py a).depth ≤ n
  | _, .non, _ => ⟨by simp [py, PyData.canLay0], by simp [py, PyData.depth]⟩
  | _, .bl _, _ => ⟨by simp [py, PyData.canLay0], by simp [py, PyData.depth]⟩
  | _, .int _, _ => ⟨by simp [py, PyData.canLay0], by simp [py, PyData.depth]⟩
  | n, .str x, h => ⟨by
      have h' : PyData.strOk x = true := by cases n <;> exact h
      simpa [py, PyData.canLay0] using h', by simp [py, PyData.depth]⟩
  | 0, .lst xs, h => nomatch h
  | 0, .tup xs, h => nomatch h
  | n, .dk _, h => by cases n <;> exact nomatch h
  | n, .dt _, h => by cases n <;> exact nomatch h
  | n, .scr _, h => by cases n <;> exact nomatch h
  | n + 1, .lst xs, h => by
    have h1 : xs.all (okd n) = true := h
    have g : PyData.canLayAll0 (pys xs) = true ∧ PyData.depthAll (pys xs) ≤ n := by
      clear h
      induction xs with
      | nil => simp [pys, PyData.canLayAll0, PyData.depthAll]
      | cons x r ih =>
        simp only [List.all_cons, Bool.and_eq_true] at h1
        have a1 := canLay_py n x h1.1
        have a2 := ih h1.2
        simp only [pys, PyData.canLayAll0, PyData.depthAll, Bool.and_eq_true]
        exact ⟨⟨a1.1, a2.1⟩, Nat.max_le.mpr ⟨a1.2, a2.2⟩⟩
    simp only [py, PyData.canLay0, PyData.depth]
    exact ⟨g.1, Nat.succ_le_succ g.2⟩
  | n + 1, .tup xs, h => by
    have h1 : xs.all (okd n) = true := h
    have g : PyData.canLayAll0 (pys xs) = true ∧ PyData.depthAll (pys xs) ≤ n := by
      clear h
      induction xs with
      | nil => simp [pys, PyData.canLayAll0, PyData.depthAll]
      | cons x r ih =>
        simp only [List.all_cons, Bool.and_eq_true] at h1
        have a1 := canLay_py n x h1.1
        have a2 := ih h1.2
        simp only [pys, PyData.canLayAll0, PyData.depthAll, Bool.and_eq_true]
        exact ⟨⟨a1.1, a2.1⟩, Nat.max_le.mpr ⟨a1.2, a2.2⟩⟩
    simp only [py, PyData.canLay0, PyData.depth]
    exact ⟨g.1, Nat.succ_le_succ g.2⟩
theorem shaped_py {n : Nat} {a : D} (h : okd n a = true) (hn : n ≤ 64) : SeqAt.shaped (py a) = true := by
  have g := canLay_py n a h
  unfold SeqAt.shaped
  rw [g.1, Bool.true_and]
  exact decide_eq_true (Nat.le_trans g.2 hn)
section
variable {kt : Bool} {K : PySem.W.Frag} {S H : Hp} {v w : V}
theorem dp_rp (e : Same S H) : ∀ (n : Nat) (v : V) (d : D), okd n d = true → Rp kt K S v d → Dp K H v (py d)
  | _, _, _, _, .non => .non
  | _, _, _, _, .bl b => .bl b
  | _, _, _, _, .int i => .int i
  | _, _, _, _, .str x => .str x
  | 0, _, _, h, .lst _ _ => nomatch h
  | 0, _, _, h, .tup _ _ => nomatch h
  | n, _, _, h, .dk _ _ => by cases n <;> exact nomatch h
  | n, _, _, h, .dt _ _ => by cases n <;> exact nomatch h
  | n, _, _, h, .scr _ => by cases n <;> exact nomatch h
  | n + 1, _, .lst ds, h, .lst h1 h2 => by
    refine .lst (.inl (.inl (e _ _ h1))) ?_
    have h' : ds.all (okd n) = true := h
    clear h h1
    rename_i vs
    induction ds generalizing vs with
    | nil => cases h2; exact .nil
    | cons x r ih =>
      cases h2 with
      | cons a b =>
        simp only [List.all_cons, Bool.and_eq_true] at h'
        exact .cons (dp_rp e n _ x h'.1 a) (ih _ b h'.2)
  | n + 1, _, .tup ds, h, .tup h1 h2 => by
    refine .tup (h1.mono e).sqt ?_
    have h' : ds.all (okd n) = true := h
    clear h h1
    rename_i vs
    induction ds generalizing vs with
    | nil => cases h2; exact .nil
    | cons x r ih =>
      cases h2 with
      | cons a b =>
        simp only [List.all_cons, Bool.and_eq_true] at h'
        exact .cons (dp_rp e n _ x h'.1 a) (ih _ b h'.2)
theorem dp_all (e : Same S H) {n : Nat} : ∀ {vs : List V} {ds : List D}, ds.all (okd n) = true → RpL kt K S vs ds → DpAll K H vs (pys ds)
  | _, _, _, .nil => .nil
  | _, _, h, .cons a b => by
    simp only [List.all_cons, Bool.and_eq_true] at h
    exact .cons (dp_rp e n _ _ h.1 a) (dp_all e h.2 b)
theorem dp_vw (e : Same S H) {n : Nat} {d : D} (h : okd n d = true) (q : Vw kt K S H v d) : Dp K H v (py d) := by
  rcases q with q | ⟨p, o, rfl, hr, ho⟩
  · exact dp_rp e n v d h q
  · cases d with
    | lst ds =>
      obtain ⟨vs, rfl, r⟩ := ho
      cases n with
      | zero => exact nomatch h
      | succ n => exact .lst (.inl hr.rd) (dp_all e (show ds.all (okd n) = true from h) r)
    | dk _ => cases n <;> exact nomatch h
    | dt _ => cases n <;> exact nomatch h
    | scr _ => cases n <;> exact nomatch h
    | _ => exact (show False from ho).elim
end
/-- scalars that == tells apart at once -/
def sc : D → D → Bool
  | .non, .non => true | .non, .int _ => true | .int _, .non => true | .non, .bl _ => true | .bl _, .non => true | .non, .str _ => true | .str _, .non => true
  | .int _, .int _ => true | .bl _, .bl _ => true | .str _, .str _ => true
  | .int _, .str _ => true | .str _, .int _ => true | .bl _, .str _ => true | .str _, .bl _ => true
  | _, _ => false
def cok (a b : D) : Bool := sc a b || (okd 60 a && okd 60 b)
def dEq (a b : D) (Q : R → Prop) : Prop := cok a b = true ∧ Q (.val (.bl (D.eq a b)))
def dNe (a b : D) (Q : R → Prop) : Prop := cok a b = true ∧ Q (.val (.bl (!D.eq a b)))
section
variable {X : Cx} {kt : Bool} {K : PySem.W.Frag} {S H : Hp} {v w : V}
theorem str_beq (x y : Str) : decide (V.str x = V.str y) = (x == y) := dec_str
theorem sc_vw {a b : D} (h1 : Vw kt K S H v a) (h2 : Vw kt K S H w b) (h : sc a b = true) : scal v w = true ∧ decide (v = w) = D.eq a b := by
  cases a <;> cases b <;> first
    | (exact absurd h Bool.false_ne_true)
    | (cases h1.non; cases h2.non; exact ⟨rfl, rfl⟩)
    | (cases h1.non; cases h2.int; exact ⟨rfl, rfl⟩)
    | (cases h1.int; cases h2.non; exact ⟨rfl, rfl⟩)
    | (cases h1.non; cases h2.bl; exact ⟨rfl, rfl⟩)
    | (cases h1.bl; cases h2.non; exact ⟨rfl, rfl⟩)
    | (cases h1.non; cases h2.str; exact ⟨rfl, rfl⟩)
    | (cases h1.str; cases h2.non; exact ⟨rfl, rfl⟩)
    | (cases h1.int; cases h2.int; exact ⟨rfl, by simp only [D.eq]; exact dec_int⟩)
    | (cases h1.bl; cases h2.bl; exact ⟨rfl, by simp only [D.eq]; exact dec_bl⟩)
    | (cases h1.str; cases h2.str; exact ⟨rfl, by simp only [D.eq]; exact dec_str⟩)
    | (cases h1.int; cases h2.str; exact ⟨rfl, rfl⟩)
    | (cases h1.str; cases h2.int; exact ⟨rfl, rfl⟩)
    | (cases h1.bl; cases h2.str; exact ⟨rfl, rfl⟩)
    | (cases h1.str; cases h2.bl; exact ⟨rfl, rfl⟩)
theorem ob_eq (hu : X.A.units + 64 < cLine) : OpB X kt (compareOp .Eq) dEq := by
  refine ⟨_, op_eq.or (op_eqD hu), fun S H v1 v2 d1 d2 Q Q' e h1 h2 h o => ?_⟩
  obtain ⟨hc, q⟩ := h
  unfold cok at hc
  rw [Bool.or_eq_true, Bool.and_eq_true] at hc
  rcases hc with hc | ⟨a, b⟩
  · obtain ⟨x, y⟩ := sc_vw h1 h2 hc
    exact .inl ⟨x, by rw [y]; exact o.val _ _ (.bl _) q⟩
  · exact .inr ⟨_, _, dp_vw e a h1, dp_vw e b h2, shaped_py a (by decide), shaped_py b (by decide), by rw [eqv_py 60 d1 d2 a b]; exact o.val _ _ (.bl _) q⟩
theorem ob_ne (hu : X.A.units + 64 < cLine) : OpB X kt (compareOp .NotEq) dNe := by
  refine ⟨_, op_ne.or (op_neD hu), fun S H v1 v2 d1 d2 Q Q' e h1 h2 h o => ?_⟩
  obtain ⟨hc, q⟩ := h
  unfold cok at hc
  rw [Bool.or_eq_true, Bool.and_eq_true] at hc
  rcases hc with hc | ⟨a, b⟩
  · obtain ⟨x, y⟩ := sc_vw h1 h2 hc
    exact .inl ⟨x, by rw [y]; exact o.val _ _ (.bl _) q⟩
  · exact .inr ⟨_, _, dp_vw e a h1, dp_vw e b h2, shaped_py a (by decide), shaped_py b (by decide), by rw [eqv_py 60 d1 d2 a b]; exact o.val _ _ (.bl _) q⟩
/-! ### is, is not: the right side None, True, False -/
def isC : D → D → Bool
  | .non, .non => true
  | .bl a, .bl b => a == b
  | _, _ => false
def isConst : D → Bool
  | .non => true
  | .bl _ => true
  | _ => false
def dIs (a b : D) (Q : R → Prop) : Prop := isConst b = true ∧ Q (.val (.bl (isC a b)))
def dIsNot (a b : D) (Q : R → Prop) : Prop := isConst b = true ∧ Q (.val (.bl (!isC a b)))
theorem op_isC : OpR X (compareOp .Is) (fun x y H Q => ∃ b, y = .bl b ∧ Q (.bl (decide (x = .bl b))) H) := by
  intro pins s σ H x y v u Q I rx ry h
  obtain ⟨b, rfl, q⟩ := h
  cases (show u = Value.bool b from ry)
  have g : ∀ z : Value, RelV x z → (z == Value.bool b) = decide (x = .bl b) := fun z r => by
    cases x <;> first
      | (obtain ⟨t, rfl⟩ := r; rfl)
      | (cases r; rfl)
      | (cases r; rename_i c; cases b <;> cases c <;> rfl)
  have p : plainIs v (Value.bool b) = true := by
    cases x <;> first
      | (obtain ⟨t, rfl⟩ := rx; rfl)
      | (cases rx; rfl)
  exact wpAny_is_plain p ⟨.bl _, H, I, by show Value.bool _ = Value.bool _; rw [g v rx], q⟩
theorem op_isNotC : OpR X (compareOp .IsNot) (fun x y H Q => ∃ b, y = .bl b ∧ Q (.bl (!decide (x = .bl b))) H) := by
  intro pins s σ H x y v u Q I rx ry h
  obtain ⟨b, rfl, q⟩ := h
  cases (show u = Value.bool b from ry)
  have g : ∀ z : Value, RelV x z → (z == Value.bool b) = decide (x = .bl b) := fun z r => by
    cases x <;> first
      | (obtain ⟨t, rfl⟩ := r; rfl)
      | (cases r; rfl)
      | (cases r; rename_i c; cases b <;> cases c <;> rfl)
  have p : plainIs v (Value.bool b) = true := by
    cases x <;> first
      | (obtain ⟨t, rfl⟩ := rx; rfl)
      | (cases rx; rfl)
  exact wpAny_isNot_plain p ⟨.bl _, H, I, by show Value.bool _ = Value.bool _; rw [g v rx], q⟩
theorem isC_non {d : D} (h : Vw kt K S H v d) : decide (v = .non) = isC d .non := by
  cases d <;> first
    | (cases h.non; rfl)
    | (cases h.bl; rfl)
    | (cases h.int; rfl)
    | (cases h.str; rfl)
    | (rcases h with h | ⟨p, o, rfl, _, h⟩
       · cases h; rfl
       · rfl)
theorem isC_bl {d : D} {b : Bool} (h : Vw kt K S H v d) : decide (v = .bl b) = isC d (.bl b) := by
  cases d <;> first
    | (cases h.non; rfl)
    | (cases h.bl; exact dec_bl)
    | (cases h.int; rfl)
    | (cases h.str; rfl)
    | (rcases h with h | ⟨p, o, rfl, _, h⟩
       · cases h; rfl
       · rfl)
theorem ob_is : OpB X kt (compareOp .Is) dIs := by
  refine ⟨_, op_isN.or op_isC, fun S H v1 v2 d1 d2 Q Q' e h1 h2 h o => ?_⟩
  obtain ⟨hc, q⟩ := h
  cases d2 with
  | non => exact .inl ⟨h2.non, by rw [isC_non h1]; exact o.val _ _ (.bl _) q⟩
  | bl b => exact .inr ⟨b, h2.bl, by rw [isC_bl h1]; exact o.val _ _ (.bl _) q⟩
  | _ => exact nomatch hc
theorem ob_isNot : OpB X kt (compareOp .IsNot) dIsNot := by
  refine ⟨_, op_notN.or op_isNotC, fun S H v1 v2 d1 d2 Q Q' e h1 h2 h o => ?_⟩
  obtain ⟨hc, q⟩ := h
  cases d2 with
  | non => exact .inl ⟨h2.non, by rw [isC_non h1]; exact o.val _ _ (.bl _) q⟩
  | bl b => exact .inr ⟨b, h2.bl, by rw [isC_bl h1]; exact o.val _ _ (.bl _) q⟩
  | _ => exact nomatch hc
end
end BD
set_option Elab.async false
set_option linter.all false
set_option maxRecDepth 100000
set_option maxHeartbeats 2000000
/-! BD: instances of operators; subscripts, slices, built-ins by name. -/
namespace BD
open PySem PySem.Spec PyProof.Rows L2
def cutL {α : Type} (xs : List α) (lo hi : Option Int) : List α := (xs.drop (HT.sIx xs.length 0 lo)).take (HT.sIx xs.length xs.length hi - HT.sIx xs.length 0 lo)
def dAdd : D → D → (R → Prop) → Prop
  | .int i, .int j, Q => Q (.val (.int (i + j)))
  | .str x, .str y, Q => x.length + y.length ≤ sizeLine ∧ Q (.val (.str (x ++ y)))
  | .lst x, .lst y, Q => x.length + y.length ≤ sizeLine ∧ Q (.fr (.lst (x ++ y)))
  | .tup x, .tup y, Q => x.length + y.length ≤ sizeLine ∧ Q (.val (.tup (x ++ y)))
  | _, _, _ => False
def dMul : D → D → (R → Prop) → Prop
  | .int i, .int j, Q => CMulX i j ∧ Q (.val (.int (i * j)))
  | .lst x, .int k, Q => (-(2 ^ 63) ≤ k ∧ k < 2 ^ 63 ∧ x.length * k.toNat ≤ sizeLine) ∧ Q (.fr (.lst (List.replicate k.toNat x).flatten))
  | .tup x, .int k, Q => (x ≠ [] ∧ 2 ≤ k ∧ k ≤ 1000 ∧ x.length ≤ 1000) ∧ Q (.val (.tup (List.replicate k.toNat x).flatten))
  | _, _, _ => False
/-- a positive divisor: the floor; any small one not 0 -/
def dFdiv : D → D → (R → Prop) → Prop
  | .int i, .int j, Q => (CDivW i j ∧ Q (.val (.int (i / j)))) ∨ (CDivN i j ∧ Q (.val (.int (i.fdiv j))))
  | _, _, _ => False
def dMod : D → D → (R → Prop) → Prop
  | .int i, .int j, Q => 0 < j ∧ Q (.val (.int (i % j)))
  | _, _, _ => False
section
variable {X : Cx} {kt : Bool} {K : PySem.W.Frag} {S H : Hp} {v w : V}
theorem od_catA : OpD kt K (rCatA K) (fun a b Q => ∃ x y, a = .tup x ∧ b = .tup y ∧ x.length + y.length ≤ sizeLine ∧ Q (.val (.tup (x ++ y)))) := by
  intro S H v1 v2 d1 d2 Q Q' e h1 h2 h o
  obtain ⟨x, y, rfl, rfl, hz, q⟩ := h
  have g1 := h1.rpT
  have g2 := h2.rpT
  obtain ⟨p, vs, rfl, hp, r1⟩ := h1.tup e
  obtain ⟨p2, ws, rfl, hq, r2⟩ := h2.tup e
  refine ⟨p, p2, vs, ws, rfl, rfl, hp, hq, by rw [r1.length, r2.length]; exact hz, fun z => ?_, fun z1 z2 => ?_, fun _ _ l hl => o.tup l _ _ hl (r1.append r2) q⟩
  · subst z
    cases r1
    exact o.val _ _ g2 q
  · subst z2
    cases r2
    rw [List.append_nil] at q
    exact o.val _ _ g1 q
theorem ob_add : OpB X kt (binaryOp .Add) dAdd := by
  refine ⟨_, op_add.or (op_add_str.or (op_cat.or op_catA)), fun S H v1 v2 d1 d2 Q Q' e h1 h2 h o => ?_⟩
  cases d1 with
  | int i => cases d2 with
    | int j => exact .inl ⟨_, _, h1.int, h2.int, o.val _ _ (.int _) h⟩
    | _ => exact (show False from h).elim
  | str i => cases d2 with
    | str j => exact .inr (.inl ⟨_, _, h1.str, h2.str, h.1, o.val _ _ (.str _) h.2⟩)
    | _ => exact (show False from h).elim
  | lst i => cases d2 with
    | lst j =>
      obtain ⟨p, vs, rfl, hp, r1⟩ := h1.lst e
      obtain ⟨q, ws, rfl, hq, r2⟩ := h2.lst e
      exact .inr (.inr (.inl ⟨p, q, vs, ws, rfl, rfl, hp, hq, by rw [r1.length, r2.length]; exact h.1, fun l hl => o.lst hl (r1.append r2) h.2⟩))
    | _ => exact (show False from h).elim
  | tup i => cases d2 with
    | tup j => exact .inr (.inr (.inr (od_catA S H v1 v2 _ _ Q Q' e h1 h2 ⟨_, _, rfl, rfl, h.1, h.2⟩ o)))
    | _ => exact (show False from h).elim
  | _ => exact (show False from h).elim
theorem ob_sub : OpB X kt (binaryOp .Sub) (dI fun i j => .int (i - j)) := ⟨_, op_sub, od_I0 fun _ _ _ => .int _⟩
theorem ob_mul : OpB X kt (binaryOp .Mult) dMul := by
  refine ⟨_, op_mulX.or (op_rep.or op_repT), fun S H v1 v2 d1 d2 Q Q' e h1 h2 h o => ?_⟩
  cases d1 with
  | int i => cases d2 with
    | int j => exact .inl ⟨_, _, h1.int, h2.int, h.1, o.val _ _ (.int _) h.2⟩
    | _ => exact (show False from h).elim
  | lst i => cases d2 with
    | int j =>
      obtain ⟨p, vs, rfl, hp, r1⟩ := h1.lst e
      exact .inr (.inl ⟨p, j, vs, rfl, h2.int, hp, h.1.1, h.1.2.1, by rw [r1.length]; exact h.1.2.2, fun l hl => o.lst hl (r1.rep _) h.2⟩)
    | _ => exact (show False from h).elim
  | tup i => cases d2 with
    | int j =>
      obtain ⟨p, vs, rfl, hp, r1⟩ := h1.tup e
      exact .inr (.inr ⟨p, j, vs, rfl, h2.int, hp, fun z => h.1.1 (by subst z; cases r1; rfl), h.1.2.1, h.1.2.2.1, by rw [r1.length]; exact h.1.2.2.2, fun l hl => o.tup l _ _ hl (r1.rep _) h.2⟩)
    | _ => exact (show False from h).elim
  | _ => exact (show False from h).elim
theorem ob_fdiv : OpB X kt (binaryOp .FloorDiv) dFdiv := by
  refine ⟨_, op_fdivW.or op_fdivN, fun S H v1 v2 d1 d2 Q Q' e h1 h2 h o => ?_⟩
  cases d1 with
  | int i => cases d2 with
    | int j =>
      rcases h with h | h
      · exact .inl ⟨_, _, h1.int, h2.int, h.1, o.val _ _ (.int _) h.2⟩
      · exact .inr ⟨_, _, h1.int, h2.int, h.1, o.val _ _ (.int _) h.2⟩
    | _ => exact (show False from h).elim
  | _ => exact (show False from h).elim
theorem ob_mod : OpB X kt (binaryOp .Mod) dMod := by
  refine ⟨_, op_mod, fun S H v1 v2 d1 d2 Q Q' e h1 h2 h o => ?_⟩
  cases d1 with
  | int i => cases d2 with
    | int j => exact ⟨_, _, h1.int, h2.int, h.1, o.val _ _ (.int _) h.2⟩
    | _ => exact (show False from h).elim
  | _ => exact (show False from h).elim
theorem ob_pow : OpB X kt (binaryOp .Pow) (dIC CPow fun i j => .int (i ^ j.toNat)) := ⟨_, op_pow, od_IC fun _ _ _ => .int _⟩
/-! ### order -/
def sltb (x y : Str) : Bool := decide (x.cps.toList < y.cps.toList)
def dLt : D → D → (R → Prop) → Prop
  | .int i, .int j, Q => Q (.val (.bl (decide (i < j))))
  | .str i, .str j, Q => Q (.val (.bl (sltb i j)))
  | _, _, _ => False
def dLe : D → D → (R → Prop) → Prop
  | .int i, .int j, Q => Q (.val (.bl (decide (i ≤ j))))
  | .str i, .str j, Q => Q (.val (.bl (!sltb j i)))
  | _, _, _ => False
def dGt : D → D → (R → Prop) → Prop
  | .int i, .int j, Q => Q (.val (.bl (decide (j < i))))
  | .str i, .str j, Q => Q (.val (.bl (sltb j i)))
  | _, _, _ => False
def dGe : D → D → (R → Prop) → Prop
  | .int i, .int j, Q => Q (.val (.bl (decide (j ≤ i))))
  | .str i, .str j, Q => Q (.val (.bl (!sltb i j)))
  | _, _, _ => False
theorem ob_lt : OpB X kt (compareOp .Lt) dLt := by
  refine ⟨_, op_lt.or op_lt_str, fun S H v1 v2 d1 d2 Q Q' e h1 h2 h o => ?_⟩
  cases d1 <;> cases d2 <;> first
    | exact (show False from h).elim
    | exact .inl ⟨_, _, h1.int, h2.int, o.val _ _ (.bl _) h⟩
    | exact .inr ⟨_, _, h1.str, h2.str, o.val _ _ (.bl _) h⟩
theorem ob_le : OpB X kt (compareOp .LtE) dLe := by
  refine ⟨_, op_le.or op_le_str, fun S H v1 v2 d1 d2 Q Q' e h1 h2 h o => ?_⟩
  cases d1 <;> cases d2 <;> first
    | exact (show False from h).elim
    | exact .inl ⟨_, _, h1.int, h2.int, o.val _ _ (.bl _) h⟩
    | exact .inr ⟨_, _, h1.str, h2.str, o.val _ _ (.bl _) h⟩
theorem ob_gt : OpB X kt (compareOp .Gt) dGt := by
  refine ⟨_, op_gt.or op_gt_str, fun S H v1 v2 d1 d2 Q Q' e h1 h2 h o => ?_⟩
  cases d1 <;> cases d2 <;> first
    | exact (show False from h).elim
    | exact .inl ⟨_, _, h1.int, h2.int, o.val _ _ (.bl _) h⟩
    | exact .inr ⟨_, _, h1.str, h2.str, o.val _ _ (.bl _) h⟩
theorem ob_ge : OpB X kt (compareOp .GtE) dGe := by
  refine ⟨_, op_ge.or op_ge_str, fun S H v1 v2 d1 d2 Q Q' e h1 h2 h o => ?_⟩
  cases d1 <;> cases d2 <;> first
    | exact (show False from h).elim
    | exact .inl ⟨_, _, h1.int, h2.int, o.val _ _ (.bl _) h⟩
    | exact .inr ⟨_, _, h1.str, h2.str, o.val _ _ (.bl _) h⟩
/-! ### in, not in: of lists (data of any depth), of tuples (flat items), a sign in a text -/
def flt : D → Bool
  | .non => true | .bl _ => true | .int _ => true | .str _ => true | _ => false
def dInB (b : Bool → Bool) : D → D → (R → Prop) → Prop
  | x, .lst xs, Q => (okd 60 x = true ∧ xs.all (okd 59) = true) ∧ Q (.val (.bl (b (xs.any fun z => D.eq z x))))
  | x, .tup xs, Q => (flt x = true ∧ xs.all flt = true) ∧ Q (.val (.bl (b (xs.any fun z => D.eq z x))))
  | .str c, .str z, Q => ∃ k, c = ⟨#[k]⟩ ∧ Q (.val (.bl (b (decide (k ∈ z.cps.toList)))))
  | _, _, _ => False
theorem flt_vw {d : D} (h : flt d = true) (q : Rp kt K S v d) : flatV v = true := by
  cases q <;> first | rfl | exact nomatch h
theorem eq_flt {w : V} {x y : D} (hx : flt x = true) (hy : flt y = true) (p : Rp kt K S v x) (q : Rp kt K S w y) : eqV v w = D.eq x y := by
  cases p <;> cases q <;> first | exact absurd hx Bool.false_ne_true | exact absurd hy Bool.false_ne_true | rfl | (simp only [D.eq, eqV])
theorem any_flt {w : V} {x : D} (hx : flt x = true) (p : Rp kt K S w x) : ∀ {vs : List V} {ds : List D}, ds.all flt = true → RpL kt K S vs ds → vs.all flatV = true ∧ inV w vs = ds.any fun z => D.eq z x
  | _, _, _, .nil => ⟨rfl, rfl⟩
  | _, _, h, .cons r t => by
    simp only [List.all_cons, Bool.and_eq_true] at h ⊢
    obtain ⟨a, b⟩ := any_flt hx p h.2 t
    refine ⟨⟨flt_vw h.1 r, a⟩, ?_⟩
    unfold inV at b ⊢
    rw [List.any_cons, List.any_cons, b, eq_flt h.1 hx r p]
theorem any_py {x : D} (hx : okd 60 x = true) : ∀ {ds : List D}, ds.all (okd 59) = true → ((pys ds).any fun z => PyData.eqv z (py x)) = ds.any fun z => D.eq z x
  | [], _ => rfl
  | d :: r, h => by
    simp only [List.all_cons, Bool.and_eq_true] at h
    have h60 : okd 60 d = true := by
      have mono : ∀ (n : Nat) (d : D), okd n d = true → okd (n + 1) d = true := by
        intro n
        induction n with
        | zero => intro d h; cases d <;> first | exact h | exact nomatch h
        | succ n ih =>
          intro d h
          cases d with
          | lst xs => exact List.all_eq_true.mpr fun z hz => ih z (List.all_eq_true.mp h z hz)
          | tup xs => exact List.all_eq_true.mpr fun z hz => ih z (List.all_eq_true.mp h z hz)
          | _ => exact h
      exact mono 59 d h.1
    simp only [pys, List.any_cons]
    rw [any_py hx h.2, eqv_py 60 d x h60 hx]
theorem flt_of_vw {d : D} (h : flt d = true) (q : Vw kt K S H v d) : Rp kt K S v d := by
  rcases q with q | ⟨_, _, _, _, q⟩
  · exact q
  · cases d <;> first | exact (show False from q).elim | exact nomatch h
theorem ob_in (hu : X.A.units + 65 < cLine) : OpB X kt (compareOp .In) (dInB id) := by
  refine ⟨_, (op_inD hu).or (op_in_seq.or op_in_sign), fun S H v1 v2 d1 d2 Q Q' e h1 h2 h o => ?_⟩
  cases d2 with
  | lst xs =>
    obtain ⟨⟨a, b⟩, q⟩ := (show (okd 60 d1 = true ∧ xs.all (okd 59) = true) ∧ Q (.val (.bl (xs.any fun z => D.eq z d1))) by cases d1 <;> exact h)
    refine .inl ⟨py d1, pys xs, dp_vw e a h1, dp_vw e (n := 60) (show okd 60 (.lst xs) = true from b) h2, shaped_py a (by decide), shaped_py (n := 60) (show okd 60 (.lst xs) = true from b) (by decide), ?_⟩
    rw [any_py a b]
    exact o.val _ _ (.bl _) q
  | tup xs =>
    obtain ⟨⟨a, b⟩, q⟩ := (show (flt d1 = true ∧ xs.all flt = true) ∧ Q (.val (.bl (xs.any fun z => D.eq z d1))) by cases d1 <;> exact h)
    obtain ⟨p, vs, rfl, hp, r1⟩ := h2.tup e
    have g := flt_of_vw a h1
    obtain ⟨c, d⟩ := any_flt a g b r1
    refine .inr (.inl ⟨p, vs, rfl, .inr hp, flt_vw a g, c, ?_⟩)
    rw [if_neg Bool.false_ne_true, d]
    exact o.val _ _ (.bl _) q
  | str z =>
    cases d1 with
    | str c =>
      obtain ⟨k, rfl, q⟩ := h
      exact .inr (.inr ⟨k, z, h1.str, h2.str, o.val _ _ (.bl _) q⟩)
    | _ => exact (show False from h).elim
  | _ => exact (show False by cases d1 <;> exact h).elim
theorem ob_notIn (hu : X.A.units + 65 < cLine) : OpB X kt (compareOp .NotIn) (dInB not) := by
  refine ⟨_, (op_notInD hu).or (op_notIn_seq.or op_notIn_sign), fun S H v1 v2 d1 d2 Q Q' e h1 h2 h o => ?_⟩
  cases d2 with
  | lst xs =>
    obtain ⟨⟨a, b⟩, q⟩ := (show (okd 60 d1 = true ∧ xs.all (okd 59) = true) ∧ Q (.val (.bl (!xs.any fun z => D.eq z d1))) by cases d1 <;> exact h)
    refine .inl ⟨py d1, pys xs, dp_vw e a h1, dp_vw e (n := 60) (show okd 60 (.lst xs) = true from b) h2, shaped_py a (by decide), shaped_py (n := 60) (show okd 60 (.lst xs) = true from b) (by decide), ?_⟩
    rw [any_py a b]
    exact o.val _ _ (.bl _) q
  | tup xs =>
    obtain ⟨⟨a, b⟩, q⟩ := (show (flt d1 = true ∧ xs.all flt = true) ∧ Q (.val (.bl (!xs.any fun z => D.eq z d1))) by cases d1 <;> exact h)
    obtain ⟨p, vs, rfl, hp, r1⟩ := h2.tup e
    have g := flt_of_vw a h1
    obtain ⟨c, d⟩ := any_flt a g b r1
    refine .inr (.inl ⟨p, vs, rfl, .inr hp, flt_vw a g, c, ?_⟩)
    rw [if_pos rfl, d]
    exact o.val _ _ (.bl _) q
  | str z =>
    cases d1 with
    | str c =>
      obtain ⟨k, rfl, q⟩ := h
      exact .inr (.inr ⟨k, z, h1.str, h2.str, o.val _ _ (.bl _) q⟩)
    | _ => exact (show False from h).elim
  | _ => exact (show False by cases d1 <;> exact h).elim
end
end BD
set_option Elab.async false
set_option linter.all false
set_option maxRecDepth 100000
set_option maxHeartbeats 2000000
/-! BD: subscripts, slices, and/or/not as values, built-ins by name, methods of texts. -/
namespace BD
open PySem PySem.Spec PyProof.Rows L2
def dIx : D → D → (R → Prop) → Prop
  | .lst xs, .int i, Q => ∃ d, atI xs i = some d ∧ Q (.val d)
  | .tup xs, .int i, Q => ∃ d, atI xs i = some d ∧ Q (.val d)
  | .str z, .int i, Q => z.length ≤ sizeLine ∧ ∃ c, atI z.cps.toList i = some c ∧ Q (.val (.str ⟨#[c]⟩))
  | .scr ns, .int i, Q => ∃ n, atI ns i = some n ∧ Q (.val (.int n))
  | _, _, _ => False
def dSl (d : D) (lo hi : Option Int) (Q : R → Prop) : Prop := match d with
  | .lst xs => Q (.fr (.lst (cutL xs lo hi)))
  | .tup xs => Q (.val (.tup (cutL xs lo hi)))
  | .str z => z.length ≤ sizeLine ∧ Q (.val (.str (cutS z lo hi)))
  | _ => False
abbrev DO := List Cell → (Option Int → List Cell → Prop) → Prop
def LkO (kt : Bool) (K : PySem.W.Frag) (t : TO) (d : DO) : Prop := ∀ (S H : Hp) (σ : L2.St) (E : List Cell) (Q : Option Int → List Cell → Prop) (Q' : Option Int → Hp → Prop), SI kt K S H σ E → d E Q →
  (∀ S' H' E' o, Ev kt K S H σ E S' H' E' → Q o E' → Q' o H') → t σ H Q'
structure SO (X : Cx) (kt : Bool) (e : Option Expr) (d : DO) : Prop where
  ex : ∃ t, PO X e t ∧ LkO kt X.K t d
def dNoPart : DO := fun E Q => Q none E
def dPart (da : DE) : DO := fun E Q => da E fun r E1 => vw E1 r fun d => match d with
  | .int i => Q (some i) E1
  | _ => False
def dSlice (da : DE) (lo hi : DO) : DE := fun E Q => da E fun r E1 => lo E1 fun l E2 => hi E2 fun u E3 => vw E3 r fun d => dSl d l u fun r => Q r E3
section
variable {X : Cx} {kt : Bool} {K : PySem.W.Frag} {a b e : Expr} {es : List Expr} {da db : DE} {pos : Pos} {x : Str}
theorem atI_map {α β : Type} (f : α → β) (xs : List α) (i : Int) : atI (xs.map f) i = (atI xs i).map f := by
  unfold atI
  rw [List.length_map]
  cases ixN xs.length i with
  | none => rfl
  | some j => show (xs.map f)[j]? = xs[j]?.map f; rw [List.getElem?_map]
theorem od_ix : OpD kt K (rIx K) dIx := by
  intro S H v1 v2 d1 d2 Q Q' e h1 h2 h o
  cases d2 with
  | int i =>
    cases d1 with
    | lst xs =>
      obtain ⟨d, hd, q⟩ := h
      obtain ⟨p, vs, rfl, hp, r⟩ := h1.lst e
      obtain ⟨v, h3, h4⟩ := r.atI hd
      exact .inl ⟨p, vs, i, v, rfl, h2.int, .of hp, h3, o.val _ _ h4 q⟩
    | tup xs =>
      obtain ⟨d, hd, q⟩ := h
      obtain ⟨p, vs, rfl, hp, r⟩ := h1.tup e
      obtain ⟨v, h3, h4⟩ := r.atI hd
      exact .inr (.inl ⟨p, vs, i, v, rfl, h2.int, hp, h3, o.val _ _ h4 q⟩)
    | str z =>
      obtain ⟨hz, c, hc, q⟩ := h
      exact .inr (.inr ⟨z, i, c, h1.str, h2.int, hz, hc, o.val _ _ (.str _) q⟩)
    | scr ns =>
      obtain ⟨n, hn, q⟩ := h
      obtain ⟨p, rfl, hp⟩ := h1.scr e
      exact .inl ⟨p, ns.map V.int, i, .int n, rfl, h2.int, hp, by rw [atI_map, hn]; rfl, o.val _ _ (.int _) q⟩
    | _ => exact (show False from h).elim
  | _ => exact (show False by cases d1 <;> exact h).elim
theorem se_ix (ha : SE X kt a da) (hb : SE X kt b db) (hs : PlainIx b := by exact fun _ _ => rfl) : SE X kt (.Subscript a b pos) (dBin dIx da db) := by
  obtain ⟨ta, pa, la⟩ := ha.ex
  obtain ⟨tb, pb, lb⟩ := hb.ex
  exact ⟨_, pe_ix ix_seq pa pb hs, bin_lk od_ix la lb⟩
theorem so_none : SO X kt none dNoPart := ⟨_, po_none, fun S H σ E Q Q' I h k => k S H E none (.refl I) h⟩
theorem so_some (ha : SE X kt a da) : SO X kt (some a) (dPart da) := by
  obtain ⟨ta, pa, la⟩ := ha.ex
  refine ⟨_, po_some pa, fun S H σ E Q Q' I h k => la S H σ E _ _ I h fun S1 H1 E1 v1 r1 e1 q1 n1 h1 => ?_⟩
  obtain ⟨d, w, h2⟩ := vw_ok e1.si q1 h1
  cases d with
  | int i => exact ⟨i, w.int, k S1 H1 E1 (some i) e1 h2⟩
  | _ => exact (show False from h2).elim
theorem cutV_eq (xs : List V) (lo hi : Option Int) : cutV xs lo hi = cutL xs lo hi := rfl
theorem RpL.cut {S : Hp} {vs : List V} {ds : List D} (r : RpL kt K S vs ds) (lo hi : Option Int) : RpL kt K S (cutV vs lo hi) (cutL ds lo hi) := by
  unfold cutV cutL
  rw [r.length]
  exact (r.drop _).take _
theorem cut_all {α : Type} {xs : List α} {lo hi : Option Int} (h : HT.sIx xs.length 0 lo = 0 ∧ HT.sIx xs.length xs.length hi = xs.length) : cutL xs lo hi = xs := by
  unfold cutL
  rw [h.1, h.2, List.drop_zero, Nat.sub_zero, List.take_length]
theorem se_slice {p2 : Pos} {lo hi : Option Expr} {dl dh : DO} (ha : SE X kt a da) (hl : SO X kt lo dl) (hh : SO X kt hi dh) : SE X kt (.Subscript a (.Slice lo hi none p2) pos) (dSlice da dl dh) := by
  obtain ⟨ta, pa, la⟩ := ha.ex
  obtain ⟨tl, pl, ll⟩ := hl.ex
  obtain ⟨th, ph, lh⟩ := hh.ex
  refine ⟨_, pe_slice (sl_str.or (sl_list.or sl_tupA)) pa pl ph, fun S H σ E Q Q' I h k => la S H σ E _ _ I h fun S1 H1 E1 v1 r1 e1 q1 n1 h1 => ll S1 H1 σ E1 _ _ e1.si h1 fun S2 H2 E2 l e2 h2 => lh S2 H2 σ E2 _ _ e2.si h2 fun S3 H3 E3 u e3 h3 => ?_⟩
  have e23 := e2.trans e3
  have e13 := e1.trans e23
  obtain ⟨d, w, h4⟩ := vw_ok e3.si (q1.step e23) h3
  have o := outs_of e13 k
  cases d with
  | str z => exact .inl ⟨z, w.str, h4.1, o.val _ _ (.str _) h4.2⟩
  | lst xs =>
    obtain ⟨p, vs, rfl, hp, r⟩ := w.lst e3.si.ex
    exact .inr (.inl ⟨p, vs, rfl, .of hp, fun q hq => o.lst hq (r.cut _ _) h4⟩)
  | tup xs =>
    have g := w.rpT
    obtain ⟨p, vs, rfl, hp, r⟩ := w.tup e3.si.ex
    refine .inr (.inr ⟨p, vs, rfl, hp, fun z => ?_, fun _ q hq => o.tup q _ _ hq (r.cut _ _) h4⟩)
    have h4' : Q (.val (.tup (cutL xs l u))) E3 := h4
    rw [cut_all (by rw [← r.length]; exact z)] at h4'
    exact o.val _ _ g h4'
  | _ => exact (show False from h4).elim
/-! ### and, or, not as values -/
def dAndV (da db : DE) : DE := fun E Q => da E fun r E1 => match r with
  | .val (.bl b) => if b = true then db E1 Q else Q (.val (.bl false)) E1
  | _ => False
def dOrV (da db : DE) : DE := fun E Q => da E fun r E1 => match r with
  | .val (.bl b) => if b = true then Q (.val (.bl true)) E1 else db E1 Q
  | _ => False
def dNotV (da : DE) : DE := fun E Q => da E fun r E1 => match r with
  | .val (.bl b) => Q (.val (.bl (!b))) E1
  | _ => False
theorem se_one {op} (ha : SE X kt a da) : SE X kt (.BoolOp op [a] pos) da := by
  obtain ⟨ta, pa, la⟩ := ha.ex
  exact ⟨ta, pe_one pa, la⟩
theorem se_and (ha : SE X kt a da) (hb : SE X kt (.BoolOp .And (b :: es) pos) db) : SE X kt (.BoolOp .And (a :: b :: es) pos) (dAndV da db) := by
  obtain ⟨ta, pa, la⟩ := ha.ex
  obtain ⟨tb, pb, lb⟩ := hb.ex
  refine ⟨_, pe_and pa pb, fun S H σ E Q Q' I h k => la S H σ E _ _ I h fun S1 H1 E1 v1 r1 e1 q1 n1 h1 => ?_⟩
  cases r1 with
  | val d =>
    cases d with
    | bl c =>
      cases (show Rp kt X.K S1 v1 (.bl c) from q1)
      refine ⟨c, rfl, ?_⟩
      cases c with
      | true =>
        have h1' : db E1 Q := h1
        rw [if_pos rfl]
        exact lb S1 H1 σ E1 _ _ e1.si h1' fun S2 H2 E2 v r e2 q n h2 => k S2 H2 E2 v r (e1.trans e2) q (n.back fun p => e1.fr.back) h2
      | false =>
        rw [if_neg Bool.false_ne_true]
        exact k S1 H1 E1 (.bl false) (.val (.bl false)) e1 (.bl false) trivial h1
    | _ => exact (show False from h1).elim
  | fr d => exact (show False from h1).elim
  | cell i => exact (show False from h1).elim
theorem se_or (ha : SE X kt a da) (hb : SE X kt (.BoolOp .Or (b :: es) pos) db) : SE X kt (.BoolOp .Or (a :: b :: es) pos) (dOrV da db) := by
  obtain ⟨ta, pa, la⟩ := ha.ex
  obtain ⟨tb, pb, lb⟩ := hb.ex
  refine ⟨_, pe_or pa pb, fun S H σ E Q Q' I h k => la S H σ E _ _ I h fun S1 H1 E1 v1 r1 e1 q1 n1 h1 => ?_⟩
  cases r1 with
  | val d =>
    cases d with
    | bl c =>
      cases (show Rp kt X.K S1 v1 (.bl c) from q1)
      refine ⟨c, rfl, ?_⟩
      cases c with
      | true =>
        rw [if_pos rfl]
        exact k S1 H1 E1 (.bl true) (.val (.bl true)) e1 (.bl true) trivial h1
      | false =>
        have h1' : db E1 Q := h1
        rw [if_neg Bool.false_ne_true]
        exact lb S1 H1 σ E1 _ _ e1.si h1' fun S2 H2 E2 v r e2 q n h2 => k S2 H2 E2 v r (e1.trans e2) q (n.back fun p => e1.fr.back) h2
    | _ => exact (show False from h1).elim
  | fr d => exact (show False from h1).elim
  | cell i => exact (show False from h1).elim
theorem se_not (ha : SE X kt a da) : SE X kt (.UnaryOp .Not a pos) (dNotV da) := by
  obtain ⟨ta, pa, la⟩ := ha.ex
  refine ⟨_, pe_not pa, fun S H σ E Q Q' I h k => la S H σ E _ _ I h fun S1 H1 E1 v1 r1 e1 q1 n1 h1 => ?_⟩
  cases r1 with
  | val d =>
    cases d with
    | bl c =>
      cases (show Rp kt X.K S1 v1 (.bl c) from q1)
      exact ⟨c, rfl, k S1 H1 E1 (.bl (!c)) (.val (.bl (!c))) e1 (.bl (!c)) trivial h1⟩
    | _ => exact (show False from h1).elim
  | fr d => exact (show False from h1).elim
  | cell i => exact (show False from h1).elim
theorem ud_neg : UnD kt K (rU fun i => .int (-i)) (fun d Q => match d with | .int i => Q (.val (.int (-i))) | _ => False) := by
  intro S H v1 d1 Q Q' e h1 h o
  cases d1 with
  | int i => exact ⟨i, h1.int, o.val _ _ (.int _) h⟩
  | _ => exact (show False from h).elim
/-- the truth of any value -/
theorem st_tru (ha : SE X kt a da) (he : ∀ whole, isTrue a X.env whole = (do let v ← whole; standAt a.pos; holding [v] (truthy v)) := by intro _; rfl) : ST X kt a (dTru da) := by
  obtain ⟨ta, pa, la⟩ := ha.ex
  refine ⟨_, pt_truth pa he, fun S H σ E Q Q' I h k => la S H σ E _ _ I h fun S1 H1 E1 v1 r1 e1 q1 n1 h1 => ?_⟩
  obtain ⟨d, w, c, ht, h2⟩ := vw_ok e1.si q1 h1
  refine ⟨c, ?_, k S1 H1 E1 c e1 h2⟩
  cases d with
  | non => cases w.non; exact ht
  | bl b => cases w.bl; exact ht
  | int i => cases w.int; exact ht
  | str z => cases w.str; exact ht
  | lst xs =>
    obtain ⟨p, vs, rfl, hp, r⟩ := w.lst e1.si.ex
    exact .inl ⟨vs, .of hp, by rw [show c = !xs.isEmpty from ht]; cases r <;> rfl⟩
  | tup xs =>
    obtain ⟨p, vs, rfl, hp, r⟩ := w.tup e1.si.ex
    exact .inr (.inl ⟨vs, hp, by rw [show c = !xs.isEmpty from ht]; cases r <;> rfl⟩)
  | _ => exact (show False from ht).elim
end
end BD
set_option Elab.async false
set_option linter.all false
set_option maxRecDepth 100000
set_option maxHeartbeats 2000000
/-! BD: calls of built-ins by name; isinstance; methods of texts. -/
namespace BD
open PySem PySem.Spec PyProof.Rows L2
def dNilR : DR := fun E Q => Q [] E
def dConsR (da : DE) (dr : DR) : DR := fun E Q => da E fun r E1 => dr E1 fun rs E2 => Q (r :: rs) E2
def vws (E : List Cell) : List R → (List D → Prop) → Prop
  | [], k => k []
  | r :: rs, k => vw E r fun d => vws E rs fun ds => k (d :: ds)
def dCall (rd : List D → (R → Prop) → Prop) (dr : DR) : DE := fun E Q => dr E fun rs E1 => vws E1 rs fun ds => rd ds fun r => Q r E1
section
variable (kt : Bool) (K : PySem.W.Frag)
inductive VwL (S H : Hp) : List V → List D → Prop
  | nil : VwL S H [] []
  | cons {v : V} {vs : List V} {d : D} {ds : List D} : Vw kt K S H v d → VwL S H vs ds → VwL S H (v :: vs) (d :: ds)
def CallD (r : List V → Hp → VK → Prop) (rd : List D → (R → Prop) → Prop) : Prop := ∀ (S H : Hp) (vs : List V) (ds : List D) (Q : R → Prop) (Q' : VK), Same S H →
  VwL kt K S H vs ds → rd ds Q → Outs kt K S H Q Q' → r vs H Q'
end
structure CallB (X : Cx) (kt : Bool) (f : Value) (rd : List D → (R → Prop) → Prop) : Prop where
  ex : ∃ r, CallR X f r ∧ CallD kt X.K r rd
section
variable {X : Cx} {kt : Bool} {K : PySem.W.Frag} {a b e : Expr} {es : List Expr} {da db : DE} {dr : DR} {pos p apos : Pos} {x : Str} {S H : Hp} {σ : L2.St} {E E1 E2 : List Cell}
theorem RepRs.step {S1 H1 : Hp} (e : Ev kt K S H σ E S1 H1 E1) : ∀ {vs : List V} {rs : List R}, RepRs kt K S H σ E vs rs → RepRs kt K S1 H1 σ E1 vs rs
  | _, _, .nil => .nil
  | _, _, .cons h t => .cons (h.step e) (RepRs.step e t)
theorem News.back {H1 : Hp} (e : ∀ p, H1 p = none → H p = none) : ∀ {vs : List V} {rs : List R}, News H1 vs rs → News H vs rs
  | _, _, .nil => .nil
  | _, _, .cons h t => .cons (h.back e) (News.back e t)
theorem vws_ok (I : SI kt K S H σ E) : ∀ {vs : List V} {rs : List R} {k : List D → Prop}, RepRs kt K S H σ E vs rs → vws E rs k → ∃ ds, VwL kt K S H vs ds ∧ k ds
  | _, _, _, .nil, q => ⟨[], .nil, q⟩
  | _, _, _, .cons h t, q => by
    obtain ⟨d, w, q1⟩ := vw_ok I h q
    obtain ⟨ds, ws, q2⟩ := vws_ok I t q1
    exact ⟨d :: ds, .cons w ws, q2⟩
theorem sr_nil : SR X kt [] dNilR := ⟨_, pa_nil, fun S H σ E Q Q' I h k => k S H E [] [] (.refl I) .nil .nil h⟩
theorem sr_cons (ha : SE X kt e da) (hr : SR X kt es dr) (hs : starEach (e :: es) X.env = (false, eval e X.env) :: starEach es X.env := by rfl) : SR X kt (e :: es) (dConsR da dr) := by
  obtain ⟨t, p, l⟩ := ha.ex
  obtain ⟨tr, pr, lr⟩ := hr.ex
  exact ⟨_, pa_cons p pr hs, fun S H σ E Q Q' I h k => l S H σ E _ _ I h fun S1 H1 E1 v1 r1 e1 q1 n1 h1 => lr S1 H1 σ E1 _ _ e1.si h1 fun S2 H2 E2 vs rs e2 qs ns h2 =>
    k S2 H2 E2 (v1 :: vs) (r1 :: rs) (e1.trans e2) (.cons (q1.step e2) qs) (.cons n1 (ns.back fun p => e1.fr.back)) h2⟩
/-- an argument that must stay -/
theorem se_fz (ha : SE X kt e da) : SE X kt e (fun E Q => dFz da E fun d E1 => Q (.val d) E1) := by
  obtain ⟨t, p, l⟩ := (fz ha).ex
  exact ⟨t, p, fun S H σ E Q Q' I h k => l S H σ E _ _ I h fun S1 H1 E1 v1 x1 e1 r1 h1 => k S1 H1 E1 v1 (.val x1) e1 r1 trivial h1⟩
theorem call_lk {r : List V → Hp → VK → Prop} {rd : List D → (R → Prop) → Prop} {t : TA} (hd : CallD kt K r rd) (l : LkR kt K t dr) : LkE kt K (tCB r t) (dCall rd dr) :=
  fun S H σ E Q Q' I h k => l S H σ E _ _ I h fun S1 H1 E1 vs rs e1 qs ns h1 => by
    obtain ⟨ds, ws, h2⟩ := vws_ok e1.si qs h1
    exact hd S1 H1 vs ds _ _ e1.si.ex ws h2 (outs_of e1 k)
/-- f(e, ..), f a built-in function | type by its name -/
theorem se_callB {id : String} {rd : List D → (R → Prop) → Prop} (o : CallB X kt (.builtin id) rd) (hg : Gl X x) (hm : X.mg x = none) (hv : bootBuiltins x = some (.builtin id)) (ha : SR X kt (e :: es) dr) (hn : x ≠ "__name__" := by decide) (hdb : (x == ("__debug__" : Str)) = false := by decide)
    (he : starEach (e :: es) X.env = (false, eval e X.env) :: starEach es X.env := by rfl) (hpl : (backTo pos (starEach es X.env)).any (·.1) = false := by rfl) : SE X kt (.Call (.Name x p) (e :: es) [] pos) (dCall rd dr) := by
  obtain ⟨r, ho, hd⟩ := o.ex
  obtain ⟨t, q, l⟩ := ha.ex
  exact ⟨_, pe_callB ho hg hm hv q hn hdb he hpl, call_lk hd l⟩
theorem se_callTy {T : String} {rd : List D → (R → Prop) → Prop} (o : CallB X kt (.type T) rd) (hg : Gl X x) (hm : X.mg x = none) (hv : bootBuiltins x = some (.type T)) (ha : SR X kt (e :: es) dr) (hn : x ≠ "__name__" := by decide) (hdb : (x == ("__debug__" : Str)) = false := by decide)
    (he : starEach (e :: es) X.env = (false, eval e X.env) :: starEach es X.env := by rfl) (hpl : (backTo pos (starEach es X.env)).any (·.1) = false := by rfl) : SE X kt (.Call (.Name x p) (e :: es) [] pos) (dCall rd dr) := by
  obtain ⟨r, ho, hd⟩ := o.ex
  obtain ⟨t, q, l⟩ := ha.ex
  exact ⟨_, pe_callTy ho hg hm hv q hn hdb he hpl, call_lk hd l⟩
theorem VwL.one {vs : List V} {d : D} (h : VwL kt K S H vs [d]) : ∃ v, vs = [v] ∧ Vw kt K S H v d := by
  cases h with
  | cons a b => cases b; exact ⟨_, rfl, a⟩
theorem VwL.two {vs : List V} {d d2 : D} (h : VwL kt K S H vs [d, d2]) : ∃ v w, vs = [v, w] ∧ Vw kt K S H v d ∧ Vw kt K S H w d2 := by
  cases h with
  | cons a b => cases b with
    | cons c d => cases d; exact ⟨_, _, rfl, a, c⟩
/-- one argument -/
theorem cd_one {r : List V → Hp → VK → Prop} {g : D → (R → Prop) → Prop} (h : ∀ (S H : Hp) (v : V) (d : D) (Q : R → Prop) (Q' : VK), Same S H → Vw kt K S H v d → g d Q → Outs kt K S H Q Q' → r [v] H Q') :
    CallD kt K r (fun ds Q => match ds with | [d] => g d Q | _ => False) := by
  intro S H vs ds Q Q' e hw hq o
  match ds, hw, hq with
  | [d], hw, hq =>
    obtain ⟨v, rfl, w⟩ := hw.one
    exact h S H v d Q Q' e w hq o
  | [], _, hq => exact (show False from hq).elim
  | _ :: _ :: _, _, hq => exact (show False from hq).elim
theorem cd_two {r : List V → Hp → VK → Prop} {g : D → D → (R → Prop) → Prop} (h : ∀ (S H : Hp) (v w : V) (d d2 : D) (Q : R → Prop) (Q' : VK), Same S H → Vw kt K S H v d → Vw kt K S H w d2 → g d d2 Q → Outs kt K S H Q Q' → r [v, w] H Q') :
    CallD kt K r (fun ds Q => match ds with | [d, d2] => g d d2 Q | _ => False) := by
  intro S H vs ds Q Q' e hw hq o
  match ds, hw, hq with
  | [d, d2], hw, hq =>
    obtain ⟨v, w', rfl, w, w2⟩ := hw.two
    exact h S H v w' d d2 Q Q' e w w2 hq o
  | [], _, hq => exact (show False from hq).elim
  | [_], _, hq => exact (show False from hq).elim
  | _ :: _ :: _ :: _, _, hq => exact (show False from hq).elim
def d1 (g : D → (R → Prop) → Prop) (ds : List D) (Q : R → Prop) : Prop := match ds with | [d] => g d Q | _ => False
def d2 (g : D → D → (R → Prop) → Prop) (ds : List D) (Q : R → Prop) : Prop := match ds with | [d, e] => g d e Q | _ => False
def dLen (d : D) (Q : R → Prop) : Prop := match d with
  | .lst xs => Q (.val (.int xs.length))
  | .tup xs => Q (.val (.int xs.length))
  | .scr xs => Q (.val (.int xs.length))
  | .str z => z.length ≤ sizeLine ∧ Q (.val (.int z.length))
  | _ => False
theorem cb_len : CallB X kt (.builtin "len") (d1 dLen) := ⟨_, call_len, cd_one fun S H v d Q Q' e w h o => by
  cases d with
  | lst xs =>
    obtain ⟨p, vs, rfl, hp, r⟩ := w.lst e
    exact ⟨_, vs.length, rfl, .inl ⟨vs, .of hp, rfl⟩, o.val _ _ (.int _) (by rw [r.length]; exact h)⟩
  | tup xs =>
    obtain ⟨p, vs, rfl, hp, r⟩ := w.tup e
    exact ⟨_, vs.length, rfl, .inr ⟨vs, hp, rfl⟩, o.val _ _ (.int _) (by rw [r.length]; exact h)⟩
  | scr xs =>
    obtain ⟨p, rfl, hp⟩ := w.scr e
    exact ⟨_, _, rfl, .inl ⟨_, hp, rfl⟩, o.val _ _ (.int _) (by rw [List.length_map]; exact h)⟩
  | str z =>
    cases w.str
    exact ⟨_, z.length, rfl, ⟨h.1, rfl⟩, o.val _ _ (.int _) h.2⟩
  | _ => exact (show False from h).elim⟩
def dInt (d : D) (Q : R → Prop) : Prop := match d with
  | .int i => Q (.val (.int i))
  | .bl b => Q (.val (.int (if b then 1 else 0)))
  | _ => False
theorem cb_int : CallB X kt (.type "int") (d1 dInt) := ⟨_, call_int1, cd_one fun S H v d Q Q' e w h o => by
  cases d with
  | int i => cases w.int; exact .inl ⟨i, rfl, o.val _ _ (.int _) h⟩
  | bl i => cases w.bl; exact .inr ⟨i, rfl, o.val _ _ (.int _) h⟩
  | _ => exact (show False from h).elim⟩
def dAbs (d : D) (Q : R → Prop) : Prop := match d with
  | .int i => Q (.val (.int (if i < 0 then -i else i)))
  | _ => False
theorem cb_abs : CallB X kt (.builtin "abs") (d1 dAbs) := ⟨_, call_abs, cd_one fun S H v d Q Q' e w h o => by
  cases d with
  | int i => cases w.int; exact ⟨i, rfl, o.val _ _ (.int _) h⟩
  | _ => exact (show False from h).elim⟩
theorem cb_max2 (hc : X.calm = true) : CallB X kt (.builtin "max") (d2 (dI fun i j => .int (if j > i then j else i))) := ⟨_, call_max2 hc, cd_two fun S H v w d d' Q Q' e w1 w2 h o => by
  cases d with
  | int i => cases d' with
    | int j => cases w1.int; cases w2.int; exact ⟨i, j, rfl, o.val _ _ (.int _) h⟩
    | _ => exact (show False from h).elim
  | _ => exact (show False from h).elim⟩
theorem cb_min2 (hc : X.calm = true) : CallB X kt (.builtin "min") (d2 (dI fun i j => .int (if j < i then j else i))) := ⟨_, call_min2 hc, cd_two fun S H v w d d' Q Q' e w1 w2 h o => by
  cases d with
  | int i => cases d' with
    | int j => cases w1.int; cases w2.int; exact ⟨i, j, rfl, o.val _ _ (.int _) h⟩
    | _ => exact (show False from h).elim
  | _ => exact (show False from h).elim⟩
def dAll (d : D) (Q : R → Prop) : Prop := match d with
  | .lst xs => ∃ bs : List Bool, xs = bs.map D.bl ∧ Q (.val (.bl (bs.all id)))
  | _ => False
def dAny (d : D) (Q : R → Prop) : Prop := match d with
  | .lst xs => ∃ bs : List Bool, xs = bs.map D.bl ∧ Q (.val (.bl (bs.any id)))
  | _ => False
theorem cb_all (hc : X.calm = true) : CallB X kt (.builtin "all") (d1 dAll) := ⟨_, cr_all hc, cd_one fun S H v d Q Q' e w h o => by
  cases d with
  | lst xs =>
    obtain ⟨bs, rfl, q⟩ := h
    obtain ⟨p, vs, rfl, hp, r⟩ := w.lst e
    exact ⟨p, bs, rfl, by rw [← rpl_bls r]; exact .of hp, o.val _ _ (.bl _) q⟩
  | _ => exact (show False from h).elim⟩
theorem cb_any (hc : X.calm = true) : CallB X kt (.builtin "any") (d1 dAny) := ⟨_, cr_any hc, cd_one fun S H v d Q Q' e w h o => by
  cases d with
  | lst xs =>
    obtain ⟨bs, rfl, q⟩ := h
    obtain ⟨p, vs, rfl, hp, r⟩ := w.lst e
    exact ⟨p, bs, rfl, by rw [← rpl_bls r]; exact .of hp, o.val _ _ (.bl _) q⟩
  | _ => exact (show False from h).elim⟩
def dSum (d : D) (Q : R → Prop) : Prop := match d with
  | .lst xs => ∃ ns : List Int, xs = ns.map D.int ∧ Q (.val (.int ns.sum))
  | _ => False
theorem cb_sum (hc : X.calm = true) : CallB X kt (.builtin "sum") (d1 dSum) := ⟨_, cr_sum hc, cd_one fun S H v d Q Q' e w h o => by
  cases d with
  | lst xs =>
    obtain ⟨bs, rfl, q⟩ := h
    obtain ⟨p, vs, rfl, hp, r⟩ := w.lst e
    exact ⟨p, bs, rfl, by rw [← rpl_ints r]; exact .of hp, o.val _ _ (.int _) q⟩
  | _ => exact (show False from h).elim⟩
def dMinI (d : D) (Q : R → Prop) : Prop := match d with
  | .lst xs => ∃ ns : List Int, xs = ns.map D.int ∧ 0 < ns.length ∧ ∀ m, m ∈ ns → (∀ y, y ∈ ns → m ≤ y) → Q (.val (.int m))
  | _ => False
theorem cb_minI (hc : X.calm = true) : CallB X kt (.builtin "min") (d1 dMinI) := ⟨_, cr_min hc, cd_one fun S H v d Q Q' e w h o => by
  cases d with
  | lst xs =>
    obtain ⟨bs, rfl, hl, q⟩ := h
    obtain ⟨p, vs, rfl, hp, r⟩ := w.lst e
    exact ⟨p, bs, rfl, by rw [← rpl_ints r]; exact .of hp, hl, fun m h1 h2 => o.val _ _ (.int _) (q m h1 h2)⟩
  | _ => exact (show False from h).elim⟩
def dListOf (d : D) (Q : R → Prop) : Prop := match d with
  | .lst xs => Q (.fr (.lst xs))
  | .tup xs => Q (.fr (.lst xs))
  | _ => False
theorem cb_list : CallB X kt (.type "list") (d1 dListOf) := ⟨_, call_list_of, cd_one fun S H v d Q Q' e w h o => by
  cases d with
  | lst xs =>
    obtain ⟨p, vs, rfl, hp, r⟩ := w.lst e
    exact ⟨p, vs, rfl, .inl (.of hp), fun l hl => o.lst hl r h⟩
  | tup xs =>
    obtain ⟨p, vs, rfl, hp, r⟩ := w.tup e
    exact ⟨p, vs, rfl, .inr hp, fun l hl => o.lst hl r h⟩
  | _ => exact (show False from h).elim⟩
def dTupOf (d : D) (Q : R → Prop) : Prop := match d with
  | .lst xs => Q (.val (.tup xs))
  | .tup xs => Q (.val (.tup xs))
  | _ => False
theorem cb_tuple : CallB X kt (.type "tuple") (d1 dTupOf) := ⟨_, call_tuple_of, cd_one fun S H v d Q Q' e w h o => by
  cases d with
  | lst xs =>
    obtain ⟨p, vs, rfl, hp, r⟩ := w.lst e
    exact ⟨p, vs, rfl, .inl ⟨.of hp, fun l hl => o.tup l _ _ hl r h⟩⟩
  | tup xs =>
    have g := w.rpT
    obtain ⟨p, vs, rfl, hp, r⟩ := w.tup e
    exact ⟨p, vs, rfl, .inr ⟨hp, o.val _ _ g h⟩⟩
  | _ => exact (show False from h).elim⟩
/-! ### isinstance(e, T), T a built-in type -/
def tyOf : D → String
  | .non => "NoneType" | .bl _ => "bool" | .int _ => "int" | .str _ => "str" | .lst _ => "list" | .tup _ => "tuple" | .dk _ => "dict" | .dt _ => "dict" | .scr _ => "list"
/-- T is a supertype of t, of the few that are asked -/
def isaB (t T : String) : Bool := (t == T) || (t == "bool" && T == "int")
def dIsa (T : String) (da : DE) : DE := fun E Q => da E fun r E1 => vw E1 r fun d => Q (.val (.bl (isaB (tyOf d) T))) E1
/-- a locked dict with tuple keys is a dict, too -/
theorem call_isiD : CallR X (.builtin "isinstance") (fun xs H Q => ∃ (a : Addr) (o : Obj) (kvs : List (List Key × V)) (T : String) (b : Bool), xs = [.ref a, .ty T] ∧ H a = some (.frz o (.dT kvs)) ∧ PySem.W.kitOne X.K (.type "dict") (.type T) = some b ∧ Q (.bl b) H) := by
  intro pins s σ H xs us Q I r h
  obtain ⟨a, ob, kvs, T, b, rfl, ha, e, q⟩ := h
  obtain ⟨u1, u2, rfl, r1, r2⟩ := vals2 r
  cases (show u1 = Value.ref a from r1)
  cases (show u2 = Value.type T from r2)
  obtain ⟨_, _, _, xs, _, o, es, ep, h1, h2, _⟩ := (show ObjOk X.prog X.w H s.heap a (.frz ob (.dT kvs)) from I.hok a _ ha)
  exact PySem.W.kia_one PySem.W.kitx_dict I.kIn ⟨o, h1, h2.1⟩ e (fun z => nomatch z) fun tk => ⟨.bl b, H, I.tok tk, rfl, q⟩
theorem kit_at : ∀ d : D, ∀ T ∈ ["dict", "list", "tuple", "bool", "int", "str"], PySem.W.kitOne K (.type (tyOf d)) (.type T) = some (isaB (tyOf d) T) := by
  have g : ∀ t ∈ ["NoneType", "bool", "int", "str", "list", "tuple", "dict"], ∀ T ∈ ["dict", "list", "tuple", "bool", "int", "str"], kitB t T = some (isaB t T) := by decide +kernel
  intro d T hT
  exact kit_ty (g _ (by cases d <;> simp [tyOf]) T hT)
theorem tyx_rp {v : V} {d : D} (e : Same S H) (h : Rp kt K S v d) : TyX K H v (.type (tyOf d)) ∨ ∃ a o kvs, v = .ref a ∧ H a = some (.frz o (.dT kvs)) ∧ tyOf d = "dict" := by
  cases h with
  | non => exact .inl (.base .non)
  | bl b => exact .inl (.base (.bl b))
  | int i => exact .inl (.base (.int i))
  | str z => exact .inl (.base (.str z))
  | lst h r => exact .inl (.base (.lst (e _ _ h)))
  | tup h r =>
    rcases (h.mono e).sqt with (z | ⟨o, z⟩) | ⟨o, its, n, hk, hc, _⟩
    · exact .inl (.base (.tup z))
    · exact .inl (.fTuple z)
    · exact .inl (.kTuple hk hc)
  | dk h r =>
    rcases h with z | ⟨o, z⟩
    · exact .inl (.base (.dK (e _ _ z)))
    · exact .inl (.fDict (e _ _ z))
  | dt h r =>
    rcases h with z | ⟨o, z⟩
    · exact .inl (.base (.dT (e _ _ z)))
    · exact .inr ⟨_, o, _, rfl, e _ _ z, rfl⟩
  | scr h =>
    rcases (le_of e).sql _ _ h with (z | ⟨o, z⟩) | ⟨o, its, n, hk, hc, _⟩
    · exact .inl (.base (.lst z))
    · exact .inl (.base (.frz z))
    · exact .inl (.kList hk hc)
theorem tyx_vw {v : V} {d : D} (e : Same S H) (h : Vw kt K S H v d) : TyX K H v (.type (tyOf d)) ∨ ∃ a o kvs, v = .ref a ∧ H a = some (.frz o (.dT kvs)) ∧ tyOf d = "dict" := by
  rcases h with h | ⟨p, o, rfl, hr, ho⟩
  · exact tyx_rp e h
  · cases d with
    | lst ds => obtain ⟨vs, rfl, _⟩ := ho; exact .inl (.base (.lst hr.lst))
    | dk ds =>
      obtain ⟨vs, rfl, _⟩ := ho
      rcases hr.rd with z | ⟨o, z⟩
      · exact .inl (.base (.dK z))
      · exact .inl (.fDict z)
    | dt ds =>
      obtain ⟨vs, rfl, _⟩ := ho
      rcases hr.rd with z | ⟨o, z⟩
      · exact .inl (.base (.dT z))
      · exact .inr ⟨p, o, _, rfl, z, rfl⟩
    | _ => exact (show False from ho).elim
theorem se_isa {T : Str} {T' : String} {pT : Pos} (hT : T' ∈ ["dict", "list", "tuple", "bool", "int", "str"]) (hg : Gl X "isinstance") (hm : X.mg "isinstance" = none) (hgT : Gl X T) (hmT : X.mg T = none) (hvT : bootBuiltins T = some (.type T')) (ha : SE X kt a da)
    (hnT : T ≠ "__name__" := by decide) (hdT : (T == ("__debug__" : Str)) = false := by decide)
    (he : starEach [a, .Name T pT] X.env = (false, eval a X.env) :: starEach [.Name T pT] X.env := by rfl) (he2 : starEach [.Name T pT] X.env = (false, eval (.Name T pT) X.env) :: starEach [] X.env := by rfl) (hpl : (backTo pos (starEach [.Name T pT] X.env)).any (·.1) = false := by rfl) :
    SE X kt (.Call (.Name "isinstance" p) [a, .Name T pT] [] pos) (dIsa T' da) := by
  obtain ⟨ta, pa, la⟩ := ha.ex
  refine ⟨_, pe_callB (call_isi.or call_isiD) hg hm (by decide +kernel) (pa_cons pa (pa_cons (pe_bltn (v := .ty T') hgT hmT hvT rfl hnT hdT) pa_nil he2) he) (by decide) (by decide) he hpl, fun S H σ E Q Q' I h k => la S H σ E _ _ I h fun S1 H1 E1 v1 r1 e1 q1 n1 h1 => ?_⟩
  obtain ⟨d, w, h2⟩ := vw_ok e1.si q1 h1
  have g := kit_at (K := X.K) d T' hT
  rcases tyx_vw e1.si.ex w with z | ⟨p, o, kvs, rfl, z, hty⟩
  · exact .inl ⟨v1, .ty T', _, _, _, rfl, .ty T', z, g, (outs_of e1 k).val _ _ (.bl _) h2⟩
  · exact .inr ⟨p, o, kvs, T', _, rfl, z, by rw [← hty]; exact g, (outs_of e1 k).val _ _ (.bl _) h2⟩
end
end BD
set_option Elab.async false
set_option linter.all false
set_option maxRecDepth 100000
set_option maxHeartbeats 2000000
/-! BD: statements, targets, loops. -/
namespace BD
open PySem PySem.Spec PyProof.Rows L2

/-- a is the address of a container made here -/
def ownN (σ : L2.St) (E : List Cell) (a : Addr) : Prop := ∃ i d, nth E i = .own d ∧ σ[i]? = some (some (.ref a))
section
variable (kt : Bool) (K : PySem.W.Frag)
/-- a statement's step -/
structure Go (S H : Hp) (σ : L2.St) (E : List Cell) (S' H' : Hp) (σ' : L2.St) (E' : List Cell) : Prop where
  si : SI kt K S' H' σ' E'
  fr : Fr S H (ownA σ E) S' H' (ownA σ' E')
  bor : ∀ i d, nth E i = .bor d → σ'[i]? = σ[i]? ∧ ∃ d', nth E' i = .bor d'
  borb : ∀ i d, nth E' i = .bor d → ∃ d', nth E i = .bor d'
  ro : ∀ i d, nth E' i = .ro d → nth E i = .ro d ∧ σ'[i]? = σ[i]?
  len : E'.length = E.length
def RetR (H : Hp) (σ : L2.St) (E : List Cell) (S' H' : Hp) (v : V) : R → Prop
  | .val d => Rp kt K S' v d
  | .fr d => ∃ p o, v = .ref p ∧ S' p = none ∧ (ownN σ E p ∨ H p = none) ∧ H' p = some o ∧ Own kt K S' o d
  | .cell _ => False
end
structure DEnds where
  nx : List Cell → Prop
  rt : R → List Cell → Prop
  bk : List Cell → Prop := fun _ => False
  ct : List Cell → Prop := fun _ => False
abbrev DS := DEnds → List Cell → Prop
section
variable (kt : Bool) (K : PySem.W.Frag)
structure EndsOk (S H : Hp) (σ : L2.St) (E : List Cell) (DD : DEnds) (D : Ends) : Prop where
  nx : ∀ S' H' σ' E', Go kt K S H σ E S' H' σ' E' → DD.nx E' → D.nx σ' H'
  bk : ∀ S' H' σ' E', Go kt K S H σ E S' H' σ' E' → DD.bk E' → D.bk σ' H'
  ct : ∀ S' H' σ' E', Go kt K S H σ E S' H' σ' E' → DD.ct E' → D.ct σ' H'
  rt : ∀ S' H' σ' E' v r, Go kt K S H σ E S' H' σ' E' → RetR kt K H σ E S' H' v r → DD.rt r E' → D.rt v H'
def LkS (t : TS) (d : DS) : Prop := ∀ (S H : Hp) (σ : L2.St) (E : List Cell) (DD : DEnds) (D : Ends), SI kt K S H σ E → d DD E → EndsOk kt K S H σ E DD D → t D σ H
end
structure SS (X : Cx) (kt : Bool) (st : Stmt) (d : DS) : Prop where
  ex : ∃ t, PS X st t ∧ LkS kt X.K t d
structure SSs (X : Cx) (kt : Bool) (st : List Stmt) (d : DS) : Prop where
  ex : ∃ t, PSs X st t ∧ LkS kt X.K t d

section
variable {kt : Bool} {K : PySem.W.Frag} {S H S' H' S1 H1 S2 H2 : Hp} {σ σ1 σ2 : L2.St} {E E' E1 E2 : List Cell} {v : V} {r : R}
theorem Go.refl (I : SI kt K S H σ E) : Go kt K S H σ E S H σ E := ⟨I, .refl, fun i d h => ⟨rfl, d, h⟩, fun i d h => ⟨d, h⟩, fun i d h => ⟨h, rfl⟩, rfl⟩
theorem Go.trans (a : Go kt K S H σ E S1 H1 σ1 E1) (b : Go kt K S1 H1 σ1 E1 S2 H2 σ2 E2) : Go kt K S H σ E S2 H2 σ2 E2 where
  si := b.si
  fr := a.fr.trans b.fr
  bor := fun i d h => by
    obtain ⟨h1, d1, h2⟩ := a.bor i d h
    obtain ⟨h3, d2, h4⟩ := b.bor i d1 h2
    exact ⟨h3.trans h1, d2, h4⟩
  borb := fun i d h => by
    obtain ⟨d1, h1⟩ := b.borb i d h
    exact a.borb i d1 h1
  ro := fun i d h => by
    obtain ⟨h1, h2⟩ := b.ro i d h
    obtain ⟨h3, h4⟩ := a.ro i d h1
    exact ⟨h3, h2.trans h4⟩
  len := b.len.trans a.len
theorem CellStep.bor_of {a : Cell} {d : D} (h : CellStep a (.bor d)) : ∃ d', a = .bor d' := by
  cases a with
  | bor d' => exact ⟨d', rfl⟩
  | un => cases (show Cell.bor d = .un from h)
  | val x => cases (show Cell.bor d = .val x from h)
  | ro x => cases (show Cell.bor d = .ro x from h)
  | own x => rcases (show (∃ d', Cell.bor d = .own d') ∨ ∃ d', Cell.bor d = .val d' from h) with ⟨_, z⟩ | ⟨_, z⟩ <;> cases z
theorem CellStep.ro_of {a : Cell} {d : D} (h : CellStep a (.ro d)) : a = .ro d := by
  cases a with
  | ro x => cases (show Cell.ro d = .ro x from h); rfl
  | bor x => obtain ⟨_, z⟩ := (show ∃ d', Cell.ro d = .bor d' from h); cases z
  | un => cases (show Cell.ro d = .un from h)
  | val x => cases (show Cell.ro d = .val x from h)
  | own x => rcases (show (∃ d', Cell.ro d = .own d') ∨ ∃ d', Cell.ro d = .val d' from h) with ⟨_, z⟩ | ⟨_, z⟩ <;> cases z
theorem Go.cells {S0 H0 : Hp} {σ0 : L2.St} {E0 : List Cell} (g : Go kt K S0 H0 σ0 E0 S H σ E) (I : SI kt K S1 H1 σ E1) (F : Fr S0 H0 (ownA σ0 E0) S1 H1 (ownA σ E1)) (c : ∀ i, CellStep (nth E i) (nth E1 i)) : Go kt K S0 H0 σ0 E0 S1 H1 σ E1 where
  si := I
  fr := F
  bor := fun i d h => by
    obtain ⟨h1, d', h2⟩ := g.bor i d h
    have := c i
    rw [h2] at this
    exact ⟨h1, this⟩
  borb := fun i d h => by
    have := c i
    rw [h] at this
    obtain ⟨d', h2⟩ := this.bor_of
    exact g.borb i d' h2
  ro := fun i d h => by
    have := c i
    rw [h] at this
    exact g.ro i d this.ro_of
  len := by rw [← I.len, g.si.len]; exact g.len
theorem Ev.go (I : SI kt K S H σ E) (e : Ev kt K S H σ E S1 H1 E1) : Go kt K S H σ E S1 H1 σ E1 := (Go.refl I).cells e.si e.fr e.cells
theorem ownN.ownA {a : Addr} (h : ownN σ E a) : ownA σ E a := let ⟨i, d, h1, h2⟩ := h; ⟨i, d, .inl h1, h2⟩
/-- what was made here lies at an address that was ours, or is new -/
theorem Go.ownN (I : SI kt K S H σ E) (g : Go kt K S H σ E S1 H1 σ1 E1) {a : Addr} (h : ownN σ1 E1 a) : ownN σ E a ∨ H a = none := by
  rcases g.fr.own a h.ownA with ⟨k, d, hk, hσ⟩ | z
  · rcases hk with hk | hk
    · exact .inl ⟨k, d, hk, hσ⟩
    · exfalso
      obtain ⟨j, e, hj, hσj⟩ := h
      obtain ⟨h1, d', h2⟩ := g.bor k d hk
      have := g.si.dis j k e d' a (.inl hj) (.inr h2) hσj (h1.trans hσ)
      subst this
      rw [hj] at h2; cases h2
  · exact .inr z
theorem RetR.back (I : SI kt K S H σ E) (g : Go kt K S H σ E S1 H1 σ1 E1) (h : RetR kt K H1 σ1 E1 S2 H2 v r) : RetR kt K H σ E S2 H2 v r := by
  cases r with
  | val d => exact h
  | cell i => exact h
  | fr d =>
    obtain ⟨p, o, h1, h2, h3, h4, h5⟩ := h
    refine ⟨p, o, h1, h2, ?_, h4, h5⟩
    rcases h3 with z | z
    · exact g.ownN I z
    · exact .inr (g.fr.back z)
theorem EndsOk.back {DD : DEnds} {D : Ends} (I : SI kt K S H σ E) (g : Go kt K S H σ E S1 H1 σ1 E1) (e : EndsOk kt K S H σ E DD D) : EndsOk kt K S1 H1 σ1 E1 DD D :=
  ⟨fun _ _ _ _ a h => e.nx _ _ _ _ (g.trans a) h, fun _ _ _ _ a h => e.bk _ _ _ _ (g.trans a) h, fun _ _ _ _ a h => e.ct _ _ _ _ (g.trans a) h, fun _ _ _ _ v r a q h => e.rt _ _ _ _ v r (g.trans a) (q.back I g) h⟩
end

/-! ### targets -/
abbrev DG := R → List Cell → (List Cell → Prop) → Prop
def LkG (kt : Bool) (K : PySem.W.Frag) (g : TG) (dg : DG) : Prop := ∀ (S0 H0 : Hp) (σ0 : L2.St) (E0 : List Cell) (S H : Hp) (σ : L2.St) (E : List Cell) (v : V) (r : R) (Q : List Cell → Prop) (Q' : L2.St → Hp → Prop),
  SI kt K S0 H0 σ0 E0 → Go kt K S0 H0 σ0 E0 S H σ E → RepR kt K S H σ E v r → New H0 v r → dg r E Q → (∀ S' H' σ' E', Go kt K S0 H0 σ0 E0 S' H' σ' E' → Same S S' → Q E' → Q' σ' H') → g v σ H Q'
structure SG (X : Cx) (kt : Bool) (tg : Expr) (d : DG) : Prop where
  ex : ∃ g, PG X tg g ∧ LkG kt X.K g d
def canSet : Cell → Prop
  | .bor _ => False
  | _ => True
/-- x = data that stays -/
def gV (i : Nat) : DG := fun r E Q => frz E r fun d E1 => canSet (nth E1 i) ∧ Q (put E1 i (.val d))
/-- x = a new container, ours from now on -/
def gO (i : Nat) : DG := fun r E Q => match r with
  | .fr d => canSet (nth E i) ∧ Q (put E i (.own d))
  | _ => False
section
variable {X : Cx} {kt : Bool} {K : PySem.W.Frag} {S H S' H' S1 H1 S2 H2 S0 H0 : Hp} {σ σ1 σ2 σ0 : L2.St} {E E' E1 E2 E0 : List Cell} {v : V} {r : R}
theorem get_set {α : Type} {l : List α} {i j : Nat} {a : α} : (l.set i a)[j]? = if j = i ∧ i < l.length then some a else l[j]? := by
  by_cases h : j = i
  · subst h
    by_cases hl : j < l.length
    · rw [if_pos ⟨rfl, hl⟩, List.getElem?_set_self hl]
    · rw [if_neg (fun z => hl z.2), List.getElem?_eq_none (by rw [List.length_set]; omega), List.getElem?_eq_none (by omega)]
  · rw [if_neg (fun z => h z.1), List.getElem?_set_ne (Ne.symm h)]
theorem nth_put2 {E : List Cell} {i j : Nat} {c : Cell} : nth (put E i c) j = if j = i ∧ i < E.length then c else nth E j := by
  by_cases h : j = i
  · subst h
    by_cases hl : j < E.length
    · rw [if_pos ⟨rfl, hl⟩, nth_put_self hl]
    · rw [if_neg (fun z => hl z.2), nth_out (by rw [put_len]; omega), nth_out (by omega)]
  · rw [if_neg (fun z => h z.1), nth_put_ne h]
/-- a slot that is not lent gets a new value -/
theorem Go.set {i : Nat} {w : V} {c : Cell} (I0 : SI kt K S0 H0 σ0 E0) (g : Go kt K S0 H0 σ0 E0 S H σ E) (hc : canSet (nth E i))
    (hv : ∀ d, c = .val d → Rp kt K S w d) (hro : ∀ d, c ≠ .ro d) (hb : ∀ d, c ≠ .bor d)
    (ho : ∀ d, c = .own d → ∃ p o, w = .ref p ∧ S p = none ∧ H p = some o ∧ Own kt K S o d ∧ ¬ ownA σ E p ∧ H0 p = none) : Go kt K S0 H0 σ0 E0 S H (σ.set i (some w)) (put E i c) := by
  have I := g.si
  have hlen : σ.length = E.length := I.len
  have old : ∀ a, ownA (σ.set i (some w)) (put E i c) a → ownA σ E a ∨ (w = .ref a ∧ ∃ d, c = .own d) := fun a ⟨j, d, hj, hσ⟩ => by
    rw [nth_put2] at hj
    rw [get_set, hlen] at hσ
    by_cases h : j = i ∧ i < E.length
    · rw [if_pos h] at hj hσ
      right
      have e : w = .ref a := Option.some.inj (Option.some.inj hσ)
      rcases hj with z | z
      · exact ⟨e, d, z⟩
      · exact absurd z (hb d)
    · rw [if_neg h] at hj hσ
      exact .inl ⟨j, d, hj, hσ⟩
  refine ⟨⟨I.ex, by rw [List.length_set, put_len]; exact hlen, fun j d hj => ?_, fun j d hj => ?_, fun j d hj => ?_, fun j k d e p hj hk hσj hσk => ?_⟩, ⟨g.fr.ex, g.fr.keep, g.fr.free, fun a ha => ?_, g.fr.alive⟩, fun j d hj => ?_, fun j d hj => ?_, fun j d hj => ?_, by rw [put_len]; exact g.len⟩
  · rw [nth_put2] at hj
    rw [get_set, hlen]
    by_cases h : j = i ∧ i < E.length
    · rw [if_pos h] at hj ⊢
      exact ⟨w, rfl, hv d hj⟩
    · rw [if_neg h] at hj ⊢
      exact I.val j d hj
  · rw [nth_put2] at hj
    rw [get_set, hlen]
    by_cases h : j = i ∧ i < E.length
    · rw [if_pos h] at hj
      exact absurd hj (hro d)
    · rw [if_neg h] at hj ⊢
      obtain ⟨u, h1, h2⟩ := I.ro j d hj
      obtain ⟨hj0, hσ0⟩ := g.ro j d hj
      obtain ⟨u0, g1, g2⟩ := I0.ro j d hj0
      rw [hσ0, g1] at h1; cases h1
      refine ⟨u, by rw [hσ0, g1], ?_⟩
      rcases h2 with h2 | ⟨p, o, rfl, h3, h4, h5⟩
      · exact .inl h2
      · rcases g2 with g2 | ⟨p', o', e1, g3, g4, g5⟩
        · exact .inl (g2.mono (le_of g.fr.ex))
        · cases e1
          refine .inr ⟨p, o, rfl, h3, h4, fun z => ?_⟩
          rcases old p z with q | ⟨q, d', hd⟩
          · exact h5 q
          · obtain ⟨p', o', e1, e2, e3, e4, e5, e6⟩ := ho d' hd
            rw [q] at e1; cases e1
            rcases g3 with g3 | ⟨⟨_, g3⟩, _⟩ <;> (rw [e6] at g3; cases g3)
  · rw [nth_put2] at hj
    rw [get_set, hlen]
    by_cases h : j = i ∧ i < E.length
    · rw [if_pos h] at hj ⊢
      rcases hj with hj | hj
      · obtain ⟨p, o, e1, e2, e3, e4, e5, e6⟩ := ho d hj
        exact ⟨p, o, by rw [e1], e2, e3, e4⟩
      · exact absurd hj (hb d)
    · rw [if_neg h] at hj ⊢
      exact I.own j d hj
  · rw [nth_put2] at hj hk
    rw [get_set, hlen] at hσj hσk
    by_cases h1 : j = i ∧ i < E.length
    · by_cases h2 : k = i ∧ i < E.length
      · exact h1.1.trans h2.1.symm
      · rw [if_pos h1] at hj hσj
        rw [if_neg h2] at hk hσk
        exfalso
        rcases hj with z | z
        · obtain ⟨p', o, e1, e2, e3, e4, e5, e6⟩ := ho d z
          have : w = .ref p := Option.some.inj (Option.some.inj hσj)
          rw [this] at e1; cases e1
          exact e5 ⟨k, e, hk, hσk⟩
        · exact hb d z
    · by_cases h2 : k = i ∧ i < E.length
      · rw [if_neg h1] at hj hσj
        rw [if_pos h2] at hk hσk
        exfalso
        rcases hk with z | z
        · obtain ⟨p', o, e1, e2, e3, e4, e5, e6⟩ := ho e z
          have : w = .ref p := Option.some.inj (Option.some.inj hσk)
          rw [this] at e1; cases e1
          exact e5 ⟨j, d, hj, hσj⟩
        · exact hb e z
      · rw [if_neg h1] at hj hσj
        rw [if_neg h2] at hk hσk
        exact I.dis j k d e p hj hk hσj hσk
  · rcases old a ha with q | ⟨q, d', hd⟩
    · exact g.fr.own a q
    · obtain ⟨p', o, e1, e2, e3, e4, e5, e6⟩ := ho d' hd
      rw [q] at e1; cases e1
      exact .inr e6
  · obtain ⟨h1, d', h2⟩ := g.bor j d hj
    have hji : ¬ (j = i ∧ i < E.length) := fun z => by
      rw [z.1] at h2
      rw [h2] at hc
      exact hc
    exact ⟨by rw [get_set, hlen, if_neg hji]; exact h1, d', by rw [nth_put2, if_neg hji]; exact h2⟩
  · rw [nth_put2] at hj
    by_cases h : j = i ∧ i < E.length
    · rw [if_pos h] at hj; exact absurd hj (hb d)
    · rw [if_neg h] at hj; exact g.borb j d hj
  · rw [nth_put2] at hj
    rw [get_set, hlen]
    by_cases h : j = i ∧ i < E.length
    · rw [if_pos h] at hj; exact absurd hj (hro d)
    · rw [if_neg h] at hj ⊢; exact g.ro j d hj
theorem gV_lk {i : Nat} : LkG kt K (gName i) (gV i) := fun S0 H0 σ0 E0 S H σ E v r Q Q' I0 g h n q k => by
  obtain ⟨S1, E1, d, I1, F1, c1, le, r1, q1⟩ := frz_ok g.fr g.si h n q
  have g1 : Go kt K S0 H0 σ0 E0 S1 H σ E1 := g.cells I1 F1 c1
  exact k _ _ _ _ (g1.set (w := v) (c := .val d) I0 q1.1 (fun d' hd => by cases hd; exact r1) (fun _ z => nomatch z) (fun _ z => nomatch z) (fun _ z => nomatch z)) le q1.2
theorem gO_lk {i : Nat} : LkG kt K (gName i) (gO i) := fun S0 H0 σ0 E0 S H σ E v r Q Q' I0 g h n q k => by
  cases r with
  | fr d =>
    obtain ⟨p, o, rfl, h2, h3, h4, h5⟩ := h
    exact k _ _ _ _ (g.set (w := .ref p) (c := .own d) I0 q.1 (fun _ z => nomatch z) (fun _ z => nomatch z) (fun _ z => nomatch z) (fun d' hd => by cases hd; exact ⟨p, o, rfl, h2, h4, h5, h3, n p rfl⟩)) (.refl S) q.2
  | val d => exact (show False from q).elim
  | cell j => exact (show False from q).elim
variable {x : Str} {pos : Pos} {e : Expr} {es : List Expr} {da : DE}
theorem sg_v (i : Nat) (hN : X.N.Nodup) (hi : X.N[i]? = some x := by rfl) (hx : Loc X.env.scope x := by first | exact Or.inl rfl | exact Or.inr rfl) (hf : X.fn x = true ∨ X.env.scope.names.lookup x = some .local := by first | exact .inl rfl | exact .inr rfl) : SG X kt (.Name x pos) (gV i) := ⟨_, pg_name hN hi hx hf, gV_lk⟩
theorem sg_o (i : Nat) (hN : X.N.Nodup) (hi : X.N[i]? = some x := by rfl) (hx : Loc X.env.scope x := by first | exact Or.inl rfl | exact Or.inr rfl) (hf : X.fn x = true ∨ X.env.scope.names.lookup x = some .local := by first | exact .inl rfl | exact .inr rfl) : SG X kt (.Name x pos) (gO i) := ⟨_, pg_name hN hi hx hf, gO_lk⟩
/-! ### (a, b) = .. -/
abbrev DGs := List D → List Cell → (List Cell → Prop) → Prop
def LkGs (kt : Bool) (K : PySem.W.Frag) (g : TGs) (dg : DGs) : Prop := ∀ (S0 H0 : Hp) (σ0 : L2.St) (E0 : List Cell) (S H : Hp) (σ : L2.St) (E : List Cell) (vs : List V) (xs : List D) (Q : List Cell → Prop) (Q' : L2.St → Hp → Prop),
  SI kt K S0 H0 σ0 E0 → Go kt K S0 H0 σ0 E0 S H σ E → RpL kt K S vs xs → dg xs E Q → (∀ S' H' σ' E', Go kt K S0 H0 σ0 E0 S' H' σ' E' → Same S S' → Q E' → Q' σ' H') → g vs σ H Q'
structure SGs (X : Cx) (kt : Bool) (es : List Expr) (d : DGs) : Prop where
  ex : ∃ g, PGs X es g ∧ LkGs kt X.K g d
def gNilD : DGs := fun xs E Q => match xs with | [] => Q E | _ => False
def gConsD (g : DG) (gs : DGs) : DGs := fun xs E Q => match xs with | x :: r => g (.val x) E fun E1 => gs r E1 Q | [] => False
def gTupD (n : Nat) (gs : DGs) : DG := fun r E Q => vw E r fun d => match d with | .tup xs => xs.length = n ∧ gs xs E Q | _ => False
theorem sgs_nil : SGs X kt [] gNilD := ⟨_, pgs_nil, fun S0 H0 σ0 E0 S H σ E vs xs Q Q' I0 g r q k => by
  cases r with
  | nil => exact ⟨rfl, k _ _ _ _ g (.refl S) q⟩
  | cons => exact (show False from q).elim⟩
theorem sgs_cons {g : DG} {gs : DGs} (h : SG X kt e g) (hs : SGs X kt es gs) (hs2 : (assignEach (e :: es) X.env).map (·.2) = assign e X.env :: (assignEach es X.env).map (·.2) := by rfl) : SGs X kt (e :: es) (gConsD g gs) := by
  obtain ⟨t, p, l⟩ := h.ex
  obtain ⟨ts, ps, ls⟩ := hs.ex
  refine ⟨_, pgs_cons p ps hs2, fun S0 H0 σ0 E0 S H σ E vs xs Q Q' I0 g r q k => ?_⟩
  cases r with
  | nil => exact (show False from q).elim
  | cons r1 rr =>
    rename_i v vs d ds
    exact ⟨v, vs, rfl, l S0 H0 σ0 E0 S H σ E v (.val d) _ _ I0 g r1 trivial q fun S1 H1 σ1 E1 g1 le q1 => ls S0 H0 σ0 E0 S1 H1 σ1 E1 vs ds Q Q' I0 g1 (rr.mono (le_of le)) q1 fun S2 H2 σ2 E2 g2 le2 => k S2 H2 σ2 E2 g2 (le.trans le2)⟩
theorem sg_tup {k : Nat} {n : Nat} {gs : DGs} (hc : X.calm = true) (h : SGs X kt es gs) (hn : (assignEach es X.env).length = n := by rfl) (hst : (assignEach es X.env).findIdx? (·.1) = none := by rfl) : SG X kt (.Tuple es k pos) (gTupD n gs) := by
  obtain ⟨ts, ps, ls⟩ := h.ex
  refine ⟨_, pg_tup hc ps hn hst, fun S0 H0 σ0 E0 S H σ E v r Q Q' I0 g q n h k => ?_⟩
  obtain ⟨d, w, h1⟩ := vw_ok g.si q h
  cases d with
  | tup xs =>
    obtain ⟨p, vs, rfl, hp, r1⟩ := w.tup g.si.ex
    exact ⟨p, vs, rfl, hp, r1.length.trans h1.1, ls S0 H0 σ0 E0 S H σ E vs xs Q Q' I0 g r1 h1.2 k⟩
  | _ => exact (show False from h1).elim
/-! ### small statements, blocks -/
variable {st : Stmt} {sts : List Stmt} {ds du : DS} {tx : DT} {g : DG}
def sNext : DS := fun DD E => DD.nx E
def sSeq (d u : DS) : DS := fun DD E => d { DD with nx := u DD } E
def sExpr (da : DE) : DS := fun DD E => da E fun _ E1 => DD.nx E1
def rtn (r : R) (E : List Cell) (k : R → List Cell → Prop) : Prop := match r with
  | .val d => k (.val d) E
  | .fr d => k (.fr d) E
  | .cell i => match nth E i with
    | .val d => k (.val d) E
    | .own d => k (.fr d) E
    | _ => False
def sRet (da : DE) : DS := fun DD E => da E fun r E1 => rtn r E1 DD.rt
def sRetN : DS := fun DD E => DD.rt (.val .non) E
def sIf (t : DT) (d u : DS) : DS := fun DD E => t E fun b E1 => if b = true then d DD E1 else u DD E1
def sAsg (da : DE) (g : DG) : DS := fun DD E => da E fun r E1 => g r E1 DD.nx
theorem sss_nil : SSs X kt [] sNext := ⟨_, pss_nil, fun S H σ E DD D I h e => e.nx S H σ E (.refl I) h⟩
theorem sss_cons (h : SS X kt st ds) (hs : SSs X kt sts du) : SSs X kt (st :: sts) (sSeq ds du) := by
  obtain ⟨t, p, l⟩ := h.ex
  obtain ⟨u, q, m⟩ := hs.ex
  exact ⟨_, pss_cons p q, fun S H σ E DD D I h e => l S H σ E { DD with nx := du DD } { D with nx := u D } I h ⟨fun S1 H1 σ1 E1 g1 h1 => m S1 H1 σ1 E1 DD D g1.si h1 (e.back I g1), e.bk, e.ct, e.rt⟩⟩
theorem sss_one (h : SS X kt st ds) : SSs X kt [st] ds := by
  obtain ⟨t, p, l⟩ := h.ex
  exact ⟨t, pss_one p, l⟩
theorem ss_pass : SS X kt (.Pass pos) sNext := ⟨_, ps_pass, fun S H σ E DD D I h e => e.nx S H σ E (.refl I) h⟩
theorem ss_break : SS X kt (.Break pos) (fun DD E => DD.bk E) := ⟨_, ps_break, fun S H σ E DD D I h e => e.bk S H σ E (.refl I) h⟩
theorem ss_cont : SS X kt (.Continue pos) (fun DD E => DD.ct E) := ⟨_, ps_continue, fun S H σ E DD D I h e => e.ct S H σ E (.refl I) h⟩
theorem ss_expr (ha : SE X kt e da) (hs : swapsWith e none pos.line X.env = pure false := by rfl) : SS X kt (.Expr e pos) (sExpr da) := by
  obtain ⟨t, p, l⟩ := ha.ex
  exact ⟨_, ps_expr p hs, fun S H σ E DD D I h e => l S H σ E _ _ I h fun S1 H1 E1 v r e1 q n h1 => e.nx S1 H1 σ E1 (e1.go I) h1⟩
theorem ss_ret (ha : SE X kt e da) : SS X kt (.Return (some e) pos) (sRet da) := by
  obtain ⟨t, p, l⟩ := ha.ex
  refine ⟨_, ps_ret p, fun S H σ E DD D I h e => l S H σ E _ _ I h fun S1 H1 E1 v r e1 q n h1 => ?_⟩
  cases r with
  | val d => exact e.rt S1 H1 σ E1 v (.val d) (e1.go I) q h1
  | fr d =>
    obtain ⟨p, o, h2, h3, h4, h5, h6⟩ := q
    exact e.rt S1 H1 σ E1 v (.fr d) (e1.go I) ⟨p, o, h2, h3, .inr (n p h2), h5, h6⟩ h1
  | cell i =>
    obtain ⟨h2, h3⟩ := q
    have h1' : (match nth E1 i with | .val d => DD.rt (.val d) E1 | .own d => DD.rt (.fr d) E1 | _ => False) := h1
    cases z : nth E1 i with
    | val d =>
      rw [z] at h1'
      obtain ⟨w, g1, g2⟩ := e1.si.val i d z
      rw [h2] at g1; cases g1
      exact e.rt S1 H1 σ E1 v (.val d) (e1.go I) g2 h1'
    | own d =>
      rw [z] at h1'
      obtain ⟨p, o, g1, g2, g3, g4⟩ := e1.si.own i d (.inl z)
      have g1' := g1
      rw [h2] at g1; cases g1
      exact e.rt S1 H1 σ E1 _ (.fr d) (e1.go I) ⟨p, o, rfl, g2, (e1.go I).ownN I ⟨i, d, z, g1'⟩, g3, g4⟩ h1'
    | un => rw [z] at h1'; exact h1'.elim
    | ro d => rw [z] at h1'; exact h1'.elim
    | bor d => rw [z] at h1'; exact h1'.elim
theorem ss_retN : SS X kt (.Return none pos) sRetN := ⟨_, ps_retN, fun S H σ E DD D I h e => e.rt S H σ E .non (.val .non) (.refl I) .non h⟩
theorem ss_if {c : Expr} {as bs : List Stmt} (hc : ST X kt c tx) (ha : SSs X kt as ds) (hb : SSs X kt bs du) : SS X kt (.If c as bs pos) (sIf tx ds du) := by
  obtain ⟨t, p, l⟩ := hc.ex
  obtain ⟨ta, pa, la⟩ := ha.ex
  obtain ⟨tb, pb, lb⟩ := hb.ex
  refine ⟨_, ps_if p pa pb, fun S H σ E DD D I h e => l S H σ E _ _ I h fun S1 H1 E1 b e1 h1 => ?_⟩
  cases b with
  | true => rw [if_pos rfl] at h1 ⊢; exact la S1 H1 σ E1 DD D e1.si h1 (e.back I (e1.go I))
  | false => rw [if_neg Bool.false_ne_true] at h1 ⊢; exact lb S1 H1 σ E1 DD D e1.si h1 (e.back I (e1.go I))
theorem ss_asg {tg : Expr} (ha : SE X kt e da) (hg : SG X kt tg g) (hs : swapsWithSole [tg] e pos.line X.env = pure false := by rfl) (hw : swappedStores [tg] e X.env = pure none := by rfl) (h1 : (assignEach [tg] X.env).map (·.2) = [assign tg X.env] := by rfl) : SS X kt (.Assign [tg] e pos) (sAsg da g) := by
  obtain ⟨t, p, l⟩ := ha.ex
  obtain ⟨u, q, m⟩ := hg.ex
  exact ⟨_, ps_asg p q hs hw h1, fun S H σ E DD D I h e => l S H σ E _ _ I h fun S1 H1 E1 v r e1 q n h1 => m S H σ E S1 H1 σ E1 v r _ _ I (e1.go I) q n h1 fun S2 H2 σ2 E2 g2 _ h2 => e.nx S2 H2 σ2 E2 g2 h2⟩
end
end BD
set_option Elab.async false
set_option linter.all false
set_option maxRecDepth 100000
set_option maxHeartbeats 2000000
/-! BD: what changes containers; while; for. -/
namespace BD
open PySem PySem.Spec PyProof.Rows L2

section
variable {kt : Bool} {K : PySem.W.Frag} {S H S' H' S1 H1 S2 H2 S0 H0 : Hp} {σ σ1 σ2 σ0 : L2.St} {E E' E1 E2 E0 : List Cell} {v : V} {r : R}
def sameKind : Cell → D → Cell → Prop
  | .own _, d, c => c = .own d
  | .bor _, d, c => c = .bor d
  | _, _, _ => False
theorem sameKind.eq {a : Cell} {d : D} {c : Cell} (h : sameKind a d c) : ((∃ x, a = .own x) ∧ c = .own d) ∨ ((∃ x, a = .bor x) ∧ c = .bor d) := by
  cases a with
  | own x => exact .inl ⟨⟨x, rfl⟩, h⟩
  | bor x => exact .inr ⟨⟨x, rfl⟩, h⟩
  | _ => exact (show False from h).elim
theorem ownA_same {i : Nat} {d : D} {c : Cell} (h : sameKind (nth E i) d c) {a : Addr} : ownA σ (put E i c) a → ownA σ E a := fun ⟨j, e, hj, hσ⟩ => by
  have hi : i < E.length := nth_in fun z => by rw [z] at h; exact h
  by_cases hji : j = i
  · subst hji
    rcases h.eq with ⟨⟨x, hx⟩, _⟩ | ⟨⟨x, hx⟩, _⟩
    · exact ⟨j, x, .inl hx, hσ⟩
    · exact ⟨j, x, .inr hx, hσ⟩
  · rw [nth_put_ne hji] at hj
    exact ⟨j, e, hj, hσ⟩
/-- a slot's own container is changed -/
theorem SI.setCell {i : Nat} {d : D} {c : Cell} {p : Addr} {o : HO} (I : SI kt K S H σ E) (h : sameKind (nth E i) d c) (hσ : σ[i]? = some (some (.ref p))) (ho : Own kt K S o d) : SI kt K S (upd H p o) σ (put E i c) := by
  have hi : i < E.length := nth_in fun z => by rw [z] at h; exact h
  obtain ⟨x, hx⟩ : ∃ x, nth E i = .own x ∨ nth E i = .bor x := by
    rcases h.eq with ⟨⟨x, hx⟩, _⟩ | ⟨⟨x, hx⟩, _⟩
    · exact ⟨x, .inl hx⟩
    · exact ⟨x, .inr hx⟩
  obtain ⟨p', o', g1, g2, g3, g4⟩ := I.own i x hx
  rw [hσ] at g1; cases g1
  have hA : ownA σ E p := ⟨i, x, hx, hσ⟩
  have kind : ∀ j e, (nth (put E i c) j = .own e ∨ nth (put E i c) j = .bor e) → ∃ e', nth E j = .own e' ∨ nth E j = .bor e' := fun j e hj => by
    by_cases hji : j = i
    · subst hji; exact ⟨x, hx⟩
    · rw [nth_put_ne hji] at hj; exact ⟨e, hj⟩
  refine ⟨fun b u e => ?_, by rw [put_len]; exact I.len, fun j e hj => ?_, fun j e hj => ?_, fun j e hj => ?_, fun j k e1 e2 q hj hk h1 h2 => ?_⟩
  · rw [upd_ne (ne_of_none e g2)]; exact I.ex b u e
  · by_cases hji : j = i
    · subst hji
      rw [nth_put_self hi] at hj
      rcases h.eq with ⟨_, z⟩ | ⟨_, z⟩ <;> (rw [z] at hj; cases hj)
    · rw [nth_put_ne hji] at hj; exact I.val j e hj
  · by_cases hji : j = i
    · subst hji
      rw [nth_put_self hi] at hj
      rcases h.eq with ⟨_, z⟩ | ⟨_, z⟩ <;> (rw [z] at hj; cases hj)
    · rw [nth_put_ne hji] at hj
      obtain ⟨w, h1, h2⟩ := I.ro j e hj
      refine ⟨w, h1, h2.mono .refl (fun q u hq hn => ?_) (fun q u _ z => ownA_same h z)⟩
      have ne : q ≠ p := fun z => hn (by rw [z]; exact hA)
      rcases hq with hq | ⟨⟨y, hq⟩, hz⟩
      · exact .inl (by rw [upd_ne ne]; exact hq)
      · exact .inr ⟨⟨y, by rw [upd_ne ne]; exact hq⟩, hz⟩
  · by_cases hji : j = i
    · subst hji
      rw [nth_put_self hi] at hj
      have hd : e = d := by rcases h.eq with ⟨_, z⟩ | ⟨_, z⟩ <;> (rw [z] at hj; rcases hj with hj | hj <;> cases hj <;> rfl)
      subst hd
      exact ⟨p, o, hσ, g2, upd_same, ho⟩
    · rw [nth_put_ne hji] at hj
      obtain ⟨q, u, h1, h2, h3, h4⟩ := I.own j e hj
      exact ⟨q, u, h1, h2, by rw [upd_ne (fun z => hji (I.dis j i e x p hj hx (by rw [← z]; exact h1) hσ))]; exact h3, h4⟩
  · obtain ⟨e1', hj'⟩ := kind j e1 hj
    obtain ⟨e2', hk'⟩ := kind k e2 hk
    exact I.dis j k e1' e2' q hj' hk' h1 h2
theorem Fr.setCell {A0 : Addr → Prop} {i : Nat} {d : D} {c : Cell} {p : Addr} {o : HO} (F : Fr S0 H0 A0 S H (ownA σ E)) (h : sameKind (nth E i) d c) (hσ : σ[i]? = some (some (.ref p))) : Fr S0 H0 A0 S (upd H p o) (ownA σ (put E i c)) := by
  have hA : ownA σ E p := by
    rcases h.eq with ⟨⟨x, hx⟩, _⟩ | ⟨⟨x, hx⟩, _⟩
    · exact ⟨i, x, .inl hx, hσ⟩
    · exact ⟨i, x, .inr hx, hσ⟩
  refine ⟨F.ex, fun a u h1 h2 => ?_, F.free, fun a ha => F.own a (ownA_same h ha), fun a ha => ?_⟩
  · have ne : a ≠ p := fun z => by
      subst z
      rcases F.own a hA with q | q
      · exact h2 q
      · rw [q] at h1; cases h1
    rw [upd_ne ne]
    exact F.keep a u h1 h2
  · by_cases e : a = p
    · subst e; rw [upd_same]; exact fun z => nomatch z
    · rw [upd_ne e]; exact F.alive a ha
theorem sameKind.step {i : Nat} {d : D} {c : Cell} (h : sameKind (nth E i) d c) : CellStep (nth E i) c := by
  rcases h.eq with ⟨⟨x, hx⟩, z⟩ | ⟨⟨x, hx⟩, z⟩
  · rw [hx, z]; exact .inl ⟨d, rfl⟩
  · rw [hx, z]; exact ⟨d, rfl⟩
theorem Ev.setCell {i : Nat} {d : D} {c : Cell} {p : Addr} {o : HO} (e : Ev kt K S0 H0 σ E0 S H E) (h : sameKind (nth E i) d c) (hσ : σ[i]? = some (some (.ref p))) (ho : Own kt K S o d) : Ev kt K S0 H0 σ E0 S (upd H p o) (put E i c) :=
  ⟨e.si.setCell h hσ ho, e.fr.setCell h hσ, fun j => (e.cells j).trans (cells_put (fun z => by rw [z] at h; exact h) h.step j)⟩
theorem Go.setCell {i : Nat} {d : D} {c : Cell} {p : Addr} {o : HO} (g : Go kt K S0 H0 σ0 E0 S H σ E) (h : sameKind (nth E i) d c) (hσ : σ[i]? = some (some (.ref p))) (ho : Own kt K S o d) : Go kt K S0 H0 σ0 E0 S (upd H p o) σ (put E i c) :=
  g.cells (g.si.setCell h hσ ho) (g.fr.setCell h hσ) (cells_put (fun z => by rw [z] at h; exact h) h.step)
/-- the list of slot i, ours or lent -/
def lstAt (E : List Cell) (i : Nat) (k : List D → (List D → List Cell) → Prop) : Prop := match nth E i with
  | .own (.lst ds) => k ds fun x => put E i (.own (.lst x))
  | .bor (.lst ds) => k ds fun x => put E i (.bor (.lst x))
  | _ => False
theorem lstAt_ok {i : Nat} {k : List D → (List D → List Cell) → Prop} (I : SI kt K S H σ E) (h : lstAt E i k) :
    ∃ p vs ds, σ[i]? = some (some (.ref p)) ∧ H p = some (.lst vs) ∧ RpL kt K S vs ds ∧ k ds (fun x => put E i (match nth E i with | .bor _ => .bor (.lst x) | _ => .own (.lst x))) ∧ ∀ x, sameKind (nth E i) (.lst x) (match nth E i with | .bor _ => .bor (.lst x) | _ => .own (.lst x)) := by
  unfold lstAt at h
  cases e : nth E i with
  | own d =>
    cases d with
    | lst ds =>
      rw [e] at h
      obtain ⟨p, o, h1, h2, h3, h4⟩ := I.own i _ (.inl e)
      obtain ⟨vs, rfl, r⟩ := h4
      exact ⟨p, vs, ds, h1, h3, r, h, fun x => rfl⟩
    | _ => rw [e] at h; exact (show False from h).elim
  | bor d =>
    cases d with
    | lst ds =>
      rw [e] at h
      obtain ⟨p, o, h1, h2, h3, h4⟩ := I.own i _ (.inr e)
      obtain ⟨vs, rfl, r⟩ := h4
      exact ⟨p, vs, ds, h1, h3, r, h, fun x => rfl⟩
    | _ => rw [e] at h; exact (show False from h).elim
  | un => rw [e] at h; exact (show False from h).elim
  | val d => rw [e] at h; exact (show False from h).elim
  | ro d => rw [e] at h; exact (show False from h).elim
end
/-- a method of lists that changes the list: its reading on data -/
def MutD (kt : Bool) (K : PySem.W.Frag) (r : V → List V → Hp → VK → Prop) (rd : List D → List D → (D → List D → Prop) → Prop) : Prop := ∀ (S H : Hp) (l : Addr) (vs : List V) (ds : List D) (args : List V) (argds : List D) (Q : D → List D → Prop) (Q' : VK), Same S H →
  H l = some (.lst vs) → RpL kt K S vs ds → RpL kt K S args argds → rd ds argds Q → (∀ v res vs' ds', Rp kt K S v res → RpL kt K S vs' ds' → Q res ds' → Q' v (upd H l (.lst vs'))) → r (.ref l) args H Q'
def dMut (i : Nat) (da : DA) (rd : List D → List D → (D → List D → Prop) → Prop) : DE := fun E Q => lstAt E i fun _ _ => da E fun xs E1 => lstAt E1 i fun ds up => rd ds xs fun res ds' => Q (.val res) (up ds')
section
variable {X : Cx} {kt : Bool} {K : PySem.W.Frag} {e : Expr} {es : List Expr} {da : DE} {dA : DA} {x : Str} {pos p apos : Pos}
theorem mut_lk {i : Nat} {r : V → List V → Hp → VK → Prop} {rd : List D → List D → (D → List D → Prop) → Prop} {t : TA} (hd : MutD kt K r rd) (l : LkA kt K t dA) : LkE kt K (tBM K "list" r (tVar i) t) (dMut i dA rd) := by
  intro S H σ E Q Q' I h k
  obtain ⟨p0, vs0, ds0, hσ, hH, _, h1, _⟩ := lstAt_ok I h
  refine ⟨.ref p0, hσ, .inl ⟨rfl, _, .of hH⟩, l S H σ E _ _ I h1 fun S1 H1 E1 args xs e1 ra h2 => ?_⟩
  obtain ⟨p1, vs, ds, hσ1, hH1, rl, h3, sk⟩ := lstAt_ok e1.si h2
  rw [hσ] at hσ1; cases hσ1
  exact hd S1 H1 p0 vs ds args xs _ Q' e1.si.ex hH1 rl ra h3 fun v res vs' ds' rv rl' q => k _ _ _ v (.val res) (e1.setCell (o := .lst vs') (sk ds') hσ ⟨vs', rfl, rl'⟩) rv trivial q
/-- x.m(e, ..) of the list in slot i -/
theorem se_mut (i : Nat) {m : Str} {id : String} {r : V → List V → Hp → VK → Prop} {rd : List D → List D → (D → List D → Prop) → Prop} (slot : Slot "list" m id) (hty : typeOf (.builtin id) = pure (.type "method_descriptor")) (hm : MtR X id r) (hd : MutD kt X.K r rd) (ha : SA X kt (e :: es) dA)
    (hN : X.N[i]? = some x := by rfl) (hv : Vis X.env.scope x := by first | exact Or.inl rfl | exact Or.inr (Or.inl rfl) | exact Or.inr (Or.inr rfl)) (h1 : (x == ("__debug__" : Str)) = false := by decide) (h2 : (x == ("__classdict__" : Str)) = false := by decide)
    (hbase : attributeBase (.Name x p) m X.env (eval (.Name x p) X.env) = eval (.Name x p) X.env := by rfl)
    (hfew : ((backTo pos (starEach (e :: es) X.env)).all (fun x => !x.1) && (backToKw pos (keywordEach [] X.env)).all (fun x => x.1.isSome)
      && decide ((e :: es).length + ([] : List Keyword).length + (if ([] : List Keyword).isEmpty then 0 else 1) < 30)) = true := by rfl)
    (hline : (apos.endLine == pos.line) = true := by rfl) (hs : starEach (e :: es) X.env = (false, eval e X.env) :: starEach es X.env := by rfl) (hplain : (backTo pos (starEach es X.env)).any (·.1) = false := by rfl) :
    SE X kt (.Call (.Attribute (.Name x p) m apos) (e :: es) [] pos) (dMut i dA rd) := by
  obtain ⟨t, q, l⟩ := ha.ex
  exact ⟨_, pe_bm PySem.F.plainAttrs_list slot hty hm (pe_var hN hv h1 h2) q hbase hfew hline hs hplain, mut_lk hd l⟩
theorem se_mut0 (i : Nat) {m : Str} {id : String} {r : V → List V → Hp → VK → Prop} {rd : List D → List D → (D → List D → Prop) → Prop} (slot : Slot "list" m id) (hty : typeOf (.builtin id) = pure (.type "method_descriptor")) (hm : MtR X id r) (hd : MutD kt X.K r rd)
    (hN : X.N[i]? = some x := by rfl) (hv : Vis X.env.scope x := by first | exact Or.inl rfl | exact Or.inr (Or.inl rfl) | exact Or.inr (Or.inr rfl)) (h1 : (x == ("__debug__" : Str)) = false := by decide) (h2 : (x == ("__classdict__" : Str)) = false := by decide)
    (hbase : attributeBase (.Name x p) m X.env (eval (.Name x p) X.env) = eval (.Name x p) X.env := by rfl) (hline : (apos.endLine == pos.line) = true := by rfl) :
    SE X kt (.Call (.Attribute (.Name x p) m apos) [] [] pos) (dMut i dNilA rd) := by
  refine ⟨_, pe_bm0 PySem.F.plainAttrs_list slot hty hm (pe_var hN hv h1 h2) hbase hline, fun S H σ E Q Q' I h k => ?_⟩
  exact mut_lk (dA := dNilA) (t := tNil) hd (fun S H σ E Q Q' I h k => k S H E [] [] (.refl I) .nil h) S H σ E Q Q' I h k
def rdAppend : List D → List D → (D → List D → Prop) → Prop := fun ds xs Q => match xs with
  | [x] => ds.length < sizeLine ∧ Q .non (ds ++ [x])
  | _ => False
theorem md_append : MutD kt K rAppend rdAppend := by
  intro S H l vs ds args argds Q Q' e hH r ra h k
  match argds, ra, h with
  | [d], .cons ra .nil, h => exact ⟨l, vs, _, rfl, rfl, hH, by rw [r.length]; exact h.1, k _ _ _ _ .non (r.append (.cons ra .nil)) h.2⟩
  | [], _, h => exact (show False from h).elim
  | _ :: _ :: _, _, h => exact (show False from h).elim
def rdPop : List D → List D → (D → List D → Prop) → Prop := fun ds xs Q => match xs with
  | [] => ∃ d, ds[ds.length - 1]? = some d ∧ Q d ds.dropLast
  | _ => False
theorem md_pop : MutD kt K rPop rdPop := by
  intro S H l vs ds args argds Q Q' e hH r ra h k
  match argds, ra, h with
  | [], .nil, h =>
    obtain ⟨d, hd, q⟩ := h
    obtain ⟨v, hv, rv⟩ := r.get hd
    exact ⟨l, vs, v, rfl, rfl, hH, by rw [r.length]; exact hv, k _ _ _ _ rv r.dropLast q⟩
  | _ :: _, _, h => exact (show False from h).elim
def rdPopAt : List D → List D → (D → List D → Prop) → Prop := fun ds xs Q => match xs with
  | [.int i] => (-(2 ^ 63) ≤ i ∧ i < 2 ^ 63) ∧ ∃ k d, seqIndex? i ds.length = some k ∧ ds[k]? = some d ∧ Q d (ds.eraseIdx k)
  | _ => False
theorem md_popAt : MutD kt K rPopAt rdPopAt := by
  intro S H l vs ds args argds Q Q' e hH r ra h k
  match argds, ra, h with
  | [.int i], .cons ra .nil, h =>
    cases ra
    obtain ⟨⟨h1, h2⟩, j, d, h3, h4, q⟩ := h
    obtain ⟨v, hv, rv⟩ := r.get h4
    exact ⟨l, vs, i, j, v, rfl, rfl, hH, h1, h2, by rw [r.length]; exact h3, hv, k _ _ _ _ rv (r.eraseIdx j) q⟩
def rdExtend : List D → List D → (D → List D → Prop) → Prop := fun ds xs Q => match xs with
  | [.lst ys] => ds.length + ys.length ≤ sizeLine ∧ Q .non (ds ++ ys)
  | _ => False
theorem md_extend : MutD kt K rExtend rdExtend := by
  intro S H l vs ds args argds Q Q' e hH r ra h k
  match argds, ra, h with
  | [.lst ys], .cons ra .nil, h =>
    cases ra with
    | lst hb rb => exact ⟨l, _, vs, _, rfl, rfl, hH, e _ _ hb, by rw [r.length, rb.length]; exact h.1, k _ _ _ _ .non (r.append rb) h.2⟩
def rdInsert : List D → List D → (D → List D → Prop) → Prop := fun ds xs Q => match xs with
  | [.int i, y] => (ds.length < sizeLine ∧ 0 ≤ i ∧ i < 2 ^ 63) ∧ Q .non (ds.take i.toNat ++ [y] ++ ds.drop i.toNat)
  | _ => False
theorem md_insert : MutD kt K (fun x vs H Q => ∃ (l : Addr) (xs : List V) (i : Int) (y : V), x = .ref l ∧ vs = [.int i, y] ∧ H l = some (.lst xs) ∧ xs.length < sizeLine ∧ 0 ≤ i ∧ i < 2 ^ 63 ∧
    Q .non (upd H l (.lst (xs.take i.toNat ++ [y] ++ xs.drop i.toNat)))) rdInsert := by
  intro S H l vs ds args argds Q Q' e hH r ra h k
  match argds, ra, h with
  | [.int i, y], .cons r1 (.cons r2 .nil), h =>
    cases r1
    exact ⟨l, vs, i, _, rfl, rfl, hH, by rw [r.length]; exact h.1.1, h.1.2.1, h.1.2.2, k _ _ _ _ .non (((r.take _).append (.cons r2 .nil)).append (r.drop _)) h.2⟩
theorem se_append (i : Nat) (ha : SA X kt [e] dA)
    (hN : X.N[i]? = some x := by rfl) (hv : Vis X.env.scope x := by first | exact Or.inl rfl | exact Or.inr (Or.inl rfl) | exact Or.inr (Or.inr rfl)) (h1 : (x == ("__debug__" : Str)) = false := by decide) (h2 : (x == ("__classdict__" : Str)) = false := by decide)
    (hbase : attributeBase (.Name x p) "append" X.env (eval (.Name x p) X.env) = eval (.Name x p) X.env := by rfl)
    (hfew : ((backTo pos (starEach [e] X.env)).all (fun x => !x.1) && (backToKw pos (keywordEach [] X.env)).all (fun x => x.1.isSome)
      && decide (([e] : List Expr).length + ([] : List Keyword).length + (if ([] : List Keyword).isEmpty then 0 else 1) < 30)) = true := by rfl)
    (hline : (apos.endLine == pos.line) = true := by rfl) (hs : starEach [e] X.env = (false, eval e X.env) :: starEach [] X.env := by rfl) (hplain : (backTo pos (starEach [] X.env)).any (·.1) = false := by rfl) :
    SE X kt (.Call (.Attribute (.Name x p) "append" apos) [e] [] pos) (dMut i dA rdAppend) :=
  se_mut i PySem.F.slot_list_append PySem.F.type_list_append mt_append md_append ha hN hv h1 h2 hbase hfew hline hs hplain
/-! ### xs[k] = e, xs the list in slot i -/
def gSubL (i : Nat) (dk : DE) : DG := fun r E Q => frz E r fun d E1 => lstAt E1 i fun _ _ => dk E1 fun rk E2 => vw E2 rk fun dv => match dv with
  | .int k => lstAt E2 i fun ds up => ∃ j, ixN ds.length k = some j ∧ Q (up (ds.set j d))
  | _ => False
theorem sg_sub (i : Nat) {y : Expr} {dk : DE} (hk : SE X kt y dk) (hN : X.N[i]? = some x := by rfl) (hv : Vis X.env.scope x := by first | exact Or.inl rfl | exact Or.inr (Or.inl rfl) | exact Or.inr (Or.inr rfl)) (h1 : (x == ("__debug__" : Str)) = false := by decide) (h2 : (x == ("__classdict__" : Str)) = false := by decide)
    (ha : ∀ v, assign (.Subscript (.Name x p) y pos) X.env v = (do
      let ov ← holding [v] (eval (.Name x p) X.env)
      let iv ← holding [v, ov] (eval y X.env)
      standAt pos
      holding [v, ov, iv] (setItem ov iv v)
      release [v, ov, iv] []) := by intro _; rfl) : SG X kt (.Subscript (.Name x p) y pos) (gSubL i dk) := by
  obtain ⟨t, q, l⟩ := hk.ex
  refine ⟨_, pg_sub (pe_var hN hv h1 h2) q set_list ha, fun S0 H0 σ0 E0 S H σ E v r Q Q' I0 g rr n h k => ?_⟩
  obtain ⟨S1, E1, d, I1, F1, c1, le, r1, q1⟩ := frz_ok g.fr g.si rr n h
  have g1 := g.cells I1 F1 c1
  obtain ⟨p0, vs0, ds0, hσ, hH, _, q2, _⟩ := lstAt_ok I1 q1
  refine ⟨.ref p0, hσ, l S1 H σ E1 _ _ I1 q2 fun S2 H2 E2 kv rk e2 qk nk h3 => ?_⟩
  obtain ⟨dv, w, h4⟩ := vw_ok e2.si qk h3
  cases dv with
  | int kk =>
    obtain ⟨p1, vs, ds, hσ1, hH1, rl, h5, sk⟩ := lstAt_ok e2.si h4
    obtain ⟨j, hj, h6⟩ := h5
    rw [hσ] at hσ1; cases hσ1
    refine ⟨p0, vs, kk, j, rfl, w.int, hH1, by rw [rl.length]; exact hj, k _ _ _ _ ((g1.trans (e2.go I1)).setCell (o := .lst (vs.set j v)) (sk (ds.set j d)) hσ ⟨_, rfl, rl.set j (r1.mono (le_of e2.fr.ex))⟩) (le.trans e2.fr.ex) h6⟩
  | _ => exact (show False from h4).elim
end
/-! ### while -/
def sWhile (c : DT) (body : DS) : DS := fun DD E => ∃ W : Nat → List Cell → Prop, (∃ m, W m E) ∧ ∀ m E, W m E → c E fun b E1 => if b = true then body { DD with nx := fun E' => ∃ m', m' < m ∧ W m' E', ct := fun E' => ∃ m', m' < m ∧ W m' E', bk := DD.nx } E1 else DD.nx E1
section
variable {X : Cx} {kt : Bool} {K : PySem.W.Frag} {c : Expr} {body : List Stmt} {tx : DT} {ds : DS} {pos : Pos}
theorem ss_while (hp : PassesOwn (model X.prog X.w) X.A X.env X.xe) (hc : ST X kt c tx) (hb : SSs X kt body ds) : SS X kt (.While c body [] pos) (sWhile tx ds) := by
  obtain ⟨t, p, l⟩ := hc.ex
  obtain ⟨u, q, m⟩ := hb.ex
  refine ⟨_, ps_while hp p q, fun S H σ E DD D I h e => ?_⟩
  obtain ⟨W, ⟨m0, w0⟩, turn⟩ := h
  refine ⟨fun n σ' H' => ∃ S' E', Go kt X.K S H σ E S' H' σ' E' ∧ W n E', ⟨m0, S, E, .refl I, w0⟩, fun n σ1 H1 ⟨S1, E1, g1, w1⟩ => ?_⟩
  refine l S1 H1 σ1 E1 _ _ g1.si (turn n E1 w1) fun S2 H2 E2 b e2 h2 => ?_
  have g2 := g1.trans (e2.go g1.si)
  cases b with
  | true =>
    rw [if_pos rfl] at h2 ⊢
    refine ⟨fun σ' H' => ∃ m', m' < n ∧ ∃ S' E', Go kt X.K S H σ E S' H' σ' E' ∧ W m' E', fun σ' H' z => z, m S2 H2 σ1 E2 _ _ g2.si h2 ?_⟩
    have eb := e.back I g2
    exact ⟨fun S3 H3 σ3 E3 g3 ⟨m', hm, w⟩ => ⟨m', hm, S3, E3, g2.trans g3, w⟩, fun S3 H3 σ3 E3 g3 hn => eb.nx _ _ _ _ g3 hn, fun S3 H3 σ3 E3 g3 ⟨m', hm, w⟩ => ⟨m', hm, S3, E3, g2.trans g3, w⟩, eb.rt⟩
  | false =>
    rw [if_neg Bool.false_ne_true] at h2 ⊢
    exact (e.back I g2).nx _ _ _ _ (.refl g2.si) h2
end
/-! ### for: what is walked -/
abbrev DFin := List Cell → (List Cell → Prop) → Prop
abbrev DI := List Cell → (List D → DFin → List Cell → Prop) → Prop
section
variable (kt : Bool) (K : PySem.W.Frag)
structure SrcOk (S1 H1 : Hp) (A1 : Addr → Prop) (J : It) (items : List D) : Prop where
  goes : ∀ S H σ E, SI kt K S H σ E → Fr S1 H1 A1 S H (ownA σ E) → ∀ i, i < items.length → J.go i H
  stops : ∀ S H σ E, SI kt K S H σ E → Fr S1 H1 A1 S H (ownA σ E) → J.stop items.length H
  yields : ∀ S H σ E, SI kt K S H σ E → Fr S1 H1 A1 S H (ownA σ E) → ∀ i x H', i < items.length → J.yld i H x H' → ∃ S' d, items[i]? = some d ∧ Ev kt K S H σ E S' H' E ∧ Rp kt K S' x d
/-- the source's own slot is locked while the walk lasts; fin unlocks it -/
structure Prot (S H : Hp) (σ : L2.St) (E : List Cell) (S1 H1 : Hp) (E1 : List Cell) (fin : DFin) : Prop where
  si : SI kt K S1 H1 σ E1
  fr : Fr S H (ownA σ E) S1 H1 (ownA σ E1)
  own : ∀ a, ownN σ E1 a → ownN σ E a ∨ H a = none
  back : ∀ S2 H2 σ2 E2, Go kt K S1 H1 σ E1 S2 H2 σ2 E2 → ∀ k, fin E2 k → ∃ E3, Go kt K S H σ E S2 H2 σ2 E3 ∧ ((∀ j, CellStep (nth E1 j) (nth E2 j)) → ∀ j, CellStep (nth E j) (nth E3 j)) ∧ k E3
def LkI (wi : TI) (di : DI) : Prop := ∀ (S H : Hp) (σ : L2.St) (E : List Cell) (Q : List D → DFin → List Cell → Prop) (R : It → Hp → Prop), SI kt K S H σ E → di E Q →
  (∀ S1 H1 E1 J items fin, Prot kt K S H σ E S1 H1 E1 fin → SrcOk kt K S1 H1 (ownA σ E1) J items → Q items fin E1 → R J H1) → wi σ H R
end
structure SI_ (X : Cx) (kt : Bool) (tg iter : Expr) (d : DI) : Prop where
  ex : ∃ wi, PI X tg iter wi ∧ LkI kt X.K wi d
def dForL (g : DG) (body : DS) (nx bk : List Cell → Prop) (rt : R → List Cell → Prop) : List D → List Cell → Prop
  | [], E => nx E
  | x :: r, E => g (.val x) E fun E1 => body ⟨dForL g body nx bk rt r, rt, bk, dForL g body nx bk rt r⟩ E1
def sFor (src : DI) (g : DG) (body : DS) : DS := fun DD E => src E fun items fin E1 => dForL g body (fun E => fin E DD.nx) (fun E => fin E DD.nx) (fun r E => fin E (DD.rt r)) items E1
section
variable {X : Cx} {kt : Bool} {K : PySem.W.Frag} {tg iter : Expr} {body : List Stmt} {src : DI} {g : DG} {ds : DS} {pos : Pos}
theorem ss_for (hp : PassesOwn (model X.prog X.w) X.A X.env X.xe) (hc : X.calm = true) (hi : SI_ X kt tg iter src) (hg : SG X kt tg g) (hb : SSs X kt body ds) (hs : ∀ x, foldedSetIterable iter X.env x = pure x := by intro _; rfl) : SS X kt (.For tg iter body [] pos) (sFor src g ds) := by
  obtain ⟨wi, p, l⟩ := hi.ex
  obtain ⟨tg', pg, lg⟩ := hg.ex
  obtain ⟨tb, pb, lb⟩ := hb.ex
  refine ⟨_, ps_for hp hc p pg pb hs, fun S H σ E DD D I h e => ?_⟩
  refine l S H σ E _ _ I h fun S1 H1 E1 J items fin pr so h1 => ?_
  refine ⟨fun i m σ' H' => m = items.length - i ∧ i ≤ items.length ∧ ∃ S' E', Go kt X.K S1 H1 σ E1 S' H' σ' E' ∧ dForL g ds (fun E => fin E DD.nx) (fun E => fin E DD.nx) (fun r E => fin E (DD.rt r)) (items.drop i) E', ⟨items.length, by simp, Nat.zero_le _, S1, E1, .refl pr.si, h1⟩, ?_⟩
  rintro i m σ3 H3 ⟨rfl, hi', S3, E3, g3, w3⟩
  by_cases hlt : i < items.length
  · refine .inr ⟨so.goes S3 H3 σ3 E3 g3.si g3.fr i hlt, fun σ' H' => ∃ S' E', Go kt X.K S1 H1 σ E1 S' H' σ' E' ∧ dForL g ds (fun E => fin E DD.nx) (fun E => fin E DD.nx) (fun r E => fin E (DD.rt r)) (items.drop (i + 1)) E', fun σ' H' ⟨S', E', a, b⟩ => ⟨items.length - (i + 1), by omega, rfl, hlt, S', E', a, b⟩, fun x H4 y => ?_⟩
    obtain ⟨S4, d, hd, e4, r4⟩ := so.yields S3 H3 σ3 E3 g3.si g3.fr i x H4 hlt y
    have hdrop : items.drop i = d :: items.drop (i + 1) := by
      rw [List.drop_eq_getElem_cons hlt]
      have : items[i] = d := by rw [List.getElem?_eq_getElem hlt] at hd; exact Option.some.inj hd
      rw [this]
    rw [hdrop] at w3
    have g4 : Go kt X.K S1 H1 σ E1 S4 H4 σ3 E3 := g3.trans (e4.go g3.si)
    refine lg S1 H1 σ E1 S4 H4 σ3 E3 x (.val d) _ _ pr.si g4 r4 trivial w3 fun S5 H5 σ5 E5 g5 _ h5 => ?_
    refine lb S5 H5 σ5 E5 _ _ g5.si h5 ⟨fun S6 H6 σ6 E6 g6 h6 => ⟨S6, E6, g5.trans g6, h6⟩, fun S6 H6 σ6 E6 g6 h6 => ?_, fun S6 H6 σ6 E6 g6 h6 => ⟨S6, E6, g5.trans g6, h6⟩, fun S6 H6 σ6 E6 v r g6 rr h6 => ?_⟩
    · obtain ⟨E7, g7, _, k7⟩ := pr.back _ _ _ _ (g5.trans g6) _ h6
      exact e.nx _ _ _ _ g7 k7
    · obtain ⟨E7, g7, _, k7⟩ := pr.back _ _ _ _ (g5.trans g6) _ h6
      refine e.rt _ _ _ _ v r g7 ?_ k7
      have r7 := rr.back pr.si g5
      cases r with
      | val d => exact r7
      | cell i => exact r7
      | fr d =>
        obtain ⟨q, o, a1, a2, a3, a4, a5⟩ := r7
        refine ⟨q, o, a1, a2, ?_, a4, a5⟩
        rcases a3 with z | z
        · exact pr.own q z
        · exact .inr (pr.fr.back z)
  · have ei : i = items.length := by omega
    subst ei
    rw [List.drop_length] at w3
    obtain ⟨E7, g7, _, k7⟩ := pr.back _ _ _ _ g3 _ w3
    exact .inl ⟨so.stops S3 H3 σ3 E3 g3.si g3.fr, e.nx _ _ _ _ g7 k7⟩
end
end BD
set_option Elab.async false
set_option linter.all false
set_option maxRecDepth 100000
set_option maxHeartbeats 2000000
/-! BD: what is walked. -/
namespace BD
open PySem PySem.Spec PyProof.Rows L2
def finId : DFin := fun E k => k E
def finOwn (i : Nat) : DFin := fun E k => match nth E i with | .ro d => k (put E i (.own d)) | _ => k E
def finBor (i : Nat) : DFin := fun E k => match nth E i with | .ro d => k (put E i (.bor d)) | _ => False
section
variable {kt : Bool} {K : PySem.W.Frag} {S H S' H' S1 H1 S2 H2 S0 H0 : Hp} {σ σ1 σ2 σ0 : L2.St} {E E' E1 E2 E0 : List Cell} {v : V} {r : R} {i : Nat} {d : D}
theorem ownA_lock {a : Addr} (h : ownA σ (put E i (.ro d)) a) : ∃ j e, j ≠ i ∧ (nth E j = .own e ∨ nth E j = .bor e) ∧ σ[j]? = some (some (.ref a)) := by
  obtain ⟨j, e, hj, hσ⟩ := h
  rw [nth_put2] at hj
  by_cases h1 : j = i ∧ i < E.length
  · rw [if_pos h1] at hj; rcases hj with z | z <;> cases z
  · rw [if_neg h1] at hj
    refine ⟨j, e, fun z => h1 ⟨z, ?_⟩, hj, hσ⟩
    rw [← z]
    exact nth_in fun q => by rw [q] at hj; rcases hj with z | z <;> cases z
theorem ownA_lock' {a : Addr} (h : ownA σ (put E i (.ro d)) a) : ownA σ E a := let ⟨j, e, _, h1, h2⟩ := ownA_lock h; ⟨j, e, h1, h2⟩
/-- a slot's container is locked -/
theorem SI.lock {p : Addr} {o : HO} (I : SI kt K S H σ E) (hi : nth E i = .own d ∨ nth E i = .bor d) (hσ : σ[i]? = some (some (.ref p))) (hp : H p = some o) (ho : Own kt K S o d) : SI kt K S H σ (put E i (.ro d)) := by
  have hl : i < E.length := nth_in fun q => by rw [q] at hi; rcases hi with z | z <;> cases z
  refine ⟨I.ex, by rw [put_len]; exact I.len, fun j e hj => ?_, fun j e hj => ?_, fun j e hj => ?_, fun j k e1 e2 q hj hk h1 h2 => ?_⟩
  · by_cases hji : j = i
    · subst hji; rw [nth_put_self hl] at hj; cases hj
    · rw [nth_put_ne hji] at hj; exact I.val j e hj
  · by_cases hji : j = i
    · subst hji
      rw [nth_put_self hl] at hj; cases hj
      refine ⟨_, hσ, .inr ⟨p, o, rfl, .inl hp, ho, fun z => ?_⟩⟩
      obtain ⟨k, e, hk, hk1, hk2⟩ := ownA_lock z
      exact hk (I.dis k j e _ p hk1 hi hk2 hσ)
    · rw [nth_put_ne hji] at hj
      obtain ⟨w, h1, h2⟩ := I.ro j e hj
      exact ⟨w, h1, h2.mono .refl (fun _ _ h _ => h) (fun _ _ _ z => ownA_lock' z)⟩
  · by_cases hji : j = i
    · subst hji; rw [nth_put_self hl] at hj; rcases hj with z | z <;> cases z
    · rw [nth_put_ne hji] at hj; exact I.own j e hj
  · by_cases hji : j = i
    · subst hji; rw [nth_put_self hl] at hj; rcases hj with z | z <;> cases z
    · by_cases hki : k = i
      · subst hki; rw [nth_put_self hl] at hk; rcases hk with z | z <;> cases z
      · rw [nth_put_ne hji] at hj
        rw [nth_put_ne hki] at hk
        exact I.dis j k e1 e2 q hj hk h1 h2
/-- and unlocked -/
theorem Go.unlock {p : Addr} {o : HO} {c : Cell} (I : SI kt K S H σ E) (hi : nth E i = .own d ∨ nth E i = .bor d) (hσ : σ[i]? = some (some (.ref p))) (hp : H p = some o) (hs : S p = none) (ho : Own kt K S o d)
    (g : Go kt K S H σ (put E i (.ro d)) S2 H2 σ2 E2) (hr : nth E2 i = .ro d) (hc : c = nth E i) : Go kt K S H σ E S2 H2 σ2 (put E2 i c) := by
  have hl : i < E.length := nth_in fun q => by rw [q] at hi; rcases hi with z | z <;> cases z
  have hl2 : i < E2.length := by rw [g.len, put_len]; exact hl
  have hc' : c = .own d ∨ c = .bor d := by rw [hc]; exact hi
  have nA : ¬ ownA σ (put E i (.ro d)) p := fun z => by
    obtain ⟨k, e, hk, hk1, hk2⟩ := ownA_lock z
    exact hk (I.dis k i e _ p hk1 hi hk2 hσ)
  have hσ2 : σ2[i]? = some (some (.ref p)) := (g.ro i d hr).2.trans hσ
  have hs2 : S2 p = none := g.fr.free p (by rw [hp]; exact fun z => nomatch z) hs nA
  have hp2 : H2 p = some o := g.fr.keep p o hp nA
  have nA2 : ¬ ownA σ2 E2 p := fun z => by
    rcases g.fr.own p z with q | q
    · exact nA q
    · rw [hp] at q; cases q
  have old : ∀ a, ownA σ2 (put E2 i c) a → ownA σ2 E2 a ∨ a = p := fun a ⟨j, e, hj, hσj⟩ => by
    by_cases hji : j = i
    · subst hji
      rw [hσ2] at hσj; cases hσj
      exact .inr rfl
    · rw [nth_put_ne hji] at hj
      exact .inl ⟨j, e, hj, hσj⟩
  have I2 := g.si
  refine ⟨⟨I2.ex, by rw [put_len]; exact I2.len, fun j e hj => ?_, fun j e hj => ?_, fun j e hj => ?_, fun j k e1 e2 q hj hk h1 h2 => ?_⟩, ⟨g.fr.ex, fun a u h1 h2 => g.fr.keep a u h1 fun z => h2 (ownA_lock' z), fun a h1 h2 h3 => g.fr.free a h1 h2 fun z => h3 (ownA_lock' z), fun a ha => ?_, g.fr.alive⟩, fun j e hj => ?_, fun j e hj => ?_, fun j e hj => ?_, by rw [put_len, g.len, put_len]⟩
  · by_cases hji : j = i
    · subst hji; rw [nth_put_self hl2] at hj; rcases hc' with z | z <;> (rw [z] at hj; cases hj)
    · rw [nth_put_ne hji] at hj; exact I2.val j e hj
  · by_cases hji : j = i
    · subst hji; rw [nth_put_self hl2] at hj; rcases hc' with z | z <;> (rw [z] at hj; cases hj)
    · rw [nth_put_ne hji] at hj
      obtain ⟨w, h1, h2⟩ := I2.ro j e hj
      refine ⟨w, h1, ?_⟩
      obtain ⟨a1, a2⟩ := g.ro j e hj
      rw [nth_put_ne hji] at a1
      obtain ⟨w', b1, b2⟩ := I.ro j e a1
      rw [a2, b1] at h1; cases h1
      rcases b2 with b2 | ⟨q, u, rfl, b3, b4, b5⟩
      · exact .inl (b2.mono (le_of g.fr.ex))
      · rcases h2 with h2 | ⟨q', u', e1, c3, c4, c5⟩
        · exact .inl h2
        · cases e1
          refine .inr ⟨q, u', rfl, c3, c4, fun z => ?_⟩
          rcases old q z with y | y
          · exact c5 y
          · subst y; exact b5 ⟨i, d, hi, hσ⟩
  · by_cases hji : j = i
    · subst hji
      rw [nth_put_self hl2] at hj
      have : e = d := by rcases hc' with z | z <;> (rw [z] at hj; rcases hj with hj | hj <;> cases hj <;> rfl)
      subst this
      exact ⟨p, o, hσ2, hs2, hp2, ho.mono (le_of g.fr.ex)⟩
    · rw [nth_put_ne hji] at hj; exact I2.own j e hj
  · by_cases hji : j = i
    · by_cases hki : k = i
      · exact hji.trans hki.symm
      · subst hji
        rw [hσ2] at h1; cases h1
        rw [nth_put_ne hki] at hk
        exact absurd ⟨k, e2, hk, h2⟩ nA2
    · by_cases hki : k = i
      · subst hki
        rw [hσ2] at h2; cases h2
        rw [nth_put_ne hji] at hj
        exact absurd ⟨j, e1, hj, h1⟩ nA2
      · rw [nth_put_ne hji] at hj
        rw [nth_put_ne hki] at hk
        exact I2.dis j k e1 e2 q hj hk h1 h2
  · rcases old a ha with z | z
    · rcases g.fr.own a z with y | y
      · exact .inl (ownA_lock' y)
      · exact .inr y
    · subst z; exact .inl ⟨i, d, hi, hσ⟩
  · by_cases hji : j = i
    · subst hji
      refine ⟨(g.ro j d hr).2, ?_⟩
      rw [nth_put_self hl2, hc, hj]
      exact ⟨e, rfl⟩
    · obtain ⟨a1, a2⟩ := g.bor j e (by rw [nth_put_ne hji]; exact hj)
      exact ⟨a1, by rw [nth_put_ne hji]; exact a2⟩
  · by_cases hji : j = i
    · subst hji
      rw [nth_put_self hl2, hc] at hj
      exact ⟨e, hj⟩
    · rw [nth_put_ne hji] at hj
      obtain ⟨e', he⟩ := g.borb j e hj
      rw [nth_put_ne hji] at he
      exact ⟨e', he⟩
  · by_cases hji : j = i
    · subst hji; rw [nth_put_self hl2] at hj; rcases hc' with z | z <;> (rw [z] at hj; cases hj)
    · rw [nth_put_ne hji] at hj
      obtain ⟨a1, a2⟩ := g.ro j e hj
      rw [nth_put_ne hji] at a1
      exact ⟨a1, a2⟩
/-- the locked slot got another value meanwhile -/
theorem Go.gone {p : Addr} {o : HO} (I : SI kt K S H σ E) (hi : nth E i = .own d) (hσ : σ[i]? = some (some (.ref p)))
    (g : Go kt K S H σ (put E i (.ro d)) S2 H2 σ2 E2) (hr : ∀ e, nth E2 i ≠ .ro e) : Go kt K S H σ E S2 H2 σ2 E2 := by
  have hl : i < E.length := nth_in fun q => by rw [q] at hi; cases hi
  refine ⟨g.si, ⟨g.fr.ex, fun a u h1 h2 => g.fr.keep a u h1 fun z => h2 (ownA_lock' z), fun a h1 h2 h3 => g.fr.free a h1 h2 fun z => h3 (ownA_lock' z), fun a ha => (g.fr.own a ha).elim (fun z => .inl (ownA_lock' z)) .inr, g.fr.alive⟩, fun j e hj => ?_, fun j e hj => ?_, fun j e hj => ?_, by rw [g.len, put_len]⟩
  · have hji : j ≠ i := fun z => by subst z; rw [hi] at hj; cases hj
    exact g.bor j e (by rw [nth_put_ne hji]; exact hj)
  · obtain ⟨e', he⟩ := g.borb j e hj
    by_cases hji : j = i
    · subst hji; rw [nth_put_self hl] at he; cases he
    · rw [nth_put_ne hji] at he; exact ⟨e', he⟩
  · obtain ⟨a1, a2⟩ := g.ro j e hj
    by_cases hji : j = i
    · subst hji; exact absurd hj (hr e)
    · rw [nth_put_ne hji] at a1; exact ⟨a1, a2⟩
theorem Prot.id (I : SI kt K S H σ E) (e : Ev kt K S H σ E S1 H1 E1) : Prot kt K S H σ E S1 H1 E1 finId :=
  ⟨e.si, e.fr, fun a h => (e.go I).ownN I h, fun S2 H2 σ2 E2 g k h => ⟨E2, (e.go I).trans g, fun c j => (e.cells j).trans (c j), h⟩⟩
/-- the container at a, of what r tells, locked if it is a slot's own -/
theorem Prot.lock {p : Addr} {o : HO} {fin : DFin} (I0 : SI kt K S0 H0 σ E0) (e : Ev kt K S0 H0 σ E0 S H E) (hi : (nth E i = .own d ∧ fin = finOwn i) ∨ (nth E i = .bor d ∧ fin = finBor i)) (hσ : σ[i]? = some (some (.ref p))) (hp : H p = some o) (hs : S p = none) (ho : Own kt K S o d) : Prot kt K S0 H0 σ E0 S H (put E i (.ro d)) fin := by
  have hi' : nth E i = .own d ∨ nth E i = .bor d := hi.elim (fun z => .inl z.1) fun z => .inr z.1
  have g0 := e.go I0
  have hsub : ∀ a, ownN σ (put E i (.ro d)) a → ownN σ E a := fun a ⟨j, x, hj, hσj⟩ => by
    rw [nth_put2] at hj
    by_cases h1 : j = i ∧ i < E.length
    · rw [if_pos h1] at hj; cases hj
    · rw [if_neg h1] at hj; exact ⟨j, x, hj, hσj⟩
  refine ⟨e.si.lock hi' hσ hp ho, ⟨e.fr.ex, e.fr.keep, e.fr.free, fun a ha => e.fr.own a (ownA_lock' ha), e.fr.alive⟩, fun a h => g0.ownN I0 (hsub a h), fun S2 H2 σ2 E2 g k h => ?_⟩
  have hl : i < E.length := nth_in fun q => by rw [q] at hi'; rcases hi' with z | z <;> cases z
  have cs : ∀ c, (c = .own d ∨ c = .bor d) → nth E i = c → (∀ j, CellStep (nth (put E i (.ro d)) j) (nth E2 j)) → ∀ j, CellStep (nth E0 j) (nth (put E2 i c) j) := fun c hc hci hs j => by
    refine (e.cells j).trans ?_
    by_cases hji : j = i
    · subst hji
      rw [nth_put_self (by rw [g.len, put_len]; exact hl), hci]
      exact .refl _
    · have := hs j
      rw [nth_put_ne hji] at this
      rw [nth_put_ne hji]
      exact this
  have ng : (∀ e, nth E2 i ≠ .ro e) → (∀ j, CellStep (nth (put E i (.ro d)) j) (nth E2 j)) → ∀ j, CellStep (nth E0 j) (nth E2 j) := fun hn hs j => by
    have := hs i
    rw [nth_put_self hl] at this
    exact absurd (show nth E2 i = .ro d from this) (hn d)
  rcases hi with ⟨h1, rfl⟩ | ⟨h1, rfl⟩
  · have h' : (match nth E2 i with | .ro x => k (put E2 i (.own x)) | _ => k E2) := h
    cases z : nth E2 i with
    | ro x =>
      rw [z] at h'
      have hx : x = d := by
        have := (g.ro i x z).1
        rw [nth_put_self (nth_in fun q => by rw [q] at h1; cases h1)] at this
        cases this; rfl
      subst hx
      exact ⟨_, g0.trans (g.unlock e.si hi' hσ hp hs ho z (c := .own x) h1.symm), cs _ (.inl rfl) h1, h'⟩
    | un => rw [z] at h'; exact ⟨_, g0.trans (g.gone e.si h1 hσ (fun y q => by rw [z] at q; cases q) (o := o)), ng (fun y q => by rw [z] at q; cases q), h'⟩
    | val y => rw [z] at h'; exact ⟨_, g0.trans (g.gone e.si h1 hσ (fun y q => by rw [z] at q; cases q) (o := o)), ng (fun y q => by rw [z] at q; cases q), h'⟩
    | own y => rw [z] at h'; exact ⟨_, g0.trans (g.gone e.si h1 hσ (fun y q => by rw [z] at q; cases q) (o := o)), ng (fun y q => by rw [z] at q; cases q), h'⟩
    | bor y => rw [z] at h'; exact ⟨_, g0.trans (g.gone e.si h1 hσ (fun y q => by rw [z] at q; cases q) (o := o)), ng (fun y q => by rw [z] at q; cases q), h'⟩
  · have h' : (match nth E2 i with | .ro x => k (put E2 i (.bor x)) | _ => False) := h
    cases z : nth E2 i with
    | ro x =>
      rw [z] at h'
      have hx : x = d := by
        have := (g.ro i x z).1
        rw [nth_put_self (nth_in fun q => by rw [q] at h1; cases h1)] at this
        cases this; rfl
      subst hx
      exact ⟨_, g0.trans (g.unlock e.si hi' hσ hp hs ho z (c := .bor x) h1.symm), cs _ (.inr rfl) h1, h'⟩
    | _ => rw [z] at h'; exact (show False from h').elim
end
/-- a container that is walked -/
def walkOf (E : List Cell) (r : R) (k : D → DFin → List Cell → Prop) : Prop := match r with
  | .val d => k d finId E
  | .fr d => k d finId E
  | .cell i => match nth E i with
    | .un => False
    | .val d => k d finId E
    | .ro d => k d finId E
    | .own d => k d (finOwn i) (put E i (.ro d))
    | .bor d => k d (finBor i) (put E i (.ro d))
/-- v is data that stays, or a container that stays while the walk lasts -/
def Kept (kt : Bool) (K : PySem.W.Frag) (S1 H1 : Hp) (A1 : Addr → Prop) (v : V) (d : D) : Prop := Rp kt K S1 v d ∨ ∃ p o, v = .ref p ∧ RdD H1 p o ∧ ¬ A1 p ∧ Own kt K S1 o d
section
variable {kt : Bool} {K : PySem.W.Frag} {S H S' H' S1 H1 S2 H2 S0 H0 : Hp} {σ σ1 σ2 σ0 : L2.St} {E E' E1 E2 E0 : List Cell} {v : V} {r : R} {i : Nat} {d : D}
theorem Kept.at {A1 A : Addr → Prop} (h : Kept kt K S1 H1 A1 v d) (F : Fr S1 H1 A1 S H A) : Kept kt K S H A v d := by
  rcases h with h | ⟨p, o, rfl, hr, hn, ho⟩
  · exact .inl (h.mono (le_of F.ex))
  · refine .inr ⟨p, o, rfl, ?_, fun z => ?_, ho.mono (le_of F.ex)⟩
    · rcases hr with hr | ⟨⟨w, hr⟩, hz⟩
      · exact .inl (F.keep p o hr hn)
      · exact .inr ⟨⟨w, F.keep p _ hr hn⟩, hz⟩
    · rcases F.own p z with q | q
      · exact hn q
      · rcases hr with hr | ⟨⟨w, hr⟩, hz⟩ <;> (rw [q] at hr; cases hr)
theorem Kept.vw {A : Addr → Prop} (h : Kept kt K S H A v d) : Vw kt K S H v d := h.elim .inl fun ⟨p, o, h1, h2, _, h4⟩ => .inr ⟨p, o, h1, h2, h4⟩
theorem walk_ok {k : D → DFin → List Cell → Prop} (I0 : SI kt K S0 H0 σ E0) (e : Ev kt K S0 H0 σ E0 S H E) (q : RepR kt K S H σ E v r) (n : New H0 v r) (h : walkOf E r k) :
    ∃ S1 E1 fin d, Prot kt K S0 H0 σ E0 S1 H E1 fin ∧ Kept kt K S1 H (ownA σ E1) v d ∧ k d fin E1 := by
  cases r with
  | val d => exact ⟨S, E, finId, d, .id I0 e, .inl q, h⟩
  | fr d =>
    obtain ⟨p, o, rfl, h2, h3, h4, h5⟩ := q
    have e' := e.stay h4 h2 h3 (n p rfl)
    have le : Same S (upd S p o) := fun b u z => by rw [upd_ne (ne_of_none z h2)]; exact z
    exact ⟨_, E, finId, d, .id I0 e', .inl ((h5.mono (le_of le)).rp upd_same), h⟩
  | cell i =>
    obtain ⟨h1, h2⟩ := q
    have h' : (match nth E i with | .un => False | .val d => k d finId E | .ro d => k d finId E | .own d => k d (finOwn i) (put E i (.ro d)) | .bor d => k d (finBor i) (put E i (.ro d))) := h
    have lk : ∀ d fin, ((nth E i = .own d ∧ fin = finOwn i) ∨ (nth E i = .bor d ∧ fin = finBor i)) → k d fin (put E i (.ro d)) → ∃ S1 E1 fin d, Prot kt K S0 H0 σ E0 S1 H E1 fin ∧ Kept kt K S1 H (ownA σ E1) v d ∧ k d fin E1 := fun d fin hi hk => by
      have hi' : nth E i = .own d ∨ nth E i = .bor d := hi.elim (fun z => .inl z.1) fun z => .inr z.1
      obtain ⟨p, o, a1, a2, a3, a4⟩ := e.si.own i d hi'
      have a1' := a1
      rw [h1] at a1; cases a1
      refine ⟨S, _, fin, d, .lock I0 e hi h1 a3 a2 a4, .inr ⟨p, o, rfl, .inl a3, fun z => ?_, a4⟩, hk⟩
      obtain ⟨j, x, hj, hj1, hj2⟩ := ownA_lock z
      exact hj (e.si.dis j i x d p hj1 hi' hj2 h1)
    cases z : nth E i with
    | un => exact absurd z h2
    | val d =>
      rw [z] at h'
      obtain ⟨w, a1, a2⟩ := e.si.val i d z
      rw [h1] at a1; cases a1
      exact ⟨S, E, finId, d, .id I0 e, .inl a2, h'⟩
    | ro d =>
      rw [z] at h'
      obtain ⟨w, a1, a2⟩ := e.si.ro i d z
      rw [h1] at a1; cases a1
      refine ⟨S, E, finId, d, .id I0 e, ?_, h'⟩
      rcases a2 with a2 | ⟨p, o, b1, b2, b3, b4⟩
      · exact .inl a2
      · exact .inr ⟨p, o, b1, b2, b4, b3⟩
    | own d => rw [z] at h'; exact lk d _ (.inl ⟨z, rfl⟩) h'
    | bor d => rw [z] at h'; exact lk d _ (.inr ⟨z, rfl⟩) h'
end
end BD
set_option Elab.async false
set_option linter.all false
set_option maxRecDepth 100000
set_option maxHeartbeats 2000000
/-! BD: sources of walks; comprehensions. -/
namespace BD
open PySem PySem.Spec PyProof.Rows L2
def rangeD (lo : Int) (n : Nat) : List D := (List.range n).map fun i => .int (lo + (i : Nat))
def rangeC (lo c : Int) (n : Nat) : List D := (List.range n).map fun i => .int (lo + (i : Nat) * c)
def signsD (z : Str) : List D := z.cps.toList.map fun c => .str ⟨#[c]⟩
def enumD (ds : List D) : List D := ds.zipIdx.map fun p => .tup [.int (p.2 : Nat), p.1]
def iL (da : DE) : DI := fun E Q => da E fun r E1 => walkOf E1 r fun d fin E2 => match d with
  | .lst ds => Q ds fin E2
  | .scr ns => Q (ns.map .int) fin E2
  | _ => False
def iT (da : DE) : DI := fun E Q => da E fun r E1 => walkOf E1 r fun d fin E2 => match d with
  | .tup ds => Q ds fin E2
  | _ => False
def iS (da : DE) : DI := fun E Q => da E fun r E1 => vw E1 r fun d => match d with
  | .str z => Q (signsD z) finId E1
  | _ => False
def iR1 (dr : DR) : DI := fun E Q => dr E fun rs E1 => vws E1 rs fun ds => match ds with
  | [.int j] => (-(2 ^ 62) ≤ j ∧ j < 2 ^ 62) ∧ Q (rangeD 0 j.toNat) finId E1
  | _ => False
def iR2 (dr : DR) : DI := fun E Q => dr E fun rs E1 => vws E1 rs fun ds => match ds with
  | [.int i, .int j] => (-(2 ^ 62) ≤ i ∧ i < 2 ^ 62 ∧ -(2 ^ 62) ≤ j ∧ j < 2 ^ 62) ∧ Q (rangeD i (j - i).toNat) finId E1
  | _ => False
def iR3 (dr : DR) : DI := fun E Q => dr E fun rs E1 => vws E1 rs fun ds => match ds with
  | [.int i, .int j, .int c] => ∃ n, RgC i j c n ∧ Q (rangeC i c n) finId E1
  | _ => False
def iEL (da : DE) : DI := fun E Q => da E fun r E1 => walkOf E1 r fun d fin E2 => match d with
  | .lst ds => Q (enumD ds) fin E2
  | _ => False
section
variable {X : Cx} {kt : Bool} {K : PySem.W.Frag} {S H S' H' S1 H1 S2 H2 S0 H0 : Hp} {σ σ1 σ2 σ0 : L2.St} {E E' E1 E2 E0 : List Cell} {v : V} {r : R} {i : Nat} {d : D} {a b c e tg : Expr} {da : DE} {dr : DR} {pos p : Pos}
theorem VwL.head {vs : List V} {d : D} {ds : List D} (h : VwL kt K S H vs (d :: ds)) : ∃ v r, vs = v :: r ∧ Vw kt K S H v d ∧ VwL kt K S H r ds := by
  cases h with
  | cons a b => exact ⟨_, _, rfl, a, b⟩
theorem so_list {A : Addr → Prop} {q : Addr} {ds : List D} (h : Kept kt K S1 H1 A (.ref q) (.lst ds)) : SrcOk kt K S1 H1 A (Itl K q) ds := by
  have at_ : ∀ S H σ E, SI kt K S H σ E → Fr S1 H1 A S H (ownA σ E) → ∃ vs, H q = some (.lst vs) ∧ RpL kt K S vs ds := fun S H σ E I F => by
    obtain ⟨p, vs, e, h1, h2⟩ := (h.at F).vw.lst I.ex
    cases e
    exact ⟨vs, h1, h2⟩
  refine ⟨fun S H σ E I F i hi => ?_, fun S H σ E I F => ?_, fun S H σ E I F i x H' hi hy => ?_⟩
  · obtain ⟨vs, h1, h2⟩ := at_ S H σ E I F
    obtain ⟨v, h3, _⟩ := h2.get (List.getElem?_eq_getElem hi)
    exact ⟨vs, v, .of h1, h3⟩
  · obtain ⟨vs, h1, h2⟩ := at_ S H σ E I F
    exact ⟨vs, .of h1, by rw [h2.length]; exact Nat.le_refl _⟩
  · obtain ⟨vs, h1, h2⟩ := at_ S H σ E I F
    obtain ⟨rfl, hv⟩ := hy
    obtain ⟨v, h3, h4⟩ := h2.get (List.getElem?_eq_getElem hi)
    have := hv vs (.of h1)
    rw [h3] at this; cases this
    exact ⟨S, ds[i], List.getElem?_eq_getElem hi, .refl I, h4⟩
theorem so_tup {A : Addr → Prop} {q : Addr} {ds : List D} (h : Kept kt K S1 H1 A (.ref q) (.tup ds)) : SrcOk kt K S1 H1 A (Itt K q) ds := by
  have at_ : ∀ S H σ E, SI kt K S H σ E → Fr S1 H1 A S H (ownA σ E) → ∃ vs, SqT K H q vs ∧ RpL kt K S vs ds := fun S H σ E I F => by
    obtain ⟨p, vs, e, h1, h2⟩ := (h.at F).vw.tup I.ex
    cases e
    exact ⟨vs, h1, h2⟩
  refine ⟨fun S H σ E I F i hi => ?_, fun S H σ E I F => ?_, fun S H σ E I F i x H' hi hy => ?_⟩
  · obtain ⟨vs, h1, h2⟩ := at_ S H σ E I F
    obtain ⟨v, h3, _⟩ := h2.get (List.getElem?_eq_getElem hi)
    exact ⟨vs, v, h1, h3⟩
  · obtain ⟨vs, h1, h2⟩ := at_ S H σ E I F
    exact ⟨vs, h1, by rw [h2.length]; exact Nat.le_refl _⟩
  · obtain ⟨vs, h1, h2⟩ := at_ S H σ E I F
    obtain ⟨rfl, hv⟩ := hy
    obtain ⟨v, h3, h4⟩ := h2.get (List.getElem?_eq_getElem hi)
    have := hv vs h1
    rw [h3] at this; cases this
    exact ⟨S, ds[i], List.getElem?_eq_getElem hi, .refl I, h4⟩
theorem so_scr {A : Addr → Prop} {q : Addr} {ns : List Int} (h : Kept kt K S1 H1 A (.ref q) (.scr ns)) : SrcOk kt K S1 H1 A (Itl K q) (ns.map .int) := by
  have at_ : ∀ S H σ E, SI kt K S H σ E → Fr S1 H1 A S H (ownA σ E) → SqL K H q (ns.map V.int) := fun S H σ E I F => by
    obtain ⟨p, e, h1⟩ := (h.at F).vw.scr I.ex
    cases e
    exact h1
  refine ⟨fun S H σ E I F i hi => ?_, fun S H σ E I F => ?_, fun S H σ E I F i x H' hi hy => ?_⟩
  · rw [List.length_map] at hi
    exact ⟨_, .int ns[i], at_ S H σ E I F, by rw [List.getElem?_map, List.getElem?_eq_getElem hi]; rfl⟩
  · exact ⟨_, at_ S H σ E I F, by rw [List.length_map, List.length_map]; exact Nat.le_refl _⟩
  · obtain ⟨rfl, hv⟩ := hy
    rw [List.length_map] at hi
    have := hv _ (at_ S _ σ E I F)
    rw [List.getElem?_map, List.getElem?_eq_getElem hi] at this
    cases this
    exact ⟨S, .int ns[i], by rw [List.getElem?_map, List.getElem?_eq_getElem hi]; rfl, .refl I, .int _⟩
theorem so_fn {A : Addr → Prop} {J : It} {n : Nat} {f : Nat → V} {g : Nat → D} (w : Walk J n (fun _ => True) (YFn f)) (hfg : ∀ S i, Rp kt K S (f i) (g i)) : SrcOk kt K S1 H1 A J ((List.range n).map g) := by
  refine ⟨fun S H σ E I F i hi => ?_, fun S H σ E I F => ?_, fun S H σ E I F i x H' hi hy => ?_⟩
  · rw [List.length_map, List.length_range] at hi
    exact w.goes i H hi trivial
  · rw [List.length_map, List.length_range]
    exact w.stops H trivial
  · rw [List.length_map, List.length_range] at hi
    obtain ⟨rfl, rfl⟩ := w.yields i H x H' hi trivial hy
    exact ⟨S, g i, by rw [List.getElem?_map, List.getElem?_range hi]; rfl, .refl I, hfg S i⟩
theorem so_str {A : Addr → Prop} {z : Str} : SrcOk kt K S1 H1 A (Its z) (signsD z) := by
  have hl : (signsD z).length = z.cps.size := by unfold signsD; rw [List.length_map, Array.length_toList]
  refine ⟨fun S H σ E I F i hi => ?_, fun S H σ E I F => ?_, fun S H σ E I F i x H' hi hy => ?_⟩
  · rw [hl] at hi; exact hi
  · rw [hl]; exact Nat.le_refl _
  · obtain ⟨rfl, c, hc, rfl⟩ := hy
    refine ⟨S, .str ⟨#[c]⟩, ?_, .refl I, .str _⟩
    unfold signsD
    rw [List.getElem?_map, Array.getElem?_toList, hc]
    rfl
theorem si_list (ha : SE X kt a da) : SI_ X kt tg a (iL da) := by
  obtain ⟨t, q, l⟩ := ha.ex
  refine ⟨_, pi_list q, fun S H σ E Q R I h k => l S H σ E _ _ I h fun S1 H1 E1 v r e1 q1 n1 h1 => ?_⟩
  obtain ⟨S2, E2, fin, d, pr, kp, h2⟩ := walk_ok I e1 q1 n1 h1
  cases d with
  | lst ds =>
    obtain ⟨p, vs, rfl, hp, _⟩ := kp.vw.lst pr.si.ex
    exact ⟨p, rfl, ⟨vs, .of hp⟩, k _ _ _ _ _ _ pr (so_list kp) h2⟩
  | scr ns =>
    obtain ⟨p, rfl, hp⟩ := kp.vw.scr pr.si.ex
    exact ⟨p, rfl, ⟨_, hp⟩, k _ _ _ _ _ _ pr (so_scr kp) h2⟩
  | _ => exact (show False from h2).elim
theorem si_tup (ha : SE X kt a da) : SI_ X kt tg a (iT da) := by
  obtain ⟨t, q, l⟩ := ha.ex
  refine ⟨_, pi_tup q, fun S H σ E Q R I h k => l S H σ E _ _ I h fun S1 H1 E1 v r e1 q1 n1 h1 => ?_⟩
  obtain ⟨S2, E2, fin, d, pr, kp, h2⟩ := walk_ok I e1 q1 n1 h1
  cases d with
  | tup ds =>
    obtain ⟨p, vs, rfl, hp, _⟩ := kp.vw.tup pr.si.ex
    exact ⟨p, rfl, ⟨vs, hp⟩, k _ _ _ _ _ _ pr (so_tup kp) h2⟩
  | _ => exact (show False from h2).elim
theorem si_str (ha : SE X kt a da) : SI_ X kt tg a (iS da) := by
  obtain ⟨t, q, l⟩ := ha.ex
  refine ⟨_, pi_str q, fun S H σ E Q R I h k => l S H σ E _ _ I h fun S1 H1 E1 v r e1 q1 n1 h1 => ?_⟩
  obtain ⟨d, w, h2⟩ := vw_ok e1.si q1 h1
  cases d with
  | str z => exact ⟨z, w.str, k _ _ _ _ _ _ (.id I e1) so_str h2⟩
  | _ => exact (show False from h2).elim
theorem si_range1 (hg : Gl X "range") (hm : X.mg "range" = none) (ha : SR X kt [a] dr) (hs : starEach [a] X.env = [(false, eval a X.env)] := by rfl) : SI_ X kt tg (.Call (.Name "range" p) [a] [] pos) (iR1 dr) := by
  obtain ⟨t, q, l⟩ := ha.ex
  refine ⟨_, pi_range1 hg hm q hs, fun S H σ E Q R I h k => l S H σ E _ _ I h fun S1 H1 E1 vs rs e1 q1 n1 h1 => ?_⟩
  obtain ⟨ds, ws, h2⟩ := vws_ok e1.si q1 h1
  match ds, ws, h2 with
  | [.int j], ws, h2 =>
    obtain ⟨v, rfl, w⟩ := ws.one
    cases w.int
    refine ⟨j, rfl, h2.1.1, h2.1.2, k _ _ _ _ _ _ (.id I e1) (so_fn (g := fun i => .int (0 + (i : Nat))) walk_range fun _ _ => .int _) h2.2⟩
theorem si_range2 (hg : Gl X "range") (hm : X.mg "range" = none) (ha : SR X kt [a, b] dr) (hs : starEach [a, b] X.env = [(false, eval a X.env), (false, eval b X.env)] := by rfl) (hs2 : starEach [b] X.env = [(false, eval b X.env)] := by rfl) : SI_ X kt tg (.Call (.Name "range" p) [a, b] [] pos) (iR2 dr) := by
  obtain ⟨t, q, l⟩ := ha.ex
  refine ⟨_, pi_range2 hg hm q hs hs2, fun S H σ E Q R I h k => l S H σ E _ _ I h fun S1 H1 E1 vs rs e1 q1 n1 h1 => ?_⟩
  obtain ⟨ds, ws, h2⟩ := vws_ok e1.si q1 h1
  match ds, ws, h2 with
  | [.int i, .int j], ws, h2 =>
    obtain ⟨v, w', rfl, w, w2⟩ := ws.two
    cases w.int
    cases w2.int
    exact ⟨i, j, rfl, h2.1, k _ _ _ _ _ _ (.id I e1) (so_fn (g := fun n => .int (i + (n : Nat))) walk_range fun _ _ => .int _) h2.2⟩
theorem si_range3 (hg : Gl X "range") (hm : X.mg "range" = none) (ha : SR X kt [a, b, c] dr) (hs : starEach [a, b, c] X.env = (false, eval a X.env) :: starEach [b, c] X.env := by rfl) (hpl : (backTo pos (starEach [b, c] X.env)).any (·.1) = false := by rfl) : SI_ X kt tg (.Call (.Name "range" p) [a, b, c] [] pos) (iR3 dr) := by
  obtain ⟨t, q, l⟩ := ha.ex
  refine ⟨_, pi_range3 hg hm q hs hpl, fun S H σ E Q R I h k => l S H σ E _ _ I h fun S1 H1 E1 vs rs e1 q1 n1 h1 => ?_⟩
  obtain ⟨ds, ws, h2⟩ := vws_ok e1.si q1 h1
  have g : ∃ i j c, ds = [.int i, .int j, .int c] ∧ ∃ n, RgC i j c n ∧ Q (rangeC i c n) finId E1 := by
    match ds, h2 with
    | [.int i, .int j, .int c], h2 => exact ⟨i, j, c, rfl, h2⟩
  obtain ⟨i, j, c, rfl, n, h3, h4⟩ := g
  obtain ⟨v1, vr, rfl, w1, wr⟩ := ws.head
  obtain ⟨v2, v3, rfl, w2, w3⟩ := wr.two
  cases w1.int
  cases w2.int
  cases w3.int
  exact ⟨i, j, c, n, rfl, h3, k _ _ _ _ _ _ (.id I e1) (so_fn (g := fun n => .int (i + (n : Nat) * c)) walk_rangeC fun _ _ => .int _) h4⟩
/-- a new pair of two data -/
theorem ev_pair {T : Addr} {x y : V} {d1 d2 : D} (I : SI kt K S H σ E) (hT : H T = none) (r1 : Rp kt K S x d1) (r2 : Rp kt K S y d2) : ∃ S', Ev kt K S H σ E S' (upd H T (.tup [x, y])) E ∧ Rp kt K S' (.ref T) (.tup [d1, d2]) := by
  have e1 := (Ev.refl I).alloc (o := .tup [x, y]) hT
  have e2 := e1.stay (o := .tup [x, y]) upd_same (I.none hT) (fun z => ownA_alive I z hT) hT
  have le : Same S (upd S T (.tup [x, y])) := fun b u z => by rw [upd_ne (ne_of_none z (I.none hT))]; exact z
  exact ⟨_, e2, .tup (.inl upd_same) (.cons (r1.mono (le_of le)) (.cons (r2.mono (le_of le)) .nil))⟩
theorem enumD_get {ds : List D} {i : Nat} {d : D} (h : ds[i]? = some d) : (enumD ds)[i]? = some (.tup [.int (i : Nat), d]) := by
  unfold enumD
  rw [List.getElem?_map, List.getElem?_zipIdx, h]
  simp
theorem enumD_len (ds : List D) : (enumD ds).length = ds.length := by unfold enumD; rw [List.length_map, List.length_zipIdx]
theorem so_enum {A : Addr → Prop} {q : Addr} {ds : List D} (h : Kept kt K S1 H1 A (.ref q) (.lst ds)) : SrcOk kt K S1 H1 A (Ite K q) (enumD ds) := by
  have at_ : ∀ S H σ E, SI kt K S H σ E → Fr S1 H1 A S H (ownA σ E) → ∃ vs, H q = some (.lst vs) ∧ RpL kt K S vs ds := fun S H σ E I F => by
    obtain ⟨p, vs, e, h1, h2⟩ := (h.at F).vw.lst I.ex
    cases e
    exact ⟨vs, h1, h2⟩
  refine ⟨fun S H σ E I F i hi => ?_, fun S H σ E I F => ?_, fun S H σ E I F i x H' hi hy => ?_⟩
  · rw [enumD_len] at hi
    obtain ⟨vs, h1, h2⟩ := at_ S H σ E I F
    obtain ⟨v, h3, _⟩ := h2.get (List.getElem?_eq_getElem hi)
    exact ⟨vs, v, .of h1, h3⟩
  · obtain ⟨vs, h1, h2⟩ := at_ S H σ E I F
    exact ⟨vs, .of h1, by rw [enumD_len, h2.length]; exact Nat.le_refl _⟩
  · rw [enumD_len] at hi
    obtain ⟨vs, h1, h2⟩ := at_ S H σ E I F
    obtain ⟨T, y, rfl, hT, rfl, hv⟩ := hy
    obtain ⟨v, h3, h4⟩ := h2.get (List.getElem?_eq_getElem hi)
    have := hv vs (.of h1)
    rw [h3] at this; cases this
    obtain ⟨S', e, r⟩ := ev_pair I hT (.int (i : Nat)) h4
    exact ⟨S', _, enumD_get (List.getElem?_eq_getElem hi), e, r⟩
theorem si_enumL {elts : List Expr} {kk : Nat} {tpos : Pos} (hg : Gl X "enumerate") (hm : X.mg "enumerate" = none) (ha : SE X kt a da) (hs : starEach [a] X.env = [(false, eval a X.env)] := by rfl) (hs1 : starEach [a] X.env = (false, eval a X.env) :: starEach [] X.env := by rfl) : SI_ X kt (.Tuple elts kk tpos) (.Call (.Name "enumerate" p) [a] [] pos) (iEL da) := by
  obtain ⟨t, q, l⟩ := ha.ex
  refine ⟨_, pi_enum hg hm (pa_cons q pa_nil hs1) hs, fun S H σ E Q R I h k => l S H σ E _ _ I h fun S1 H1 E1 v r e1 q1 n1 h1 => ?_⟩
  obtain ⟨S2, E2, fin, d, pr, kp, h2⟩ := walk_ok I e1 q1 n1 h1
  cases d with
  | lst ds =>
    obtain ⟨p, vs, rfl, hp, _⟩ := kp.vw.lst pr.si.ex
    exact ⟨p, vs, rfl, .of hp, k _ _ _ _ _ _ pr (so_enum kp) h2⟩
  | _ => exact (show False from h2).elim
end
end BD
set_option Elab.async false
set_option linter.all false
set_option maxRecDepth 100000
set_option maxHeartbeats 2000000
/-! BD: comprehensions. -/
namespace BD
open PySem PySem.Spec PyProof.Rows L2
/-- the canonical readings -/
def tOfE (kt : Bool) (K : PySem.W.Frag) (d : DE) : TE := fun σ H Q => ∃ S E Qd, SI kt K S H σ E ∧ d E Qd ∧ ∀ S' H' E' v r, Ev kt K S H σ E S' H' E' → RepR kt K S' H' σ E' v r → New H v r → Qd r E' → Q v H'
def tOfT (kt : Bool) (K : PySem.W.Frag) (d : DT) : TT := fun σ H Q => ∃ S E Qd, SI kt K S H σ E ∧ d E Qd ∧ ∀ S' H' E' b, Ev kt K S H σ E S' H' E' → Qd b E' → Q b H'
def tOfI (kt : Bool) (K : PySem.W.Frag) (d : DI) : TI := fun σ H R => ∃ S E Qd, SI kt K S H σ E ∧ d E Qd ∧ ∀ S1 H1 E1 J items fin, Prot kt K S H σ E S1 H1 E1 fin → SrcOk kt K S1 H1 (ownA σ E1) J items → Qd items fin E1 → R J H1
/-- a comprehension's target: a name, a tuple of names -/
inductive CT where
  | one (i : Nat) | tup (is : List Nat)
def gNames : List Nat → TGs
  | [] => gNil
  | i :: r => gCons (gName i) (gNames r)
def gCT (K : PySem.W.Frag) : CT → TG
  | .one i => gName i
  | .tup is => gTup K is.length (gNames is)
def CT.slots : CT → List Nat
  | .one i => [i]
  | .tup is => is
def puts : List Nat → List D → List Cell → List Cell
  | i :: is, d :: ds, E => puts is ds (put E i (.val d))
  | _, _, E => E
def putCT (ct : CT) (d : D) (E : List Cell) (k : List Cell → Prop) : Prop := match ct with
  | .one i => k (put E i (.val d))
  | .tup is => match d with
    | .tup ds => ds.length = is.length ∧ k (puts is ds E)
    | _ => False
def wipeE (E : List Cell) : List Nat → List Cell
  | [] => E
  | v :: vs => put (wipeE E vs) v .un
def restore (E0 E : List Cell) : List Nat → List Cell
  | [] => E
  | v :: vs => put (restore E0 E vs) v (nth E0 v)
def lcL (ct : CT) (tt : DT) (de : DV) (vs : List Nat) (done : List D → List Cell → Prop) : List D → List D → List Cell → Prop
  | [], acc, E => done acc E
  | x :: r, acc, E => putCT ct x E fun E1 => tt E1 fun b E2 => if b = true then de E2 fun y E3 => acc.length < sizeLine ∧ lcL ct tt de vs done r (acc ++ [y]) (wipeE E3 vs) else lcL ct tt de vs done r acc (wipeE E2 vs)
def dLc (src : DI) (ct : CT) (vs : List Nat) (tt : DT) (de : DE) : DE := fun E Q => src E fun items fin E1 => lcL ct tt (dFz de) vs (fun acc E2 => fin (restore E1 E2 vs) fun E3 => Q (.fr (.lst acc)) E3) items [] (wipeE E1 vs)
def dYes : DT := fun E Q => Q true E
structure STs (X : Cx) (kt : Bool) (ifs : List Expr) (d : DT) : Prop where
  ex : ∃ t, PTs X ifs t ∧ LkT kt X.K t d
section
variable {X : Cx} {kt : Bool} {K : PySem.W.Frag} {S H S' H' S1 H1 S2 H2 S0 H0 : Hp} {σ σ1 σ2 σ0 : L2.St} {E E' E1 E2 E0 : List Cell} {v : V} {r : R} {i : Nat} {d : D} {e : Expr} {de : DE} {dt : DT} {di : DI} {tg iter : Expr}
theorem SE.canon (h : SE X kt e de) : PE X e (tOfE kt X.K de) := by
  obtain ⟨t, p, l⟩ := h.ex
  exact ⟨fun pins s σ H Q I ⟨S, E, Qd, si, hd, k⟩ => p.run pins s σ H Q I (l S H σ E Qd Q si hd k)⟩
theorem STs.canon {ifs : List Expr} (h : STs X kt ifs dt) : PTs X ifs (tOfT kt X.K dt) := by
  obtain ⟨t, p, l⟩ := h.ex
  exact ⟨fun pins s σ H Q I ⟨S, E, Qd, si, hd, k⟩ => p.run pins s σ H Q I (l S H σ E Qd Q si hd k)⟩
theorem SI_.canon (h : SI_ X kt tg iter di) : PI X tg iter (tOfI kt X.K di) := by
  obtain ⟨t, p, l⟩ := h.ex
  exact ⟨fun pins s σ H Q I ⟨S, E, Qd, si, hd, k⟩ => p.run pins s σ H Q I (l S H σ E Qd Q si hd k)⟩
theorem sts_nil : STs X kt [] dYes := ⟨_, pts_nil, fun S H σ E Q Q' I h k => k S H E true (.refl I) h⟩
theorem sts_one (h : ST X kt e dt) : STs X kt [e] dt := by
  obtain ⟨t, p, l⟩ := h.ex
  exact ⟨t, pts_one p, l⟩
theorem wipeE_len : ∀ (E : List Cell) (vs : List Nat), (wipeE E vs).length = E.length
  | _, [] => rfl
  | E, v :: vs => by unfold wipeE; rw [put_len, wipeE_len E vs]
theorem nth_wipe : ∀ {E : List Cell} {vs : List Nat} {j : Nat}, nth (wipeE E vs) j = if j ∈ vs then .un else nth E j
  | E, [], j => by simp [wipeE]
  | E, v :: vs, j => by
    unfold wipeE
    rw [nth_put2, wipeE_len]
    by_cases h : j = v
    · subst h
      by_cases hl : j < E.length
      · rw [if_pos ⟨rfl, hl⟩, if_pos List.mem_cons_self]
      · rw [if_neg fun z => hl z.2, if_pos List.mem_cons_self, nth_wipe]
        split
        · rfl
        · exact nth_out (by omega)
    · rw [if_neg fun z => h z.1, nth_wipe]
      by_cases hm : j ∈ vs
      · rw [if_pos hm, if_pos (List.mem_cons_of_mem _ hm)]
      · rw [if_neg hm, if_neg (fun z => (List.mem_cons.mp z).elim h hm)]
theorem restore_len : ∀ (E0 E : List Cell) (vs : List Nat), (restore E0 E vs).length = E.length
  | _, _, [] => rfl
  | E0, E, v :: vs => by unfold restore; rw [put_len, restore_len E0 E vs]
theorem nth_restore : ∀ {E0 E : List Cell} {vs : List Nat} {j : Nat}, E0.length = E.length → nth (restore E0 E vs) j = if j ∈ vs then nth E0 j else nth E j
  | E0, E, [], j, _ => by simp [restore]
  | E0, E, v :: vs, j, hl => by
    unfold restore
    rw [nth_put2, restore_len]
    by_cases h : j = v
    · subst h
      by_cases h2 : j < E.length
      · rw [if_pos ⟨rfl, h2⟩, if_pos List.mem_cons_self]
      · rw [if_neg fun z => h2 z.2, if_pos List.mem_cons_self, nth_restore hl, nth_out (E := E0) (by omega), nth_out (E := E) (by omega)]
        split <;> rfl
    · rw [if_neg fun z => h z.1, nth_restore hl]
      by_cases hm : j ∈ vs
      · rw [if_pos hm, if_pos (List.mem_cons_of_mem _ hm)]
      · rw [if_neg hm, if_neg (fun z => (List.mem_cons.mp z).elim h hm)]
theorem get_wipe : ∀ {σ : L2.St} {vs : List Nat} {j : Nat}, j ∉ vs → (wipe σ vs)[j]? = σ[j]? := fun h => wipe_out h
/-- the block's slots forgotten -/
theorem SI.wipe (I : SI kt K S H σ E) (vs : List Nat) : SI kt K S H (L2.wipe σ vs) (wipeE E vs) := by
  have old : ∀ a, ownA (L2.wipe σ vs) (wipeE E vs) a → ownA σ E a := fun a ⟨j, x, hj, hσ⟩ => by
    rw [nth_wipe] at hj
    by_cases hm : j ∈ vs
    · rw [if_pos hm] at hj; rcases hj with z | z <;> cases z
    · rw [if_neg hm] at hj
      rw [get_wipe hm] at hσ
      exact ⟨j, x, hj, hσ⟩
  refine ⟨I.ex, by rw [wipe_length, wipeE_len]; exact I.len, fun j x hj => ?_, fun j x hj => ?_, fun j x hj => ?_, fun j k x y p hj hk h1 h2 => ?_⟩
  · rw [nth_wipe] at hj
    by_cases hm : j ∈ vs
    · rw [if_pos hm] at hj; cases hj
    · rw [if_neg hm] at hj; rw [get_wipe hm]; exact I.val j x hj
  · rw [nth_wipe] at hj
    by_cases hm : j ∈ vs
    · rw [if_pos hm] at hj; cases hj
    · rw [if_neg hm] at hj; rw [get_wipe hm]
      obtain ⟨w, h1, h2⟩ := I.ro j x hj
      exact ⟨w, h1, h2.mono .refl (fun _ _ h _ => h) (fun p _ _ z => old p z)⟩
  · rw [nth_wipe] at hj
    by_cases hm : j ∈ vs
    · rw [if_pos hm] at hj; rcases hj with z | z <;> cases z
    · rw [if_neg hm] at hj; rw [get_wipe hm]; exact I.own j x hj
  · rw [nth_wipe] at hj hk
    by_cases hm : j ∈ vs
    · rw [if_pos hm] at hj; rcases hj with z | z <;> cases z
    · by_cases hn : k ∈ vs
      · rw [if_pos hn] at hk; rcases hk with z | z <;> cases z
      · rw [if_neg hm] at hj; rw [if_neg hn] at hk
        rw [get_wipe hm] at h1; rw [get_wipe hn] at h2
        exact I.dis j k x y p hj hk h1 h2
theorem ownA_wipe {vs : List Nat} {a : Addr} (h : ownA (L2.wipe σ vs) (wipeE E vs) a) : ∃ j x, j ∉ vs ∧ (nth E j = .own x ∨ nth E j = .bor x) ∧ σ[j]? = some (some (.ref a)) := by
  obtain ⟨j, x, hj, hσ⟩ := h
  rw [nth_wipe] at hj
  by_cases hm : j ∈ vs
  · rw [if_pos hm] at hj; rcases hj with z | z <;> cases z
  · rw [if_neg hm] at hj
    rw [get_wipe hm] at hσ
    exact ⟨j, x, hm, hj, hσ⟩
/-- one free slot gets data -/
theorem SI.put1 (I : SI kt K S H σ E) {w : V} (hw : Rp kt K S w d) : SI kt K S H (σ.set i (some w)) (put E i (.val d)) := by
  have old : ∀ a, ownA (σ.set i (some w)) (put E i (.val d)) a → ownA σ E a := fun a ⟨j, x, hj, hσ⟩ => by
    rw [nth_put2] at hj
    rw [get_set, I.len] at hσ
    by_cases h : j = i ∧ i < E.length
    · rw [if_pos h] at hj; rcases hj with z | z <;> cases z
    · rw [if_neg h] at hj hσ; exact ⟨j, x, hj, hσ⟩
  refine ⟨I.ex, by rw [List.length_set, put_len]; exact I.len, fun j x hj => ?_, fun j x hj => ?_, fun j x hj => ?_, fun j k x y p hj hk h1 h2 => ?_⟩
  · rw [nth_put2] at hj; rw [get_set, I.len]
    by_cases h : j = i ∧ i < E.length
    · rw [if_pos h] at hj ⊢; cases hj; exact ⟨w, rfl, hw⟩
    · rw [if_neg h] at hj ⊢; exact I.val j x hj
  · rw [nth_put2] at hj; rw [get_set, I.len]
    by_cases h : j = i ∧ i < E.length
    · rw [if_pos h] at hj; cases hj
    · rw [if_neg h] at hj ⊢
      obtain ⟨u, h1, h2⟩ := I.ro j x hj
      exact ⟨u, h1, h2.mono .refl (fun _ _ h _ => h) (fun p _ _ z => old p z)⟩
  · rw [nth_put2] at hj; rw [get_set, I.len]
    by_cases h : j = i ∧ i < E.length
    · rw [if_pos h] at hj; rcases hj with z | z <;> cases z
    · rw [if_neg h] at hj ⊢; exact I.own j x hj
  · rw [nth_put2] at hj hk; rw [get_set, I.len] at h1 h2
    by_cases h : j = i ∧ i < E.length
    · rw [if_pos h] at hj; rcases hj with z | z <;> cases z
    · by_cases h' : k = i ∧ i < E.length
      · rw [if_pos h'] at hk; rcases hk with z | z <;> cases z
      · rw [if_neg h] at hj h1; rw [if_neg h'] at hk h2
        exact I.dis j k x y p hj hk h1 h2
/-- σ2, E2 are σ, E with some slots of vs given data -/
structure Filled (kt : Bool) (K : PySem.W.Frag) (S H : Hp) (vs : List Nat) (σ : L2.St) (E : List Cell) (σ2 : L2.St) (E2 : List Cell) : Prop where
  si : SI kt K S H σ2 E2
  out : ∀ j, j ∉ vs → σ2[j]? = σ[j]? ∧ nth E2 j = nth E j
  ins : ∀ j, j ∈ vs → nth E2 j = nth E j ∨ ∃ x, nth E2 j = .val x
  wip : L2.wipe σ2 vs = L2.wipe σ vs
  len : E2.length = E.length
theorem wipe_set {σ : L2.St} {x : Option V} : ∀ {vs : List Nat}, i ∈ vs → L2.wipe (σ.set i x) vs = L2.wipe σ vs := fun {vs} hi => by
  apply List.ext_getElem?
  intro j
  have hw : ∀ (τ : L2.St) (ws : List Nat), j ∈ ws → j < τ.length → (L2.wipe τ ws)[j]? = some none := by
    intro τ ws
    induction ws with
    | nil => intro h; cases h
    | cons w ws ih =>
      intro h hl
      unfold L2.wipe
      rw [get_set, wipe_length]
      by_cases hjw : j = w
      · subst hjw; rw [if_pos ⟨rfl, hl⟩]
      · rw [if_neg (fun z => hjw z.1)]
        exact ih ((List.mem_cons.mp h).resolve_left hjw) hl
  by_cases hj : j ∈ vs
  · by_cases hl : j < σ.length
    · rw [hw _ _ hj (by rw [List.length_set]; exact hl), hw _ _ hj hl]
    · rw [List.getElem?_eq_none (by rw [wipe_length, List.length_set]; omega), List.getElem?_eq_none (by rw [wipe_length]; omega)]
  · rw [get_wipe hj, get_wipe hj, List.getElem?_set_ne (fun z => hj (by rw [← z]; exact hi))]
theorem Filled.refl {vs : List Nat} (I : SI kt K S H σ E) : Filled kt K S H vs σ E σ E := ⟨I, fun _ _ => ⟨rfl, rfl⟩, fun _ _ => .inl rfl, rfl, rfl⟩
theorem Filled.put {vs : List Nat} {w : V} (f : Filled kt K S H vs σ E σ2 E2) (hi : i ∈ vs) (hw : Rp kt K S w d) : Filled kt K S H vs σ E (σ2.set i (some w)) (BD.put E2 i (.val d)) := by
  refine ⟨f.si.put1 hw, fun j hj => ?_, fun j hj => ?_, (wipe_set hi).trans f.wip, by rw [put_len]; exact f.len⟩
  · have hji : j ≠ i := fun z => hj (by rw [z]; exact hi)
    rw [List.getElem?_set_ne (Ne.symm hji), nth_put_ne hji]
    exact f.out j hj
  · rw [nth_put2]
    by_cases h : j = i ∧ i < E2.length
    · rw [if_pos h]; exact .inr ⟨d, rfl⟩
    · rw [if_neg h]; exact f.ins j hj
theorem gNames_ok {vs : List Nat} {Q : L2.St → Hp → Prop} : ∀ (is : List Nat) (ws : List V) (ds : List D) (σ2 : L2.St) (E2 : List Cell), (∀ j ∈ is, j ∈ vs) → Filled kt K S H vs σ E σ2 E2 → RpL kt K S ws ds → ds.length = is.length →
    (∀ σ3, Filled kt K S H vs σ E σ3 (puts is ds E2) → Q σ3 H) → gNames is ws σ2 H Q
  | [], _, _, σ2, E2, _, f, .nil, _, k => ⟨rfl, k σ2 f⟩
  | [], _, _, _, _, _, _, .cons _ _, h, _ => nomatch h
  | _ :: _, _, _, _, _, _, _, .nil, h, _ => nomatch h
  | i :: is, _, _, σ2, E2, hm, f, .cons r1 rr, h, k =>
    ⟨_, _, rfl, gNames_ok is _ _ _ _ (fun j hj => hm j (List.mem_cons_of_mem _ hj)) (f.put (hm i List.mem_cons_self) r1) rr (Nat.succ.inj h) k⟩
theorem gCT_ok {vs : List Nat} {ct : CT} {w : V} {Q : L2.St → Hp → Prop} {k : List Cell → Prop} (hm : ∀ j ∈ ct.slots, j ∈ vs) (I : SI kt K S H σ E) (hw : Rp kt K S w d) (h : putCT ct d E k)
    (hk : ∀ σ2 E2, Filled kt K S H vs σ E σ2 E2 → k E2 → Q σ2 H) : gCT K ct w σ H Q := by
  cases ct with
  | one i => exact hk _ _ ((Filled.refl I).put (hm i List.mem_cons_self) hw) h
  | tup is =>
    cases d with
    | tup ds =>
      obtain ⟨h1, h2⟩ := (show ds.length = is.length ∧ k (puts is ds E) from h)
      cases hw with
      | tup ht hr => exact ⟨_, _, rfl, (ht.mono I.ex).sqt, hr.length.trans h1, gNames_ok is _ _ σ E hm (.refl I) hr h1 fun σ3 f => hk _ _ f h2⟩
    | _ => exact (show False from h).elim
end
end BD
set_option Elab.async false
set_option linter.all false
set_option maxRecDepth 100000
set_option maxHeartbeats 2000000
/-! BD: the rule for comprehensions. -/
namespace BD
open PySem PySem.Spec PyProof.Rows L2
def tOfV (kt : Bool) (K : PySem.W.Frag) (d : DV) : TE := fun σ H Q => ∃ S E Qd, SI kt K S H σ E ∧ d E Qd ∧ ∀ S' H' E' v x, Ev kt K S H σ E S' H' E' → Rp kt K S' v x → Qd x E' → Q v H'
section
variable {X : Cx} {kt : Bool} {K : PySem.W.Frag} {S H S' H' S1 H1 S2 H2 S0 H0 S3 H3 : Hp} {σ σ1 σ2 σ0 : L2.St} {E E' E1 E2 E0 E3 : List Cell} {v : V} {r : R} {i : Nat} {d : D} {e : Expr} {de : DE} {dv : DV} {dt : DT} {di : DI} {tg iter : Expr} {pos p : Pos}
theorem SV.canon (h : SV X kt e dv) : PE X e (tOfV kt X.K dv) := by
  obtain ⟨t, p, l⟩ := h.ex
  exact ⟨fun pins s σ H Q I ⟨S, E, Qd, si, hd, k⟩ => p.run pins s σ H Q I (l S H σ E Qd Q si hd k)⟩
theorem Fr.weak {A A' A2 : Addr → Prop} (F : Fr S H A S1 H1 A2) (h : ∀ a, A a → A' a) : Fr S H A' S1 H1 A2 := ⟨F.ex, fun a o h1 h2 => F.keep a o h1 fun z => h2 (h a z), fun a h1 h2 h3 => F.free a h1 h2 fun z => h3 (h a z), fun a z => (F.own a z).elim (fun y => .inl (h a y)) .inr, F.alive⟩
theorem Fr.less {A A2 A3 : Addr → Prop} (F : Fr S H A S1 H1 A2) (h : ∀ a, A3 a → A2 a) : Fr S H A S1 H1 A3 := ⟨F.ex, F.keep, F.free, fun a z => F.own a (h a z), F.alive⟩
theorem Fr.updNew {A A2 : Addr → Prop} {q : Addr} {o : HO} (F : Fr S H A S1 H1 A2) (h : H q = none) : Fr S H A S1 (upd H1 q o) A2 := ⟨F.ex, fun a u h1 h2 => by
    rw [upd_ne (ne_of_none h1 h)]; exact F.keep a u h1 h2, F.free, F.own, fun a ha => by
    by_cases z : a = q
    · subst z; rw [upd_same]; exact fun z => nomatch z
    · rw [upd_ne z]; exact F.alive a ha⟩
theorem wipe_wipe (σ : L2.St) (vs : List Nat) : L2.wipe (L2.wipe σ vs) vs = L2.wipe σ vs := by
  have g : ∀ (ws : List Nat), (∀ j ∈ ws, j ∈ vs) → L2.wipe (L2.wipe σ ws) vs = L2.wipe σ vs := by
    intro ws
    induction ws with
    | nil => intro _; rfl
    | cons w ws ih =>
      intro h
      show L2.wipe ((L2.wipe σ ws).set w none) vs = L2.wipe σ vs
      rw [wipe_set (h w List.mem_cons_self)]
      exact ih fun j hj => h j (List.mem_cons_of_mem _ hj)
  exact g vs fun _ h => h
/-- a new container of nobody's slot is changed -/
theorem SI.updT {q : Addr} {o : HO} (I : SI kt K S H σ E) (hs : S q = Option.none) (ha : ¬ ownA σ E q) (hr : ∀ j x w, nth E j = .ro x → σ[j]? = some (some w) → w = .ref q → Rp kt K S w x) : SI kt K S (upd H q o) σ E := by
  refine ⟨fun b u z => by rw [upd_ne (ne_of_none z hs)]; exact I.ex b u z, I.len, I.val, fun j x hj => ?_, fun j x hj => ?_, I.dis⟩
  · obtain ⟨w, h1, h2⟩ := I.ro j x hj
    refine ⟨w, h1, ?_⟩
    by_cases hw : w = .ref q
    · exact .inl (hr j x w hj h1 hw)
    · rcases h2 with h2 | ⟨p, u, rfl, h3, h4, h5⟩
      · exact .inl h2
      · have ne : p ≠ q := fun z => hw (by rw [z])
        refine .inr ⟨p, u, rfl, ?_, h4, h5⟩
        rcases h3 with h3 | ⟨⟨y, h3⟩, h6⟩
        · exact .inl (by rw [upd_ne ne]; exact h3)
        · exact .inr ⟨⟨y, by rw [upd_ne ne]; exact h3⟩, h6⟩
  · obtain ⟨p, u, h1, h2, h3, h4⟩ := I.own j x hj
    exact ⟨p, u, h1, h2, by rw [upd_ne (fun z => ha (by rw [← z]; exact ⟨j, x, hj, h1⟩))]; exact h3, h4⟩
/-- the outer slots behind the block -/
theorem Go.restored {vs : List Nat} (I : SI kt K S1 H1 σ E1) (I3 : SI kt K S3 H3 (L2.wipe σ vs) E3) (F : Fr S1 H1 (ownA (L2.wipe σ vs) (wipeE E1 vs)) S3 H3 (ownA (L2.wipe σ vs) E3)) (c : ∀ j, CellStep (nth (wipeE E1 vs) j) (nth E3 j)) :
    Go kt K S1 H1 σ E1 S3 H3 σ (restore E1 E3 vs) ∧ ∀ j, CellStep (nth E1 j) (nth (restore E1 E3 vs) j) := by
  have hl : E1.length = E3.length := by rw [← I.len, ← I3.len, wipe_length]
  have hn : ∀ j, nth (restore E1 E3 vs) j = if j ∈ vs then nth E1 j else nth E3 j := fun j => nth_restore hl
  have cc : ∀ j, CellStep (nth E1 j) (nth (restore E1 E3 vs) j) := fun j => by
    rw [hn]
    by_cases hj : j ∈ vs
    · rw [if_pos hj]; exact .refl _
    · rw [if_neg hj]
      have := c j
      rw [nth_wipe, if_neg hj] at this
      exact this
  have nb : ∀ j x p, j ∈ vs → (nth E1 j = .own x ∨ nth E1 j = .bor x) → σ[j]? = some (some (.ref p)) → ¬ ownA (L2.wipe σ vs) (wipeE E1 vs) p := fun j x p hj hx hp z => by
    obtain ⟨k, y, hk, h1, h2⟩ := ownA_wipe z
    exact hk (by rw [I.dis k j y x p h1 hx h2 hp]; exact hj)
  have old : ∀ a, ownA σ (restore E1 E3 vs) a → (∃ j x, j ∈ vs ∧ (nth E1 j = .own x ∨ nth E1 j = .bor x) ∧ σ[j]? = some (some (.ref a))) ∨ ownA (L2.wipe σ vs) E3 a := fun a ⟨j, x, hj, hσ⟩ => by
    rw [hn] at hj
    by_cases h : j ∈ vs
    · rw [if_pos h] at hj; exact .inl ⟨j, x, h, hj, hσ⟩
    · rw [if_neg h] at hj; exact .inr ⟨j, x, hj, by rw [get_wipe h]; exact hσ⟩
  have sub : ∀ a, ownA (L2.wipe σ vs) (wipeE E1 vs) a → ownA σ E1 a := fun a z => by
    obtain ⟨k, y, hk, h1, h2⟩ := ownA_wipe z
    exact ⟨k, y, h1, h2⟩
  have b3 : ∀ j x p, (nth E3 j = .own x ∨ nth E3 j = .bor x) → j ∉ vs → σ[j]? = some (some (.ref p)) → ownA (L2.wipe σ vs) E3 p := fun j x p h1 h2 h3 => ⟨j, x, h1, by rw [get_wipe h2]; exact h3⟩
  refine ⟨⟨⟨I3.ex, by rw [restore_len]; exact I.len.trans hl, fun j x hj => ?_, fun j x hj => ?_, fun j x hj => ?_, fun j k x y q hj hk h1 h2 => ?_⟩, ⟨F.ex, fun a u h1 h2 => F.keep a u h1 fun z => h2 (sub a z), fun a h1 h2 h3 => F.free a h1 h2 fun z => h3 (sub a z), fun a ha => ?_, F.alive⟩, fun j x hj => ⟨rfl, ?_⟩, fun j x hj => ?_, fun j x hj => ⟨?_, rfl⟩, by rw [restore_len]; exact hl.symm⟩, cc⟩
  · rw [hn] at hj
    by_cases h : j ∈ vs
    · rw [if_pos h] at hj
      obtain ⟨w, h1, h2⟩ := I.val j x hj
      exact ⟨w, h1, h2.mono (le_of F.ex)⟩
    · rw [if_neg h] at hj
      obtain ⟨w, h1, h2⟩ := I3.val j x hj
      exact ⟨w, by rw [← get_wipe h]; exact h1, h2⟩
  · rw [hn] at hj
    by_cases h : j ∈ vs
    · rw [if_pos h] at hj
      obtain ⟨w, h1, h2⟩ := I.ro j x hj
      refine ⟨w, h1, ?_⟩
      rcases h2 with h2 | ⟨p, u, rfl, h3, h4, h5⟩
      · exact .inl (h2.mono (le_of F.ex))
      · have na : ¬ ownA (L2.wipe σ vs) (wipeE E1 vs) p := fun z => h5 (sub p z)
        have al : H1 p ≠ none := by rcases h3 with h3 | ⟨⟨y, h3⟩, _⟩ <;> (rw [h3]; exact fun z => nomatch z)
        refine .inr ⟨p, u, rfl, ?_, h4.mono (le_of F.ex), fun z => ?_⟩
        · rcases h3 with h3 | ⟨⟨y, h3⟩, h6⟩
          · exact .inl (F.keep p _ h3 na)
          · exact .inr ⟨⟨y, F.keep p _ h3 na⟩, h6⟩
        · rcases old p z with ⟨k, y, _, hk, hσ⟩ | y
          · exact h5 ⟨k, y, hk, hσ⟩
          · rcases F.own p y with y | y
            · exact na y
            · exact al y
    · rw [if_neg h] at hj
      obtain ⟨w, h1, h2⟩ := I3.ro j x hj
      rw [get_wipe h] at h1
      refine ⟨w, h1, ?_⟩
      have hro : nth E1 j = .ro x := by
        have := c j
        rw [hj, nth_wipe, if_neg h] at this
        exact this.ro_of
      obtain ⟨w', b1, b2⟩ := I.ro j x hro
      rw [h1] at b1; cases b1
      rcases b2 with b2 | ⟨p, u, rfl, h3, h4, h5⟩
      · exact .inl (b2.mono (le_of F.ex))
      · rcases h2 with h2 | ⟨p', u', e1, h6, h7, h8⟩
        · exact .inl h2
        · cases e1
          refine .inr ⟨p, u', rfl, h6, h7, fun z => ?_⟩
          rcases old p z with ⟨k, y, _, hk, hσ⟩ | y
          · exact h5 ⟨k, y, hk, hσ⟩
          · exact h8 y
  · rw [hn] at hj
    by_cases h : j ∈ vs
    · rw [if_pos h] at hj
      obtain ⟨p, u, h1, h2, h3, h4⟩ := I.own j x hj
      exact ⟨p, u, h1, F.free p (by rw [h3]; exact fun z => nomatch z) h2 (nb j x p h hj h1), F.keep p u h3 (nb j x p h hj h1), h4.mono (le_of F.ex)⟩
    · rw [if_neg h] at hj
      obtain ⟨p, u, h1, h2, h3, h4⟩ := I3.own j x hj
      exact ⟨p, u, by rw [← get_wipe h]; exact h1, h2, h3, h4⟩
  · rw [hn] at hj hk
    have al : ∀ m z, m ∈ vs → (nth E1 m = .own z ∨ nth E1 m = .bor z) → σ[m]? = some (some (.ref q)) → ¬ ownA (L2.wipe σ vs) E3 q := fun m z hm hz hq y => by
      rcases F.own q y with y | y
      · exact nb m z q hm hz hq y
      · obtain ⟨p, u, a1, a2, a3, a4⟩ := I.own m z hz
        rw [hq] at a1; cases a1
        rw [y] at a3; cases a3
    by_cases h : j ∈ vs
    · rw [if_pos h] at hj
      by_cases h' : k ∈ vs
      · rw [if_pos h'] at hk; exact I.dis j k x y q hj hk h1 h2
      · rw [if_neg h'] at hk; exact absurd (b3 k y q hk h' h2) (al j x h hj h1)
    · rw [if_neg h] at hj
      by_cases h' : k ∈ vs
      · rw [if_pos h'] at hk; exact absurd (b3 j x q hj h h1) (al k y h' hk h2)
      · rw [if_neg h'] at hk
        exact I3.dis j k x y q hj hk (by rw [get_wipe h]; exact h1) (by rw [get_wipe h']; exact h2)
  · rcases old a ha with ⟨j, x, _, hj, hσ⟩ | z
    · exact .inl ⟨j, x, hj, hσ⟩
    · rcases F.own a z with z | z
      · exact .inl (sub a z)
      · exact .inr z
  · have := cc j
    rw [hj] at this
    exact this
  · have := cc j
    rw [hj] at this
    exact this.bor_of
  · have := cc j
    rw [hj] at this
    exact this.ro_of
theorem restored_lc {vs : List Nat} {Q : R → List Cell → Prop} {Q' : VK} {fin : DFin} {D_ : Addr} {acc : List D} (I0 : SI kt K S H σ E) (pr : Prot kt K S H σ E S1 H1 E1 fin) (hD1 : H1 D_ = none)
    (I3 : SI kt K S3 H3 (L2.wipe σ vs) E3) (F : Fr S1 H1 (ownA (L2.wipe σ vs) (wipeE E1 vs)) S3 H3 (ownA (L2.wipe σ vs) E3)) (c : ∀ j, CellStep (nth (wipeE E1 vs) j) (nth E3 j))
    (hD : RepR kt K S3 H3 (L2.wipe σ vs) E3 (.ref D_) (.fr (.lst acc))) (hf : fin (restore E1 E3 vs) fun E4 => Q (.fr (.lst acc)) E4)
    (k : ∀ S' H' E' v r, Ev kt K S H σ E S' H' E' → RepR kt K S' H' σ E' v r → New H v r → Q r E' → Q' v H') : Q' (.ref D_) H3 := by
  obtain ⟨g, cc⟩ := Go.restored pr.si I3 F c
  obtain ⟨E4, g4, c4, h4⟩ := pr.back _ _ _ _ g _ hf
  have hD0 : H D_ = none := pr.fr.back hD1
  obtain ⟨p, o, e1, a1, a2, a3, a4⟩ := hD
  cases e1
  refine k S3 H3 E4 _ (.fr (.lst acc)) ⟨g4.si, g4.fr, c4 cc⟩ ⟨D_, o, rfl, a1, fun z => ?_, a3, a4⟩ (fun p hp => by cases hp; exact hD0) h4
  obtain ⟨j, x, hj, hσ⟩ := z
  obtain ⟨y, hy⟩ := (c4 cc j).own_of hj
  exact ownA_alive I0 ⟨j, y, hy, hσ⟩ hD0
theorem lc_lk {wi : TI} {ct : CT} {vs : List Nat} (li : LkI kt K wi di) (hct : ∀ j ∈ ct.slots, j ∈ vs) : LkE kt K (tLc wi (gCT K ct) (tOfT kt K dt) (tOfV kt K (dFz de)) vs) (dLc di ct vs dt de) := by
  intro S H σ E Q Q' I h k
  refine li S H σ E _ _ I h fun S1 H1 E1 J items fin pr so h1 => ?_
  intro D_ hD1
  have Ib := pr.si.wipe vs
  have sub : ∀ a, ownA (L2.wipe σ vs) (wipeE E1 vs) a → ownA σ E1 a := fun a z => by
    obtain ⟨j, y, hj, g1, g2⟩ := ownA_wipe z
    exact ⟨j, y, g1, g2⟩
  have cov : (wipeE E1 vs).length = E1.length := wipeE_len _ _
  let Inv3 (i : Nat) (H3 : Hp) : Prop := ∃ S3 E3 acc, SI kt K S3 H3 (L2.wipe σ vs) E3 ∧ Fr S1 H1 (ownA (L2.wipe σ vs) (wipeE E1 vs)) S3 H3 (ownA (L2.wipe σ vs) E3) ∧ (∀ j, CellStep (nth (wipeE E1 vs) j) (nth E3 j)) ∧
    RepR kt K S3 H3 (L2.wipe σ vs) E3 (.ref D_) (.fr (.lst acc)) ∧ lcL ct dt (dFz de) vs (fun acc E2 => fin (restore E1 E2 vs) fun E3 => Q (.fr (.lst acc)) E3) (items.drop i) acc E3
  refine ⟨fun i m H3 => m = items.length - i ∧ i ≤ items.length ∧ Inv3 i H3, ⟨items.length, by simp, Nat.zero_le _, S1, wipeE E1 vs, [], Ib.alloc hD1, Fr.refl.updNew hD1, fun _ => .refl _, ⟨D_, _, rfl, Ib.none hD1, fun z => ownA_alive Ib z hD1, upd_same, [], rfl, .nil⟩, h1⟩, ?_⟩
  rintro i m H3 ⟨rfl, hi', S3, E3, acc, I3, F3, c3, hD3, w3⟩
  have F3' : Fr S1 H1 (ownA σ E1) S3 H3 (ownA (L2.wipe σ vs) E3) := F3.weak sub
  by_cases hlt : i < items.length
  · refine .inr ⟨so.goes S3 H3 _ E3 I3 F3' i hlt, Inv3 (i + 1), fun H' z => ⟨items.length - (i + 1), by omega, rfl, hlt, z⟩, fun x H4 y => ?_⟩
    obtain ⟨S4, dx, hd, e4, r4⟩ := so.yields S3 H3 _ E3 I3 F3' i x H4 hlt y
    have hdrop : items.drop i = dx :: items.drop (i + 1) := by
      rw [List.drop_eq_getElem_cons hlt]
      have : items[i] = dx := by rw [List.getElem?_eq_getElem hlt] at hd; exact Option.some.inj hd
      rw [this]
    rw [hdrop] at w3
    have un3 : ∀ j, j ∈ vs → nth E3 j = .un := fun j hj => by
      have := c3 j
      rw [nth_wipe, if_pos hj] at this
      exact this
    refine gCT_ok (vs := vs) hct e4.si r4 w3 fun σ5 E5 f5 h5 => ⟨f5.wip.trans (wipe_wipe σ vs), ?_⟩
    have same5 : ∀ a, ownA σ5 E5 a → ownA (L2.wipe σ vs) E3 a := fun a ⟨j, y, hj, hσ⟩ => by
      by_cases hm : j ∈ vs
      · rcases f5.ins j hm with z | ⟨z, hz⟩
        · rw [z, un3 j hm] at hj; rcases hj with q | q <;> cases q
        · rw [hz] at hj; rcases hj with q | q <;> cases q
      · rw [(f5.out j hm).2] at hj
        rw [(f5.out j hm).1] at hσ
        exact ⟨j, y, hj, hσ⟩
    have F5 : Fr S1 H1 (ownA (L2.wipe σ vs) (wipeE E1 vs)) S4 H4 (ownA σ5 E5) := (F3.trans e4.fr).less same5
    have hD5 : RepR kt K S4 H4 σ5 E5 (.ref D_) (.fr (.lst acc)) := by
      obtain ⟨p, o, q1, q2, q3, q4, q5⟩ := hD3.step e4
      exact ⟨p, o, q1, q2, fun z => q3 (same5 p z), q4, q5⟩
    refine ⟨S4, E5, _, f5.si, h5, fun S6 H6 E6 b e6 h6 => ?_⟩
    have fin7 : ∀ S7 H7 E7 acc', Ev kt K S4 H4 σ5 E5 S7 H7 E7 → ∀ H8, SI kt K S7 H8 σ5 E7 → (H8 = H7 ∨ ∃ o, H8 = upd H7 D_ o) → RepR kt K S7 H8 σ5 E7 (.ref D_) (.fr (.lst acc')) → lcL ct dt (dFz de) vs (fun acc E2 => fin (restore E1 E2 vs) fun E3 => Q (.fr (.lst acc)) E3) (items.drop (i + 1)) acc' (wipeE E7 vs) → Inv3 (i + 1) H8 := fun S7 H7 E7 acc' e7 H8 I8 hH rD w => by
      have hw : L2.wipe σ5 vs = L2.wipe σ vs := f5.wip.trans (wipe_wipe σ vs)
      have I9 := I8.wipe vs
      rw [hw] at I9
      have less : ∀ a, ownA (L2.wipe σ vs) (wipeE E7 vs) a → ownA σ5 E7 a := fun a ⟨j, y, hj, hσ⟩ => by
        rw [nth_wipe] at hj
        by_cases hm : j ∈ vs
        · rw [if_pos hm] at hj; rcases hj with q | q <;> cases q
        · rw [if_neg hm] at hj
          rw [← hw, get_wipe hm] at hσ
          exact ⟨j, y, hj, hσ⟩
      have F8 : Fr S1 H1 (ownA (L2.wipe σ vs) (wipeE E1 vs)) S7 H8 (ownA (L2.wipe σ vs) (wipeE E7 vs)) := by
        rcases hH with rfl | ⟨o, rfl⟩
        · exact (F5.trans e7.fr).less less
        · exact ((F5.trans e7.fr).less less).updNew hD1
      refine ⟨S7, wipeE E7 vs, acc', I9, F8, fun j => ?_, ?_, w⟩
      · rw [nth_wipe, nth_wipe]
        by_cases hm : j ∈ vs
        · rw [if_pos hm, if_pos hm]; exact .refl _
        · rw [if_neg hm, if_neg hm]
          have q1 := c3 j
          rw [nth_wipe, if_neg hm] at q1
          have q2 := e7.cells j
          rw [(f5.out j hm).2] at q2
          exact q1.trans q2
      · obtain ⟨p, o, q1, q2, q3, q4, q5⟩ := rD
        exact ⟨p, o, q1, q2, fun z => q3 (less p z), q4, q5⟩
    cases b with
    | false =>
      rw [if_neg Bool.false_ne_true] at h6
      dsimp only
      rw [if_neg Bool.false_ne_true]
      exact fin7 S6 H6 E6 acc e6 H6 e6.si (.inl rfl) (hD5.step e6) h6
    | true =>
      rw [if_pos rfl] at h6
      dsimp only
      rw [if_pos rfl]
      refine ⟨S6, E6, _, e6.si, h6, fun S7 H7 E7 yv yd e7 ry h7 => ?_⟩
      have e67 := e6.trans e7
      obtain ⟨p, o, q1, q2, q3, q4, q5⟩ := hD5.step e67
      cases q1
      obtain ⟨accv, rfl, ra⟩ := q5
      refine ⟨accv, q4, by rw [ra.length]; exact h7.1, ?_⟩
      have I8 : SI kt K S7 (upd H7 D_ (.lst (accv ++ [yv]))) σ5 E7 := e67.si.updT q2 q3 fun j x w hj hσ hw => by
        subst hw
        have hjm : j ∉ vs := fun hm => by
          have := e67.cells j
          rw [hj] at this
          have z := this.ro_of
          rcases f5.ins j hm with z' | ⟨y, z'⟩
          · rw [z', un3 j hm] at z; cases z
          · rw [z'] at z; cases z
        have h5' : nth E5 j = .ro x := by have := e67.cells j; rw [hj] at this; exact this.ro_of
        rw [(f5.out j hjm).2] at h5'
        have hb : nth (wipeE E1 vs) j = .ro x := by have := c3 j; rw [h5'] at this; exact this.ro_of
        rw [(f5.out j hjm).1] at hσ
        obtain ⟨w, b1, b2⟩ := Ib.ro j x hb
        rw [hσ] at b1; cases b1
        rcases b2 with b2 | ⟨p, u, e1, b3, _, _⟩
        · exact b2.mono (le_of ((F5.ex).trans e67.fr.ex))
        · cases e1
          rcases b3 with b3 | ⟨⟨_, b3⟩, _⟩ <;> (rw [hD1] at b3; cases b3)
      exact fin7 S7 H7 E7 (acc ++ [yd]) e67 _ I8 (.inr ⟨_, rfl⟩) ⟨D_, _, rfl, q2, q3, upd_same, accv ++ [yv], rfl, ra.append (.cons ry .nil)⟩ h7.2
  · have ei : i = items.length := by omega
    subst ei
    rw [List.drop_length] at w3
    exact .inl ⟨so.stops S3 H3 _ E3 I3 F3', restored_lc I pr hD1 I3 F3 c3 hD3 w3 k⟩
theorem se_lc {elt : Expr} {ifs : List Expr} {scope : Scope} {own : List (Str × Nat)} {ct : CT} (hc : X.calm = true) (hN : X.N.Nodup) (hi : SI_ X kt tg iter di) (ok : BlkOk X.N X.env.scope scope own) (hct : ∀ j ∈ ct.slots, j ∈ own.map (·.2))
    (hg : ∀ (s : Shared) (H : Hp) (C : Addr) (cl : List (Str × Addr)) (fp : List Addr), PG (X.blk s H scope (compEnvC scope cl C X.env) fp) tg (gCT X.K ct)) (ht : ∀ (s : Shared) (H : Hp) (C : Addr) (cl : List (Str × Addr)) (fp : List Addr), STs (X.blk s H scope (compEnvC scope cl C X.env) fp) kt ifs dt)
    (he : ∀ (s : Shared) (H : Hp) (C : Addr) (cl : List (Str × Addr)) (fp : List Addr), SE (X.blk s H scope (compEnvC scope cl C X.env) fp) kt elt de) (hs : ∀ x, foldedSetIterable iter X.env x = pure x := by intro _; rfl) :
    SE X kt (.ListComp elt [⟨tg, iter, ifs, 0⟩] scope pos) (dLc di ct (own.map (·.2)) dt de) := by
  obtain ⟨wi, pi, li⟩ := hi.ex
  exact ⟨_, pe_lc (tt := tOfT kt X.K dt) (te := tOfV kt X.K (dFz de)) hc hN pi ok hg (fun s H C cl fp => (ht s H C cl fp).canon) (fun s H C cl fp => (fz (he s H C cl fp)).canon) hs, lc_lk li hct⟩
/-- name = [..], the name a local -/
theorem ss_setLc (i : Nat) {y : Str} {py spos : Pos} {elt : Expr} {ifs : List Expr} {scope : Scope} {own : List (Str × Nat)} {ct : CT} {g : DG} (hc : X.calm = true) (hN : X.N.Nodup) (hy : X.N[i]? = some y) (hyl : X.env.scope.names.lookup y = some .local) (hgd : LkG kt X.K (gName i) g)
    (hsw : swapsWith (.ListComp elt [⟨tg, iter, ifs, 0⟩] scope pos) (some (.Name y py)) spos.line X.env = pure true) (hi : SI_ X kt tg iter di) (ok : BlkOk X.N X.env.scope scope own) (hct : ∀ j ∈ ct.slots, j ∈ own.map (·.2))
    (hg : ∀ (s : Shared) (H : Hp) (C : Addr) (cl : List (Str × Addr)) (fp : List Addr), PG (X.blk s H scope (compEnvC scope cl C X.env) fp) tg (gCT X.K ct)) (ht : ∀ (s : Shared) (H : Hp) (C : Addr) (cl : List (Str × Addr)) (fp : List Addr), STs (X.blk s H scope (compEnvC scope cl C X.env) fp) kt ifs dt)
    (he : ∀ (s : Shared) (H : Hp) (C : Addr) (cl : List (Str × Addr)) (fp : List Addr), SE (X.blk s H scope (compEnvC scope cl C X.env) fp) kt elt de) (hs : ∀ x, foldedSetIterable iter X.env x = pure x := by intro _; rfl) :
    SS X kt (.Assign [.Name y py] (.ListComp elt [⟨tg, iter, ifs, 0⟩] scope pos) spos) (sAsg (dLc di ct (own.map (·.2)) dt de) g) := by
  obtain ⟨wi, pi, li⟩ := hi.ex
  refine ⟨_, ps_setLc (tt := tOfT kt X.K dt) (te := tOfV kt X.K (dFz de)) hc hN hy hyl hsw pi ok hg (fun s H C cl fp => (ht s H C cl fp).canon) (fun s H C cl fp => (fz (he s H C cl fp)).canon) hs, fun S H σ E DD D I h e => ?_⟩
  exact lc_lk li hct S H σ E _ _ I h fun S1 H1 E1 v r e1 q n h1 => hgd S H σ E S1 H1 σ E1 v r _ _ I (e1.go I) q n h1 fun S2 H2 σ2 E2 g2 _ h2 => e.nx S2 H2 σ2 E2 g2 h2
end
end BD
set_option Elab.async false
set_option linter.all false
set_option maxRecDepth 100000
set_option maxHeartbeats 2000000
/-! BD: defs, their promises on data, and calls of them. -/
namespace BD
open PySem PySem.Spec PyProof.Rows L2
/-- a def on data: the slots it is handed, what is wanted of the answer and of the lent container behind it -/
abbrev DF := List Cell → (R → Option D → Prop) → Prop
def borOf : List Cell → Option D
  | [] => none
  | .bor d :: _ => some d
  | _ :: r => borOf r
structure ArgsFit (cs : List Cell) : Prop where
  one : ∀ i j d e, nth cs i = .bor d → nth cs j = .bor e → i = j
  noOwn : ∀ i d, nth cs i ≠ .own d
section
variable (kt : Bool) (K : PySem.W.Frag)
structure FnPost (S H : Hp) (vs : List V) (cs : List Cell) (S' H' : Hp) (v : V) (r : R) (b : Option D) : Prop where
  ex : Same S' H'
  fr : Fr S H (ownA (vs.map some) cs) S' H' (ownA (vs.map some) cs)
  bor : ∀ i d, nth cs i = .bor d → ∃ p o d', vs[i]? = some (.ref p) ∧ b = some d' ∧ S' p = none ∧ H' p = some o ∧ Own kt K S' o d'
  ret : match r with | .val d => Rp kt K S' v d | .fr d => ∃ p o, v = .ref p ∧ S' p = none ∧ H p = none ∧ H' p = some o ∧ Own kt K S' o d | .cell _ => False
/-- the promise of a def by its work on data -/
def spD (F : DF) : Sp := fun vs H Q _ => ∃ S cs post, SI kt K S H (vs.map some) cs ∧ ArgsFit cs ∧ F cs post ∧ ∀ S' H' v r b, FnPost kt K S H vs cs S' H' v r b → post r b → Q v H'
end
theorem nth_app {cs : List Cell} {n i : Nat} : nth (cs ++ List.replicate n .un) i = nth cs i := by
  induction cs generalizing i with
  | nil =>
    rw [List.nil_append]
    induction n generalizing i with
    | zero => rfl
    | succ n ih =>
      rw [List.replicate_succ]
      cases i with
      | zero => rfl
      | succ i => exact ih
  | cons c r ih =>
    cases i with
    | zero => rfl
    | succ i => exact ih
theorem borOf_eq {E : List Cell} {i : Nat} {d : D} (h : nth E i = .bor d) (u : ∀ j e, nth E j = .bor e → j = i) : borOf E = some d := by
  induction E generalizing i with
  | nil => cases h
  | cons c r ih =>
    cases i with
    | zero =>
      cases (show c = .bor d from h)
      rfl
    | succ i =>
      have hc : ∀ e, c ≠ .bor e := fun e z => by
        have := u 0 e z
        cases this
      have := ih (i := i) h fun j e z => Nat.succ.inj (u (j + 1) e z)
      cases c with
      | bor e => exact absurd rfl (hc e)
      | _ => exact this
section
variable {kt : Bool} {P : Program} {w : World} {K : PySem.W.Frag} {mg : Str → Option Value} {base : Heap}
/-- THE RULE for a def -/
theorem fn_ok {x qual : Str} {st : Stmt} {f : Addr} {fd : FuncData} {N ps : List Str} {k : Nat} {FD : DF} (F : Fun K x qual st f fd) (Sc : FnScope N ps (defScope st)) (len : ∀ cs post, FD cs post → cs.length = ps.length)
    (hbody : ∀ (cdv : Value) (A : Around) (outer : List Env) (s : Shared) (H : Hp) (E : XK), Room k (A.deeper (envOfC qual (defScope st) s.heap.objs.size f cdv)) →
      ∃ d, SSs (cxOf CX0 P w K mg base N qual (defScope st) f cdv A outer s H E).nox kt (defBody st) d ∧ ∀ cs post, FD cs post → d { nx := fun E' => post (.val .non) (borOf E'), rt := fun r E' => post r (borOf E') } (cs ++ List.replicate (N.length - ps.length) .un)) :
    FnOk P w K mg base CX0 (k + 1) f fd ps (spD kt K FD) := by
  have vlen : ∀ vs H Q E, spD kt K FD vs H Q E → vs.length = ps.length := fun vs H Q E h => by
    obtain ⟨S, cs, post, I, _, hF, _⟩ := h
    have := I.len
    rw [List.length_map] at this
    exact this.trans (len cs post hF)
  refine F.ok Sc vlen fun cdv A outer s H vs Q E hr hsp => ?_
  have hvl := vlen vs H Q E hsp
  obtain ⟨S, cs, post, I, fit, hF, hQ⟩ := hsp
  obtain ⟨d, hd, hq⟩ := hbody cdv A outer s H E hr
  obtain ⟨t, p, l⟩ := hd.ex
  have hcl : cs.length = ps.length := len cs post hF
  have hst : ∀ i, nth cs i ≠ .un → (start N vs)[i]? = (vs.map some)[i]? := fun i hi => by
    have h1 : i < cs.length := nth_in hi
    unfold L2.start
    rw [List.getElem?_append_left (by rw [List.length_map, hvl, ← hcl]; exact h1)]
  have sub : ∀ a, ownA (start N vs) (cs ++ List.replicate (N.length - ps.length) .un) a → ownA (vs.map some) cs a := fun a ⟨j, y, hj, hσ⟩ => by
    rw [nth_app] at hj
    rw [hst j (fun z => by rw [z] at hj; rcases hj with q | q <;> cases q)] at hσ
    exact ⟨j, y, hj, hσ⟩
  have sub' : ∀ a, ownA (vs.map some) cs a → ownA (start N vs) (cs ++ List.replicate (N.length - ps.length) .un) a := fun a ⟨j, y, hj, hσ⟩ =>
    ⟨j, y, by rw [nth_app]; exact hj, by rw [hst j (fun z => by rw [z] at hj; rcases hj with q | q <;> cases q)]; exact hσ⟩
  have hN : ps.length ≤ N.length := by
    have := Sc.pre
    rw [← this, List.length_take]
    exact Nat.min_le_right _ _
  have I0 : SI kt K S H (start N vs) (cs ++ List.replicate (N.length - ps.length) .un) := by
    refine ⟨I.ex, ?_, fun i x hi => ?_, fun i x hi => ?_, fun i x hi => ?_, fun i j x y q hi hj h1 h2 => ?_⟩
    · unfold L2.start
      rw [List.length_append, List.length_append, List.length_map, List.length_replicate, List.length_replicate]
      omega
    · rw [nth_app] at hi
      rw [hst i (by rw [hi]; exact fun z => nomatch z)]
      exact I.val i x hi
    · rw [nth_app] at hi
      rw [hst i (by rw [hi]; exact fun z => nomatch z)]
      obtain ⟨u, h1, h2⟩ := I.ro i x hi
      exact ⟨u, h1, h2.mono .refl (fun _ _ h _ => h) (fun p _ _ z => sub p z)⟩
    · rw [nth_app] at hi
      rw [hst i (fun z => by rw [z] at hi; rcases hi with q | q <;> cases q)]
      exact I.own i x hi
    · rw [nth_app] at hi hj
      rw [hst i (fun z => by rw [z] at hi; rcases hi with q | q <;> cases q)] at h1
      rw [hst j (fun z => by rw [z] at hj; rcases hj with q | q <;> cases q)] at h2
      exact I.dis i j x y q hi hj h1 h2
  have endp : ∀ S' H' σ' E' v r, Go kt K S H (start N vs) (cs ++ List.replicate (N.length - ps.length) .un) S' H' σ' E' → RetR kt K H (start N vs) (cs ++ List.replicate (N.length - ps.length) .un) S' H' v r → post r (borOf E') → Q v H' := fun S' H' σ' E' v r g rr hp => by
    refine hQ S' H' v r (borOf E') ⟨g.si.ex, ⟨g.fr.ex, fun a u h1 h2 => g.fr.keep a u h1 fun z => h2 (sub a z), fun a h1 h2 h3 => g.fr.free a h1 h2 fun z => h3 (sub a z), fun a h => .inl h, g.fr.alive⟩, fun i x hi => ?_, ?_⟩ hp
    · obtain ⟨h1, d', h2⟩ := g.bor i x (by rw [nth_app]; exact hi)
      obtain ⟨p, o, a1, a2, a3, a4⟩ := g.si.own i d' (.inr h2)
      refine ⟨p, o, d', ?_, borOf_eq h2 fun j e hj => ?_, a2, a3, a4⟩
      · rw [h1, hst i (by rw [hi]; exact fun z => nomatch z), List.getElem?_map] at a1
        cases q : vs[i]? with
        | none => rw [q] at a1; cases a1
        | some u => rw [q] at a1; cases a1; rfl
      · obtain ⟨e', he⟩ := g.borb j e hj
        rw [nth_app] at he
        exact fit.one j i e' x he hi
    · cases r with
      | val x => exact rr
      | cell i => exact rr
      | fr x =>
        obtain ⟨p, o, a1, a2, a3, a4, a5⟩ := rr
        refine ⟨p, o, a1, a2, ?_, a4, a5⟩
        rcases a3 with ⟨j, y, hj, _⟩ | z
        · rw [nth_app] at hj
          exact absurd hj (fit.noOwn j y)
        · exact z
  refine ⟨t, p, l S H (start N vs) _ _ _ I0 (hq cs post hF) ⟨fun S' H' σ' E' g hn => ?_, fun S' H' σ' E' g hn => hn, fun S' H' σ' E' g hn => hn, fun S' H' σ' E' v r g rr hn => ?_⟩⟩
  · exact endp S' H' σ' E' .non (.val .non) g .non hn
  · exact endp S' H' σ' E' v r g rr hn
end
/-! ### calls -/
def cellRo (E : List Cell) (s : Option Nat) (r : R) (k : Cell → Prop) : Prop := match r with
  | .val d => k (.val d)
  | .fr d => k (.ro d)
  | .cell i => s ≠ some i ∧ match nth E i with
    | .un => False
    | .val d => k (.val d)
    | .ro d => k (.ro d)
    | .own d => k (.ro d)
    | .bor d => k (.ro d)
def cellsOf (E : List Cell) (s : Option Nat) : Option Nat → List R → (List Cell → Prop) → Prop
  | none, [], k => k []
  | some _, [], _ => False
  | none, r :: rs, k => cellRo E s r fun c => cellsOf E s none rs fun cs => k (c :: cs)
  | some (n + 1), r :: rs, k => cellRo E s r fun c => cellsOf E s (some n) rs fun cs => k (c :: cs)
  | some 0, r :: rs, k => match r with
    | .cell i => s = some i ∧ match nth E i with
      | .own d => cellsOf E s none rs fun cs => k (.bor d :: cs)
      | .bor d => cellsOf E s none rs fun cs => k (.bor d :: cs)
      | _ => False
    | _ => False
def upB (E : List Cell) (i : Nat) (d : D) : List Cell := match nth E i with
  | .bor _ => put E i (.bor d)
  | _ => put E i (.own d)
/-- f(..); b: the parameter that is lent, and its slot here -/
def dCallF (F : DF) (b : Option (Nat × Nat)) (dr : DR) : DE := fun E Q => dr E fun rs E1 => cellsOf E1 (b.map (·.2)) (b.map (·.1)) rs fun cs => F cs fun r o => match b with
  | none => Q r E1
  | some (_, i) => match o with
    | some d => Q r (upB E1 i d)
    | none => False
section
variable (kt : Bool) (K : PySem.W.Frag)
def ArgOk (S H : Hp) (B : Addr → Prop) (v : V) : Cell → Prop
  | .val d => Rp kt K S v d
  | .ro d => RoV kt K S H B v d
  | .bor d => ∃ p o, v = .ref p ∧ B p ∧ S p = none ∧ H p = some o ∧ Own kt K S o d
  | _ => False
inductive Args (S H : Hp) (B : Addr → Prop) : List V → List Cell → Prop
  | nil : Args S H B [] []
  | cons {v : V} {vs : List V} {c : Cell} {cs : List Cell} : ArgOk kt K S H B v c → Args S H B vs cs → Args S H B (v :: vs) (c :: cs)
end
section
variable {kt : Bool} {K : PySem.W.Frag} {S H S' H' : Hp} {B : Addr → Prop} {σ : L2.St} {E : List Cell} {v : V} {vs : List V} {r : R} {rs : List R} {s : Option Nat}
/-- the lent address -/
def lent (σ : L2.St) (E : List Cell) (s : Option Nat) (a : Addr) : Prop := ∃ i d, s = some i ∧ (nth E i = .own d ∨ nth E i = .bor d) ∧ σ[i]? = some (some (.ref a))
theorem lent.own {a : Addr} (h : lent σ E s a) : ownA σ E a := let ⟨i, d, _, h1, h2⟩ := h; ⟨i, d, h1, h2⟩
theorem cellRo_ok {k : Cell → Prop} (I : SI kt K S H σ E) (q : RepR kt K S H σ E v r) (h : cellRo E s r k) : ∃ c, ArgOk kt K S H (lent σ E s) v c ∧ (∀ d, c ≠ .bor d) ∧ (∀ d, c ≠ .own d) ∧ k c := by
  cases r with
  | val d => exact ⟨.val d, q, (fun _ z => nomatch z), (fun _ z => nomatch z), h⟩
  | fr d =>
    obtain ⟨p, o, a1, a2, a3, a4, a5⟩ := q
    exact ⟨.ro d, .inr ⟨p, o, a1, .inl a4, a5, fun z => a3 z.own⟩, (fun _ z => nomatch z), (fun _ z => nomatch z), h⟩
  | cell i =>
    obtain ⟨q1, q2⟩ := q
    obtain ⟨h1, h2⟩ := h
    have own : ∀ d, (nth E i = .own d ∨ nth E i = .bor d) → k (.ro d) → ∃ c, ArgOk kt K S H (lent σ E s) v c ∧ (∀ d, c ≠ .bor d) ∧ (∀ d, c ≠ .own d) ∧ k c := fun d hi hk => by
      obtain ⟨p, o, a1, a2, a3, a4⟩ := I.own i d hi
      have a1' := a1
      rw [q1] at a1; cases a1
      refine ⟨.ro d, .inr ⟨p, o, rfl, .inl a3, a4, fun z => ?_⟩, (fun _ z => nomatch z), (fun _ z => nomatch z), hk⟩
      obtain ⟨j, x, b1, b2, b3⟩ := z
      exact h1 (by rw [b1, I.dis j i x d p b2 hi b3 a1'])
    cases z : nth E i with
    | un => exact absurd z q2
    | val d =>
      rw [z] at h2
      obtain ⟨u, a1, a2⟩ := I.val i d z
      rw [q1] at a1; cases a1
      exact ⟨.val d, a2, (fun _ z => nomatch z), (fun _ z => nomatch z), h2⟩
    | ro d =>
      rw [z] at h2
      obtain ⟨u, a1, a2⟩ := I.ro i d z
      rw [q1] at a1; cases a1
      exact ⟨.ro d, a2.mono .refl (fun _ _ h _ => h) (fun p _ _ z => z.own), (fun _ z => nomatch z), (fun _ z => nomatch z), h2⟩
    | own d => rw [z] at h2; exact own d (.inl z) h2
    | bor d => rw [z] at h2; exact own d (.inr z) h2
theorem cellsN_ok (I : SI kt K S H σ E) : ∀ {vs : List V} {rs : List R} {k : List Cell → Prop}, RepRs kt K S H σ E vs rs → cellsOf E s none rs k → ∃ cs, Args kt K S H (lent σ E s) vs cs ∧ (∀ i d, nth cs i ≠ .bor d) ∧ (∀ i d, nth cs i ≠ .own d) ∧ k cs
  | _, _, _, .nil, h => ⟨[], .nil, (fun _ _ z => nomatch z), (fun _ _ z => nomatch z), h⟩
  | _, _, _, .cons q t, h => by
    obtain ⟨c, a, n1, n2, h1⟩ := cellRo_ok I q h
    obtain ⟨cs, as, m1, m2, h2⟩ := cellsN_ok I t h1
    refine ⟨c :: cs, .cons a as, fun i d => ?_, fun i d => ?_, h2⟩
    · cases i with
      | zero => exact n1 d
      | succ i => exact m1 i d
    · cases i with
      | zero => exact n2 d
      | succ i => exact m2 i d
theorem cells_ok (I : SI kt K S H σ E) : ∀ {j : Option Nat} {vs : List V} {rs : List R} {k : List Cell → Prop}, RepRs kt K S H σ E vs rs → cellsOf E s j rs k →
    ∃ cs, Args kt K S H (lent σ E s) vs cs ∧ ArgsFit cs ∧ ((j = none ∧ ∀ i d, nth cs i ≠ .bor d) ∨ ∃ i n d x p, s = some i ∧ (nth E i = .own x ∨ nth E i = .bor x) ∧ σ[i]? = some (some (.ref p)) ∧ nth cs n = .bor d ∧ vs[n]? = some (.ref p)) ∧ k cs
  | none, _, _, _, q, h => by
    obtain ⟨cs, as, m1, m2, h2⟩ := cellsN_ok I q h
    exact ⟨cs, as, ⟨fun i j d e z => absurd z (m1 i d), m2⟩, .inl ⟨rfl, m1⟩, h2⟩
  | some _, _, _, _, .nil, h => h.elim
  | some (n + 1), _, _, _, .cons q t, h => by
    obtain ⟨c, a, n1, n2, h1⟩ := cellRo_ok I q h
    obtain ⟨cs, as, fit, ex, h2⟩ := cells_ok I t h1
    refine ⟨c :: cs, .cons a as, ⟨fun i j d e hi hj => ?_, fun i d => ?_⟩, ?_, h2⟩
    · cases i with
      | zero => exact absurd hi (n1 d)
      | succ i => cases j with
        | zero => exact absurd hj (n1 e)
        | succ j => exact congrArg (· + 1) (fit.one i j d e hi hj)
    · cases i with
      | zero => exact n2 d
      | succ i => exact fit.noOwn i d
    · rcases ex with ⟨z, _⟩ | ⟨i, m, d, x, p, a1, a2, a3, a4, a5⟩
      · cases z
      · exact .inr ⟨i, m + 1, d, x, p, a1, a2, a3, a4, a5⟩
  | some 0, _, r :: rs, k, .cons q t, h => by
    rename_i v vs
    cases r with
    | val d => exact h.elim
    | fr d => exact h.elim
    | cell i =>
      have h' : s = some i ∧ (match nth E i with | .own d => cellsOf E s none rs fun cs => k (.bor d :: cs) | .bor d => cellsOf E s none rs fun cs => k (.bor d :: cs) | _ => False) := h
      obtain ⟨h1, h2⟩ := h'
      have main : ∀ d, (nth E i = .own d ∨ nth E i = .bor d) → (cellsOf E s none rs fun cs => k (.bor d :: cs)) →
          ∃ cs, Args kt K S H (lent σ E s) (v :: vs) cs ∧ ArgsFit cs ∧ ((some 0 = none ∧ ∀ i d, nth cs i ≠ .bor d) ∨ ∃ i n d x p, s = some i ∧ (nth E i = .own x ∨ nth E i = .bor x) ∧ σ[i]? = some (some (.ref p)) ∧ nth cs n = .bor d ∧ (v :: vs)[n]? = some (.ref p)) ∧ k cs := fun d hi hk => by
        obtain ⟨p, o, a1, a2, a3, a4⟩ := I.own i d hi
        have a1' := a1
        rw [q.1] at a1; cases a1
        obtain ⟨cs, as, m1, m2, h3⟩ := cellsN_ok I t hk
        refine ⟨.bor d :: cs, .cons ⟨p, o, rfl, ⟨i, d, h1, hi, a1'⟩, a2, a3, a4⟩ as, ⟨fun a b x y ha hb => ?_, fun a x => ?_⟩, .inr ⟨i, 0, d, d, p, h1, hi, a1', rfl, rfl⟩, h3⟩
        · cases a with
          | zero => cases b with
            | zero => rfl
            | succ b => exact absurd hb (m1 b y)
          | succ a => exact absurd ha (m1 a x)
        · cases a with
          | zero => exact fun z => nomatch z
          | succ a => exact m2 a x
      cases z : nth E i with
      | own d => rw [z] at h2; exact main d (.inl z) h2
      | bor d => rw [z] at h2; exact main d (.inr z) h2
      | un => rw [z] at h2; exact h2.elim
      | val d => rw [z] at h2; exact h2.elim
      | ro d => rw [z] at h2; exact h2.elim
theorem Args.get : ∀ {vs : List V} {cs : List Cell} {i : Nat}, Args kt K S H B vs cs → nth cs i ≠ .un → ∃ v, vs[i]? = some v ∧ ArgOk kt K S H B v (nth cs i)
  | _, _, _, .nil, h => absurd rfl h
  | _, _, 0, .cons a _, _ => ⟨_, rfl, a⟩
  | _, _, i + 1, .cons _ t, h => Args.get (i := i) t h
theorem Args.len : ∀ {vs : List V} {cs : List Cell}, Args kt K S H B vs cs → vs.length = cs.length
  | _, _, .nil => rfl
  | _, _, .cons _ t => congrArg (· + 1) (Args.len t)
theorem Args.si {cs : List Cell} (e : Same S H) (a : Args kt K S H B vs cs) (fit : ArgsFit cs) : SI kt K S H (vs.map some) cs ∧ ∀ p, ownA (vs.map some) cs p → B p := by
  have g : ∀ i, nth cs i ≠ .un → ∃ v, (vs.map some)[i]? = some (some v) ∧ ArgOk kt K S H B v (nth cs i) := fun i hi => by
    obtain ⟨v, h1, h2⟩ := a.get hi
    exact ⟨v, by rw [List.getElem?_map, h1]; rfl, h2⟩
  have sub : ∀ p, ownA (vs.map some) cs p → B p := fun p ⟨j, x, hj, hσ⟩ => by
    rcases hj with hj | hj
    · exact absurd hj (fit.noOwn j x)
    · obtain ⟨v, h1, h2⟩ := g j (by rw [hj]; exact fun z => nomatch z)
      rw [hj] at h2
      obtain ⟨q, o, rfl, b1, _⟩ := h2
      rw [h1] at hσ; cases hσ
      exact b1
  refine ⟨⟨e, by rw [List.length_map]; exact a.len, fun i x hi => ?_, fun i x hi => ?_, fun i x hi => ?_, fun i j x y q hi hj h1 h2 => ?_⟩, sub⟩
  · obtain ⟨v, h1, h2⟩ := g i (by rw [hi]; exact fun z => nomatch z)
    rw [hi] at h2
    exact ⟨v, h1, h2⟩
  · obtain ⟨v, h1, h2⟩ := g i (by rw [hi]; exact fun z => nomatch z)
    rw [hi] at h2
    exact ⟨v, h1, RoV.mono .refl (fun _ _ h _ => h) (fun p _ _ z => sub p z) h2⟩
  · rcases hi with hi | hi
    · exact absurd hi (fit.noOwn i x)
    · obtain ⟨v, h1, h2⟩ := g i (by rw [hi]; exact fun z => nomatch z)
      rw [hi] at h2
      obtain ⟨p, o, rfl, b1, b2, b3, b4⟩ := h2
      exact ⟨p, o, h1, b2, b3, b4⟩
  · rcases hi with hi | hi
    · exact absurd hi (fit.noOwn i x)
    · rcases hj with hj | hj
      · exact absurd hj (fit.noOwn j y)
      · exact fit.one i j x y hi hj
end
section
variable {X : Cx} {kt : Bool} {f : Addr} {fd : FuncData} {ps : List Str} {k : Nat} {FD : DF} {x : Str} {p pos : Pos} {e : Expr} {es : List Expr} {dr : DR}
theorem se_call (b : Option (Nat × Nat)) (F : FnOk X.prog X.w X.K X.mg X.base CX0 k f fd ps (spD kt X.K FD)) (hr : Room k X.A) (hg : Gl X x) (hm : X.mg x = some (.ref f)) (hk : PySem.W.keepIn X.K (.ref f) = true) (hb : Binds X.K fd ps []) (ha : SR X kt (e :: es) dr)
    (hdb : (x == ("__debug__" : Str)) = false := by decide) (he : starEach (e :: es) X.env = (false, eval e X.env) :: starEach es X.env := by rfl) (hpl : (backTo pos (starEach es X.env)).any (·.1) = false := by rfl) :
    SE X kt (.Call (.Name x p) (e :: es) [] pos) (dCallF FD b dr) := by
  obtain ⟨t, q, l⟩ := ha.ex
  refine ⟨_, pe_call F hr hg hm hk hb .nil pass0 q hdb he hpl, fun S H σ E Q Q' I h kk => l S H σ E _ _ I h fun S1 H1 E1 vs rs e1 qs ns h1 => ?_⟩
  obtain ⟨cs, as, fit, ex, h2⟩ := cells_ok e1.si qs h1
  obtain ⟨Ic, sub⟩ := as.si e1.si.ex fit
  show spD kt X.K FD (vs ++ []) H1 Q' E0
  rw [List.append_nil]
  refine ⟨S1, cs, _, Ic, fit, h2, fun S2 H2 v r o po h3 => ?_⟩
  have I1 := e1.si
  have subA : ∀ a, ownA (vs.map some) cs a → ownA σ E1 a := fun a z => (sub a z).own
  have F2 : Fr S1 H1 (ownA σ E1) S2 H2 (ownA σ E1) := ⟨po.fr.ex, fun a u h1 h2 => po.fr.keep a u h1 fun z => h2 (subA a z), fun a h1 h2 h3 => po.fr.free a h1 h2 fun z => h3 (subA a z), fun a z => .inl z, po.fr.alive⟩
  -- the slots behind the call, where the lent one has its new container
  have fin : ∀ E2, (∀ j, (nth E2 j = nth E1 j ∧ ∀ d, (nth E1 j = .own d ∨ nth E1 j = .bor d) → ∀ q, σ[j]? = some (some (.ref q)) → ¬ ownA (vs.map some) cs q) ∨
      ∃ d d' q o', (nth E1 j = .own d ∧ nth E2 j = .own d' ∨ nth E1 j = .bor d ∧ nth E2 j = .bor d') ∧ σ[j]? = some (some (.ref q)) ∧ S2 q = none ∧ H2 q = some o' ∧ Own kt X.K S2 o' d') → E2.length = E1.length → Ev kt X.K S H σ E S2 H2 E2 := fun E2 hE hl => by
    have kind : ∀ j y, (nth E2 j = .own y ∨ nth E2 j = .bor y) → ∃ z, nth E1 j = .own z ∨ nth E1 j = .bor z := fun j y hj => by
      rcases hE j with ⟨h, _⟩ | ⟨d, d', q, o', h, _⟩
      · rw [h] at hj; exact ⟨y, hj⟩
      · rcases h with ⟨h, _⟩ | ⟨h, _⟩
        · exact ⟨d, .inl h⟩
        · exact ⟨d, .inr h⟩
    have less : ∀ a, ownA σ E2 a → ownA σ E1 a := fun a ⟨j, y, hj, hσ⟩ => let ⟨z, hz⟩ := kind j y hj; ⟨j, z, hz, hσ⟩
    have cells : ∀ j, CellStep (nth E1 j) (nth E2 j) := fun j => by
      rcases hE j with ⟨h, _⟩ | ⟨d, d', q, o', h, _⟩
      · rw [h]; exact .refl _
      · rcases h with ⟨h, h'⟩ | ⟨h, h'⟩
        · rw [h, h']; exact .inl ⟨d', rfl⟩
        · rw [h, h']; exact ⟨d', rfl⟩
    refine ⟨⟨po.ex, by rw [hl]; exact I1.len, fun j y hj => ?_, fun j y hj => ?_, fun j y hj => ?_, fun i j y z q hi hj h1 h2 => ?_⟩, (e1.fr.trans F2).less less, fun j => (e1.cells j).trans (cells j)⟩
    · rcases hE j with ⟨h, _⟩ | ⟨d, d', q, o', h, _⟩
      · rw [h] at hj
        obtain ⟨u, a1, a2⟩ := I1.val j y hj
        exact ⟨u, a1, a2.mono (le_of po.fr.ex)⟩
      · rcases h with ⟨_, h⟩ | ⟨_, h⟩ <;> (rw [h] at hj; cases hj)
    · rcases hE j with ⟨h, _⟩ | ⟨d, d', q, o', h, _⟩
      · rw [h] at hj
        obtain ⟨u, a1, a2⟩ := I1.ro j y hj
        refine ⟨u, a1, a2.mono (le_of po.fr.ex) (fun q u hq hn => ?_) (fun q _ _ z => less q z)⟩
        have na : ¬ ownA (vs.map some) cs q := fun z => hn (subA q z)
        rcases hq with hq | ⟨⟨w, hq⟩, hz⟩
        · exact .inl (po.fr.keep q u hq na)
        · exact .inr ⟨⟨w, po.fr.keep q _ hq na⟩, hz⟩
      · rcases h with ⟨_, h⟩ | ⟨_, h⟩ <;> (rw [h] at hj; cases hj)
    · rcases hE j with ⟨h, hn⟩ | ⟨d, d', q, o', h, g1, g2, g3, g4⟩
      · rw [h] at hj
        obtain ⟨q, u, a1, a2, a3, a4⟩ := I1.own j y hj
        have na := hn y hj q a1
        exact ⟨q, u, a1, po.fr.free q (by rw [a3]; exact fun z => nomatch z) a2 na, po.fr.keep q u a3 na, a4.mono (le_of po.fr.ex)⟩
      · have : y = d' := by rcases h with ⟨_, h⟩ | ⟨_, h⟩ <;> (rw [h] at hj; rcases hj with hj | hj <;> cases hj <;> rfl)
        subst this
        exact ⟨q, o', g1, g2, g3, g4⟩
    · obtain ⟨y', hi'⟩ := kind i y hi
      obtain ⟨z', hj'⟩ := kind j z hj
      exact I1.dis i j y' z' q hi' hj' h1 h2
  have done : ∀ E2, Ev kt X.K S H σ E S2 H2 E2 → Q r E2 → Q' v H2 := fun E2 e2 hq => by
    have pr := po.ret
    cases r with
    | val d => exact kk S2 H2 E2 v (.val d) e2 pr trivial hq
    | cell i => exact (show False from pr).elim
    | fr d =>
      obtain ⟨q, u, rfl, a1, a2, a3, a4⟩ := pr
      have hn : H q = none := e1.fr.back a2
      refine kk S2 H2 E2 _ (.fr d) e2 ⟨q, u, rfl, a1, fun z => ?_, a3, a4⟩ (fun q' hq' => by cases hq'; exact hn) hq
      obtain ⟨j, y, hj, hσ⟩ := z
      obtain ⟨y', hy⟩ := (e2.cells j).own_of hj
      exact ownA_alive I ⟨j, y', hy, hσ⟩ hn
  cases b with
  | none =>
    rcases ex with ⟨_, nb⟩ | ⟨i, _, _, _, _, z, _⟩
    · refine done E1 (fin E1 (fun j => .inl ⟨rfl, fun d _ q _ z => ?_⟩) rfl) h3
      obtain ⟨m, y, hm, _⟩ := z
      rcases hm with hm | hm
      · exact fit.noOwn m y hm
      · exact nb m y hm
    · cases z
  | some bi =>
    obtain ⟨bp, i⟩ := bi
    cases o with
    | none => exact (show False from h3).elim
    | some d' =>
      have h3' : Q r (upB E1 i d') := h3
      rcases ex with ⟨z, _⟩ | ⟨i', n, d, y, q, a1, a2, a3, a4, a5⟩
      · cases z
      · cases a1
        obtain ⟨q', o', d2, b1, b2, b3, b4, b5⟩ := po.bor n d a4
        cases b2
        rw [a5] at b1; cases b1
        have hil : i < E1.length := nth_in (fun z => by rw [z] at a2; rcases a2 with q | q <;> cases q)
        have hnb : ∀ j, j ≠ i → ∀ d, (nth E1 j = .own d ∨ nth E1 j = .bor d) → ∀ q, σ[j]? = some (some (.ref q)) → ¬ ownA (vs.map some) cs q := fun j hj d hd q hq z => by
          obtain ⟨i2, x2, c1, c2, c3⟩ := sub q z
          cases c1
          exact hj (I1.dis j i d x2 q hd c2 hq c3)
        refine done (upB E1 i d') (fin _ (fun j => ?_) ?_) h3'
        · by_cases hj : j = i
          · subst hj
            refine .inr ⟨y, d', q, o', ?_, a3, b3, b4, b5⟩
            rcases a2 with a2 | a2
            · refine .inl ⟨a2, ?_⟩
              unfold upB
              rw [a2]
              exact nth_put_self hil
            · refine .inr ⟨a2, ?_⟩
              unfold upB
              rw [a2]
              exact nth_put_self hil
          · refine .inl ⟨?_, hnb j hj⟩
            unfold upB
            split <;> exact nth_put_ne hj
        · unfold upB
          split <;> exact put_len _ _ _
end
end BD
set_option Elab.async false
set_option linter.all false
set_option maxRecDepth 100000
set_option maxHeartbeats 2000000
/-! BD: defs by their names. -/
namespace BD
open PySem PySem.Spec PyProof.Rows L2
/-- the def st stands under the name x -/
structure DefAt (K : PySem.W.Frag) (mg : Str → Option Value) (x : Str) (st : Stmt) (ps : List Str) : Prop where
  ex : ∃ f fd, Fun K x x st f fd ∧ mg x = some (.ref f) ∧ Binds K fd ps []
/-- what stands under the name x keeps the promise FD -/
structure Cal (P : Program) (w : World) (K : PySem.W.Frag) (mg : Str → Option Value) (base : Heap) (kt : Bool) (x : Str) (k : Nat) (FD : DF) : Prop where
  ex : ∃ f fd ps, FnOk P w K mg base CX0 k f fd ps (spD kt K FD) ∧ mg x = some (.ref f) ∧ PySem.W.keepIn K (.ref f) = true ∧ Binds K fd ps []
section
variable {X : Cx} {kt : Bool} {k : Nat} {FD : DF} {x : Str} {p pos : Pos} {e : Expr} {es : List Expr} {dr : DR}
theorem se_callC (b : Option (Nat × Nat)) (C : Cal X.prog X.w X.K X.mg X.base kt x k FD) (hr : Room k X.A) (hg : Gl X x) (ha : SR X kt (e :: es) dr)
    (hdb : (x == ("__debug__" : Str)) = false := by decide) (he : starEach (e :: es) X.env = (false, eval e X.env) :: starEach es X.env := by rfl) (hpl : (backTo pos (starEach es X.env)).any (·.1) = false := by rfl) :
    SE X kt (.Call (.Name x p) (e :: es) [] pos) (dCallF FD b dr) := by
  obtain ⟨f, fd, ps, F, hm, hk, hb⟩ := C.ex
  exact se_call b F hr hg hm hk hb ha hdb he hpl
end
section
variable {kt : Bool} {P : Program} {w : World} {K : PySem.W.Frag} {mg : Str → Option Value} {base : Heap}
theorem cal_ok {x : Str} {st : Stmt} {N ps : List Str} {k : Nat} {FD : DF} (h : DefAt K mg x st ps) (Sc : FnScope N ps (defScope st)) (len : ∀ cs post, FD cs post → cs.length = ps.length)
    (hbody : ∀ (f : Addr) (cdv : Value) (A : Around) (outer : List Env) (s : Shared) (H : Hp) (E : XK), Room k (A.deeper (envOfC x (defScope st) s.heap.objs.size f cdv)) →
      ∃ d, SSs (cxOf CX0 P w K mg base N x (defScope st) f cdv A outer s H E).nox kt (defBody st) d ∧ ∀ cs post, FD cs post → d { nx := fun E' => post (.val .non) (borOf E'), rt := fun r E' => post r (borOf E') } (cs ++ List.replicate (N.length - ps.length) .un)) :
    Cal P w K mg base kt x (k + 1) FD := by
  obtain ⟨f, fd, F, hm, hb⟩ := h.ex
  exact ⟨f, fd, ps, fn_ok F Sc len (hbody f), hm, F.kp, hb⟩
/-- a weaker promise, more room -/
theorem Cal.imp {x : Str} {k j : Nat} {FD FD' : DF} (h : Cal P w K mg base kt x k FD) (hk : k ≤ j) (i : ∀ cs post, FD' cs post → FD cs post) : Cal P w K mg base kt x j FD' := by
  obtain ⟨f, fd, ps, F, a, b, c⟩ := h.ex
  refine ⟨f, fd, ps, (F.mono hk).imp fun vs H Q E q => ?_, a, b, c⟩
  obtain ⟨S, cs, post, q1, q2, q3, q4⟩ := q
  exact ⟨S, cs, post, q1, q2, i cs post q3, q4⟩
theorem Cal.mono {x : Str} {k j : Nat} {FD : DF} (h : Cal P w K mg base kt x k FD) (hk : k ≤ j) : Cal P w K mg base kt x j FD := h.imp hk fun _ _ q => q
end
end BD
set_option Elab.async false
set_option linter.all false
set_option maxRecDepth 100000
set_option maxHeartbeats 2000000
/-! BD: enumerate(text). -/
namespace BD
open PySem PySem.Spec PyProof.Rows L2
/-- a text's signs, each in a new pair with its number -/
def ItesD (x : Str) : It := ⟨fun i _ => i < x.cps.size, fun i H v H' => ∃ T c, v = .ref T ∧ H T = none ∧ H' = upd H T (.tup [.int (i : Nat), .str ⟨#[c]⟩]) ∧ x.cps[i]? = some c, fun i _ => i = x.cps.size⟩
def stI (it : Addr) (ty : String) (x : Str) (t : Tok) (i : Nat) (h : Heap) : Prop := h.IsStrIter it ty x t i
theorem draws_str {P : Program} {w : World} {A : Around} (hh : A.handled = none) (it : Addr) (x : Str) (t : Tok) (ty : String) (hty : ty = "str_ascii_iterator" ∨ ty = "str_iterator") :
    Draws P w A it [it] x.cps.size (fun i v => ∃ c u, x.cps[i]? = some c ∧ v = .str ⟨#[c]⟩ u) (stI it ty x t) := by
  rcases hty with e | e
  · rw [e]; exact Draws.strAscii hh it x t
  · rw [e]; exact Draws.strWide hh it x t
theorem turn_enumS {P : Program} {w : World} {K : PySem.W.Frag} {elts : List Expr} {kk : Nat} {tpos : Pos} (x : Str) (t : Tok) (ty : String) (hty : ty = "str_ascii_iterator" ∨ ty = "str_iterator") (e it : Addr) :
    Turn P w K (.Tuple elts kk tpos) (ItesD x) [e, it] e (fun i h => (∃ old, IsEnum h e it ((i : Nat) : Int) old) ∧ h.IsStrIter it ty x t i ∧ e ≠ it) where
  mem := by simp
  obj := fun i h st b hb => by
    obtain ⟨⟨old, he⟩, ⟨o, ho, hc, hd⟩, _⟩ := st
    have e' : b = e ∨ b = it := by simpa using hb
    rcases e' with z | z
    · rw [z]; exact ⟨_, he, fun v q => nomatch q⟩
    · rw [z]; exact ⟨o, ho, fun v q => by rw [hd] at q; cases q⟩
  keep := fun i h h' st k => let ⟨⟨old, he⟩, ⟨o, ho, r⟩, hne⟩ := st; ⟨⟨old, k e (by simp) _ he⟩, ⟨o, k it (by simp) o ho, r⟩, hne⟩
  item := by
    intro X hP hw hK hc i pins s σ H E I hf st hg
    subst hP hw hK
    obtain ⟨⟨old, he⟩, hit, hne⟩ := st
    have hel : e < s.heap.objs.size := Heap.lt_size he
    have hil : it < s.heap.objs.size := by obtain ⟨_, q, _⟩ := hit; exact Heap.lt_size q
    refine wpAny_pyNext_enum_itemD (draws_str (show X.A.in1.handled = none from I.ok.hd hc) it x t ty hty) he hit hg hne (by simpa using hne) fun xv h' tk hP ho hit' hT hsz hk => ?_
    obtain ⟨c, u, hcx, rfl⟩ := hP
    refine ⟨_, rfl, wpAny_letOwnedTupleGo_enum (s := { s with heap := h', toks := tk + 1 }) ho fun h'' he' sb => ?_⟩
    have hT2 : h''.get? s.heap.objs.size = some { cls := .type "tuple", data := .seq #[.int i tk, .str ⟨#[c]⟩ u] } := (sb.2 _ (Nat.ne_of_gt hel)).trans hT
    have new : ObjOk X.prog X.w (upd H s.heap.objs.size (.tup [.int (i : Nat), .str ⟨#[c]⟩])) h'' s.heap.objs.size (.tup [.int (i : Nat), .str ⟨#[c]⟩]) :=
      ⟨by show 2 ≤ sizeLine; decide, [.int i tk, .str ⟨#[c]⟩ u], .cons ⟨_, rfl⟩ (.cons ⟨_, rfl⟩ .nil), ⟨_, hT2, rfl, _, rfl⟩⟩
    have I1 : Inv X pins σ (upd H s.heap.objs.size (.tup [.int (i : Nat), .str ⟨#[c]⟩])) { s with heap := h'', toks := tk + 1 } :=
      I.turnedNew (ch := [e, it]) (fun b ob hb q => (sb.2 b (fun z => hb (by simp [z]))).trans (hk b ob (fun z => hb (by simp [z])) (fun z => hb (by simp [z])) q)) hf (Nat.le_refl _) new
    refine ⟨.ref s.heap.objs.size, _, I1, rfl, ⟨_, c, rfl, I.hok.fresh (Nat.le_refl _), rfl, hcx⟩, ⟨⟨.str ⟨#[c]⟩ u, ?_⟩, ?_, hne⟩, fun b hb => ?_⟩
    · have e1 : ((i + 1 : Nat) : Int) = (i : Int) + 1 := by omega
      rw [e1]; exact he'
    · obtain ⟨o, ho', r⟩ := (show h'.IsStrIter it ty x t (i + 1) from hit')
      exact ⟨o, (sb.2 it (Ne.symm hne)).trans ho', r⟩
    · have hb' : b < s.heap.objs.size := by
        have e' : b = e ∨ b = it := by simpa using hb
        rcases e' with z | z
        · rw [z]; exact hel
        · rw [z]; exact hil
      rw [upd_ne (Nat.ne_of_lt hb')]
      exact (hf b hb).1
  done := by
    intro X hP hw hK hc i pins s σ H E I hf st hg
    subst hP hw hK
    obtain ⟨⟨old, he⟩, hit, hne⟩ := st
    obtain ⟨f0, f1, f2, f3, f4, f5⟩ := hf it (by simp)
    have hi : i = x.cps.size := hg
    subst hi
    have D := draws_str (P := X.prog) (w := X.w) (show X.A.in1.handled = none from I.ok.hd hc) it x t ty hty
    exact wpAny_pyNext_enum_endD D he hit fun h' eb => ⟨rfl, I.turned (t' := s.toks) (fun b o hb q => eb b o hb q) f0 f1 f3 f4 f5⟩
  self := fun A i s Q E st h => let ⟨⟨_, he⟩, _⟩ := st; wpAny_pyIter_enum he h
theorem strIter_two (x : Str) : strIterType x = "str_ascii_iterator" ∨ strIterType x = "str_iterator" := by
  unfold strIterType
  split
  · exact .inl rfl
  · exact .inr rfl
def iEnumS (ta : TA) : TI := fun σ H R => ta σ H fun vs H1 => ∃ x, vs = [.str x] ∧ R (ItesD x) H1
theorem pi_enumS {X : Cx} {e : Expr} {ta : TA} {p pos tpos : Pos} {elts : List Expr} {kk : Nat} (hg : Gl X "enumerate") (hm : X.mg "enumerate" = none) (ha : PA X [e] ta) (hs : starEach [e] X.env = [(false, eval e X.env)] := by rfl) :
    PI X (.Tuple elts kk tpos) (.Call (.Name "enumerate" p) [e] [] pos) (iEnumS ta) := by
  refine ⟨fun pins s σ H R I h => ?_⟩
  refine Call_ (ld_blt I hg hm boot_enumerate (PyProof.Rows.callWith_type1 (thn (ha.run pos pins s σ H _ I h) fun us s1 ⟨vs, H1, I1, r1, q1⟩ => ?_) hs rfl))
  obtain ⟨x, ex, q⟩ := q1
  subst ex
  cases r1 with
  | cons r rr =>
    cases rr
    obtain ⟨t, rfl⟩ := r
    refine call_enumerate_str fun h' he hit hsz hk => wpAny_pyIter_enum he ?_
    have I2 : Inv X pins σ H1 { s1 with heap := h' } := I1.kept (t' := s1.toks) hk
    refine ⟨s1.heap.objs.size + 1, [s1.heap.objs.size + 1, s1.heap.objs.size], _, _, H1, rfl, I2, turn_enumS x t _ (strIter_two x) (s1.heap.objs.size + 1) s1.heap.objs.size, ⟨⟨.none, he⟩, hit, Nat.succ_ne_self _⟩, fun b hb => ?_, q⟩
    have e' : b = s1.heap.objs.size + 1 ∨ b = s1.heap.objs.size := by simpa using hb
    have hle : s1.heap.objs.size ≤ b := by
      rcases e' with z | z
      · rw [z]; exact Nat.le_add_right _ _
      · rw [z]; exact Nat.le_refl _
    exact I1.fpOk hle (I1.hok.fresh hle)
def iES (da : DE) : DI := fun E Q => da E fun r E1 => vw E1 r fun d => match d with
  | .str z => Q (enumD (signsD z)) finId E1
  | _ => False
section
variable {X : Cx} {kt : Bool} {K : PySem.W.Frag} {S1 H1 : Hp} {a : Expr} {da : DE} {pos p : Pos}
theorem so_enumS {A : Addr → Prop} {z : Str} : SrcOk kt K S1 H1 A (ItesD z) (enumD (signsD z)) := by
  have hl : (enumD (signsD z)).length = z.cps.size := by rw [enumD_len]; unfold signsD; rw [List.length_map, Array.length_toList]
  refine ⟨fun S H σ E I F i hi => ?_, fun S H σ E I F => ?_, fun S H σ E I F i x H' hi hy => ?_⟩
  · rw [hl] at hi; exact hi
  · exact hl
  · obtain ⟨T, c, rfl, hT, rfl, hc⟩ := hy
    obtain ⟨S', e, r⟩ := ev_pair (x := .int (i : Nat)) (y := .str ⟨#[c]⟩) I hT (.int (i : Nat)) (.str ⟨#[c]⟩)
    refine ⟨S', _, enumD_get (d := .str ⟨#[c]⟩) ?_, e, r⟩
    unfold signsD
    rw [List.getElem?_map, Array.getElem?_toList, hc]
    rfl
theorem si_enumS {elts : List Expr} {kk : Nat} {tpos : Pos} (hg : Gl X "enumerate") (hm : X.mg "enumerate" = none) (ha : SE X kt a da) (hs : starEach [a] X.env = [(false, eval a X.env)] := by rfl) (hs1 : starEach [a] X.env = (false, eval a X.env) :: starEach [] X.env := by rfl) : SI_ X kt (.Tuple elts kk tpos) (.Call (.Name "enumerate" p) [a] [] pos) (iES da) := by
  obtain ⟨t, q, l⟩ := ha.ex
  refine ⟨_, pi_enumS hg hm (pa_cons q pa_nil hs1) hs, fun S H σ E Q R I h k => l S H σ E _ _ I h fun S1 H1 E1 v r e1 q1 n1 h1 => ?_⟩
  obtain ⟨d, w, h2⟩ := vw_ok e1.si q1 h1
  cases d with
  | str z => exact ⟨z, by rw [w.str], k _ _ _ _ _ _ (.id I e1) so_enumS h2⟩
  | _ => exact (show False from h2).elim
end
end BD
set_option Elab.async false
set_option linter.all false
set_option maxRecDepth 100000
set_option maxHeartbeats 2000000
/-! BD: a, b = x, y; chains; the law's end. -/
namespace BD
open PySem PySem.Spec PyProof.Rows L2
theorem u65 {A : Around} {k : Nat} (hr : Room k A) : A.units + 65 < cLine := by have := hr.un; omega
/-- the built-in names that are not written over -/
structure Bi (mg : Str → Option Value) : Prop where
  len : mg "len" = none
  int : mg "int" = none
  range : mg "range" = none
  enumerate : mg "enumerate" = none
  all : mg "all" = none
  any : mg "any" = none
  sum : mg "sum" = none
  min : mg "min" = none
  max : mg "max" = none
  abs : mg "abs" = none
  list : mg "list" = none
  tuple : mg "tuple" = none
  dict : mg "dict" = none
  set : mg "set" = none
  sorted : mg "sorted" = none
  isinstance : mg "isinstance" = none
  str : mg "str" = none
  bool : mg "bool" = none
  zip : mg "zip" = none
def sPar (i j : Nat) (dA : DA) : DS := fun DD E => dA E fun xs E1 => match xs with
  | [a, b] => canSet (nth E1 i) ∧ canSet (nth E1 j) ∧ DD.nx (put (put E1 i (.val a)) j (.val b))
  | _ => False
section
variable {X : Cx} {kt : Bool} {a b c : Expr} {dA : DA} {da db dc : DE} {pos : Pos}
theorem ss_par {i j : Nat} {x y : Str} {px py pt : Pos} {t1 k2 pt2} (hc : X.calm = true) (hN : X.N.Nodup) (hi : X.N[i]? = some x) (hj : X.N[j]? = some y) (hij : i ≠ j)
    (hx : X.env.scope.names.lookup x = some .local) (hy : X.env.scope.names.lookup y = some .local) (ha : SA X kt [a, b] dA)
    (hw : swappedStores [.Tuple [.Name x px, .Name y py] t1 pt] (.Tuple [a, b] k2 pt2) X.env = pure (some [x, y]))
    (hs : swapsWithSole [.Tuple [.Name x px, .Name y py] t1 pt] (.Tuple [a, b] k2 pt2) pos.line X.env = pure false := by rfl) :
    SS X kt (.Assign [.Tuple [.Name x px, .Name y py] t1 pt] (.Tuple [a, b] k2 pt2) pos) (sPar i j dA) := by
  obtain ⟨t, p, l⟩ := ha.ex
  refine ⟨_, ps_par hc hN hi hj hij hx hy p hw hs, fun S H σ E DD D I h e => l S H σ E _ _ I h fun S1 H1 E1 vs xs e1 r h1 => ?_⟩
  match xs, r, h1 with
  | [d1, d2], .cons r1 (.cons r2 .nil), h1 =>
    rename_i v1 v2
    refine ⟨v1, v2, rfl, ?_⟩
    have g1 := (e1.go I).set (w := v1) (c := .val d1) I h1.1 (fun d' hd => by cases hd; exact r1) (fun _ z => nomatch z) (fun _ z => nomatch z) (fun _ z => nomatch z)
    have g2 := g1.set (w := v2) (c := .val d2) I (i := j) (by rw [nth_put_ne (Ne.symm hij)]; exact h1.2.1) (fun d' hd => by cases hd; exact r2) (fun _ z => nomatch z) (fun _ z => nomatch z) (fun _ z => nomatch z)
    exact e.nx _ _ _ _ g2 h1.2.2
/-! ### a op b op' c -/
def dChain (rd rd' : D → D → (R → Prop) → Prop) (da db dc : DE) : DE := fun E Q => da E fun r1 E1 => db E1 fun r2 E2 => vw E2 r1 fun d1 => vw E2 r2 fun d2 => rd d1 d2 fun r => match r with
  | .val (.bl b) => if b = true then dc E2 fun r3 E3 => vw E3 r2 fun d2' => vw E3 r3 fun d3 => rd' d2' d3 fun r => Q r E3 else Q (.val (.bl false)) E2
  | _ => False
theorem chain_lk {r r' : R2} {rd rd' : D → D → (R → Prop) → Prop} {K : PySem.W.Frag} {ta tb tc : TE} (hd : OpD kt K r rd) (hd' : OpD kt K r' rd') (la : LkE kt K ta da) (lb : LkE kt K tb db) (lc : LkE kt K tc dc) : LkE kt K (tChain r r' ta tb tc) (dChain rd rd' da db dc) :=
  fun S H σ E Q Q' I h k => la S H σ E _ _ I h fun S1 H1 E1 v1 r1 e1 q1 n1 h1 => lb S1 H1 σ E1 _ _ e1.si h1 fun S2 H2 E2 v2 r2 e2 q2 n2 h2 => by
    obtain ⟨d1, w1, h3⟩ := vw_ok e2.si (q1.step e2) h2
    obtain ⟨d2, w2, h4⟩ := vw_ok e2.si q2 h3
    have e12 := e1.trans e2
    refine hd S2 H2 v1 v2 d1 d2 _ _ e2.si.ex w1 w2 h4 ⟨fun v d hv hq => ?_, fun p o d hp ho hq => ?_, fun p vs ds hp hr hq => ?_⟩
    · cases d with
      | bl b =>
        cases hv
        refine ⟨b, rfl, ?_⟩
        cases b with
        | true =>
          rw [if_pos rfl]
          have hq' : dc E2 fun r3 E3 => vw E3 r2 fun d2' => vw E3 r3 fun d3 => rd' d2' d3 fun r => Q r E3 := hq
          refine lc S2 H2 σ E2 _ _ e2.si hq' fun S3 H3 E3 v3 r3 e3 q3 n3 h5 => ?_
          obtain ⟨d2', w2', h6⟩ := vw_ok e3.si (q2.step e3) h5
          obtain ⟨d3, w3, h7⟩ := vw_ok e3.si q3 h6
          exact hd' S3 H3 v2 v3 d2' d3 _ _ e3.si.ex w2' w3 h7 (outs_of (e12.trans e3) k)
        | false =>
          rw [if_neg Bool.false_ne_true]
          exact k S2 H2 E2 (.bl false) (.val (.bl false)) e12 (.bl false) trivial hq
      | _ => exact (show False from hq).elim
    · exact (show False from hq).elim
    · exact (show False from hq).elim
theorem se_chain {op op' : CmpOp} {rd rd' : D → D → (R → Prop) → Prop} (o : OpB X kt (compareOp op) rd) (o' : OpB X kt (compareOp op') rd') (ha : SE X kt a da) (hb : SE X kt b db) (hc : SE X kt c dc)
    (hm : lastMarks [op, op'] [b, c] = false := by with_unfolding_all rfl) : SE X kt (.Compare a [op, op'] [b, c] pos) (dChain rd rd' da db dc) := by
  obtain ⟨r, ho, hd⟩ := o.ex
  obtain ⟨r', ho', hd'⟩ := o'.ex
  obtain ⟨ta, pa, la⟩ := ha.ex
  obtain ⟨tb, pb, lb⟩ := hb.ex
  obtain ⟨tc, pc, lc⟩ := hc.ex
  exact ⟨_, pe_chain ho ho' pa pb pc hm, chain_lk hd hd' la lb lc⟩
theorem st_chain {op op' : CmpOp} {rd rd' : D → D → (R → Prop) → Prop} (o : OpB X kt (compareOp op) rd) (o' : OpB X kt (compareOp op') rd') (ha : SE X kt a da) (hb : SE X kt b db) (hc : SE X kt c dc)
    (hm : lastMarks [op, op'] [b, c] = false := by with_unfolding_all rfl) : ST X kt (.Compare a [op, op'] [b, c] pos) (dB (dChain rd rd' da db dc)) := by
  obtain ⟨r, ho, hd⟩ := o.ex
  obtain ⟨r', ho', hd'⟩ := o'.ex
  obtain ⟨ta, pa, la⟩ := ha.ex
  obtain ⟨tb, pb, lb⟩ := hb.ex
  obtain ⟨tc, pc, lc⟩ := hc.ex
  exact ⟨_, pt_chain ho ho' pa pb pc hm, b_lk (chain_lk hd hd' la lb lc)⟩
end
/-! ### facts of the top -/
theorem defAt_mk {K : PySem.W.Frag} {h : Heap} {mg : Str → Option Value} {x : Str} {st : Stmt} {ps : List Str} {f : Addr} {oc : Value} {od an : Option Addr} {osl : Array (Option Value)} {kV doc pm cdv ct : Value} (X : K.In h) (G : h.Ns mainGlobals mg)
    (a : PySem.W.nsIn K mainGlobals x = some (some (.ref f))) (l : K.lookup f = some ⟨oc, od, .func (PySem.W.fnOf x x (defArgs st) (defBody st) (defScope st) .none kV doc pm an cdv ct), osl⟩)
    (c : PySem.W.codeIn K cdv x = true) (k : PySem.W.keepIn K (.ref f) = true)
    (hb : ∀ (kV doc pm : Value) (an : Option Addr) (cdv ct : Value) (us : List Value), us.length = ps.length → bindArgs (PySem.W.fnOf x x (defArgs st) (defBody st) (defScope st) .none kV doc pm an cdv ct) ⟨us, []⟩ = pure (ps.zip us)) : DefAt K mg x st ps :=
  ⟨f, _, fun_mk l c k, PySem.W.mg_of X G a, (fun_mk (st := st) l c k).binds hb⟩
/-- the law's own promise: of a script it says True -/
def FLaw : DF := fun cs post => ∃ ns : List Int, cs = [.val (.scr ns)] ∧ ns.length ≤ 63 ∧ (∀ z ∈ ns, Builtin.Int.intBits z ≤ 1048576) ∧ post (.val (.bl true)) none
theorem law_sp {kt : Bool} {K : PySem.W.Frag} {H : Hp} {a : Addr} {ns : List Int} (hl : ns.length ≤ 63) (hb : ∀ z ∈ ns, Builtin.Int.intBits z ≤ 1048576) (h : SqL K H a (ns.map V.int)) : spD kt K FLaw [.ref a] H (fun v _ => v = .bl true) fun _ _ _ => False := by
  refine ⟨H, [.val (.scr ns)], fun r _ => r = .val (.bl true), ⟨.refl H, rfl, fun i d hi => ?_, fun i d hi => ?_, fun i d hi => ?_, fun i j d e p hi => ?_⟩, ⟨fun i j d e hi => ?_, fun i d hi => ?_⟩, ⟨ns, rfl, hl, hb, rfl⟩, fun S' H' v r b po hr => ?_⟩
  · cases i with
    | zero => cases hi; exact ⟨_, rfl, .scr h⟩
    | succ i => cases hi
  · cases i <;> cases hi
  · cases i <;> (rcases hi with hi | hi <;> cases hi)
  · cases i <;> (rcases hi with hi | hi <;> cases hi)
  · cases i <;> cases hi
  · cases i <;> cases hi
  · subst hr
    have := po.ret
    cases (show Rp kt K S' v (.bl true) from this)
    rfl
end BD
set_option Elab.async false
set_option linter.all false
set_option maxRecDepth 100000
set_option maxHeartbeats 2000000
/-! BD: code that is never reached; text.index, text.replace. -/
namespace BD
open PySem PySem.Spec PyProof.Rows L2
section
variable {X : Cx} {kt : Bool} {K : PySem.W.Frag} {a b e : Expr} {st : Stmt} {sts : List Stmt} {da db : DE} {dr : DR} {pos p apos : Pos}
theorem se_dead : SE X kt e (fun _ _ => False) := ⟨fun _ _ _ => False, ⟨fun _ _ _ _ _ _ h => h.elim⟩, fun _ _ _ _ _ _ _ h _ => h⟩
theorem st_dead : ST X kt e (fun _ _ => False) := ⟨fun _ _ _ => False, ⟨fun _ _ _ _ _ _ h => h.elim⟩, fun _ _ _ _ _ _ _ h _ => h⟩
theorem ss_dead : SS X kt st (fun _ _ => False) := ⟨fun _ _ _ => False, ⟨fun _ _ _ _ _ _ h => h.elim⟩, fun _ _ _ _ _ _ _ h _ => h⟩
theorem sss_dead : SSs X kt sts (fun _ _ => False) := ⟨fun _ _ _ => False, ⟨fun _ _ _ _ _ _ h => h.elim⟩, fun _ _ _ _ _ _ _ h _ => h⟩
def ixS (ds : List D) (a : Str) (Q : R → Prop) : Prop := match ds with
  | [.str b] => ∃ i rest, Builtin.Str.occurrences a b 0 a.length 1 = i :: rest ∧ Q (.val (.int (i : Nat)))
  | _ => False
def dIdxS (da : DE) (dr : DR) : DE := fun E Q => da E fun r E1 => vw E1 r fun d => match d with
  | .str a => dr E1 fun rs E2 => vws E2 rs fun ds => ixS ds a fun r => Q r E2
  | _ => False
/-- text.index(text) -/
theorem se_index_str (ha : SE X kt a da) (hr : SR X kt [b] dr)
    (hbase : attributeBase a "index" X.env (eval a X.env) = eval a X.env := by rfl)
    (hfew : ((backTo pos (starEach [b] X.env)).all (fun x => !x.1) && (backToKw pos (keywordEach [] X.env)).all (fun x => x.1.isSome)
      && decide (([b] : List Expr).length + ([] : List Keyword).length + (if ([] : List Keyword).isEmpty then 0 else 1) < 30)) = true := by rfl)
    (hline : (apos.endLine == pos.line) = true := by rfl) (hs : starEach [b] X.env = (false, eval b X.env) :: starEach [] X.env := by rfl) (hplain : (backTo pos (starEach [] X.env)).any (·.1) = false := by rfl) :
    SE X kt (.Call (.Attribute a "index" apos) [b] [] pos) (dIdxS da dr) := by
  obtain ⟨t, q, l⟩ := ha.ex
  obtain ⟨tr, qr, lr⟩ := hr.ex
  refine ⟨_, pe_bm PySem.F.plainAttrs_str PySem.F.slot_str_index PySem.F.type_str_index mt_sindex q qr hbase hfew hline hs hplain, fun S H σ E Q Q' I h k => l S H σ E _ _ I h fun S1 H1 E1 v r e1 q1 n1 h1 => ?_⟩
  obtain ⟨d, w, h2⟩ := vw_ok e1.si q1 h1
  cases d with
  | str x =>
    cases w.str
    refine ⟨rfl, lr S1 H1 σ E1 _ _ e1.si h2 fun S2 H2 E2 vs rs e2 qs ns h3 => ?_⟩
    obtain ⟨ds, ws, h4⟩ := vws_ok e2.si qs h3
    match ds, ws, h4 with
    | [.str y], ws, h4 =>
      obtain ⟨v, rfl, w⟩ := ws.one
      cases w.str
      obtain ⟨i, rest, ho, hq⟩ := h4
      exact ⟨x, y, i, rest, rfl, rfl, ho, k S2 H2 E2 _ (.val (.int (i : Nat))) (e1.trans e2) (.int _) trivial hq⟩
    | [], _, h4 => exact (show False from h4).elim
    | .non :: _, _, h4 => exact (show False from h4).elim
    | .bl _ :: _, _, h4 => exact (show False from h4).elim
    | .int _ :: _, _, h4 => exact (show False from h4).elim
    | .lst _ :: _, _, h4 => exact (show False from h4).elim
    | .tup _ :: _, _, h4 => exact (show False from h4).elim
    | .dk _ :: _, _, h4 => exact (show False from h4).elim
    | .dt _ :: _, _, h4 => exact (show False from h4).elim
    | .scr _ :: _, _, h4 => exact (show False from h4).elim
    | .str _ :: _ :: _, _, h4 => exact (show False from h4).elim
  | _ => exact (show False from h2).elim
end
section
variable {X : Cx} {kt : Bool} {i j k : Nat} {x : Str} {n : Int} {z : Str} {p p' q pos apos c0 c1 : Pos}
def tReplIx (i : Nat) (n : Int) (z : Str) : TE := fun σ H Q => ∃ x, σ[i]? = some (some (.str x)) ∧ 0 ≤ n ∧ n < x.length ∧ n < 2 ^ 63 ∧ (Txt.item x n == z) = false ∧ x.length + (x.length + 1) * z.length ≤ 16777216 ∧ Q (.str (Txt.replace x (Txt.item x n) z)) H
def dReplIx (i : Nat) (n : Int) (z : Str) : DE := fun E Q => match nth E i with
  | .val (.str x) => (0 ≤ n ∧ n < x.length ∧ n < 2 ^ 63 ∧ (Txt.item x n == z) = false ∧ x.length + (x.length + 1) * z.length ≤ 16777216) ∧ Q (.val (.str (Txt.replace x (Txt.item x n) z))) E
  | _ => False
/-- x.replace(x[n], z), n and z written -/
theorem se_replIx (i : Nat) (hN : X.N[i]? = some x := by rfl) (hv : Vis X.env.scope x := by first | exact Or.inl rfl | exact Or.inr (Or.inl rfl) | exact Or.inr (Or.inr rfl)) (hd : (x == ("__debug__" : Str)) = false := by decide) (hcd : (x == ("__classdict__" : Str)) = false := by decide)
    (hst : starEach [.Subscript (.Name x p') (.Constant (.int n) j c0) q, .Constant (.str z) k c1] X.env = [(false, eval (.Subscript (.Name x p') (.Constant (.int n) j c0) q) X.env), (false, eval (.Constant (.str z) k c1) X.env)] := by rfl)
    (hbase : attributeBase (.Name x p) "replace" X.env (eval (.Name x p) X.env) = eval (.Name x p) X.env := by rfl) (hline : (apos.endLine == pos.line) = true := by rfl) :
    SE X kt (.Call (.Attribute (.Name x p) "replace" apos) [.Subscript (.Name x p') (.Constant (.int n) j c0) q, .Constant (.str z) k c1] [] pos) (dReplIx i n z) := by
  refine ⟨tReplIx i n z, ⟨fun pins s σ H Q I h => ?_⟩, fun S H σ E Q Q' I h k => ?_⟩
  · obtain ⟨t, hx, h0, h1, h2, hne, hb, hq⟩ := h
    refine PySem.Call_method2 hbase hst hline (raw_name hN hv I hx (fun v r => ?_) hd hcd)
    obtain ⟨tx, e⟩ := r
    subst e
    refine ⟨"str", _, F.plainAttrs_str, F.slot_str_replace, F.type_str_replace, typeIs_str _ _ _, (fun _ e => nomatch e), Calls.callWith_builtin rfl (Calls.evalArgs_plain (Calls.spliced_cons ?_))⟩
    refine Subscript_ (raw_name hN hv I hx (fun v r => ?_) hd hcd)
    obtain ⟨ty, e⟩ := r
    subst e
    refine wpAny_Constant_int ?_
    refine item_str (fitsSsize_of (N := 9223372036854775808) (by omega) (by omega) (Int.le_refl _)) (by omega) h1 fun _ => ?_
    refine Calls.spliced_cons (Calls.Constant_str (Calls.spliced_nil ?_))
    exact PySem.SC.replace (by show s.toks + 1 ≠ 0; omega) (by show s.toks + 1 + 1 ≠ 0; omega) (by show s.toks + 1 ≠ s.toks + 1 + 1; omega) hne hb fun t' k => ⟨.str _, H, I.tok k, ⟨t', rfl⟩, hq⟩
  · unfold dReplIx at h
    cases e : nth E i with
    | val d =>
      rw [e] at h
      cases d with
      | str t =>
        obtain ⟨v, g1, g2⟩ := I.val i _ e
        cases g2
        obtain ⟨⟨h1, h2, h3, h4, h5⟩, h6⟩ := h
        exact ⟨t, g1, h1, h2, h3, h4, h5, k S H E _ (.val (.str _)) (.refl I) (.str _) trivial h6⟩
      | _ => exact (show False from h).elim
    | _ => rw [e] at h; exact (show False from h).elim
end
end BD
set_option Elab.async false
set_option linter.all false
set_option maxRecDepth 100000
set_option maxHeartbeats 2000000
/-! BD: how many bits numbers take; the pool. -/
namespace BD
open PySem PySem.Spec PyProof.Rows L2
abbrev ib (x : Int) : Nat := Builtin.Int.intBits x
theorem ib_iff {x : Int} {n : Nat} : ib x ≤ n ↔ x.natAbs < 2 ^ n := by
  unfold ib Builtin.Int.intBits
  by_cases h : x = 0
  · subst h
    simp
    exact Nat.pow_pos (by decide)
  · rw [if_neg (by simpa using h)]
    have hx : x.natAbs ≠ 0 := by omega
    rw [Nat.succ_le_iff, ← Nat.log2_lt hx]
theorem ib_nat {x : Int} {m : Nat} (h0 : 0 ≤ x) (h : x < 2 ^ m) : ib x ≤ m := by
  rw [ib_iff]
  have : ((2 ^ m : Nat) : Int) = 2 ^ m := by norm_cast
  omega
theorem ib_add {x y : Int} {n : Nat} (hx : ib x ≤ n) (hy : ib y ≤ n) : ib (x + y) ≤ n + 1 := by
  rw [ib_iff] at *
  rw [Nat.pow_succ]
  omega
theorem ib_sub {x y : Int} {n : Nat} (hx : ib x ≤ n) (hy : ib y ≤ n) : ib (x - y) ≤ n + 1 := by
  rw [ib_iff] at *
  rw [Nat.pow_succ]
  omega
theorem ib_mul {x y : Int} {n m : Nat} (hx : ib x ≤ n) (hy : ib y ≤ m) : ib (x * y) ≤ n + m := by
  rw [ib_iff] at *
  rw [Int.natAbs_mul, Nat.pow_add]
  exact Nat.mul_lt_mul'' hx hy
theorem ib_mod {x y : Int} {n : Nat} (h : 0 < y) (hy : ib y ≤ n) : ib (x % y) ≤ n := by
  rw [ib_iff] at *
  have := Int.emod_nonneg x (Int.ne_of_gt h)
  have := Int.emod_lt_of_pos x h
  omega
theorem ib_div {x y : Int} {n : Nat} (h0 : 0 ≤ x) (h : 0 < y) (hx : ib x ≤ n) : ib (x / y) ≤ n := by
  rw [ib_iff] at *
  have h1 := Int.ediv_nonneg h0 (Int.le_of_lt h)
  have h2 : x / y ≤ x := Int.ediv_le_self y h0
  omega
theorem ib_le {x : Int} {n m : Nat} (h : ib x ≤ n) (hm : n ≤ m := by decide) : ib x ≤ m := Nat.le_trans h hm
theorem mulX {x y : Int} {n m : Nat} (hx : ib x ≤ n) (hy : ib y ≤ m) (h : n + m ≤ 134217728 := by decide) : CMulX x y := by
  unfold CMulX
  have hx' : Builtin.Int.intBits x ≤ n := hx
  have hy' : Builtin.Int.intBits y ≤ m := hy
  omega
theorem iteD {c : Prop} [Decidable c] {A B : Prop} (h1 : c → A) (h2 : ¬ c → B) : if decide c = true then A else B := by
  by_cases h : c
  · rw [if_pos (decide_eq_true h)]; exact h1 h
  · rw [if_neg (by rw [decide_eq_false h]; exact Bool.false_ne_true)]; exact h2 h
theorem iteB {b : Bool} {A B : Prop} (h1 : b = true → A) (h2 : b = false → B) : if b = true then A else B := by
  cases b
  · rw [if_neg Bool.false_ne_true]; exact h2 rfl
  · rw [if_pos rfl]; exact h1 rfl
theorem ifF {b : Bool} {A B : Prop} (h : b = false) (h2 : B) : if b = true then A else B := by rw [if_neg (by rw [h]; exact Bool.false_ne_true)]; exact h2
theorem ifT {b : Bool} {A B : Prop} (h : b = true) (h2 : A) : if b = true then A else B := by rw [if_pos h]; exact h2
theorem atI_in {α : Type} {xs : List α} {i : Int} (h0 : 0 ≤ i) (h1 : i < xs.length) : ∃ x, atI xs i = some x ∧ xs[i.toNat]? = some x ∧ x ∈ xs := by
  have hj : i.toNat < xs.length := by omega
  refine ⟨xs[i.toNat], ?_, List.getElem?_eq_getElem hj, List.getElem_mem hj⟩
  unfold atI ixN
  rw [if_pos h0, if_pos h1]
  exact List.getElem?_eq_getElem hj
/-- the four items of the pool -/
def poolD (ns : List Int) (p r f : Int) : D := .lst [.scr ns, .int p, .int r, .int f]
/-- a pool from which at most t numbers were drawn or left -/
structure PoolOk (t : Nat) (ns : List Int) (p r f : Int) : Prop where
  len : ns.length ≤ 63
  bits : ∀ z ∈ ns, ib z ≤ 1048576
  p0 : 0 ≤ p
  pt : p ≤ t
  r0 : 0 ≤ r
  rb : ib r ≤ 1048580
  f0 : 0 ≤ f
  ft : f ≤ t
def Pool (t : Nat) (d : D) : Prop := ∃ ns p r f, d = poolD ns p r f ∧ PoolOk t ns p r f
def lineT : Nat := 1000000
/-! what is asked of the pool's functions -/
def F_mixed : DF := fun cs post => ∃ n p : Int, cs = [.val (.int n), .val (.int p)] ∧ 0 ≤ n ∧ ib n ≤ 1048600 ∧ 0 ≤ p ∧ ib p ≤ 100 ∧ ∀ r, 0 ≤ r → ib r ≤ 1000 → post (.val (.int r)) none
def F_rest : DF := fun cs post => ∃ (ns : List Int) (p f : Int), cs = [.val (.scr ns), .val (.int p), .val (.int f)] ∧ ns.length ≤ 63 ∧ (∀ z ∈ ns, ib z ≤ 1048576) ∧ 0 ≤ p ∧ ib p ≤ 100 ∧ 0 ≤ f ∧ ib f ≤ 100 ∧
  ∀ r, 0 ≤ r → ib r ≤ 1048580 → post (.val (.int r)) none
def F_pool : DF := fun cs post => ∃ ns : List Int, cs = [.val (.scr ns)] ∧ ns.length ≤ 63 ∧ (∀ z ∈ ns, ib z ≤ 1048576) ∧ ∀ d, Pool 0 d → post (.fr d) none
def F_next : DF := fun cs post => ∃ (t : Nat) (d : D), cs = [.bor d] ∧ Pool t d ∧ t ≤ lineT ∧ ∀ d', Pool (t + 1) d' → post (.val .non) (some d')
def F_draw : DF := fun cs post => ∃ (t : Nat) (d : D) (l : Int), cs = [.bor d, .val (.int l)] ∧ Pool t d ∧ t ≤ lineT ∧ 0 < l ∧ ib l ≤ 1000 ∧ ∀ d' v, Pool (t + 1) d' → 0 ≤ v → v < l → post (.val (.int v)) (some d')
end BD
set_option Elab.async false
set_option linter.all false
set_option maxRecDepth 100000
set_option maxHeartbeats 2000000
/-! BD: joins, loops, comprehensions by what stays. -/
namespace BD
open PySem PySem.Spec PyProof.Rows L2
theorem seqJoin {d u : DS} {DD : DEnds} {E : List Cell} (M : List Cell → Prop) (h2 : ∀ E', M E' → u DD E') (h1 : (∀ E', M E' → u DD E') → d { DD with nx := u DD } E) : sSeq d u DD E := h1 h2
theorem forL_inv {g : DG} {body : DS} {nx bk : List Cell → Prop} {rt : R → List Cell → Prop} (I : Nat → List Cell → Prop) : ∀ (items : List D) (i : Nat) (E : List Cell), I i E →
    (∀ (j : Nat) (x : D) (E : List Cell) (next : List Cell → Prop), i ≤ j → items[j - i]? = some x → I j E → (∀ E', I (j + 1) E' → next E') → g (.val x) E fun E1 => body ⟨next, rt, bk, next⟩ E1) →
    (∀ E, I (i + items.length) E → nx E) → dForL g body nx bk rt items E
  | [], i, E, h0, _, h2 => h2 E h0
  | x :: r, i, E, h0, h1, h2 => by
    refine h1 i x E _ (Nat.le_refl i) (by rw [Nat.sub_self]; rfl) h0 fun E' h => ?_
    refine forL_inv I r (i + 1) E' h (fun j y E2 next hj hy h3 h4 => h1 j y E2 next (by omega) ?_ h3 h4) fun E2 h3 => h2 E2 (by rw [List.length_cons]; rw [show i + (r.length + 1) = i + 1 + r.length by omega]; exact h3)
    rw [show j - i = (j - (i + 1)) + 1 by omega]
    exact hy
theorem for_inv {g : DG} {body : DS} {nx bk : List Cell → Prop} {rt : R → List Cell → Prop} (I : Nat → List Cell → Prop) {items : List D} {E : List Cell} (h0 : I 0 E)
    (h1 : ∀ (j : Nat) (x : D) (E : List Cell) (next : List Cell → Prop), items[j]? = some x → I j E → (∀ E', I (j + 1) E' → next E') → g (.val x) E fun E1 => body ⟨next, rt, bk, next⟩ E1)
    (h2 : ∀ E, I items.length E → nx E) : dForL g body nx bk rt items E :=
  forL_inv I items 0 E h0 (fun j x E next _ hx => h1 j x E next hx) (by rw [Nat.zero_add]; exact h2)
theorem lc_fm {ct : CT} {tt : DT} {de : DV} {vs : List Nat} {done : List D → List Cell → Prop} (f : D → Option D) (E0 : List Cell) : ∀ (items acc : List D),
    (∀ x, x ∈ items → ∀ k : Option D → List Cell → Prop, k (f x) E0 → putCT ct x E0 fun E1 => tt E1 fun b E2 => if b = true then de E2 fun y E3 => k (some y) (wipeE E3 vs) else k none (wipeE E2 vs)) →
    acc.length + items.length ≤ sizeLine → done (acc ++ items.filterMap f) E0 → lcL ct tt de vs done items acc E0
  | [], acc, _, _, h => by rw [List.filterMap_nil, List.append_nil] at h; exact h
  | x :: r, acc, hs, hl, h => by
    rw [List.length_cons] at hl
    refine hs x List.mem_cons_self (fun o E => match o with
      | some y => acc.length < sizeLine ∧ lcL ct tt de vs done r (acc ++ [y]) E
      | none => lcL ct tt de vs done r acc E) ?_
    have hr := fun y hy => hs y (List.mem_cons_of_mem _ hy)
    cases e : f x with
    | some y =>
      refine ⟨by omega, lc_fm f E0 r _ hr (by rw [List.length_append, List.length_singleton]; omega) ?_⟩
      rw [List.filterMap_cons_some e] at h
      rw [List.append_assoc]
      exact h
    | none =>
      refine lc_fm f E0 r _ hr (by omega) ?_
      rw [List.filterMap_cons_none e] at h
      exact h
/-- a comprehension without tests: the items by f -/
theorem lc_map {ct : CT} {tt : DT} {de : DV} {vs : List Nat} {done : List D → List Cell → Prop} (f : D → D) (E0 : List Cell) (items : List D)
    (hs : ∀ x, x ∈ items → ∀ k : Option D → List Cell → Prop, k (some (f x)) E0 → putCT ct x E0 fun E1 => tt E1 fun b E2 => if b = true then de E2 fun y E3 => k (some y) (wipeE E3 vs) else k none (wipeE E2 vs))
    (hl : items.length ≤ sizeLine) (h : done (items.map f) E0) : lcL ct tt de vs done items [] E0 := by
  refine lc_fm (fun x => some (f x)) E0 items [] hs (by rw [List.length_nil]; omega) ?_
  rw [List.nil_append, List.filterMap_eq_map']
  exact h
end BD
set_option Elab.async false
set_option linter.all false
set_option maxRecDepth 100000
set_option maxHeartbeats 2000000
/-! BD: what _law_same and _law_pick are asked. -/
namespace BD
open PySem PySem.Spec PyProof.Rows L2
mutual
/-- answer, due: alike in kind and value, through lists and tuples -/
def sameD : D → D → Bool
  | .lst xs, .lst ys => sames xs ys
  | .tup xs, .tup ys => sames xs ys
  | .str x, .str y => x == y
  | .non, .non => true
  | .bl a, .bl b => a == b
  | .int a, .int b => a == b
  | _, _ => false
def sames : List D → List D → Bool
  | [], [] => true
  | x :: xs, y :: ys => sameD x y && sames xs ys
  | _, _ => false
end
def oks : Nat → D → Bool
  | _, .non => true
  | _, .bl _ => true
  | _, .int _ => true
  | _, .str _ => true
  | n + 1, .lst xs => decide (xs.length ≤ sizeLine) && xs.all (oks n)
  | n + 1, .tup xs => decide (xs.length ≤ sizeLine) && xs.all (oks n)
  | _, _ => false
theorem sames_all : ∀ (xs ys : List D), xs.length = ys.length → sames xs ys = ((List.range ys.length).map fun k => sameD (xs.getD k .non) (ys.getD k .non)).all id
  | [], [], _ => rfl
  | x :: xs, y :: ys, h => by
    rw [List.length_cons, List.length_cons] at h
    have ih := sames_all xs ys (by omega)
    rw [sames, ih, List.length_cons, List.range_succ_eq_map, List.map_cons, List.all_cons, List.map_map]
    rfl
  | [], _ :: _, h => by simp at h
  | _ :: _, [], h => by simp at h
theorem sames_len : ∀ (xs ys : List D), xs.length ≠ ys.length → sames xs ys = false
  | [], [], h => absurd rfl h
  | x :: xs, y :: ys, h => by
    rw [sames, sames_len xs ys (fun z => h (by rw [List.length_cons, List.length_cons, z])), Bool.and_false]
  | [], _ :: _, _ => rfl
  | _ :: _, [], _ => rfl
mutual
theorem sameD_refl : ∀ (n : Nat) (d : D), oks n d = true → sameD d d = true
  | _, .non, _ => rfl
  | _, .bl b, _ => by simp [sameD]
  | _, .int i, _ => by simp [sameD]
  | _, .str x, _ => by simp [sameD]
  | 0, .lst _, h => nomatch h
  | 0, .tup _, h => nomatch h
  | n + 1, .lst xs, h => by
    have h' : (decide (xs.length ≤ sizeLine) && xs.all (oks n)) = true := h
    rw [Bool.and_eq_true] at h'
    rw [sameD]
    exact sames_refl n xs h'.2
  | n + 1, .tup xs, h => by
    have h' : (decide (xs.length ≤ sizeLine) && xs.all (oks n)) = true := h
    rw [Bool.and_eq_true] at h'
    rw [sameD]
    exact sames_refl n xs h'.2
  | n, .dk _, h => by cases n <;> exact nomatch h
  | n, .dt _, h => by cases n <;> exact nomatch h
  | n, .scr _, h => by cases n <;> exact nomatch h
theorem sames_refl : ∀ (n : Nat) (xs : List D), xs.all (oks n) = true → sames xs xs = true
  | _, [], _ => rfl
  | n, x :: r, h => by
    rw [List.all_cons, Bool.and_eq_true] at h
    rw [sames, sameD_refl n x h.1, sames_refl n r h.2]
    rfl
end
theorem signs_at {z : Str} {j : Nat} {x : D} (h : (signsD z)[j]? = some x) : ∃ c, z.cps.toList[j]? = some c ∧ x = .str ⟨#[c]⟩ := by
  unfold signsD at h
  rw [List.getElem?_map] at h
  cases e : z.cps.toList[j]? with
  | none => rw [e] at h; cases h
  | some c => rw [e] at h; cases h; exact ⟨c, rfl, rfl⟩
theorem enumS_at {z : Str} {j : Nat} {x : D} (h : (enumD (signsD z))[j]? = some x) : ∃ c, z.cps.toList[j]? = some c ∧ x = .tup [.int (j : Nat), .str ⟨#[c]⟩] := by
  have hj : j < (enumD (signsD z)).length := by
    by_cases q : j < (enumD (signsD z)).length
    · exact q
    · rw [List.getElem?_eq_none (by omega)] at h; cases h
  rw [enumD_len] at hj
  obtain ⟨c, hc, e⟩ := signs_at (List.getElem?_eq_getElem hj)
  rw [enumD_get (List.getElem?_eq_getElem hj), e] at h
  cases h
  exact ⟨c, hc, rfl⟩
theorem range_at {lo : Int} {n j : Nat} {x : D} (h : (rangeD lo n)[j]? = some x) : j < n ∧ x = .int (lo + (j : Nat)) := by
  unfold rangeD at h
  rw [List.getElem?_map] at h
  by_cases q : j < n
  · rw [List.getElem?_range q] at h
    cases h
    exact ⟨q, rfl⟩
  · rw [List.getElem?_eq_none (by rw [List.length_range]; omega)] at h; cases h
theorem rangeD_len (lo : Int) (n : Nat) : (rangeD lo n).length = n := by unfold rangeD; rw [List.length_map, List.length_range]
theorem signsD_len (z : Str) : (signsD z).length = z.length := by unfold signsD; rw [List.length_map, Array.length_toList]; rfl
/-- a slot that holds nothing or data -/
def fv : Cell → Prop
  | .un => True
  | .val _ => True
  | _ => False
theorem fv.set {c : Cell} (h : fv c) : canSet c := by cases c <;> first | trivial | exact (show False from h).elim
theorem fv.bor {c : Cell} {r : List Cell} (h : fv c) : borOf (c :: r) = borOf r := by cases c <;> first | rfl | exact (show False from h).elim
/-- a parameter that is read -/
def AC (c : Cell) (d : D) : Prop := c = .val d ∨ c = .ro d
def F_same (n : Nat) : DF := fun cs post => ∃ c1 c2 a b, cs = [c1, c2] ∧ AC c1 a ∧ AC c2 b ∧ oks n a = true ∧ oks n b = true ∧ post (.val (.bl (sameD a b))) none
def F_pick : DF := fun cs post => ∃ (t : Nat) (d : D) (c : Cell) (xs : List D), cs = [.bor d, c] ∧ AC c (.lst xs) ∧ Pool t d ∧ t ≤ lineT ∧ xs ≠ [] ∧ xs.length ≤ sizeLine ∧ ∀ d' x, Pool (t + 1) d' → x ∈ xs → post (.val x) (some d')
end BD
set_option Elab.async false
set_option linter.all false
set_option maxRecDepth 100000
set_option maxHeartbeats 4000000
namespace BL
open PySem PySem.Spec PyProof.Rows L2 BD
def topS (i : Nat) : Stmt := PySem.Challenge.pw_bellring_k87_whole_lines_checked_by_turn.main.body.getD i (.Pass ⟨0, 0, 0, 0⟩)
section
variable {P : Program} {w : World} {K : PySem.W.Frag} {mg : Str → Option Value} {base : Heap}
abbrev s_l_mixed : Stmt := topS 10
abbrev N_l_mixed : List Str := ["number", "place", "first", "second", "third"]
theorem sc_l_mixed : FnScope N_l_mixed ["number", "place"] (defScope s_l_mixed) := ⟨rfl, rfl, rfl, by decide +kernel, rfl, by decide +kernel, by decide +kernel⟩
theorem C_l_mixed (bi : Bi mg) (Df : DefAt K mg "_law_mixed" s_l_mixed ["number", "place"]) : Cal P w K mg base false "_law_mixed" 1 F_mixed :=
  cal_ok Df sc_l_mixed (fun cs post h => by obtain ⟨n, p, rfl, _⟩ := h; rfl) fun f cdv A outer s H E hr => ⟨_, (sss_cons (ss_asg (se_bin ob_mod (se_callTy cb_int (by rfl) bi.int boot_int (sr_cons (se_bin ob_add (se_bin ob_add (se_bin ob_mul (sv 0) se_int) (se_bin ob_mul (sv 1) se_int)) se_int) sr_nil)) se_int) (sg_v 2 sc_l_mixed.nd))
    (sss_cons (ss_asg (se_bin ob_mod (se_callTy cb_int (by rfl) bi.int boot_int (sr_cons (se_bin ob_add (se_bin ob_add (se_bin ob_mul (sv 2) (sv 2)) (se_bin ob_mul se_int (sv 2))) (sv 1)) sr_nil)) se_int) (sg_v 3 sc_l_mixed.nd))
    (sss_cons (ss_asg (se_bin ob_mod (se_callTy cb_int (by rfl) bi.int boot_int (sr_cons (se_bin ob_add (se_bin ob_mul (sv 3) (sv 3)) (sv 2)) sr_nil)) se_int) (sg_v 4 sc_l_mixed.nd))
    (sss_one (ss_ret (se_bin ob_add (se_bin ob_mul (sv 3) se_int) (sv 4))))))), fun cs post h => by
    obtain ⟨n, p, rfl, hn, bn, hp, bp, k⟩ := h
    have b1 : ib ((n * 48271 + p * 69621 + 11) % 618970019642690137449562111) ≤ 90 := ib_mod (by decide) (by decide)
    refine ⟨mulX bn (m := 20) (by decide), ⟨mulX bp (m := 20) (by decide), ⟨by decide, trivial, ?_⟩⟩⟩
    revert b1
    generalize (n * 48271 + p * 69621 + 11) % 618970019642690137449562111 = x
    intro b1
    refine ⟨mulX b1 b1, ⟨mulX (n := 20) (by decide) b1, ⟨by decide, trivial, ?_⟩⟩⟩
    have h2 : ib ((x * x + 7 * x + p) % 162259276829213363391578010288127) ≤ 110 := ib_mod (by decide) (by decide)
    have p2 : 0 ≤ ((x * x + 7 * x + p) % 162259276829213363391578010288127) := Int.emod_nonneg _ (by decide)
    revert h2 p2
    generalize ((x * x + 7 * x + p) % 162259276829213363391578010288127) = y
    intro h2 p2
    refine ⟨mulX h2 h2, ⟨by decide, trivial, ?_⟩⟩
    have h3 : ib ((y * y + x) % 618970019642690137449562111) ≤ 90 := ib_mod (by decide) (by decide)
    have p3 : 0 ≤ ((y * y + x) % 618970019642690137449562111) := Int.emod_nonneg _ (by decide)
    revert h3 p3
    generalize ((y * y + x) % 618970019642690137449562111) = z
    intro h3 p3
    refine ⟨mulX h2 (m := 90) (by decide), k _ ?_ ?_⟩
    · exact Int.add_nonneg (Int.mul_nonneg p2 (by decide)) p3
    · exact ib_le (ib_add (ib_mul h2 (m := 90) (by decide)) (ib_le h3 (m := 200)))⟩
abbrev s_l_rest : Stmt := topS 11
abbrev N_l_rest : List Str := ["script", "place", "fills", "number"]
theorem sc_l_rest : FnScope N_l_rest ["script", "place", "fills"] (defScope s_l_rest) := ⟨rfl, rfl, rfl, by decide +kernel, rfl, by decide +kernel, by decide +kernel⟩
theorem C_l_rest (bi : Bi mg) (C_l_mixed : Cal P w K mg base false "_law_mixed" 1 F_mixed) (Df : DefAt K mg "_law_rest" s_l_rest ["script", "place", "fills"]) : Cal P w K mg base false "_law_rest" 2 F_rest :=
  cal_ok Df sc_l_rest (fun cs post h => by obtain ⟨ns, p, g, rfl, _⟩ := h; rfl) fun f cdv A outer s H E hr => ⟨_, (sss_cons (ss_asg se_int (sg_v 3 sc_l_rest.nd))
    (sss_cons (ss_if (st_cmp ob_gt (se_callB cb_len (by rfl) bi.len PySem.boot_len (sr_cons (sv 0) sr_nil)) se_int)
    (sss_one (ss_asg (se_callTy cb_int (by rfl) bi.int boot_int (sr_cons (se_ix (sv 0) (se_bin ob_mod (se_callTy cb_int (by rfl) bi.int boot_int (sr_cons (sv 1) sr_nil)) (se_callB cb_len (by rfl) bi.len PySem.boot_len (sr_cons (sv 0) sr_nil)))) sr_nil)) (sg_v 3 sc_l_rest.nd)))
    sss_nil)
    (sss_cons (ss_if (st_cmp ob_lt (sv 3) se_int)
    (sss_one (ss_asg (se_bin ob_sub se_int (se_bin ob_mul se_int (sv 3))) (sg_v 3 sc_l_rest.nd)))
    sss_nil)
    (sss_cons (ss_if (sw_and (st_cmp (ob_eq hr.units) (sv 2) se_int) (sw_and (st_cmp ob_lt (sv 1) (se_callB cb_len (by rfl) bi.len PySem.boot_len (sr_cons (sv 0) sr_nil))) (sw_and1 (st_cmp ob_ge (sv 3) (se_bin ob_pow se_int se_int))))).st
    (sss_one (ss_ret (se_bin ob_sub (sv 3) (se_bin ob_pow se_int se_int))))
    sss_nil)
    (sss_one (ss_ret (se_callC none C_l_mixed (hr.mono (by first | decide | omega)) (by rfl) (sr_cons (se_bin ob_add (sv 3) (se_bin ob_mul (sv 2) se_int)) (sr_cons (sv 1) sr_nil))))))))), fun cs post h => by
    obtain ⟨ns, p, g, rfl, hl, hb, hp, bp, hg, bg, k⟩ := h
    refine ⟨trivial, ?_⟩
    dsimp only
    refine seqJoin (fun E' => ∃ x : Int, E' = [.val (.scr ns), .val (.int p), .val (.int g), .val (.int x)] ∧ ib x ≤ 1048576) ?_ fun j => ?_
    rotate_left
    · refine iteD (fun h => ?_) fun h => j _ ⟨0, rfl, by decide⟩
      have hn : (0 : Int) < ns.length := h
      obtain ⟨x, h1, _, h3⟩ := atI_in (xs := ns) (i := p % ns.length) (Int.emod_nonneg _ (by omega)) (Int.emod_lt_of_pos _ hn)
      exact ⟨hn, x, h1, trivial, j _ ⟨x, rfl, hb x h3⟩⟩
    rintro E1 ⟨x, rfl, hx⟩
    refine seqJoin (fun E' => ∃ x : Int, E' = [.val (.scr ns), .val (.int p), .val (.int g), .val (.int x)] ∧ 0 ≤ x ∧ ib x ≤ 1048579) ?_ fun j => ?_
    rotate_left
    · refine iteD (fun h => ?_) fun h => j _ ⟨x, rfl, by omega, ib_le hx⟩
      refine ⟨mulX (n := 2) (by decide) hx, trivial, j _ ⟨1 - 2 * x, rfl, by omega, ?_⟩⟩
      exact ib_le (ib_sub (n := 1048578) (by decide) (ib_le (ib_mul (n := 2) (x := 2) (by decide) hx)))
    rintro E1 ⟨x, rfl, p0, hx⟩
    refine seqJoin (fun E' => E' = [.val (.scr ns), .val (.int p), .val (.int g), .val (.int x)]) ?_ fun j => ?_
    rotate_left
    · refine ⟨rfl, iteB (fun h => iteD (fun h2 => ⟨by unfold CPow; decide, iteD (fun h3 => ?_) fun _ => j _ rfl⟩) fun _ => j _ rfl) fun _ => j _ rfl⟩
      have h4 : (10 : Int) ^ 18 ≤ x := h3
      have e4 : (10 : Int) ^ 18 = 1000000000000000000 := by decide
      refine ⟨by unfold CPow; decide, k _ ?_ (ib_le (ib_sub hx (ib_le (n := 60) (by decide))))⟩
      show 0 ≤ x - (10 : Int) ^ 18
      omega
    rintro E1 rfl
    refine ⟨mulX (m := 20) bg (by decide), x + g * 1000003, p, rfl, ?_, ?_, hp, bp, fun r h1 h2 => k r h1 (ib_le h2)⟩
    · exact Int.add_nonneg p0 (Int.mul_nonneg hg (by decide))
    · exact ib_le (ib_add hx (ib_le (ib_mul bg (m := 20) (by decide))))⟩
abbrev s_l_pool : Stmt := topS 12
abbrev N_l_pool : List Str := ["script"]
theorem sc_l_pool : FnScope N_l_pool ["script"] (defScope s_l_pool) := ⟨rfl, rfl, rfl, by decide +kernel, rfl, by decide +kernel, by decide +kernel⟩
theorem C_l_pool (bi : Bi mg) (C_l_rest : Cal P w K mg base false "_law_rest" 2 F_rest) (Df : DefAt K mg "_law_pool" s_l_pool ["script"]) : Cal P w K mg base false "_law_pool" 3 F_pool :=
  cal_ok Df sc_l_pool (fun cs post h => by obtain ⟨ns, rfl, _⟩ := h; rfl) fun f cdv A outer s H E hr => ⟨_, (sss_one (ss_ret (se_lst (sa_cons (sv 0) (sa_cons se_int (sa_cons (se_callC none C_l_rest (hr.mono (by first | decide | omega)) (by rfl) (sr_cons (sv 0) (sr_cons se_int (sr_cons se_int sr_nil)))) (sa_cons se_int sa_nil))))))), fun cs post h => by
    obtain ⟨ns, rfl, hl, hb, k⟩ := h
    exact ⟨ns, 0, 0, rfl, hl, hb, by decide, by decide, by decide, by decide, fun r r0 rb => ⟨by show 4 ≤ sizeLine; decide, k _ ⟨ns, 0, r, 0, rfl, hl, hb, by decide, by decide, r0, rb, by decide, by decide⟩⟩⟩⟩
abbrev s_l_next : Stmt := topS 13
abbrev N_l_next : List Str := ["pool"]
theorem sc_l_next : FnScope N_l_next ["pool"] (defScope s_l_next) := ⟨rfl, rfl, rfl, by decide +kernel, rfl, by decide +kernel, by decide +kernel⟩
theorem C_l_next (bi : Bi mg) (C_l_rest : Cal P w K mg base false "_law_rest" 2 F_rest) (Df : DefAt K mg "_law_next" s_l_next ["pool"]) : Cal P w K mg base false "_law_next" 3 F_next :=
  cal_ok Df sc_l_next (fun cs post h => by obtain ⟨t, d, rfl, _⟩ := h; rfl) fun f cdv A outer s H E hr => ⟨_, (sss_cons (ss_asg (se_bin ob_add (se_ix (sv 0) se_int) se_int) (sg_sub 0 se_int))
    (sss_cons (ss_asg (se_callC none C_l_rest (hr.mono (by first | decide | omega)) (by rfl) (sr_cons (se_ix (sv 0) se_int) (sr_cons (se_ix (sv 0) se_int) (sr_cons se_int sr_nil)))) (sg_sub 0 se_int))
    (sss_one (ss_asg se_int (sg_sub 0 se_int))))), fun cs post h => by
    obtain ⟨t, d, rfl, ⟨ns, p, r, g, rfl, ok⟩, ht, k⟩ := h
    have ht' : t ≤ 1000000 := ht
    have hp : ib (p + 1) ≤ 100 := ib_le (n := 30) (ib_nat (by have := ok.p0; omega) (by have := ok.pt; omega))
    have p0 := ok.p0
    have pt := ok.pt
    exact ⟨_, rfl, _, rfl, _, rfl, _, rfl, ns, p + 1, 0, rfl, ok.len, ok.bits, by omega, hp, by decide, by decide, fun r' h1 h2 => ⟨_, rfl, _, rfl, k _ ⟨ns, p + 1, r', 0, rfl, ok.len, ok.bits, by omega, by omega, h1, h2, by decide, by omega⟩⟩⟩⟩
abbrev s_l_draw : Stmt := topS 14
abbrev N_l_draw : List Str := ["pool", "limit", "value"]
theorem sc_l_draw : FnScope N_l_draw ["pool", "limit"] (defScope s_l_draw) := ⟨rfl, rfl, rfl, by decide +kernel, rfl, by decide +kernel, by decide +kernel⟩
theorem C_l_draw (bi : Bi mg) (C_l_rest : Cal P w K mg base false "_law_rest" 2 F_rest) (Df : DefAt K mg "_law_draw" s_l_draw ["pool", "limit"]) : Cal P w K mg base false "_law_draw" 3 F_draw :=
  cal_ok Df sc_l_draw (fun cs post h => by obtain ⟨t, d, l, rfl, _⟩ := h; rfl) fun f cdv A outer s H E hr => ⟨_, (sss_cons (ss_if (st_cmp ob_le (se_ix (sv 0) se_int) se_int)
    (sss_cons (ss_asg (se_bin ob_add (se_ix (sv 0) se_int) se_int) (sg_sub 0 se_int))
    (sss_one (ss_asg (se_callC none C_l_rest (hr.mono (by first | decide | omega)) (by rfl) (sr_cons (se_ix (sv 0) se_int) (sr_cons (se_ix (sv 0) se_int) (sr_cons (se_ix (sv 0) se_int) sr_nil)))) (sg_sub 0 se_int))))
    sss_nil)
    (sss_cons (ss_asg (se_bin ob_mod (se_callTy cb_int (by rfl) bi.int boot_int (sr_cons (se_ix (sv 0) se_int) sr_nil)) (sv 1)) (sg_v 2 sc_l_draw.nd))
    (sss_cons (ss_asg (se_bin ob_fdiv (se_callTy cb_int (by rfl) bi.int boot_int (sr_cons (se_ix (sv 0) se_int) sr_nil)) (sv 1)) (sg_sub 0 se_int))
    (sss_one (ss_ret (sv 2)))))), fun cs post h => by
    obtain ⟨t, d, l, rfl, ⟨ns, p, r, g, rfl, ok⟩, ht, hl, bl, k⟩ := h
    have ht' : t ≤ 1000000 := ht
    have p0 := ok.p0
    have pt := ok.pt
    have f0 := ok.f0
    have ft := ok.ft
    have bp : ib p ≤ 100 := ib_le (n := 30) (ib_nat p0 (by omega))
    have bg : ib (g + 1) ≤ 100 := ib_le (n := 30) (ib_nat (by omega) (by omega))
    refine seqJoin (fun E' => ∃ r g : Int, E' = [.bor (poolD ns p r g), .val (.int l), .un] ∧ PoolOk (t + 1) ns p r g) ?_ fun j => ?_
    rotate_left
    · refine ⟨_, rfl, iteD (fun h => ?_) fun h => j _ ⟨r, g, rfl, ok.len, ok.bits, p0, by omega, ok.r0, ok.rb, f0, by omega⟩⟩
      exact ⟨_, rfl, _, rfl, _, rfl, _, rfl, _, rfl, ns, p, g + 1, rfl, ok.len, ok.bits, p0, bp, by omega, bg, fun r' h1 h2 => ⟨_, rfl, j _ ⟨r', g + 1, rfl, ok.len, ok.bits, p0, by omega, h1, h2, by omega, by omega⟩⟩⟩
    rintro E1 ⟨r, g, rfl, ok⟩
    refine ⟨_, rfl, hl, trivial, _, rfl, .inl ⟨⟨hl, ?_⟩, _, rfl, k _ _ ⟨ns, p, r / l, g, rfl, ok.len, ok.bits, p0, ok.pt, Int.ediv_nonneg ok.r0 (Int.le_of_lt hl), ib_div ok.r0 hl ok.rb, ok.f0, ok.ft⟩ (Int.emod_nonneg _ (by omega)) (Int.emod_lt_of_pos _ hl)⟩⟩
    have := ib_iff.mp bl
    exact (Nat.log2_lt (by omega)).mpr (Nat.lt_of_lt_of_le this (Nat.pow_le_pow_right (by decide) (by decide)))⟩
abbrev s_l_pick : Stmt := topS 15
abbrev N_l_pick : List Str := ["pool", "options"]
theorem sc_l_pick : FnScope N_l_pick ["pool", "options"] (defScope s_l_pick) := ⟨rfl, rfl, rfl, by decide +kernel, rfl, by decide +kernel, by decide +kernel⟩
theorem C_l_pick (bi : Bi mg) (C_l_draw : Cal P w K mg base false "_law_draw" 3 F_draw) (Df : DefAt K mg "_law_pick" s_l_pick ["pool", "options"]) : Cal P w K mg base false "_law_pick" 4 F_pick :=
  cal_ok Df sc_l_pick (fun cs post h => by obtain ⟨t, d, c, xs, rfl, _⟩ := h; rfl) fun f cdv A outer s H E hr => ⟨_, (sss_one (ss_ret (se_ix (sv 1) (se_callC (some (0, 0)) C_l_draw (hr.mono (by first | decide | omega)) (by rfl) (sr_cons (sv 0) (sr_cons (se_callB cb_len (by rfl) bi.len PySem.boot_len (sr_cons (sv 1) sr_nil)) sr_nil)))))), fun cs post h => by
    obtain ⟨t, d, c, xs, rfl, hc, hP, ht, h0, hl, k⟩ := h
    have hp : 0 < xs.length := List.length_pos_iff.mpr h0
    have e24 : sizeLine = 16777216 := by decide
    have go : ∀ d' v, Pool (t + 1) d' → 0 ≤ v → v < (xs.length : Int) → ∃ x, atI xs v = some x ∧ post (.val x) (some d') := fun d' v hP h1 h2 => by
      obtain ⟨x, a, _, b⟩ := atI_in h1 h2
      exact ⟨x, a, k d' x hP b⟩
    have bl : ib (xs.length : Int) ≤ 1000 := ib_le (n := 30) (ib_nat (by omega) (by omega))
    rcases hc with rfl | rfl <;> exact ⟨rfl, t, d, xs.length, rfl, hP, ht, by omega, bl, fun d' v p h1 h2 => go d' v p h1 h2⟩⟩
abbrev s_l_same : Stmt := topS 16
abbrev N_l_same : List Str := ["answer", "due", "key", "k"]
theorem sc_l_same : FnScope N_l_same ["answer", "due"] (defScope s_l_same) := ⟨rfl, rfl, rfl, by decide +kernel, rfl, by decide +kernel, by decide +kernel⟩
theorem C_l_same0 (Df : DefAt K mg "_law_same" s_l_same ["answer", "due"]) : Cal P w K mg base false "_law_same" 1 (fun _ _ => False) :=
  cal_ok Df sc_l_same (fun cs post h => h.elim) fun f cdv A outer s H E hr => ⟨_, sss_dead, fun cs post h => h⟩
theorem C_l_sameS (bi : Bi mg) (n : Nat) (FD : DF) (hFD : ∀ m, n = m + 1 → FD = F_same m) (C_l_same : Cal P w K mg base false "_law_same" (n + 1) FD) (Df : DefAt K mg "_law_same" s_l_same ["answer", "due"]) : Cal P w K mg base false "_law_same" (n + 2) (F_same n) :=
  cal_ok Df sc_l_same (fun cs post h => by obtain ⟨c1, c2, a, b, rfl, _⟩ := h; rfl) fun f cdv A outer s H E hr => ⟨_, (sss_cons (ss_if (st_val (se_isa (by decide) (by rfl) bi.isinstance (by rfl) bi.dict boot_dict (sv 1)))
    sss_dead
    sss_nil)
    (sss_cons (ss_if (sw_or (st_val (se_isa (by decide) (by rfl) bi.isinstance (by rfl) bi.list boot_list (sv 1))) (sw_or1 (st_val (se_isa (by decide) (by rfl) bi.isinstance (by rfl) bi.tuple boot_tuple (sv 1))))).st
    (sss_cons (ss_if (sw_or (st_cmp (ob_ne hr.units) (se_isa (by decide) (by rfl) bi.isinstance (by rfl) bi.list boot_list (sv 1)) (se_isa (by decide) (by rfl) bi.isinstance (by rfl) bi.list boot_list (sv 0))) (sw_or1 (st_cmp (ob_ne hr.units) (se_isa (by decide) (by rfl) bi.isinstance (by rfl) bi.tuple boot_tuple (sv 1)) (se_isa (by decide) (by rfl) bi.isinstance (by rfl) bi.tuple boot_tuple (sv 0))))).st
    (sss_one (ss_ret se_bl))
    sss_nil)
    (sss_one (ss_ret (se_and (se_cmp (ob_eq hr.units) (se_callB cb_len (by rfl) bi.len PySem.boot_len (sr_cons (sv 0) sr_nil)) (se_callB cb_len (by rfl) bi.len PySem.boot_len (sr_cons (sv 1) sr_nil))) (se_one (se_callB (cb_all rfl) (by rfl) bi.all boot_all (sr_cons (se_lc (own := [("k", 3)]) (ct := (.one 3)) rfl sc_l_same.nd (si_range1 (by rfl) bi.range (sr_cons (se_callB cb_len (by rfl) bi.len PySem.boot_len (sr_cons (sv 1) sr_nil)) sr_nil)) (blkOk_by (own := [("k", 3)]) (N := N_l_same) (sc := defScope s_l_same) (by decide +kernel)) (by decide)
      (fun _ _ _ _ _ => pg_name (i := 3) sc_l_same.nd rfl (Or.inl rfl)) (fun _ _ _ _ _ => sts_nil) (fun _ _ _ _ _ => (se_callC none C_l_same (hr.mono (by first | decide | omega)) (by rfl) (sr_cons (se_ix (sv 0) (sv 3)) (sr_cons (se_ix (sv 1) (sv 3)) sr_nil))))) sr_nil)))))))
    sss_nil)
    (sss_cons (ss_if (st_val (se_isa (by decide) (by rfl) bi.isinstance (by rfl) bi.str boot_str (sv 1)))
    (sss_one (ss_ret (se_and (se_isa (by decide) (by rfl) bi.isinstance (by rfl) bi.str boot_str (sv 0)) (se_one (se_cmp (ob_eq hr.units) (sv 0) (sv 1))))))
    sss_nil)
    (sss_cons (ss_if (sw_or (st_cmp ob_is (sv 1) se_non) (sw_or (st_cmp ob_is (sv 1) se_bl) (sw_or1 (st_cmp ob_is (sv 1) se_bl)))).st
    (sss_one (ss_ret (se_or (se_and (se_cmp ob_is (sv 1) se_non) (se_one (se_cmp ob_is (sv 0) se_non))) (se_or (se_and (se_cmp ob_is (sv 1) se_bl) (se_one (se_cmp ob_is (sv 0) se_bl))) (se_one (se_and (se_cmp ob_is (sv 1) se_bl) (se_one (se_cmp ob_is (sv 0) se_bl))))))))
    sss_nil)
    (sss_one (ss_ret (se_and (se_isa (by decide) (by rfl) bi.isinstance (by rfl) bi.int boot_int (sv 0)) (se_and (se_not (se_isa (by decide) (by rfl) bi.isinstance (by rfl) bi.bool boot_bool (sv 0))) (se_one (se_cmp (ob_eq hr.units) (sv 0) (sv 1))))))))))), fun cs post h => by
    obtain ⟨c1, c2, a, b, rfl, h1, h2, ok1, ok2, k⟩ := h
    cases b with
    | dk => cases n <;> exact nomatch ok2
    | dt => cases n <;> exact nomatch ok2
    | scr => cases n <;> exact nomatch ok2
    | str y =>
      cases a <;> first
        | (cases n <;> exact absurd ok1 Bool.false_ne_true)
        | (rcases h1 with rfl | rfl <;> rcases h2 with rfl | rfl <;> first | exact k | exact ⟨rfl, k⟩)
    | int y =>
      cases a <;> first
        | (cases n <;> exact absurd ok1 Bool.false_ne_true)
        | (rcases h1 with rfl | rfl <;> rcases h2 with rfl | rfl <;> first | exact k | exact ⟨rfl, k⟩ | exact ⟨rfl, rfl, rfl, k⟩ | exact ⟨rfl, rfl, rfl, rfl, k⟩)
    | non =>
      cases a <;> first
        | (cases n <;> exact absurd ok1 Bool.false_ne_true)
        | (rcases h1 with rfl | rfl <;> rcases h2 with rfl | rfl <;> first | exact ⟨rfl, rfl, rfl, rfl, rfl, k⟩ | exact ⟨rfl, rfl, rfl, k⟩ | exact ⟨rfl, rfl, rfl, rfl, k⟩)
    | bl y =>
      cases y <;> cases a <;> first
        | (cases n <;> exact absurd ok1 Bool.false_ne_true)
        | (rename_i x; cases x <;> rcases h1 with rfl | rfl <;> rcases h2 with rfl | rfl <;> first | exact ⟨rfl, rfl, rfl, rfl, rfl, k⟩ | exact ⟨rfl, rfl, rfl, k⟩ | exact ⟨rfl, rfl, rfl, rfl, k⟩ | exact ⟨rfl, rfl, rfl, rfl, rfl, rfl, k⟩ | exact ⟨rfl, rfl, rfl, rfl, rfl, rfl, rfl, k⟩ | exact ⟨rfl, rfl, rfl, rfl, rfl, rfl, rfl, rfl, k⟩)
        | (rcases h1 with rfl | rfl <;> rcases h2 with rfl | rfl <;> first | exact ⟨rfl, rfl, rfl, rfl, rfl, k⟩ | exact ⟨rfl, rfl, rfl, k⟩ | exact ⟨rfl, rfl, rfl, rfl, k⟩ | exact ⟨rfl, rfl, rfl, rfl, rfl, rfl, k⟩ | exact ⟨rfl, rfl, rfl, rfl, rfl, rfl, rfl, k⟩ | exact ⟨rfl, rfl, rfl, rfl, rfl, rfl, rfl, rfl, k⟩)
    | lst ys =>
      cases n with
      | zero => exact absurd ok2 Bool.false_ne_true
      | succ m =>
        cases hFD m rfl
        cases a with
        | lst xs =>
          have ok1' : (decide (xs.length ≤ sizeLine) && xs.all (oks m)) = true := ok1
          have ok2' : (decide (ys.length ≤ sizeLine) && ys.all (oks m)) = true := ok2
          rw [Bool.and_eq_true, decide_eq_true_eq] at ok1' ok2'
          have e24 : sizeLine = 16777216 := by decide
          have hy := ok2'.1
          have kF : xs.length ≠ ys.length → post (.val (.bl false)) none := fun z => by
            rw [show sameD (.lst xs) (.lst ys) = sames xs ys from by rw [sameD], sames_len xs ys z] at k
            exact k
          have kT : xs.length = ys.length → post (.val (.bl (((List.range ys.length).map fun k => sameD (xs.getD k .non) (ys.getD k .non)).all id))) none := fun z => by
            rw [show sameD (.lst xs) (.lst ys) = sames xs ys from by rw [sameD], sames_all xs ys z] at k
            exact k
          have step : xs.length = ys.length → ∀ x, x ∈ rangeD 0 ((ys.length : Int)).toNat → ∃ (i : Nat) (u v : D), x = .int i ∧ atI xs i = some u ∧ atI ys i = some v ∧ oks m u = true ∧ oks m v = true ∧ xs.getD i .non = u ∧ ys.getD i .non = v := fun z x hx => by
            obtain ⟨i, hi, rfl⟩ := List.mem_map.mp hx
            rw [List.mem_range, Int.toNat_natCast] at hi
            obtain ⟨u, a1, a2, a3⟩ := atI_in (xs := xs) (i := (i : Int)) (by omega) (by omega)
            obtain ⟨v, b1, b2, b3⟩ := atI_in (xs := ys) (i := (i : Int)) (by omega) (by omega)
            rw [Int.toNat_natCast] at a2 b2
            exact ⟨i, u, v, by simp, a1, b1, List.all_eq_true.mp ok1'.2 u a3, List.all_eq_true.mp ok2'.2 v b3, by rw [List.getD_eq_getElem?_getD, a2]; rfl, by rw [List.getD_eq_getElem?_getD, b2]; rfl⟩
          let f : D → D := fun x => match x with
            | .int i => .bl (sameD (xs.getD i.toNat .non) (ys.getD i.toNat .non))
            | _ => .non
          have hm : (rangeD 0 ((ys.length : Int)).toNat).map f = ((List.range ys.length).map fun k => sameD (xs.getD k .non) (ys.getD k .non)).map D.bl := by
            unfold rangeD
            rw [List.map_map, List.map_map, Int.toNat_natCast]
            refine List.map_congr_left fun i _ => ?_
            show D.bl (sameD (xs.getD (0 + (i : Int)).toNat .non) (ys.getD (0 + (i : Int)).toNat .non)) = _
            rw [Int.zero_add, Int.toNat_natCast]
            rfl
          rcases h1 with rfl | rfl <;> rcases h2 with rfl | rfl
          all_goals
            refine ⟨rfl, rfl, rfl, iteB (fun z => ?_) fun z => kF fun e => ?_⟩
            rotate_left
            · have z' : ((xs.length : Int) == (ys.length : Int)) = false := z
              rw [e] at z'
              simp at z'
            have z' : ((xs.length : Int) == (ys.length : Int)) = true := z
            have e : xs.length = ys.length := Int.ofNat.inj (eq_of_beq z')
            refine ⟨⟨by omega, by omega⟩, lc_map f _ _ (fun x hx k' hk => ?_) (by unfold rangeD; rw [List.length_map, List.length_range]; omega) ⟨_, hm, kT e⟩⟩
            obtain ⟨i, u, v, rfl, a1, a2, o1, o2, g1, g2⟩ := step e x hx
            refine ⟨u, a1, v, a2, .val u, .val v, u, v, rfl, .inl rfl, .inl rfl, o1, o2, ?_⟩
            have hk' : k' (some (.bl (sameD (xs.getD (i : Int).toNat .non) (ys.getD (i : Int).toNat .non)))) _ := hk
            rw [Int.toNat_natCast, g1, g2] at hk'
            exact hk'
        | dk => exact absurd ok1 Bool.false_ne_true
        | dt => exact absurd ok1 Bool.false_ne_true
        | scr => exact absurd ok1 Bool.false_ne_true
        | _ => rcases h1 with rfl | rfl <;> rcases h2 with rfl | rfl <;> first | exact ⟨rfl, k⟩ | exact ⟨rfl, rfl, k⟩
    | tup ys =>
      cases n with
      | zero => exact absurd ok2 Bool.false_ne_true
      | succ m =>
        cases hFD m rfl
        cases a with
        | tup xs =>
          have ok1' : (decide (xs.length ≤ sizeLine) && xs.all (oks m)) = true := ok1
          have ok2' : (decide (ys.length ≤ sizeLine) && ys.all (oks m)) = true := ok2
          rw [Bool.and_eq_true, decide_eq_true_eq] at ok1' ok2'
          have e24 : sizeLine = 16777216 := by decide
          have hy := ok2'.1
          have kF : xs.length ≠ ys.length → post (.val (.bl false)) none := fun z => by
            rw [show sameD (.tup xs) (.tup ys) = sames xs ys from by rw [sameD], sames_len xs ys z] at k
            exact k
          have kT : xs.length = ys.length → post (.val (.bl (((List.range ys.length).map fun k => sameD (xs.getD k .non) (ys.getD k .non)).all id))) none := fun z => by
            rw [show sameD (.tup xs) (.tup ys) = sames xs ys from by rw [sameD], sames_all xs ys z] at k
            exact k
          have step : xs.length = ys.length → ∀ x, x ∈ rangeD 0 ((ys.length : Int)).toNat → ∃ (i : Nat) (u v : D), x = .int i ∧ atI xs i = some u ∧ atI ys i = some v ∧ oks m u = true ∧ oks m v = true ∧ xs.getD i .non = u ∧ ys.getD i .non = v := fun z x hx => by
            obtain ⟨i, hi, rfl⟩ := List.mem_map.mp hx
            rw [List.mem_range, Int.toNat_natCast] at hi
            obtain ⟨u, a1, a2, a3⟩ := atI_in (xs := xs) (i := (i : Int)) (by omega) (by omega)
            obtain ⟨v, b1, b2, b3⟩ := atI_in (xs := ys) (i := (i : Int)) (by omega) (by omega)
            rw [Int.toNat_natCast] at a2 b2
            exact ⟨i, u, v, by simp, a1, b1, List.all_eq_true.mp ok1'.2 u a3, List.all_eq_true.mp ok2'.2 v b3, by rw [List.getD_eq_getElem?_getD, a2]; rfl, by rw [List.getD_eq_getElem?_getD, b2]; rfl⟩
          let f : D → D := fun x => match x with
            | .int i => .bl (sameD (xs.getD i.toNat .non) (ys.getD i.toNat .non))
            | _ => .non
          have hm : (rangeD 0 ((ys.length : Int)).toNat).map f = ((List.range ys.length).map fun k => sameD (xs.getD k .non) (ys.getD k .non)).map D.bl := by
            unfold rangeD
            rw [List.map_map, List.map_map, Int.toNat_natCast]
            refine List.map_congr_left fun i _ => ?_
            show D.bl (sameD (xs.getD (0 + (i : Int)).toNat .non) (ys.getD (0 + (i : Int)).toNat .non)) = _
            rw [Int.zero_add, Int.toNat_natCast]
            rfl
          rcases h1 with rfl | rfl <;> rcases h2 with rfl | rfl
          all_goals
            refine ⟨rfl, rfl, rfl, iteB (fun z => ?_) fun z => kF fun e => ?_⟩
            rotate_left
            · have z' : ((xs.length : Int) == (ys.length : Int)) = false := z
              rw [e] at z'
              simp at z'
            have z' : ((xs.length : Int) == (ys.length : Int)) = true := z
            have e : xs.length = ys.length := Int.ofNat.inj (eq_of_beq z')
            refine ⟨⟨by omega, by omega⟩, lc_map f _ _ (fun x hx k' hk => ?_) (by unfold rangeD; rw [List.length_map, List.length_range]; omega) ⟨_, hm, kT e⟩⟩
            obtain ⟨i, u, v, rfl, a1, a2, o1, o2, g1, g2⟩ := step e x hx
            refine ⟨u, a1, v, a2, .val u, .val v, u, v, rfl, .inl rfl, .inl rfl, o1, o2, ?_⟩
            have hk' : k' (some (.bl (sameD (xs.getD (i : Int).toNat .non) (ys.getD (i : Int).toNat .non)))) _ := hk
            rw [Int.toNat_natCast, g1, g2] at hk'
            exact hk'
        | dk => exact absurd ok1 Bool.false_ne_true
        | dt => exact absurd ok1 Bool.false_ne_true
        | scr => exact absurd ok1 Bool.false_ne_true
        | _ => rcases h1 with rfl | rfl <;> rcases h2 with rfl | rfl <;> first | exact ⟨rfl, k⟩ | exact ⟨rfl, rfl, k⟩⟩
end
end BL
set_option Elab.async false
set_option linter.all false
set_option maxRecDepth 100000
set_option maxHeartbeats 4000000
/-! k87: turns and mirrors of a ring of 23 places, in plain Lean. -/
namespace BL
open PySem PySem.Spec PyProof.Rows L2 BD
abbrev SG : Str := "abcdefghijklmnopqrstuvwxyz0123456789ET,./*+-= "
def LG : List Nat := [97, 98, 99, 100, 101, 102, 103, 104, 105, 106, 107, 108, 109, 110, 111, 112, 113, 114, 115, 116, 117, 118, 119, 120, 121, 122, 48, 49, 50, 51, 52, 53, 54, 55, 56, 57, 69, 84, 44, 46, 47, 42, 43, 45, 61, 32]
theorem SG_LG : SG.cps.toList = LG := by decide +kernel
def ix (c : Nat) : Nat := LG.idxOf c
theorem SG_occ : ∀ c ∈ LG, Builtin.Str.occurrences SG ⟨#[c]⟩ 0 SG.length 1 = [ix c] := by decide +kernel
theorem ix_lt {c : Nat} (h : c ∈ LG) : ix c < 46 := List.idxOf_lt_length_of_mem h
theorem ix_get {c : Nat} (h : c ∈ LG) : LG[ix c]? = some c := by
  have := List.getElem_idxOf (List.idxOf_lt_length_of_mem h)
  unfold ix
  rw [List.getElem?_eq_getElem (List.idxOf_lt_length_of_mem h), this]
theorem ix_inj {c d : Nat} (hc : c ∈ LG) (hd : d ∈ LG) (h : ix c = ix d) : c = d := by
  have a := ix_get hc
  rw [h, ix_get hd] at a
  exact (Option.some.inj a).symm
theorem ix_of : ∀ k < 46, ∃ c ∈ LG, ix c = k := by decide +kernel
theorem LG_cnt : ∀ c ∈ LG, List.count c LG = 1 := by decide +kernel
def jt (a b : Int) : Int := if 23 ≤ a then (if 23 ≤ b then (a % 23 - b % 23) % 23 else (a % 23 - b % 23) % 23 + 23) else (if 23 ≤ b then (a % 23 + b % 23) % 23 + 23 else (a % 23 + b % 23) % 23)
def mv (a : Int) : Int := if a < 23 then (-a) % 23 else 23 + (a - 22) % 23
def mo (a k : Int) : Int := if a < 23 then (if k % 2 = 0 then a else (-a) % 23) else 23 + (a - 23 + k) % 23
def pl (a k : Int) : Int := if a < 23 then (a + k) % 23 else (a - 23 - k) % 23
def Rg (a : Int) : Prop := 0 ≤ a ∧ a < 46
theorem jt_rg (a b : Int) : Rg (jt a b) := by unfold jt Rg; split <;> split <;> omega
theorem mo_rg {a : Int} (h : Rg a) (k : Int) : Rg (mo a k) := by
  unfold Rg at h
  unfold mo Rg; split
  · split <;> omega
  · omega
theorem mv_rg (a : Int) (h : Rg a) : Rg (mv a) := by unfold Rg at h; unfold mv Rg; split <;> omega
theorem mo_0 {a : Int} (h : Rg a) : mo a 0 = a := by unfold Rg at h; unfold mo; split <;> omega
theorem mo_1 {a : Int} {k : Int} (h : Rg a) : mo a (k + 1) = mv (mo a k) := by
  unfold Rg at h; unfold mo mv
  by_cases h1 : a < 23
  · rw [if_pos h1, if_pos h1]
    by_cases h2 : k % 2 = 0
    · rw [if_neg (by omega), if_pos h2, if_pos h1]
    · rw [if_pos (by omega), if_neg h2, if_pos (by omega)]; omega
  · rw [if_neg h1, if_neg h1, if_neg (by omega)]; omega
theorem mo_inj {a b k : Int} (ha : Rg a) (hb : Rg b) (h : mo a k = mo b k) : a = b := by
  unfold Rg at ha hb; unfold mo at h
  by_cases h1 : a < 23 <;> by_cases h2 : b < 23
  · rw [if_pos h1, if_pos h2] at h
    by_cases h3 : k % 2 = 0
    · rw [if_pos h3, if_pos h3] at h; exact h
    · rw [if_neg h3, if_neg h3] at h; omega
  · rw [if_pos h1, if_neg h2] at h
    by_cases h3 : k % 2 = 0
    · rw [if_pos h3] at h; omega
    · rw [if_neg h3] at h; omega
  · rw [if_neg h1, if_pos h2] at h
    by_cases h3 : k % 2 = 0
    · rw [if_pos h3] at h; omega
    · rw [if_neg h3] at h; omega
  · rw [if_neg h1, if_neg h2] at h; omega
theorem jt_left {a b c : Int} (ha : Rg a) (hb : Rg b) (hc : Rg c) (h : jt a b = jt a c) : b = c := by
  unfold Rg at ha hb hc; unfold jt at h
  by_cases h1 : 23 ≤ a <;> by_cases h2 : 23 ≤ b <;> by_cases h3 : 23 ≤ c <;> simp only [h1, h2, h3, if_true, if_false] at h <;> omega
theorem jt_right {a b c : Int} (ha : Rg a) (hb : Rg b) (hc : Rg c) (h : jt b a = jt c a) : b = c := by
  unfold Rg at ha hb hc; unfold jt at h
  by_cases h1 : 23 ≤ a <;> by_cases h2 : 23 ≤ b <;> by_cases h3 : 23 ≤ c <;> simp only [h1, h2, h3, if_true, if_false] at h <;> omega
theorem jt_assoc {a b c : Int} (ha : Rg a) (hb : Rg b) (hc : Rg c) : jt (jt a b) c = jt a (jt b c) := by
  unfold Rg at ha hb hc
  have e : ∀ x y : Int, 23 ≤ x → 23 ≤ y → jt x y = (x % 23 - y % 23) % 23 := fun x y h1 h2 => by unfold jt; rw [if_pos h1, if_pos h2]
  have e2 : ∀ x y : Int, 23 ≤ x → ¬ 23 ≤ y → jt x y = (x % 23 - y % 23) % 23 + 23 := fun x y h1 h2 => by unfold jt; rw [if_pos h1, if_neg h2]
  have e3 : ∀ x y : Int, ¬ 23 ≤ x → 23 ≤ y → jt x y = (x % 23 + y % 23) % 23 + 23 := fun x y h1 h2 => by unfold jt; rw [if_neg h1, if_pos h2]
  have e4 : ∀ x y : Int, ¬ 23 ≤ x → ¬ 23 ≤ y → jt x y = (x % 23 + y % 23) % 23 := fun x y h1 h2 => by unfold jt; rw [if_neg h1, if_neg h2]
  by_cases h1 : 23 ≤ a <;> by_cases h2 : 23 ≤ b <;> by_cases h3 : 23 ≤ c
  · rw [e a b h1 h2, e b c h2 h3, e3 _ c (by omega) h3, e2 a _ h1 (by omega)]; omega
  · rw [e a b h1 h2, e2 b c h2 h3, e4 _ c (by omega) h3, e a _ h1 (by omega)]; omega
  · rw [e2 a b h1 h2, e3 b c h2 h3, e _ c (by omega) h3, e a _ h1 (by omega)]; omega
  · rw [e2 a b h1 h2, e4 b c h2 h3, e2 _ c (by omega) h3, e2 a _ h1 (by omega)]; omega
  · rw [e3 a b h1 h2, e b c h2 h3, e _ c (by omega) h3, e4 a _ h1 (by omega)]; omega
  · rw [e3 a b h1 h2, e2 b c h2 h3, e2 _ c (by omega) h3, e3 a _ h1 (by omega)]; omega
  · rw [e4 a b h1 h2, e3 b c h2 h3, e3 _ c (by omega) h3, e3 a _ h1 (by omega)]; omega
  · rw [e4 a b h1 h2, e4 b c h2 h3, e4 _ c (by omega) h3, e4 a _ h1 (by omega)]; omega
/-- neighbours exchanged -/
theorem jt_swap {x y : Int} (hx : Rg x) (hy : Rg y) (h : jt x (mv y) = jt y (mv x)) : x = y := by
  unfold Rg at hx hy; unfold jt mv at h
  by_cases h1 : 23 ≤ x <;> by_cases h2 : 23 ≤ y
  · have a1 : ¬ x < 23 := by omega
    have a2 : ¬ y < 23 := by omega
    have b1 : 23 ≤ 23 + (x - 22) % 23 := by omega
    have b2 : 23 ≤ 23 + (y - 22) % 23 := by omega
    simp only [h1, h2, a1, a2, b1, b2, if_true, if_false] at h; omega
  · have a1 : ¬ x < 23 := by omega
    have a2 : y < 23 := by omega
    have b1 : 23 ≤ 23 + (x - 22) % 23 := by omega
    have b2 : ¬ 23 ≤ (-y) % 23 := by omega
    simp only [h1, h2, a1, a2, b1, b2, if_true, if_false] at h; omega
  · have a1 : x < 23 := by omega
    have a2 : ¬ y < 23 := by omega
    have b1 : ¬ 23 ≤ (-x) % 23 := by omega
    have b2 : 23 ≤ 23 + (y - 22) % 23 := by omega
    simp only [h1, h2, a1, a2, b1, b2, if_true, if_false] at h; omega
  · have a1 : x < 23 := by omega
    have a2 : y < 23 := by omega
    have b1 : ¬ 23 ≤ (-x) % 23 := by omega
    have b2 : ¬ 23 ≤ (-y) % 23 := by omega
    simp only [h1, h2, a1, a2, b1, b2, if_true, if_false] at h; omega
/-- the joined turn is where the two places go -/
theorem pl_inj {a b : Int} (ha : Rg a) (hb : Rg b) (h0 : pl a 0 = pl b 0) (h1 : pl a 1 = pl b 1) : a = b := by
  unfold Rg at ha hb; unfold pl at h0 h1
  by_cases q1 : a < 23 <;> by_cases q2 : b < 23 <;> simp only [q1, q2, if_true, if_false] at h0 h1 <;> omega
theorem pl_jt {a b : Int} (ha : Rg a) (hb : Rg b) (k : Int) : pl (jt a b) k = pl a (pl b k) := by
  unfold Rg at ha hb
  have p : ∀ x y : Int, x < 23 → pl x y = (x + y) % 23 := fun x y h => by unfold pl; rw [if_pos h]
  have q : ∀ x y : Int, ¬ x < 23 → pl x y = (x - 23 - y) % 23 := fun x y h => by unfold pl; rw [if_neg h]
  by_cases h1 : 23 ≤ a <;> by_cases h2 : 23 ≤ b
  · rw [q b k (by omega), q a _ (by omega), p _ k (by unfold jt; rw [if_pos h1, if_pos h2]; omega)]; unfold jt; rw [if_pos h1, if_pos h2]; omega
  · rw [p b k (by omega), q a _ (by omega), q _ k (by unfold jt; rw [if_pos h1, if_neg h2]; omega)]; unfold jt; rw [if_pos h1, if_neg h2]; omega
  · rw [q b k (by omega), p a _ (by omega), q _ k (by unfold jt; rw [if_neg h1, if_pos h2]; omega)]; unfold jt; rw [if_neg h1, if_pos h2]; omega
  · rw [p b k (by omega), p a _ (by omega), p _ k (by unfold jt; rw [if_neg h1, if_neg h2]; omega)]; unfold jt; rw [if_neg h1, if_neg h2]; omega
theorem jt_inv {t k : Int} (ht : Rg t) : ∃ x, Rg x ∧ jt t (mo x k) = 0 := by
  unfold Rg at ht
  by_cases h : 23 ≤ t
  · refine ⟨23 + (t - 23 - k) % 23, ⟨by omega, by omega⟩, ?_⟩
    unfold mo
    rw [if_neg (by omega)]
    unfold jt
    rw [if_pos h, if_pos (by omega)]
    omega
  · by_cases h2 : k % 2 = 0
    · refine ⟨(-t) % 23, ⟨by omega, by omega⟩, ?_⟩
      unfold mo
      rw [if_pos (by omega), if_pos h2]
      unfold jt
      rw [if_neg h, if_neg (by omega)]
      omega
    · refine ⟨t, ⟨by omega, by omega⟩, ?_⟩
      unfold mo
      rw [if_pos (by omega), if_neg h2]
      unfold jt
      rw [if_neg h, if_neg (by omega)]
      omega
/-! ### the sum of a line -/
def sm : Int → Nat → List Nat → Int
  | t, _, [] => t
  | t, k, c :: r => sm (jt t (mo (ix c) k)) (k + 1) r
def All (cs : List Nat) : Prop := ∀ c ∈ cs, c ∈ LG
theorem ix_rg {c : Nat} (h : c ∈ LG) : Rg (ix c : Int) := ⟨by omega, by have := ix_lt h; omega⟩
theorem sm_rg {t : Int} (ht : Rg t) : ∀ (k : Nat) (cs : List Nat), Rg (sm t k cs) := by
  intro k cs
  induction cs generalizing t k with
  | nil => exact ht
  | cons c r ih => exact ih (jt_rg _ _) _
theorem sm_app : ∀ (xs : List Nat) (t : Int) (k : Nat) (ys : List Nat), sm t k (xs ++ ys) = sm (sm t k xs) (k + xs.length) ys
  | [], t, k, ys => rfl
  | x :: xs, t, k, ys => by
    rw [List.cons_append, sm, sm, sm_app xs, List.length_cons, show k + (xs.length + 1) = k + 1 + xs.length by omega]
theorem sm_inj : ∀ (cs : List Nat) (t u : Int) (k : Nat), All cs → Rg t → Rg u → sm t k cs = sm u k cs → t = u
  | [], _, _, _, _, _, _, h => h
  | c :: r, t, u, k, ha, ht, hu, h => by
    have := sm_inj r _ _ (k + 1) (fun d hd => ha d (List.mem_cons_of_mem _ hd)) (jt_rg _ _) (jt_rg _ _) h
    exact jt_right (mo_rg (ix_rg (ha c List.mem_cons_self)) _) ht hu this
theorem Rg0 : Rg 0 := by unfold Rg; omega
/-- one sign changed -/
theorem sm_change {xs ys : List Nat} {c d : Nat} (hy : All ys) (hc : c ∈ LG) (hd : d ∈ LG) (h : sm 0 0 (xs ++ c :: ys) = sm 0 0 (xs ++ d :: ys)) : c = d := by
  rw [sm_app, sm_app, sm, sm] at h
  have h1 := sm_inj ys _ _ _ hy (jt_rg _ _) (jt_rg _ _) h
  have h2 := jt_left (sm_rg Rg0 _ _) (mo_rg (ix_rg hc) _) (mo_rg (ix_rg hd) _) h1
  have h3 := mo_inj (ix_rg hc) (ix_rg hd) h2
  exact ix_inj hc hd (Int.ofNat.inj h3)
theorem sm_swap {xs ys : List Nat} {c d : Nat} (hy : All ys) (hc : c ∈ LG) (hd : d ∈ LG) (h : sm 0 0 (xs ++ c :: d :: ys) = sm 0 0 (xs ++ d :: c :: ys)) : c = d := by
  rw [sm_app, sm_app, sm, sm, sm, sm] at h
  have h1 := sm_inj ys _ _ _ hy (jt_rg _ _) (jt_rg _ _) h
  have rc := ix_rg hc
  have rd := ix_rg hd
  have rt := sm_rg Rg0 0 xs
  rw [jt_assoc rt (mo_rg rc _) (mo_rg rd _), jt_assoc rt (mo_rg rd _) (mo_rg rc _)] at h1
  have h2 := jt_left rt (jt_rg _ _) (jt_rg _ _) h1
  have e : ∀ x : Int, Rg x → mo x ((0 + xs.length + 1 : Nat) : Int) = mv (mo x ((0 + xs.length : Nat) : Int)) := fun x hx => by
    rw [← mo_1 hx]; rfl
  rw [e _ rc, e _ rd] at h2
  have h3 := jt_swap (mo_rg rc _) (mo_rg rd _) h2
  exact ix_inj hc hd (Int.ofNat.inj (mo_inj rc rd h3))
/-- just one sign makes the sum 0 -/
theorem sm_one (cs : List Nat) : ∃ c, c ∈ LG ∧ sm 0 0 (cs ++ [c]) = 0 ∧ LG.filter (fun s => sm 0 0 (cs ++ [s]) == 0) = [c] := by
  obtain ⟨x, hx, h⟩ := jt_inv (t := sm 0 0 cs) (k := ((0 + cs.length : Nat) : Int)) (sm_rg Rg0 0 cs)
  obtain ⟨c, hc, e⟩ := ix_of x.toNat (by unfold Rg at hx; omega)
  have ex : (ix c : Int) = x := by rw [e]; unfold Rg at hx; omega
  have h0 : sm 0 0 (cs ++ [c]) = 0 := by rw [sm_app, sm, sm, ex]; exact h
  refine ⟨c, hc, h0, ?_⟩
  have g : LG.filter (fun s => sm 0 0 (cs ++ [s]) == 0) = LG.filter (fun s => s == c) := by
    refine List.filter_congr fun s hs => ?_
    by_cases z : s = c
    · subst z; rw [h0]; simp
    · rw [show (s == c) = false from by simpa using z]
      have : sm 0 0 (cs ++ [s]) ≠ 0 := fun q => z (sm_change (ys := []) (fun _ h => nomatch h) hs hc (by rw [q, h0]))
      simpa using this
  rw [g, List.filter_beq, LG_cnt c hc]
  rfl
end BL
set_option Elab.async false
set_option linter.all false
set_option maxRecDepth 100000
set_option maxHeartbeats 4000000
namespace BL
open PySem PySem.Spec PyProof.Rows L2 BD
def stS (cs : List Nat) : Str := ⟨cs.toArray⟩
theorem stS_list (cs : List Nat) : (stS cs).cps.toList = cs := rfl
theorem stS_len (cs : List Nat) : (stS cs).length = cs.length := by show (stS cs).cps.size = _; unfold stS; rw [List.size_toArray]
theorem stS_app (xs ys : List Nat) : stS xs ++ stS ys = stS (xs ++ ys) := by
  show (⟨xs.toArray ++ ys.toArray⟩ : Str) = ⟨(xs ++ ys).toArray⟩
  rw [List.append_toArray]
def F_jt : DF := fun cs post => ∃ a b : Int, cs = [.val (.int a), .val (.int b)] ∧ post (.val (.int (jt a b))) none
def F_mv : DF := fun cs post => ∃ a : Int, cs = [.val (.int a)] ∧ post (.val (.int (mv a))) none
def F_mo : DF := fun cs post => ∃ a k : Int, cs = [.val (.int a), .val (.int k)] ∧ post (.val (.int (mo a k))) none
def F_pl : DF := fun cs post => ∃ a k : Int, cs = [.val (.int a), .val (.int k)] ∧ post (.val (.int (pl a k))) none
def F_lj : DF := fun cs post => ∃ a b : Int, cs = [.val (.int a), .val (.int b)] ∧ Rg a ∧ Rg b ∧ post (.val (.int (jt a b))) none
def F_sum : DF := fun cs post => ∃ l : List Nat, cs = [.val (.str (stS l))] ∧ l.length ≤ 1000 ∧ All l ∧ post (.val (.int (sm 0 0 l))) none
def F_chk : DF := fun cs post => ∃ l : List Nat, cs = [.val (.str (stS l))] ∧ l.length ≤ 900 ∧ All l ∧ ∀ c, c ∈ LG → sm 0 0 (l ++ [c]) = 0 → post (.val (.str (stS (l ++ [c])))) none
def chk (l : List Nat) : Bool := !l.isEmpty && (l.all (fun c => decide (c ∈ LG)) && (sm 0 0 l == 0))
def F_isc : DF := fun cs post => ∃ l : List Nat, cs = [.val (.str (stS l))] ∧ l.length ≤ 1000 ∧ post (.val (.bl (chk l))) none
section
variable {P : Program} {w : World} {K : PySem.W.Frag} {mg : Str → Option Value} {base : Heap}
abbrev s_joined_turns : Stmt := topS 3
abbrev N_joined_turns : List Str := ["one", "other", "first", "mirrored", "second", "turned", "place"]
theorem sc_joined_turns : FnScope N_joined_turns ["one", "other"] (defScope s_joined_turns) := ⟨rfl, rfl, rfl, by decide +kernel, rfl, by decide +kernel, by decide +kernel⟩
theorem C_joined_turns {tR : Tok} (c_RING : mg "RING" = some (.int 23 tR)) (Df : DefAt K mg "joined_turns" s_joined_turns ["one", "other"]) : Cal P w K mg base false "joined_turns" 1 F_jt :=
  cal_ok Df sc_joined_turns (fun cs post h => by obtain ⟨a, b, rfl, _⟩ := h; rfl) fun f cdv A outer s H E hr => ⟨_, (sss_cons (ss_par (i := 2) (j := 3) rfl sc_joined_turns.nd rfl rfl (by decide) rfl rfl (sa_cons (se_bin ob_mod (sv 0) (se_globI (by rfl) c_RING ⟨_, rfl⟩)) (sa_cons (se_cmp ob_ge (sv 0) (se_globI (by rfl) c_RING ⟨_, rfl⟩)) sa_nil)) (by rfl))
    (sss_cons (ss_par (i := 4) (j := 5) rfl sc_joined_turns.nd rfl rfl (by decide) rfl rfl (sa_cons (se_bin ob_mod (sv 1) (se_globI (by rfl) c_RING ⟨_, rfl⟩)) (sa_cons (se_cmp ob_ge (sv 1) (se_globI (by rfl) c_RING ⟨_, rfl⟩)) sa_nil)) (by rfl))
    (sss_cons (ss_asg (se_bin ob_mod (se_if (st_val (sv 3)) (se_bin ob_sub (sv 2) (sv 4)) (se_bin ob_add (sv 2) (sv 4))) (se_globI (by rfl) c_RING ⟨_, rfl⟩)) (sg_v 6 sc_joined_turns.nd))
    (sss_one (ss_ret (se_bin ob_add (sv 6) (se_if (st_cmp (ob_ne hr.units) (sv 3) (sv 5)) (se_globI (by rfl) c_RING ⟨_, rfl⟩) se_int))))))), fun cs post h => by
    obtain ⟨a, b, rfl, k⟩ := h
    have kk : ∀ x, jt a b = x → post (.val (.int x)) none := fun x e => e ▸ k
    refine ⟨by decide, trivial, trivial, by decide, trivial, trivial, iteD (fun h1 => ⟨by decide, trivial, rfl, iteB (fun h => kk _ ?_) fun h => kk _ ?_⟩) fun h1 => ⟨by decide, trivial, rfl, iteB (fun h => kk _ ?_) fun h => kk _ ?_⟩⟩
    all_goals
      have h' : (!(decide (23 ≤ a) == decide (23 ≤ b))) = _ := h
      first | rw [decide_eq_true h1] at h' | rw [decide_eq_false h1] at h'
      unfold jt
      first | rw [if_pos h1] | rw [if_neg h1]
      by_cases h2 : 23 ≤ b
      · rw [decide_eq_true h2] at h'
        first | exact absurd h' (by decide) | simp only [if_pos h2, Int.add_zero]
      · rw [decide_eq_false h2] at h'
        first | exact absurd h' (by decide) | simp only [if_neg h2, Int.add_zero]⟩
abbrev s_moved : Stmt := topS 4
abbrev N_moved : List Str := ["number"]
theorem sc_moved : FnScope N_moved ["number"] (defScope s_moved) := ⟨rfl, rfl, rfl, by decide +kernel, rfl, by decide +kernel, by decide +kernel⟩
theorem C_moved {tR : Tok} (c_RING : mg "RING" = some (.int 23 tR)) (Df : DefAt K mg "moved" s_moved ["number"]) : Cal P w K mg base false "moved" 1 F_mv :=
  cal_ok Df sc_moved (fun cs post h => by obtain ⟨a, rfl, _⟩ := h; rfl) fun f cdv A outer s H E hr => ⟨_, (sss_cons (ss_if (st_cmp ob_lt (sv 0) (se_globI (by rfl) c_RING ⟨_, rfl⟩))
    (sss_one (ss_ret (se_bin ob_mod (se_un un_neg ud_neg (sv 0)) (se_globI (by rfl) c_RING ⟨_, rfl⟩))))
    sss_nil)
    (sss_one (ss_ret (se_bin ob_add (se_globI (by rfl) c_RING ⟨_, rfl⟩) (se_bin ob_mod (se_bin ob_add (se_bin ob_sub (sv 0) (se_globI (by rfl) c_RING ⟨_, rfl⟩)) se_int) (se_globI (by rfl) c_RING ⟨_, rfl⟩)))))), fun cs post h => by
    obtain ⟨a, rfl, k⟩ := h
    have kk : ∀ x, mv a = x → post (.val (.int x)) none := fun x e => e ▸ k
    refine iteD (fun h1 => ⟨by decide, kk _ ?_⟩) fun h1 => ⟨by decide, kk _ ?_⟩
    · unfold mv; rw [if_pos h1]
    · unfold mv; rw [if_neg h1]; omega⟩
abbrev s_moved_often : Stmt := topS 5
abbrev N_moved_often : List Str := ["number", "times"]
theorem sc_moved_often : FnScope N_moved_often ["number", "times"] (defScope s_moved_often) := ⟨rfl, rfl, rfl, by decide +kernel, rfl, by decide +kernel, by decide +kernel⟩
theorem C_moved_often {tR : Tok} (c_RING : mg "RING" = some (.int 23 tR)) (Df : DefAt K mg "moved_often" s_moved_often ["number", "times"]) : Cal P w K mg base false "moved_often" 1 F_mo :=
  cal_ok Df sc_moved_often (fun cs post h => by obtain ⟨a, b, rfl, _⟩ := h; rfl) fun f cdv A outer s H E hr => ⟨_, (sss_cons (ss_if (st_cmp ob_lt (sv 0) (se_globI (by rfl) c_RING ⟨_, rfl⟩))
    (sss_one (ss_ret (se_if (st_cmp (ob_eq hr.units) (se_bin ob_mod (sv 1) se_int) se_int) (sv 0) (se_bin ob_mod (se_un un_neg ud_neg (sv 0)) (se_globI (by rfl) c_RING ⟨_, rfl⟩)))))
    sss_nil)
    (sss_one (ss_ret (se_bin ob_add (se_globI (by rfl) c_RING ⟨_, rfl⟩) (se_bin ob_mod (se_bin ob_add (se_bin ob_sub (sv 0) (se_globI (by rfl) c_RING ⟨_, rfl⟩)) (sv 1)) (se_globI (by rfl) c_RING ⟨_, rfl⟩)))))), fun cs post h => by
    obtain ⟨a, b, rfl, k⟩ := h
    have kk : ∀ x, mo a b = x → post (.val (.int x)) none := fun x e => e ▸ k
    refine iteD (fun h1 => ⟨by decide, rfl, iteB (fun h => kk _ ?_) fun h => ⟨by decide, kk _ ?_⟩⟩) fun h1 => ⟨by decide, kk _ ?_⟩
    · unfold mo; rw [if_pos h1, if_pos (eq_of_beq (show (b % 2 == 0) = true from h))]
    · unfold mo; rw [if_pos h1, if_neg (fun z => by rw [show (D.eq (.int (b % 2)) (.int 0)) = (b % 2 == 0) from rfl, z] at h; exact absurd h (by decide))]
    · unfold mo; rw [if_neg h1]⟩
abbrev s_l_place : Stmt := topS 17
abbrev N_l_place : List Str := ["number", "at"]
theorem sc_l_place : FnScope N_l_place ["number", "at"] (defScope s_l_place) := ⟨rfl, rfl, rfl, by decide +kernel, rfl, by decide +kernel, by decide +kernel⟩
theorem C_l_place (bi : Bi mg) (Df : DefAt K mg "_law_place" s_l_place ["number", "at"]) : Cal P w K mg base false "_law_place" 1 F_pl :=
  cal_ok Df sc_l_place (fun cs post h => by obtain ⟨a, b, rfl, _⟩ := h; rfl) fun f cdv A outer s H E hr => ⟨_, (sss_one (ss_ret (se_if (st_cmp ob_lt (sv 0) se_int) (se_bin ob_mod (se_callTy cb_int (by rfl) bi.int boot_int (sr_cons (se_bin ob_add (sv 0) (sv 1)) sr_nil)) se_int) (se_bin ob_mod (se_callTy cb_int (by rfl) bi.int boot_int (sr_cons (se_bin ob_sub (se_bin ob_sub (sv 0) se_int) (sv 1)) sr_nil)) se_int)))), fun cs post h => by
    obtain ⟨a, b, rfl, k⟩ := h
    have kk : ∀ x, pl a b = x → post (.val (.int x)) none := fun x e => e ▸ k
    refine iteD (fun h1 => ⟨by decide, kk _ ?_⟩) fun h1 => ⟨by decide, kk _ ?_⟩
    · unfold pl; rw [if_pos h1]
    · unfold pl; rw [if_neg h1]⟩
abbrev s_l_moved : Stmt := topS 19
abbrev N_l_moved : List Str := ["number"]
theorem sc_l_moved : FnScope N_l_moved ["number"] (defScope s_l_moved) := ⟨rfl, rfl, rfl, by decide +kernel, rfl, by decide +kernel, by decide +kernel⟩
theorem C_l_moved (bi : Bi mg) (Df : DefAt K mg "_law_moved" s_l_moved ["number"]) : Cal P w K mg base false "_law_moved" 1 F_mv :=
  cal_ok Df sc_l_moved (fun cs post h => by obtain ⟨a, rfl, _⟩ := h; rfl) fun f cdv A outer s H E hr => ⟨_, (sss_one (ss_ret (se_if (st_cmp ob_lt (sv 0) se_int) (se_bin ob_mod (se_callTy cb_int (by rfl) bi.int boot_int (sr_cons (se_un un_neg ud_neg (sv 0)) sr_nil)) se_int) (se_bin ob_add se_int (se_bin ob_mod (se_callTy cb_int (by rfl) bi.int boot_int (sr_cons (se_bin ob_sub (sv 0) se_int) sr_nil)) se_int))))), fun cs post h => by
    obtain ⟨a, rfl, k⟩ := h
    have kk : ∀ x, mv a = x → post (.val (.int x)) none := fun x e => e ▸ k
    refine iteD (fun h1 => ⟨by decide, kk _ ?_⟩) fun h1 => ⟨by decide, kk _ ?_⟩
    · unfold mv; rw [if_pos h1]
    · unfold mv; rw [if_neg h1]⟩
abbrev s_sum_of_line : Stmt := topS 6
abbrev N_sum_of_line : List Str := ["text", "total", "at", "sign"]
theorem sc_sum_of_line : FnScope N_sum_of_line ["text"] (defScope s_sum_of_line) := ⟨rfl, rfl, rfl, by decide +kernel, rfl, by decide +kernel, by decide +kernel⟩
theorem C_sum_of_line (bi : Bi mg) {tS : Tok} (c_SIGNS : mg "SIGNS" = some (.str SG tS)) (C_joined_turns : Cal P w K mg base false "joined_turns" 1 F_jt) (C_moved_often : Cal P w K mg base false "moved_often" 1 F_mo) (Df : DefAt K mg "sum_of_line" s_sum_of_line ["text"]) : Cal P w K mg base false "sum_of_line" 2 F_sum :=
  cal_ok Df sc_sum_of_line (fun cs post h => by obtain ⟨a, rfl, _⟩ := h; rfl) fun f cdv A outer s H E hr => ⟨_, (sss_cons (ss_asg se_int (sg_v 1 sc_sum_of_line.nd))
    (sss_cons (ss_for PassesOwn.never rfl (si_enumS (by rfl) bi.enumerate (sv 0)) (sg_tup rfl (sgs_cons (sg_v 2 sc_sum_of_line.nd) (sgs_cons (sg_v 3 sc_sum_of_line.nd) sgs_nil)))
    (sss_one (ss_asg (se_callC none C_joined_turns (hr.mono (by first | decide | omega)) (by rfl) (sr_cons (sv 1) (sr_cons (se_callC none C_moved_often (hr.mono (by first | decide | omega)) (by rfl) (sr_cons (se_index_str (se_globS (by rfl) c_SIGNS ⟨_, rfl⟩) (sr_cons (sv 3) sr_nil)) (sr_cons (sv 2) sr_nil))) sr_nil))) (sg_v 1 sc_sum_of_line.nd))))
    (sss_one (ss_ret (sv 1))))), fun cs post h => by
    obtain ⟨l, rfl, hl, ha, k⟩ := h
    refine ⟨trivial, for_inv (fun j E' => ∃ c2 c3, E' = [.val (.str (stS l)), .val (.int (sm 0 0 (l.take j))), c2, c3] ∧ fv c2 ∧ fv c3) ⟨.un, .un, rfl, trivial, trivial⟩ (fun j x E' next hx hE hn => ?_) fun E' hE => ?_⟩
    · obtain ⟨c2, c3, rfl, s2, s3⟩ := hE
      obtain ⟨c, hc, rfl⟩ := enumS_at hx
      have hc' : l[j]? = some c := hc
      refine ⟨rfl, s2.set, s3.set, _, _, SG_occ c (ha c (List.mem_of_getElem? hc')), _, _, rfl, _, _, rfl, trivial, hn _ ⟨.val (.int (j : Nat)), .val (.str ⟨#[c]⟩), ?_, trivial, trivial⟩⟩
      rw [List.take_add_one, hc', Option.toList_some, sm_app, List.length_take, Nat.min_eq_left (by have := List.getElem?_eq_some_iff.mp hc'; obtain ⟨q, _⟩ := this; omega)]
      rw [Nat.zero_add]
      rfl
    · obtain ⟨c2, c3, rfl, s2, s3⟩ := hE
      rw [enumD_len, signsD_len, stS_len, List.take_length]
      have e : borOf [c2, c3] = none := by rw [s2.bor, s3.bor]; rfl
      show post _ (borOf [c2, c3])
      rw [e]
      exact k⟩
abbrev s_checked : Stmt := topS 7
abbrev N_checked : List Str := ["text", "sign"]
theorem sc_checked : FnScope N_checked ["text"] (defScope s_checked) := ⟨rfl, rfl, rfl, by decide +kernel, rfl, by decide +kernel, by decide +kernel⟩
theorem C_checked (bi : Bi mg) {tS : Tok} (c_SIGNS : mg "SIGNS" = some (.str SG tS)) (C_sum_of_line : Cal P w K mg base false "sum_of_line" 2 F_sum) (Df : DefAt K mg "checked" s_checked ["text"]) : Cal P w K mg base false "checked" 3 F_chk :=
  cal_ok Df sc_checked (fun cs post h => by obtain ⟨a, rfl, _⟩ := h; rfl) fun f cdv A outer s H E hr => ⟨_, (sss_one (ss_ret (se_bin ob_add (sv 0) (se_ix (se_lc (own := [("sign", 1)]) (ct := (.one 1)) rfl sc_checked.nd (si_str (se_globS (by rfl) c_SIGNS ⟨_, rfl⟩)) (blkOk_by (own := [("sign", 1)]) (N := N_checked) (sc := defScope s_checked) (by decide +kernel)) (by decide)
      (fun _ _ _ _ _ => pg_name (i := 1) sc_checked.nd rfl (Or.inl rfl)) (fun _ _ _ _ _ => (sts_one (st_cmp (ob_eq hr.units) (se_callC none C_sum_of_line (hr.mono (by first | decide | omega)) (by rfl) (sr_cons (se_bin ob_add (sv 0) (sv 1)) sr_nil)) se_int))) (fun _ _ _ _ _ => (sv 1))) se_int)))), fun cs post h => by
    obtain ⟨l, rfl, hl, ha, k⟩ := h
    obtain ⟨c, hc, h0, hf⟩ := sm_one l
    have h46 : LG.length = 46 := rfl
    have e24 : sizeLine = 16777216 := by decide
    have step : ∀ x, x ∈ signsD SG → ∃ s, x = .str (stS [s]) ∧ s ∈ LG := fun x hx => by
      obtain ⟨s, hs, rfl⟩ := List.mem_map.mp hx
      exact ⟨s, rfl, SG_LG ▸ hs⟩
    let fs : D → Option D := fun x => match x with
      | .str z => if sm 0 0 (l ++ z.cps.toList) == 0 then some (.str z) else none
      | _ => none
    have hm : (signsD SG).filterMap fs = [.str (stS [c])] := by
      unfold signsD
      rw [SG_LG, List.filterMap_map]
      have : LG.filterMap (fs ∘ fun s => D.str ⟨#[s]⟩) = (LG.filter fun s => sm 0 0 (l ++ [s]) == 0).map fun s => D.str (stS [s]) := by
        rw [← List.filterMap_eq_map, List.filterMap_filter]
        rfl
      rw [this, hf]
      rfl
    generalize hz : SG = z at hm step ⊢
    refine lc_fm fs _ (signsD z) [] (fun x hx k' hk => ?_) (by rw [signsD_len, ← hz]; decide) ?_
    · obtain ⟨s, rfl, hs⟩ := step x hx
      refine ⟨by rw [stS_len, stS_len, List.length_singleton]; omega, l ++ [s], ?_, ?_, ?_, rfl, ?_⟩
      · rw [stS_app]
      · rw [List.length_append, List.length_singleton]; omega
      · intro d hd
        rcases List.mem_append.mp hd with hd | hd
        · exact ha d hd
        · rw [List.mem_singleton.mp hd]; exact hs
      · have hk2 : k' (if (sm 0 0 (l ++ [s]) == 0) = true then some (.str (stS [s])) else none) _ := hk
        refine iteB (fun h => ?_) fun h => ?_
        · rw [if_pos (show (sm 0 0 (l ++ [s]) == 0) = true from h)] at hk2
          exact hk2
        · rw [if_neg (by rw [show (sm 0 0 (l ++ [s]) == 0) = false from h]; decide)] at hk2
          exact hk2
    · rw [hm]
      refine ⟨_, rfl, by rw [stS_len, stS_len, List.length_singleton]; omega, ?_⟩
      have := k c hc h0
      rw [← stS_app] at this
      exact this⟩
abbrev s_is_checked : Stmt := topS 8
abbrev N_is_checked : List Str := ["text", "sign"]
theorem sc_is_checked : FnScope N_is_checked ["text"] (defScope s_is_checked) := ⟨rfl, rfl, rfl, by decide +kernel, rfl, by decide +kernel, by decide +kernel⟩
theorem C_is_checked (bi : Bi mg) {tS : Tok} (c_SIGNS : mg "SIGNS" = some (.str SG tS)) (C_sum_of_line : Cal P w K mg base false "sum_of_line" 2 F_sum) (Df : DefAt K mg "is_checked" s_is_checked ["text"]) : Cal P w K mg base false "is_checked" 3 F_isc :=
  cal_ok Df sc_is_checked (fun cs post h => by obtain ⟨a, rfl, _⟩ := h; rfl) fun f cdv A outer s H E hr => ⟨_, (sss_one (ss_ret (se_and (se_cmp (ob_ne hr.units) (sv 0) se_str) (se_and (se_callB (cb_all rfl) (by rfl) bi.all boot_all (sr_cons (se_lc (own := [("sign", 1)]) (ct := (.one 1)) rfl sc_is_checked.nd (si_str (sv 0)) (blkOk_by (own := [("sign", 1)]) (N := N_is_checked) (sc := defScope s_is_checked) (by decide +kernel)) (by decide)
      (fun _ _ _ _ _ => pg_name (i := 1) sc_is_checked.nd rfl (Or.inl rfl)) (fun _ _ _ _ _ => sts_nil) (fun _ _ _ _ _ => (se_cmp (ob_in (u65 hr)) (sv 1) (se_globS (by rfl) c_SIGNS ⟨_, rfl⟩)))) sr_nil)) (se_one (se_cmp (ob_eq hr.units) (se_callC none C_sum_of_line (hr.mono (by first | decide | omega)) (by rfl) (sr_cons (sv 0) sr_nil)) se_int)))))), fun cs post h => by
    obtain ⟨l, rfl, hl, k⟩ := h
    have e24 : sizeLine = 16777216 := by decide
    generalize hz : SG = z
    have hzL : z.cps.toList = LG := by rw [← hz]; exact SG_LG
    have kk : ∀ b, chk l = b → post (.val (.bl b)) none := fun b e => e ▸ k
    refine ⟨rfl, iteB (fun h => ?_) fun h => kk _ ?_⟩
    rotate_left
    · have h' : (!(stS l == ("" : Str))) = false := h
      cases l with
      | nil => rfl
      | cons c r => exact absurd (show (!(stS (c :: r) == ("" : Str))) = true from rfl) (by rw [h']; decide)
    have h0 : l.isEmpty = false := by
      cases l with
      | nil => exact absurd h (by decide)
      | cons c r => rfl
    let f : D → D := fun x => match x with
      | .str z => .bl (z.cps.toList.all fun c => decide (c ∈ LG))
      | _ => .non
    have hm : (signsD (stS l)).map f = (l.map fun c => decide (c ∈ LG)).map D.bl := by
      unfold signsD
      rw [List.map_map, List.map_map, stS_list]
      refine List.map_congr_left fun c _ => ?_
      show D.bl ([c].all fun c => decide (c ∈ LG)) = _
      rw [List.all_cons, List.all_nil, Bool.and_true]
      rfl
    generalize hy : stS l = y at hm ⊢
    refine lc_map f _ (signsD y) (fun x hx k' hk => ?_) (by rw [signsD_len, ← hy, stS_len]; omega) ?_
    · obtain ⟨c, hc, rfl⟩ := List.mem_map.mp hx
      refine ⟨c, rfl, ?_⟩
      have hk2 : k' (some (.bl ([c].all fun c => decide (c ∈ LG)))) _ := hk
      rw [List.all_cons, List.all_nil, Bool.and_true] at hk2
      rw [hzL]
      exact hk2
    · rw [hm]
      refine ⟨_, rfl, ?_⟩
      have hall : ((l.map fun c => decide (c ∈ LG)).all id) = l.all fun c => decide (c ∈ LG) := by rw [List.all_map]; rfl
      rw [hall]
      refine iteB (fun h2 => ?_) fun h2 => kk _ (by unfold chk; rw [h0, h2]; rfl)
      refine ⟨l, by rw [← hy], hl, fun c hc => of_decide_eq_true (List.all_eq_true.mp h2 c hc), rfl, kk _ ?_⟩
      unfold chk
      rw [h0, h2]
      rfl⟩
abbrev s_l_joined : Stmt := topS 18
abbrev N_l_joined : List Str := ["one", "other", "ends", "number", "at"]
theorem sc_l_joined : FnScope N_l_joined ["one", "other"] (defScope s_l_joined) := ⟨rfl, rfl, rfl, by decide +kernel, rfl, by decide +kernel, by decide +kernel⟩
theorem C_l_joined (bi : Bi mg) (C_l_place : Cal P w K mg base false "_law_place" 1 F_pl) (Df : DefAt K mg "_law_joined" s_l_joined ["one", "other"]) : Cal P w K mg base false "_law_joined" 2 F_lj :=
  cal_ok Df sc_l_joined (fun cs post h => by obtain ⟨a, b, rfl, _⟩ := h; rfl) fun f cdv A outer s H E hr => ⟨_, (sss_cons (ss_setLc (own := [("at", 4)]) (ct := (.one 4)) 2 rfl sc_l_joined.nd rfl rfl gV_lk (sw_true rfl rfl rfl (by decide +kernel)) (si_range1 (by rfl) bi.range (sr_cons se_int sr_nil)) (blkOk_by (own := [("at", 4)]) (N := N_l_joined) (sc := defScope s_l_joined) (by decide +kernel)) (by decide)
      (fun _ _ _ _ _ => pg_name (i := 4) sc_l_joined.nd rfl (Or.inl rfl)) (fun _ _ _ _ _ => sts_nil) (fun _ _ _ _ _ => (se_callC none C_l_place (hr.mono (by first | decide | omega)) (by rfl) (sr_cons (sv 0) (sr_cons (se_callC none C_l_place (hr.mono (by first | decide | omega)) (by rfl) (sr_cons (sv 1) (sr_cons (sv 4) sr_nil))) sr_nil)))))
    (sss_cons (ss_for PassesOwn.never rfl (si_range1 (by rfl) bi.range (sr_cons se_int sr_nil)) (sg_v 3 sc_l_joined.nd)
    (sss_one (ss_if (st_cmp (ob_eq hr.units) (se_lc (own := [("at", 4)]) (ct := (.one 4)) rfl sc_l_joined.nd (si_range1 (by rfl) bi.range (sr_cons se_int sr_nil)) (blkOk_by (own := [("at", 4)]) (N := N_l_joined) (sc := defScope s_l_joined) (by decide +kernel)) (by decide)
      (fun _ _ _ _ _ => pg_name (i := 4) sc_l_joined.nd rfl (Or.inl rfl)) (fun _ _ _ _ _ => sts_nil) (fun _ _ _ _ _ => (se_callC none C_l_place (hr.mono (by first | decide | omega)) (by rfl) (sr_cons (sv 3) (sr_cons (sv 4) sr_nil))))) (sv 2))
    (sss_one (ss_ret (sv 3)))
    sss_nil)))
    (sss_one (ss_ret se_non)))), fun cs post h => by
    obtain ⟨a, b, rfl, ra, rb, k⟩ := h
    have rj := jt_rg a b
    have p0 := pl_jt ra rb 0
    have p1 := pl_jt ra rb 1
    refine ⟨⟨by decide, by decide⟩, b, 0, rfl, a, pl b 0, rfl, by decide, b, 1, rfl, a, pl b 1, rfl, by show 1 < sizeLine; decide, trivial, ⟨by decide, by decide⟩, ?_⟩
    refine for_inv (fun j E' => ∃ c3, E' = [.val (.int a), .val (.int b), .val (.lst [.int (pl a (pl b 0)), .int (pl a (pl b 1))]), c3, .un] ∧ fv c3 ∧ ∀ i : Nat, i < j → (i : Int) ≠ jt a b) ⟨.un, rfl, trivial, fun i hi => absurd hi (by omega)⟩ (fun j x E' next hx hE hn => ?_) fun E' hE => ?_
    · obtain ⟨c3, rfl, s3, hall⟩ := hE
      obtain ⟨hj, rfl⟩ := range_at hx
      have hj' : j < 46 := hj
      rw [Int.zero_add]
      refine ⟨s3.set, ⟨by decide, by decide⟩, j, 0, rfl, by decide, j, 1, rfl, by show 1 < sizeLine; decide, rfl, iteB (fun h => ?_) fun h => ?_⟩
      · have h' : (pl j 0 == pl a (pl b 0) && (pl j 1 == pl a (pl b 1) && true)) = true := h
        rw [Bool.and_eq_true, Bool.and_eq_true, beq_iff_eq, beq_iff_eq] at h'
        have e : (j : Int) = jt a b := pl_inj ⟨by omega, by omega⟩ rj (by rw [p0, h'.1]) (by rw [p1, h'.2.1])
        show post (.val (.int (j : Int))) none
        rw [e]
        exact k
      · refine hn _ ⟨.val (.int (j : Int)), rfl, trivial, fun i hi e => ?_⟩
        by_cases hij : i < j
        · exact hall i hij e
        · have e2 : i = j := by omega
          subst e2
          have h' : (pl i 0 == pl a (pl b 0) && (pl i 1 == pl a (pl b 1) && true)) = false := h
          rw [e, p0, p1] at h'
          simp at h'
    · obtain ⟨c3, rfl, s3, hall⟩ := hE
      exfalso
      unfold Rg at rj
      exact hall (jt a b).toNat (by rw [rangeD_len]; omega) (by omega)⟩
abbrev s_l_sum : Stmt := topS 20
abbrev N_l_sum : List Str := ["text", "total", "k", "number", "turn"]
theorem sc_l_sum : FnScope N_l_sum ["text"] (defScope s_l_sum) := ⟨rfl, rfl, rfl, by decide +kernel, rfl, by decide +kernel, by decide +kernel⟩
theorem C_l_sum (bi : Bi mg) {tS : Tok} (c_SIGNS : mg "SIGNS" = some (.str SG tS)) (C_l_joined : Cal P w K mg base false "_law_joined" 2 F_lj) (C_l_moved : Cal P w K mg base false "_law_moved" 1 F_mv) (Df : DefAt K mg "_law_sum" s_l_sum ["text"]) : Cal P w K mg base false "_law_sum" 3 F_sum :=
  cal_ok Df sc_l_sum (fun cs post h => by obtain ⟨a, rfl, _⟩ := h; rfl) fun f cdv A outer s H E hr => ⟨_, (sss_cons (ss_asg se_int (sg_v 1 sc_l_sum.nd))
    (sss_cons (ss_for PassesOwn.never rfl (si_range1 (by rfl) bi.range (sr_cons (se_callB cb_len (by rfl) bi.len PySem.boot_len (sr_cons (sv 0) sr_nil)) sr_nil)) (sg_v 2 sc_l_sum.nd)
    (sss_cons (ss_asg (se_index_str (se_globS (by rfl) c_SIGNS ⟨_, rfl⟩) (sr_cons (se_ix (sv 0) (sv 2)) sr_nil)) (sg_v 3 sc_l_sum.nd))
    (sss_cons (ss_for PassesOwn.never rfl (si_range1 (by rfl) bi.range (sr_cons (sv 2) sr_nil)) (sg_v 4 sc_l_sum.nd)
    (sss_one (ss_asg (se_callC none C_l_moved (hr.mono (by first | decide | omega)) (by rfl) (sr_cons (sv 3) sr_nil)) (sg_v 3 sc_l_sum.nd))))
    (sss_one (ss_asg (se_callC none C_l_joined (hr.mono (by first | decide | omega)) (by rfl) (sr_cons (sv 1) (sr_cons (sv 3) sr_nil))) (sg_v 1 sc_l_sum.nd))))))
    (sss_one (ss_ret (sv 1))))), fun cs post h => by
    obtain ⟨l, rfl, hl, ha, k⟩ := h
    have e24 : sizeLine = 16777216 := by decide
    have hz : (stS l).length ≤ sizeLine := by rw [stS_len]; omega
    refine ⟨trivial, hz, ?_⟩
    rw [stS_len]
    refine ⟨⟨by omega, by omega⟩, for_inv (fun j E' => ∃ c2 c3 c4, E' = [.val (.str (stS l)), .val (.int (sm 0 0 (l.take j))), c2, c3, c4] ∧ fv c2 ∧ fv c3 ∧ fv c4) ⟨.un, .un, .un, rfl, trivial, trivial, trivial⟩ (fun j x E' next hx hE hn => ?_) fun E' hE => ?_⟩
    · obtain ⟨c2, c3, c4, rfl, s2, s3, s4⟩ := hE
      obtain ⟨hj, rfl⟩ := range_at hx
      rw [Int.zero_add]
      have hj' : j < l.length := by rw [Int.toNat_natCast] at hj; exact hj
      obtain ⟨c, a1, a2, a3⟩ := atI_in (xs := l) (i := (j : Int)) (by omega) (by omega)
      rw [Int.toNat_natCast] at a2
      have hc := ha c a3
      refine ⟨s2.set, hz, c, a1, _, _, SG_occ c hc, s3.set, ?_⟩
      dsimp only
      refine seqJoin (fun E' => ∃ c4, E' = [.val (.str (stS l)), .val (.int (sm 0 0 (l.take j))), .val (.int (j : Int)), .val (.int (mo (ix c) j)), c4] ∧ fv c4) (fun E' hE => ?_) fun jn => ?_
      · obtain ⟨c4, rfl, s4⟩ := hE
        refine ⟨_, _, rfl, sm_rg Rg0 _ _, mo_rg (ix_rg hc) _, trivial, hn _ ⟨.val (.int (j : Int)), .val (.int (mo (ix c) j)), c4, ?_, trivial, trivial, s4⟩⟩
        rw [List.take_add_one, a2, Option.toList_some, sm_app, List.length_take, Nat.min_eq_left (by omega), Nat.zero_add]
        rfl
      · refine ⟨⟨by omega, by omega⟩, for_inv (fun i E' => ∃ c4, E' = [.val (.str (stS l)), .val (.int (sm 0 0 (l.take j))), .val (.int (j : Int)), .val (.int (mo (ix c) i)), c4] ∧ fv c4) ⟨c4, by rw [Int.natCast_zero, mo_0 (ix_rg hc)]; rfl, s4⟩ (fun i x E' next hx hE hn => ?_) fun E' hE => ?_⟩
        · obtain ⟨c4, rfl, s4⟩ := hE
          obtain ⟨hi, rfl⟩ := range_at hx
          refine ⟨s4.set, _, rfl, trivial, hn _ ⟨.val (.int (0 + (i : Int))), ?_, trivial⟩⟩
          rw [← mo_1 (ix_rg hc)]
          rfl
        · obtain ⟨c4, rfl, s4⟩ := hE
          rw [rangeD_len, Int.toNat_natCast]
          exact jn _ ⟨c4, rfl, s4⟩
    · obtain ⟨c2, c3, c4, rfl, s2, s3, s4⟩ := hE
      rw [rangeD_len, Int.toNat_natCast, List.take_length]
      show post _ (borOf [c2, c3, c4])
      rw [s2.bor, s3.bor, s4.bor]
      exact k⟩
end
end BL
set_option Elab.async false
set_option linter.all false
set_option maxRecDepth 100000
set_option maxHeartbeats 4000000
namespace BL
open PySem PySem.Spec PyProof.Rows L2 BD
theorem cutS_of (z : Str) (lo hi : Option Int) : cutS z lo hi = ⟨(cutL z.cps.toList lo hi).toArray⟩ := by
  rfl
theorem cutS_to {L : List Nat} {k : Int} (h0 : 0 ≤ k) (h1 : k ≤ L.length) : cutS (stS L) none (some k) = stS (L.take k.toNat) := by
  obtain ⟨n, rfl⟩ := Int.eq_ofNat_of_zero_le h0
  rw [cutS_of, stS_list]
  unfold cutL
  rw [HT.sIx_none, HT.sIx_nat, Nat.min_eq_left (by omega), List.drop_zero, Nat.sub_zero]
  rfl
theorem cutS_from {L : List Nat} {k : Int} (h0 : 0 ≤ k) (h1 : k ≤ L.length) : cutS (stS L) (some k) none = stS (L.drop k.toNat) := by
  obtain ⟨n, rfl⟩ := Int.eq_ofNat_of_zero_le h0
  rw [cutS_of, stS_list]
  unfold cutL
  rw [HT.sIx_none, HT.sIx_nat, Nat.min_eq_left (by omega), List.take_of_length_le (by rw [List.length_drop]; omega)]
  rfl
theorem cutS_last {l : List Nat} {c : Nat} : cutS (stS (l ++ [c])) none (some (-1)) = stS l := by
  rw [cutS_of, stS_list]
  unfold cutL
  rw [HT.sIx_none, List.length_append, List.length_singleton, List.drop_zero, Nat.sub_zero]
  have e : HT.sIx (l.length + 1) (l.length + 1) (some (-1)) = l.length := by
    unfold HT.sIx
    dsimp only
    rw [if_pos (by decide)]
    omega
  rw [e]
  rw [List.take_left']
  · rfl
  · rfl
theorem repl_has {c : Nat} {r : List Nat} {z : Str} (hz : z.cps.toList = [90]) : 90 ∈ (Txt.replace (stS (c :: r)) (Txt.item (stS (c :: r)) 0) z).cps.toList := by
  have e : Txt.item (stS (c :: r)) 0 = ⟨#[c]⟩ := item_meets (by decide) rfl
  rw [e, PySem.StrLaws.replace_list (y := ⟨#[c]⟩) (Nat.le_refl 1), hz]
  show 90 ∈ PySem.StrLaws.replL [c] [90] (c :: r)
  rw [PySem.StrLaws.replL_hit (by simp) (by rfl)]
  exact List.mem_append_left _ (List.mem_singleton.mpr rfl)
theorem nil_ofS : (Str.ofString "") = stS [] := by decide +kernel
def fsl (l : List Nat) : D → Option D := fun x => match x with
  | .str z => if sm 0 0 (l ++ z.cps.toList) == 0 then some (.str z) else none
  | _ => none
theorem fsl_one (l : List Nat) {z : Str} (hz : z.cps.toList = LG) : ∃ c, (signsD z).filterMap (fsl l) = [.str (stS [c])] := by
  obtain ⟨c, hc, h0, hf⟩ := sm_one l
  refine ⟨c, ?_⟩
  unfold signsD
  rw [hz, List.filterMap_map]
  have : LG.filterMap (fsl l ∘ fun s => D.str ⟨#[s]⟩) = (LG.filter fun s => sm 0 0 (l ++ [s]) == 0).map fun s => D.str (stS [s]) := by
    rw [← List.filterMap_eq_map, List.filterMap_filter]
    rfl
  rw [this, hf]
  rfl
theorem stS_inj {a b : List Nat} (h : stS a = stS b) : a = b := by
  have := congrArg (fun z : Str => z.cps.toList) h
  exact this
def fne (q : Nat) : D → Option D := fun x => match x with
  | .str y => if !(y == stS [q]) then some (.str y) else none
  | _ => none
theorem fne_at (q s : Nat) : fne q (.str (stS [s])) = if s = q then none else some (.str (stS [s])) := by
  unfold fne
  by_cases h : s = q
  · subst h
    simp
  · have : (stS [s] == stS [q]) = false := by
      rw [beq_eq_false_iff_ne]
      intro e
      exact h (List.cons.inj (stS_inj e)).1
    simp only [this, Bool.not_false, if_true, if_neg h]
theorem fne_mem {q : Nat} {z : Str} (hz : z.cps.toList = LG) {x : D} (hx : x ∈ (signsD z).filterMap (fne q)) : ∃ s, x = .str (stS [s]) ∧ s ∈ LG ∧ s ≠ q := by
  obtain ⟨y, hy, e⟩ := List.mem_filterMap.mp hx
  obtain ⟨s, hs, rfl⟩ := List.mem_map.mp hy
  have e' : fne q (.str (stS [s])) = some x := e
  rw [fne_at] at e'
  by_cases h : s = q
  · rw [if_pos h] at e'; cases e'
  · rw [if_neg h] at e'; cases e'; exact ⟨s, rfl, hz ▸ hs, h⟩
theorem fne_ne {q : Nat} {z : Str} (hz : z.cps.toList = LG) : (signsD z).filterMap (fne q) ≠ [] := by
  have key : ∀ s ∈ LG, s ≠ q → (signsD z).filterMap (fne q) ≠ [] := fun s hs h e => by
    have : D.str (stS [s]) ∈ (signsD z).filterMap (fne q) := List.mem_filterMap.mpr ⟨.str (stS [s]), List.mem_map.mpr ⟨s, hz ▸ hs, rfl⟩, by rw [fne_at, if_neg h]⟩
    rw [e] at this
    cases this
  by_cases h : q = 97
  · exact key 98 (by decide) (by omega)
  · exact key 97 (by decide) (fun e => h e.symm)
theorem split_at {L : List Nat} {n c : Nat} (h : L[n]? = some c) : L = L.take n ++ c :: L.drop (n + 1) := by
  obtain ⟨hn, e⟩ := List.getElem?_eq_some_iff.mp h
  rw [← e, List.getElem_cons_drop, List.take_append_drop]
theorem split_two {L : List Nat} {n b c : Nat} (h1 : L[n]? = some b) (h2 : L[n + 1]? = some c) : L = L.take n ++ b :: c :: L.drop (n + 2) := by
  obtain ⟨hn, e⟩ := List.getElem?_eq_some_iff.mp h2
  have h := split_at h1
  rw [← e, List.getElem_cons_drop]
  exact h
theorem All.take {L : List Nat} (h : All L) (n : Nat) : All (L.take n) := fun c hc => h c (List.mem_of_mem_take hc)
theorem All.drop {L : List Nat} (h : All L) (n : Nat) : All (L.drop n) := fun c hc => h c (List.mem_of_mem_drop hc)
theorem All.app {L M : List Nat} (h : All L) (g : All M) : All (L ++ M) := fun c hc => (List.mem_append.mp hc).elim (h c) (g c)
theorem All.one {c : Nat} (h : c ∈ LG) : All [c] := fun d hd => by rw [List.mem_singleton.mp hd]; exact h
/-- one sign changed: not checked any more -/
theorem chk_change {L : List Nat} {n c s : Nat} (hL : All L) (h0 : sm 0 0 L = 0) (h : L[n]? = some c) (hs : s ∈ LG) (hne : s ≠ c) : chk (L.take n ++ [s] ++ L.drop (n + 1)) = false := by
  have hc : c ∈ LG := hL c (List.mem_of_getElem? h)
  have e := split_at h
  have : sm 0 0 (L.take n ++ [s] ++ L.drop (n + 1)) ≠ 0 := fun z => hne (sm_change (xs := L.take n) (ys := L.drop (n + 1)) (hL.drop _) hs hc (by
    rw [← e, h0]; rw [List.append_assoc] at z; exact z))
  unfold chk
  rw [show (sm 0 0 (L.take n ++ [s] ++ L.drop (n + 1)) == 0) = false from by simpa using this, Bool.and_false, Bool.and_false]
theorem chk_swap {L : List Nat} {n b c : Nat} (hL : All L) (h0 : sm 0 0 L = 0) (h1 : L[n]? = some b) (h2 : L[n + 1]? = some c) (hne : c ≠ b) : chk (L.take n ++ [c] ++ [b] ++ L.drop (n + 2)) = false := by
  have hc : c ∈ LG := hL c (List.mem_of_getElem? h2)
  have hb : b ∈ LG := hL b (List.mem_of_getElem? h1)
  have e := split_two h1 h2
  have : sm 0 0 (L.take n ++ [c] ++ [b] ++ L.drop (n + 2)) ≠ 0 := fun z => hne (sm_swap (xs := L.take n) (ys := L.drop (n + 2)) (hL.drop _) hc hb (by
    rw [← e, h0]; rw [List.append_assoc, List.append_assoc] at z; exact z))
  unfold chk
  rw [show (sm 0 0 (L.take n ++ [c] ++ [b] ++ L.drop (n + 2)) == 0) = false from by simpa using this, Bool.and_false, Bool.and_false]
theorem chk_all {L : List Nat} (hL : All L) : chk L = (!(stS L == stS []) && (sm 0 0 L == 0)) := by
  unfold chk
  rw [show (L.all fun c => decide (c ∈ LG)) = true from List.all_eq_true.mpr fun c hc => decide_eq_true (hL c hc), Bool.true_and]
  congr 2
  cases L with
  | nil => simp
  | cons c r =>
    rw [show (stS (c :: r) == stS []) = false from by
      rw [beq_eq_false_iff_ne]
      intro e
      exact nomatch stS_inj e]
    rfl
theorem chk_bad {L : List Nat} {c : Nat} (h : c ∈ L) (hc : c ∉ LG) : chk L = false := by
  unfold chk
  rw [show (L.all fun c => decide (c ∈ LG)) = false from by
    rw [List.all_eq_false]
    exact ⟨c, h, by rw [decide_eq_false hc]; exact Bool.false_ne_true⟩]
  rw [Bool.false_and, Bool.and_false]
theorem stS_of (z : Str) : z = stS z.cps.toList := by
  cases z with
  | mk a => unfold stS; rw [Array.toArray_toList]
theorem last_ok {L : List Nat} {x : D} (hL : All L) (h1 : 1 ≤ L.length) (h2 : L.length ≤ 31)
    (hx : x ∈ [D.str (stS []), .str (stS L ++ Str.ofString "A"), .str (Str.ofString "!" ++ stS L), .str (Txt.replace (stS L) (Txt.item (stS L) 0) (Str.ofString "Z"))]) : ∃ q, x = .str (stS q) ∧ q.length ≤ 1000 ∧ chk q = false := by
  rcases List.mem_cons.mp hx with rfl | hx
  · exact ⟨[], rfl, by decide, rfl⟩
  rcases List.mem_cons.mp hx with rfl | hx
  · rw [show Str.ofString "A" = stS [65] from by decide +kernel, stS_app]
    exact ⟨_, rfl, by rw [List.length_append, List.length_singleton]; omega, chk_bad (c := 65) (by simp) (by decide)⟩
  rcases List.mem_cons.mp hx with rfl | hx
  · rw [show Str.ofString "!" = stS [33] from by decide +kernel, stS_app]
    exact ⟨_, rfl, by rw [List.length_append, List.length_singleton]; omega, chk_bad (c := 33) (by simp) (by decide)⟩
  · rw [List.mem_singleton.mp hx]
    cases L with
    | nil => exact absurd h1 (by decide)
    | cons c r =>
      refine ⟨_, congrArg D.str (stS_of _), ?_, chk_bad (c := 90) (repl_has (by decide +kernel)) (by decide)⟩
      have h := TK.replace_len (stS (c :: r)) (Txt.item (stS (c :: r)) 0) (Str.ofString "Z")
      rw [show (Str.ofString "Z").length = 1 from by decide +kernel, stS_len] at h
      rw [Array.length_toList]
      have h' : (Txt.replace (stS (c :: r)) (Txt.item (stS (c :: r)) 0) (Str.ofString "Z")).cps.size ≤ (c :: r).length + ((c :: r).length + 1) * 1 := h
      omega
end BL
set_option Elab.async false
set_option linter.all false
set_option maxRecDepth 100000
set_option maxHeartbeats 4000000
namespace BL
open PySem PySem.Spec PyProof.Rows L2 BD
section
variable {P : Program} {w : World} {K : PySem.W.Frag} {mg : Str → Option Value} {base : Heap}
abbrev s_law : Stmt := topS 21
abbrev N_law : List Str := ["script", "pool", "one", "other", "text", "k", "line", "at", "sign", "bent", "string"]
theorem sc_law : FnScope N_law ["script"] (defScope s_law) := ⟨rfl, rfl, rfl, by decide +kernel, rfl, by decide +kernel, by decide +kernel⟩
theorem C_law (bi : Bi mg) {tS tR : Tok} (c_SIGNS : mg "SIGNS" = some (.str SG tS)) (c_RING : mg "RING" = some (.int 23 tR))
    (C_l_pool : Cal P w K mg base false "_law_pool" 3 F_pool) (C_l_next : Cal P w K mg base false "_law_next" 3 F_next) (C_l_draw : Cal P w K mg base false "_law_draw" 3 F_draw) (C_l_pick : Cal P w K mg base false "_law_pick" 4 F_pick)
    (C_l_same : Cal P w K mg base false "_law_same" 3 (F_same 1))
    (C_joined_turns : Cal P w K mg base false "joined_turns" 1 F_jt) (C_moved : Cal P w K mg base false "moved" 1 F_mv) (C_l_joined : Cal P w K mg base false "_law_joined" 2 F_lj) (C_l_moved : Cal P w K mg base false "_law_moved" 1 F_mv)
    (C_sum_of_line : Cal P w K mg base false "sum_of_line" 2 F_sum) (C_l_sum : Cal P w K mg base false "_law_sum" 3 F_sum) (C_checked : Cal P w K mg base false "checked" 3 F_chk) (C_is_checked : Cal P w K mg base false "is_checked" 3 F_isc)
    {f : Addr} {fd : FuncData} (F : Fun K "law" "law" s_law f fd) : FnOk P w K mg base CX0 5 f fd ["script"] (spD false K FLaw) :=
  fn_ok F sc_law (fun cs post h => by obtain ⟨a, rfl, _⟩ := h; rfl) fun cdv A outer s H E hr => ⟨_, (sss_cons (ss_asg (se_callC none C_l_pool (hr.mono (by first | decide | omega)) (by rfl) (sr_cons (sv 0) sr_nil)) (sg_o 1 sc_law.nd))
    (sss_cons (ss_asg (se_callC (some (0, 1)) C_l_draw (hr.mono (by first | decide | omega)) (by rfl) (sr_cons (sv 1) (sr_cons se_int sr_nil))) (sg_v 2 sc_law.nd))
    (sss_cons (ss_asg (se_callC (some (0, 1)) C_l_draw (hr.mono (by first | decide | omega)) (by rfl) (sr_cons (sv 1) (sr_cons se_int sr_nil))) (sg_v 3 sc_law.nd))
    (sss_cons (ss_if (sw_or (st_not (st_val (se_callC none C_l_same (hr.mono (by first | decide | omega)) (by rfl) (sr_cons (se_lst (sa_cons (se_callC none C_joined_turns (hr.mono (by first | decide | omega)) (by rfl) (sr_cons (sv 2) (sr_cons (sv 3) sr_nil))) (sa_cons (se_callC none C_moved (hr.mono (by first | decide | omega)) (by rfl) (sr_cons (sv 2) sr_nil)) sa_nil))) (sr_cons (se_lst (sa_cons (se_callC none C_l_joined (hr.mono (by first | decide | omega)) (by rfl) (sr_cons (sv 2) (sr_cons (sv 3) sr_nil))) (sa_cons (se_callC none C_l_moved (hr.mono (by first | decide | omega)) (by rfl) (sr_cons (sv 2) sr_nil)) sa_nil))) sr_nil))))) (sw_or1 (st_cmp (ob_ne hr.units) (se_callB cb_len (by rfl) bi.len PySem.boot_len (sr_cons (se_globS (by rfl) c_SIGNS ⟨_, rfl⟩) sr_nil)) se_int))).st
    (sss_one (ss_ret se_bl))
    sss_nil)
    (sss_cons (ss_asg se_str (sg_v 4 sc_law.nd))
    (sss_cons (ss_for PassesOwn.never rfl (si_range1 (by rfl) bi.range (sr_cons (se_callC (some (0, 1)) C_l_draw (hr.mono (by first | decide | omega)) (by rfl) (sr_cons (sv 1) (sr_cons se_int sr_nil))) sr_nil)) (sg_v 5 sc_law.nd)
    (sss_cons (ss_if (st_cmp (ob_eq hr.units) (se_bin ob_mod (se_callTy cb_int (by rfl) bi.int boot_int (sr_cons (sv 5) sr_nil)) se_int) se_int)
    (sss_one (ss_expr (se_callC (some (0, 1)) C_l_next (hr.mono (by first | decide | omega)) (by rfl) (sr_cons (sv 1) sr_nil))))
    sss_nil)
    (sss_one (ss_asg (se_bin ob_add (sv 4) (se_ix (se_globS (by rfl) c_SIGNS ⟨_, rfl⟩) (se_callC (some (0, 1)) C_l_draw (hr.mono (by first | decide | omega)) (by rfl) (sr_cons (sv 1) (sr_cons se_int sr_nil))))) (sg_v 4 sc_law.nd)))))
    (sss_cons (ss_asg (se_callC none C_checked (hr.mono (by first | decide | omega)) (by rfl) (sr_cons (sv 4) sr_nil)) (sg_v 6 sc_law.nd))
    (sss_cons (ss_if (sw_or (st_cmp (ob_ne hr.units) (se_callB cb_len (by rfl) bi.len PySem.boot_len (sr_cons (sv 6) sr_nil)) (se_bin ob_add (se_callB cb_len (by rfl) bi.len PySem.boot_len (sr_cons (sv 4) sr_nil)) se_int)) (sw_or (st_cmp (ob_ne hr.units) (se_slice (sv 6) so_none (so_some (se_un un_neg ud_neg se_int))) (sv 4)) (sw_or (st_cmp (ob_ne hr.units) (se_callC none C_l_sum (hr.mono (by first | decide | omega)) (by rfl) (sr_cons (sv 6) sr_nil)) se_int) (sw_or1 (st_cmp (ob_ne hr.units) (se_callC none C_sum_of_line (hr.mono (by first | decide | omega)) (by rfl) (sr_cons (sv 4) sr_nil)) (se_callC none C_l_sum (hr.mono (by first | decide | omega)) (by rfl) (sr_cons (sv 4) sr_nil))))))).st
    (sss_one (ss_ret se_bl))
    sss_nil)
    (sss_cons (ss_if (sw_or (st_cmp (ob_ne hr.units) (se_callB cb_len (by rfl) bi.len PySem.boot_len (sr_cons (se_lc (own := [("sign", 8)]) (ct := (.one 8)) rfl sc_law.nd (si_str (se_globS (by rfl) c_SIGNS ⟨_, rfl⟩)) (blkOk_by (own := [("sign", 8)]) (N := N_law) (sc := defScope s_law) (by decide +kernel)) (by decide)
      (fun _ _ _ _ _ => pg_name (i := 8) sc_law.nd rfl (Or.inl rfl)) (fun _ _ _ _ _ => (sts_one (st_cmp (ob_eq hr.units) (se_callC none C_l_sum (hr.mono (by first | decide | omega)) (by rfl) (sr_cons (se_bin ob_add (sv 4) (sv 8)) sr_nil)) se_int))) (fun _ _ _ _ _ => (sv 8))) sr_nil)) se_int) (sw_or1 (st_cmp ob_isNot (se_callC none C_is_checked (hr.mono (by first | decide | omega)) (by rfl) (sr_cons (sv 6) sr_nil)) se_bl))).st
    (sss_one (ss_ret se_bl))
    sss_nil)
    (sss_cons (ss_for PassesOwn.never rfl (si_range1 (by rfl) bi.range (sr_cons se_int sr_nil)) (sg_v 5 sc_law.nd)
    (sss_cons (ss_expr (se_callC (some (0, 1)) C_l_next (hr.mono (by first | decide | omega)) (by rfl) (sr_cons (sv 1) sr_nil)))
    (sss_cons (ss_asg (se_callC (some (0, 1)) C_l_draw (hr.mono (by first | decide | omega)) (by rfl) (sr_cons (sv 1) (sr_cons (se_callB cb_len (by rfl) bi.len PySem.boot_len (sr_cons (sv 6) sr_nil)) sr_nil))) (sg_v 7 sc_law.nd))
    (sss_cons (ss_asg (se_callC (some (0, 1)) C_l_pick (hr.mono (by first | decide | omega)) (by rfl) (sr_cons (sv 1) (sr_cons (se_lc (own := [("sign", 8)]) (ct := (.one 8)) rfl sc_law.nd (si_str (se_globS (by rfl) c_SIGNS ⟨_, rfl⟩)) (blkOk_by (own := [("sign", 8)]) (N := N_law) (sc := defScope s_law) (by decide +kernel)) (by decide)
      (fun _ _ _ _ _ => pg_name (i := 8) sc_law.nd rfl (Or.inl rfl)) (fun _ _ _ _ _ => (sts_one (st_cmp (ob_ne hr.units) (sv 8) (se_ix (sv 6) (sv 7))))) (fun _ _ _ _ _ => (sv 8))) sr_nil))) (sg_v 8 sc_law.nd))
    (sss_cons (ss_if (st_cmp ob_isNot (se_callC none C_is_checked (hr.mono (by first | decide | omega)) (by rfl) (sr_cons (se_bin ob_add (se_bin ob_add (se_slice (sv 6) so_none (so_some (sv 7))) (sv 8)) (se_slice (sv 6) (so_some (se_bin ob_add (sv 7) se_int)) so_none)) sr_nil)) se_bl)
    (sss_one (ss_ret se_bl))
    sss_nil)
    (sss_cons (ss_if (sw_and (st_cmp ob_gt (sv 7) se_int) (sw_and (st_cmp (ob_ne hr.units) (se_ix (sv 6) (sv 7)) (se_ix (sv 6) (se_bin ob_sub (sv 7) se_int))) (sw_and1 (st_cmp ob_isNot (se_callC none C_is_checked (hr.mono (by first | decide | omega)) (by rfl) (sr_cons (se_bin ob_add (se_bin ob_add (se_bin ob_add (se_slice (sv 6) so_none (so_some (se_bin ob_sub (sv 7) se_int))) (se_ix (sv 6) (sv 7))) (se_ix (sv 6) (se_bin ob_sub (sv 7) se_int))) (se_slice (sv 6) (so_some (se_bin ob_add (sv 7) se_int)) so_none)) sr_nil)) se_bl)))).st
    (sss_one (ss_ret se_bl))
    sss_nil)
    (sss_cons (ss_asg (se_callC (some (0, 1)) C_l_pick (hr.mono (by first | decide | omega)) (by rfl) (sr_cons (sv 1) (sr_cons (se_lst (sa_cons (se_bin ob_add (se_bin ob_add (se_slice (sv 6) so_none (so_some (sv 7))) (sv 8)) (se_slice (sv 6) (so_some (sv 7)) so_none)) (sa_cons (se_bin ob_add (se_slice (sv 6) so_none (so_some (sv 7))) (se_slice (sv 6) (so_some (se_bin ob_add (sv 7) se_int)) so_none)) (sa_cons (sv 4) (sa_cons (se_bin ob_add (sv 6) se_str) sa_nil))))) sr_nil))) (sg_v 9 sc_law.nd))
    (sss_one (ss_if (st_not (st_val (se_callC none C_l_same (hr.mono (by first | decide | omega)) (by rfl) (sr_cons (se_callC none C_is_checked (hr.mono (by first | decide | omega)) (by rfl) (sr_cons (sv 9) sr_nil)) (sr_cons (se_and (se_cmp (ob_ne hr.units) (sv 9) se_str) (se_one (se_cmp (ob_eq hr.units) (se_callC none C_l_sum (hr.mono (by first | decide | omega)) (by rfl) (sr_cons (sv 9) sr_nil)) se_int))) sr_nil)))))
    (sss_one (ss_ret se_bl))
    sss_nil)))))))))
    (sss_one (ss_ret (se_not (se_callB (cb_any rfl) (by rfl) bi.any boot_any (sr_cons (se_lc (own := [("string", 10)]) (ct := (.one 10)) rfl sc_law.nd (si_list (se_lst (sa_cons se_str (sa_cons (se_bin ob_add (sv 6) se_str) (sa_cons (se_bin ob_add se_str (sv 6)) (sa_cons (se_replIx 6) sa_nil)))))) (blkOk_by (own := [("string", 10)]) (N := N_law) (sc := defScope s_law) (by decide +kernel)) (by decide)
      (fun _ _ _ _ _ => pg_name (i := 10) sc_law.nd rfl (Or.inl rfl)) (fun _ _ _ _ _ => sts_nil) (fun _ _ _ _ _ => (se_callC none C_is_checked (hr.mono (by first | decide | omega)) (by rfl) (sr_cons (sv 10) sr_nil)))) sr_nil))))))))))))))), fun cs post h => by
    obtain ⟨ns, rfl, hl, hb, k⟩ := h
    generalize hz : SG = z
    have hzL : z.cps.toList = LG := by rw [← hz]; exact SG_LG
    have hzl : z.length = 46 := by rw [← hz]; decide +kernel
    have e24 : sizeLine = 16777216 := by decide
    have hzs : z.length ≤ sizeLine := by omega
    have nil0 := nil_ofS
    have sl : ∀ l : List Nat, l.length ≤ 1000 → (stS l).length ≤ sizeLine := fun l h => by rw [stS_len]; omega
    refine ⟨ns, rfl, hl, hb, fun d0 P0 => ⟨trivial, rfl, 0, d0, 46, rfl, P0, by decide, by decide, by decide, fun d1 a P1 a0 a1 => ⟨trivial, rfl, 1, d1, 46, rfl, P1, by decide, by decide, by decide, fun d2 b P2 b0 b1 => ⟨trivial, ?_⟩⟩⟩⟩
    refine ⟨a, b, rfl, a, rfl, by show 2 ≤ sizeLine; decide, a, b, rfl, ⟨a0, a1⟩, ⟨b0, b1⟩, a, rfl, by show 2 ≤ sizeLine; decide, _, _, _, _, rfl, .inr rfl, .inr rfl, rfl, rfl, ?_⟩
    refine ifF (by rw [sameD_refl 1 _ rfl]; rfl) ⟨hzs, rfl, ifF ?_ ⟨trivial, ?_⟩⟩
    · show (!((z.length : Int) == 46)) = false
      rw [hzl]; rfl
    rw [nil0]
    refine ⟨rfl, 2, d2, 31, rfl, P2, by decide, by decide, by decide, fun d3 n P3 n0 n1 => ⟨⟨by omega, by omega⟩, ?_⟩⟩
    refine for_inv (fun j E' => ∃ (t : Nat) (d : D) (l : List Nat) (c5 : Cell), E' = [.val (.scr ns), .own d, .val (.int a), .val (.int b), .val (.str (stS l)), c5, .un, .un, .un, .un, .un] ∧ t ≤ 3 + 2 * j ∧ Pool t d ∧ l.length = j ∧ All l ∧ fv c5)
      ⟨3, d3, [], .un, rfl, by omega, P3, rfl, (fun _ h => nomatch h), trivial⟩ (fun j x E' next hx hE hn => ?_) fun E' hE => ?_
    · obtain ⟨t, d, l, c5, rfl, ht, hP, hlj, ha, s5⟩ := hE
      obtain ⟨hj, rfl⟩ := range_at hx
      have hj' : j < 31 := by omega
      refine ⟨s5.set, ?_⟩
      refine seqJoin (fun E' => ∃ (t : Nat) (d : D), E' = [.val (.scr ns), .own d, .val (.int a), .val (.int b), .val (.str (stS l)), .val (.int (0 + (j : Nat))), .un, .un, .un, .un, .un] ∧ t ≤ 4 + 2 * j ∧ Pool t d) (fun E' hE => ?_) fun jn => ?_
      · obtain ⟨t, d, rfl, ht, hP⟩ := hE
        refine ⟨rfl, t, d, 46, rfl, hP, by unfold lineT; omega, by decide, by decide, fun d' v P' v0 v1 => ?_⟩
        obtain ⟨c, h1, h2, h3⟩ := atI_in (xs := z.cps.toList) (i := v) v0 (by rw [hzL]; exact v1)
        refine ⟨hzs, c, h1, by show (stS l).length + 1 ≤ sizeLine; rw [stS_len]; omega, trivial, hn _ ⟨t + 1, d', l ++ [c], .val (.int (0 + (j : Nat))), ?_, by omega, P', by rw [List.length_append, hlj]; rfl, ?_, trivial⟩⟩
        · rw [← stS_app]; rfl
        · intro e he
          rcases List.mem_append.mp he with he | he
          · exact ha e he
          · rw [List.mem_singleton.mp he, ← hzL]; exact h3
      · refine ⟨by decide, rfl, iteB (fun h => ?_) fun h => jn _ ⟨t, d, rfl, by omega, hP⟩⟩
        exact ⟨rfl, t, d, rfl, hP, by unfold lineT; omega, fun d' P' => jn _ ⟨t + 1, d', rfl, by omega, P'⟩⟩
    obtain ⟨t, d, l, c5, rfl, ht, hP, hlj, ha, s5⟩ := hE
    rw [rangeD_len] at ht hlj
    have hl31 : l.length ≤ 30 := by omega
    have ht' : t ≤ 65 := by omega
    clear hlj ht n0 n1 P3 n
    refine ⟨l, rfl, by omega, ha, fun c hc h0 => ⟨trivial, ?_⟩⟩
    have hall : All (l ++ [c]) := fun e he => by
      rcases List.mem_append.mp he with he | he
      · exact ha e he
      · rw [List.mem_singleton.mp he]; exact hc
    have hlen : (l ++ [c]).length = l.length + 1 := by rw [List.length_append]; rfl
    refine ⟨sl _ (by omega), sl _ (by omega), rfl, ifF ?_ ⟨sl _ (by omega), rfl, ifF ?_ ⟨_, rfl, by omega, hall, rfl, ifF ?_ ⟨l, rfl, by omega, ha, l, rfl, by omega, ha, rfl, ifF ?_ ?_⟩⟩⟩⟩
    · show (!(((stS (l ++ [c])).length : Int) == ((stS l).length : Int) + 1)) = false
      rw [stS_len, stS_len, hlen]; simp
    · show (!(cutS (stS (l ++ [c])) none (some (-1)) == stS l)) = false
      rw [cutS_last]; simp
    · show (!(sm 0 0 (l ++ [c]) == 0)) = false
      rw [h0]; rfl
    · show (!(sm 0 0 l == sm 0 0 l)) = false
      simp
    have hLn : (l ++ [c]).length ≤ 31 := by omega
    have hL1 : 1 ≤ (l ++ [c]).length := by omega
    generalize l ++ [c] = L at h0 hall hLn hL1 ⊢
    clear hlen
    have hsL := sl L (by omega)
    have cT : chk L = true := by
      rw [chk_all hall, h0]
      cases L with
      | nil => exact absurd hL1 (by decide)
      | cons x r => rfl
    obtain ⟨cc, hcc⟩ := fsl_one l hzL
    refine lc_fm (fsl l) _ (signsD z) [] (fun x hx k' hk => ?_) (by rw [signsD_len, hzl]; decide) ?_
    · obtain ⟨s, hs, rfl⟩ := List.mem_map.mp hx
      rw [hzL] at hs
      refine ⟨by show (stS l).length + 1 ≤ sizeLine; rw [stS_len]; omega, l ++ [s], by rw [← stS_app]; rfl, by rw [List.length_append, List.length_singleton]; omega, ha.app (.one hs), rfl, ?_⟩
      have hk2 : k' (if (sm 0 0 (l ++ [s]) == 0) = true then some (.str (stS [s])) else none) _ := hk
      refine iteB (fun h => ?_) fun h => ?_
      · rw [if_pos (show (sm 0 0 (l ++ [s]) == 0) = true from h)] at hk2
        exact hk2
      · rw [if_neg (by rw [show (sm 0 0 (l ++ [s]) == 0) = false from h]; decide)] at hk2
        exact hk2
    rw [List.nil_append, hcc]
    refine ⟨rfl, ifF rfl ⟨L, rfl, by omega, rfl, ifF ?_ ?_⟩⟩
    · show (!(chk L == true)) = false
      rw [cT]; rfl
    refine ⟨⟨by decide, by decide⟩, ?_⟩
    refine for_inv (fun j E' => ∃ (t : Nat) (d : D) (c5 c7 c8 c9 : Cell), E' = [.val (.scr ns), .own d, .val (.int a), .val (.int b), .val (.str (stS l)), c5, .val (.str (stS L)), c7, c8, c9, .un] ∧ t ≤ 65 + 4 * j ∧ Pool t d ∧ fv c5 ∧ fv c7 ∧ fv c8 ∧ fv c9)
      ⟨t, d, c5, .un, .un, .un, rfl, by omega, hP, s5, trivial, trivial, trivial⟩ (fun j x E' next hx hE hn => ?_) fun E' hE => ?_
    · obtain ⟨t, d, c5, c7, c8, c9, rfl, ht, hP, s5, s7, s8, s9⟩ := hE
      obtain ⟨hj, rfl⟩ := range_at hx
      have hj' : j < 5 := hj
      refine ⟨s5.set, rfl, t, d, rfl, hP, by unfold lineT; omega, fun d P => ⟨hsL, rfl, t + 1, d, _, rfl, P, by unfold lineT; omega, by rw [stS_len]; omega, ib_le (n := 30) (ib_nat (by omega) (by rw [stS_len]; omega)), fun d q P q0 q1 => ⟨s7.set, ?_⟩⟩⟩
      rw [stS_len] at q1
      obtain ⟨n, rfl⟩ := Int.eq_ofNat_of_zero_le q0
      have hn1 : n < L.length := by omega
      obtain ⟨u, hu1, hu2, hu3⟩ := atI_in (xs := L) (i := (n : Int)) q0 q1
      rw [Int.toNat_natCast] at hu2
      refine lc_fm (fne u) _ (signsD z) [] (fun x hx k' hk => ?_) (by rw [signsD_len, hzl]; decide) ?_
      · obtain ⟨s, hs, rfl⟩ := List.mem_map.mp hx
        have hk2 : k' (if (!(stS [s] == stS [u])) = true then some (.str (stS [s])) else none) _ := hk
        refine ⟨hsL, u, hu1, rfl, iteB (fun h => ?_) fun h => ?_⟩
        · rw [if_pos (show (!(stS [s] == stS [u])) = true from h)] at hk2
          exact hk2
        · rw [if_neg (by rw [show (!(stS [s] == stS [u])) = false from h]; decide)] at hk2
          exact hk2
      rw [List.nil_append]
      refine ⟨rfl, t + 1 + 1, d, _, _, rfl, .inr rfl, P, by unfold lineT; omega, fne_ne hzL, ?_, fun d x P hx => ⟨s8.set, ?_⟩⟩
      · have := List.length_filterMap_le (fne u) (signsD z)
        rw [signsD_len, hzl] at this
        omega
      obtain ⟨s, rfl, hs, hsu⟩ := fne_mem hzL hx
      have su : u ∈ LG := hall u hu3
      have c1 : cutS (stS L) none (some (n : Int)) = stS (L.take n) := by rw [cutS_to q0 (by omega), Int.toNat_natCast]
      have c2 : cutS (stS L) (some ((n : Int) + 1)) none = stS (L.drop (n + 1)) := by
        rw [cutS_from (by omega) (by omega)]
        rw [show ((n : Int) + 1).toNat = n + 1 from by omega]
      have c3 : cutS (stS L) (some (n : Int)) none = stS (L.drop n) := by rw [cutS_from q0 (by omega), Int.toNat_natCast]
      have lt : ∀ m, (L.take m).length ≤ 31 := fun m => by rw [List.length_take]; omega
      have ld : ∀ m, (L.drop m).length ≤ 31 := fun m => by rw [List.length_drop]; omega
      refine ⟨hsL, ?_, hsL, ?_, L.take n ++ [s] ++ L.drop (n + 1), ?_, ?_, rfl, ifF ?_ ?_⟩
      · show (cutS (stS L) none (some (n : Int))).length + (stS [s]).length ≤ sizeLine
        rw [c1, stS_len, stS_len, List.length_singleton]; have := lt n; omega
      · show (cutS (stS L) none (some (n : Int)) ++ stS [s]).length + (cutS (stS L) (some ((n : Int) + 1)) none).length ≤ sizeLine
        rw [c1, c2, stS_app, stS_len, stS_len, List.length_append, List.length_singleton]; have := lt n; have := ld (n + 1); omega
      · refine congrArg (fun y => [Cell.val (D.str y)]) (show cutS (stS L) none (some (n : Int)) ++ stS [s] ++ cutS (stS L) (some ((n : Int) + 1)) none = _ from ?_)
        rw [c1, c2, stS_app, stS_app]
      · rw [List.length_append, List.length_append, List.length_singleton]; have := lt n; have := ld (n + 1); omega
      · show (!(chk (L.take n ++ [s] ++ L.drop (n + 1)) == false)) = false
        rw [chk_change hall h0 hu2 hs hsu]; rfl
      dsimp only [sNext]
      refine seqJoin (fun E' => E' = [.val (.scr ns), .own d, .val (.int a), .val (.int b), .val (.str (stS l)), .val (.int (0 + (j : Nat))), .val (.str (stS L)), .val (.int n), .val (.str (stS [s])), c9, .un]) (fun E' hE => ?_) fun jn => ?_
      rotate_left
      · refine iteD (fun hpos => ?_) fun _ => jn _ rfl
        have hpos' : (0 : Int) < n := hpos
        obtain ⟨m, rfl⟩ : ∃ m, n = m + 1 := ⟨n - 1, by omega⟩
        have em : ((m + 1 : Nat) : Int) - 1 = (m : Int) := by omega
        obtain ⟨v, hv1, hv2, hv3⟩ := atI_in (xs := L) (i := (m : Int)) (by omega) (by omega)
        rw [Int.toNat_natCast] at hv2
        have hv1' : atI L (((m + 1 : Nat) : Int) - 1) = some v := by rw [em]; exact hv1
        have c4 : cutS (stS L) none (some (((m + 1 : Nat) : Int) - 1)) = stS (L.take m) := by rw [em, cutS_to (by omega) (by omega), Int.toNat_natCast]
        refine ⟨hsL, u, hu1, hsL, v, hv1', rfl, iteB (fun hne => ?_) fun _ => jn _ rfl⟩
        have huv : u ≠ v := fun e => by
          subst e
          have h' : (!(stS [u] == stS [u])) = true := hne
          simp at h'
        refine ⟨hsL, hsL, u, hu1, ?_, hsL, v, hv1', ?_, hsL, ?_, L.take m ++ [u] ++ [v] ++ L.drop (m + 2), ?_, ?_, rfl, ifF ?_ (jn _ rfl)⟩
        · show (cutS (stS L) none (some (((m + 1 : Nat) : Int) - 1))).length + (stS [u]).length ≤ sizeLine
          rw [c4, stS_len, stS_len, List.length_singleton]; have := lt m; omega
        · show (cutS (stS L) none (some (((m + 1 : Nat) : Int) - 1)) ++ stS [u]).length + (stS [v]).length ≤ sizeLine
          rw [c4, stS_app, stS_len, stS_len, List.length_append, List.length_singleton, List.length_singleton]; have := lt m; omega
        · show (cutS (stS L) none (some (((m + 1 : Nat) : Int) - 1)) ++ stS [u] ++ stS [v]).length + (cutS (stS L) (some (((m + 1 : Nat) : Int) + 1)) none).length ≤ sizeLine
          rw [c4, c2, stS_app, stS_app, stS_len, stS_len, List.length_append, List.length_append, List.length_singleton, List.length_singleton]; have := lt m; have := ld (m + 1 + 1); omega
        · refine congrArg (fun y => [Cell.val (D.str y)]) (show cutS (stS L) none (some (((m + 1 : Nat) : Int) - 1)) ++ stS [u] ++ stS [v] ++ cutS (stS L) (some (((m + 1 : Nat) : Int) + 1)) none = _ from ?_)
          rw [c4, c2, stS_app, stS_app, stS_app]
        · rw [List.length_append, List.length_append, List.length_append, List.length_singleton, List.length_singleton]; have := lt m; have := ld (m + 2); omega
        · show (!(chk (L.take m ++ [u] ++ [v] ++ L.drop (m + 2)) == false)) = false
          rw [chk_swap hall h0 hv2 hu2 huv]; rfl
      subst hE
      refine ⟨hsL, ?_, hsL, ?_, hsL, hsL, ?_, ?_, ?_, rfl, t + 1 + 1 + 1, d, _, _, rfl, .inr rfl, P, by unfold lineT; omega, by simp, by show 4 ≤ sizeLine; omega, fun d x P hx => ⟨s9.set, ?_⟩⟩
      · show (cutS (stS L) none (some (n : Int))).length + (stS [s]).length ≤ sizeLine
        rw [c1, stS_len, stS_len, List.length_singleton]; have := lt n; omega
      · show (cutS (stS L) none (some (n : Int)) ++ stS [s]).length + (cutS (stS L) (some (n : Int)) none).length ≤ sizeLine
        rw [c1, c3, stS_app, stS_len, stS_len, List.length_append, List.length_singleton]; have := lt n; have := ld n; omega
      · show (cutS (stS L) none (some (n : Int))).length + (cutS (stS L) (some ((n : Int) + 1)) none).length ≤ sizeLine
        rw [c1, c2, stS_len, stS_len]; have := lt n; have := ld (n + 1); omega
      · show (stS L).length + 1 ≤ sizeLine
        rw [stS_len]; omega
      · show 4 ≤ sizeLine
        omega
      have hq : ∃ q, x = .str (stS q) ∧ All q ∧ q.length ≤ 100 := by
        have hx' : x ∈ [D.str (cutS (stS L) none (some (n : Int)) ++ stS [s] ++ cutS (stS L) (some (n : Int)) none), .str (cutS (stS L) none (some (n : Int)) ++ cutS (stS L) (some ((n : Int) + 1)) none), .str (stS l), .str (stS L ++ Str.ofString "a")] := hx
        rw [c1, c2, c3, stS_app, stS_app, stS_app, show (Str.ofString "a") = stS [97] from by decide +kernel, stS_app] at hx'
        have l1 := lt n
        have l2 := ld n
        have l3 := ld (n + 1)
        rcases List.mem_cons.mp hx' with rfl | hx'
        · exact ⟨_, rfl, ((hall.take n).app (.one hs)).app (hall.drop n), by rw [List.length_append, List.length_append, List.length_singleton]; omega⟩
        rcases List.mem_cons.mp hx' with rfl | hx'
        · exact ⟨_, rfl, (hall.take n).app (hall.drop _), by rw [List.length_append]; omega⟩
        rcases List.mem_cons.mp hx' with rfl | hx'
        · exact ⟨_, rfl, ha, by omega⟩
        · rw [List.mem_singleton.mp hx']
          exact ⟨_, rfl, hall.app (.one (by decide)), by rw [List.length_append, List.length_singleton]; omega⟩
      obtain ⟨q, rfl, hqa, hql⟩ := hq
      have fin : next [.val (.scr ns), .own d, .val (.int a), .val (.int b), .val (.str (stS l)), .val (.int (0 + (j : Nat))), .val (.str (stS L)), .val (.int n), .val (.str (stS [s])), .val (.str (stS q)), .un] :=
        hn _ ⟨_, d, _, _, _, _, rfl, by omega, P, trivial, trivial, trivial, trivial⟩
      have e1 : chk q = (!(stS q == stS []) && (sm 0 0 q == 0)) := chk_all hqa
      refine ⟨q, rfl, by omega, rfl, iteB (fun h => ⟨q, rfl, by omega, hqa, rfl, _, _, _, _, rfl, .inl rfl, .inl rfl, rfl, rfl, ifF ?_ fin⟩) fun h => ⟨_, _, _, _, rfl, .inl rfl, .inl rfl, rfl, rfl, ifF ?_ fin⟩⟩
      · have h' : (!(stS q == stS [])) = true := h
        show (!(chk q == (sm 0 0 q == 0))) = false
        rw [e1, h', Bool.true_and]
        simp
      · have h' : (!(stS q == stS [])) = false := h
        show (!(chk q == false)) = false
        rw [e1, h']
        rfl
    · obtain ⟨t, d, c5, c7, c8, c9, rfl, ht, hP, s5, s7, s8, s9⟩ := hE
      have fin : post (.val (.bl true)) (borOf [c5, .val (.str (stS L)), c7, c8, c9, .un]) := by
        have e : borOf [c5, .val (.str (stS L)), c7, c8, c9, .un] = none := by
          rw [s5.bor]
          show borOf [c7, c8, c9, .un] = none
          rw [s7.bor, s8.bor, s9.bor]
          rfl
        rw [e]
        exact k
      refine ⟨?_, ?_, ⟨by decide, by rw [stS_len]; omega, by decide, ?_, ?_⟩, by show 4 ≤ sizeLine; omega, lc_map (fun _ => .bl false) _ _ (fun x hx k' hk => ?_) (by show 4 ≤ sizeLine; omega) ⟨[false, false, false, false], rfl, fin⟩⟩
      · show (stS L).length + 1 ≤ sizeLine
        rw [stS_len]; omega
      · show 1 + (stS L).length ≤ sizeLine
        rw [stS_len]; omega
      · cases L with
        | nil => exact absurd hL1 (by decide)
        | cons x r =>
          rw [show Txt.item (stS (x :: r)) 0 = stS [x] from item_meets (by decide) rfl, show Str.ofString "Z" = stS [90] from by decide +kernel, beq_eq_false_iff_ne]
          intro e
          have : x = 90 := (List.cons.inj (stS_inj e)).1
          exact absurd (hall x List.mem_cons_self) (by rw [this]; decide)
      · rw [stS_len, show (Str.ofString "Z").length = 1 from by decide +kernel]; omega
      · obtain ⟨q, rfl, hq1, hq2⟩ := last_ok hall hL1 hLn hx
        refine ⟨q, rfl, hq1, ?_⟩
        rw [hq2]
        exact hk⟩
end
end BL
set_option Elab.async false
set_option linter.all false
set_option maxRecDepth 100000
set_option maxHeartbeats 4000000
namespace BL
open PySem PySem.Spec PyProof.Rows L2 BD
/-! ### the top -/
theorem all_mk {l : PySem.W.OpenLaw} {w : World} {K : PySem.W.Frag} {h : Heap} {mg : Str → Option Value} {fa fl : Addr} (X : K.In h) (G : h.Ns mainGlobals mg) (hfa : mg "law" = some (.ref fa)) (bi : Bi mg)
    (D_joined_turns : DefAt K mg "joined_turns" s_joined_turns ["one", "other"])
    (D_moved : DefAt K mg "moved" s_moved ["number"])
    (D_moved_often : DefAt K mg "moved_often" s_moved_often ["number", "times"])
    (D_sum_of_line : DefAt K mg "sum_of_line" s_sum_of_line ["text"])
    (D_checked : DefAt K mg "checked" s_checked ["text"])
    (D_is_checked : DefAt K mg "is_checked" s_is_checked ["text"])
    (D_l_mixed : DefAt K mg "_law_mixed" s_l_mixed ["number", "place"])
    (D_l_rest : DefAt K mg "_law_rest" s_l_rest ["script", "place", "fills"])
    (D_l_pool : DefAt K mg "_law_pool" s_l_pool ["script"])
    (D_l_next : DefAt K mg "_law_next" s_l_next ["pool"])
    (D_l_draw : DefAt K mg "_law_draw" s_l_draw ["pool", "limit"])
    (D_l_pick : DefAt K mg "_law_pick" s_l_pick ["pool", "options"])
    (D_l_same : DefAt K mg "_law_same" s_l_same ["answer", "due"])
    (D_l_place : DefAt K mg "_law_place" s_l_place ["number", "at"])
    (D_l_joined : DefAt K mg "_law_joined" s_l_joined ["one", "other"])
    (D_l_moved : DefAt K mg "_law_moved" s_l_moved ["number"])
    (D_l_sum : DefAt K mg "_law_sum" s_l_sum ["text"])
    {t_RING : Tok} (c_RING : mg "RING" = some (.int 23 t_RING))
    {t_SIGNS : Tok} (c_SIGNS : mg "SIGNS" = some (.str SG t_SIGNS))
    {od an : Option Addr} {sl : Array (Option Value)} {oc kV dc pm cd ct : Value}
    (a2 : PySem.W.nsIn K mainGlobals "law" = some (some (.ref fl))) (l2 : K.lookup fl = some ⟨oc, od, .func (PySem.W.fnOf "law" "law" (defArgs s_law) (defBody s_law) (defScope s_law) .none kV dc pm an cd ct), sl⟩) (c2 : PySem.W.codeIn K cd "law" = true) (k2 : PySem.W.keepIn K (.ref fl) = true) :
    ∃ fd : FuncData, (∀ (s : Shared) (v : Value), BindsTo s fd ⟨[v], []⟩ [("script", v)]) ∧ ∀ base : Heap, K.In base → base.Ns mainGlobals mg → FnOk l.prog w K mg base CX0 5 fa fd ["script"] (spD false K FLaw) := by
  have e := hfa.symm.trans (PySem.W.mg_of X G a2)
  cases e
  have F2 := fun_mk (st := s_law) l2 c2 k2
  refine ⟨PySem.W.fnOf "law" "law" (defArgs s_law) (defBody s_law) (defScope s_law) .none kV dc pm an cd ct, fun s v => .of_eq rfl, fun base _ _ => ?_⟩
  have m0 : Cal l.prog w K mg base false "_law_mixed" 1 F_mixed := C_l_mixed bi D_l_mixed
  have m1 := C_l_rest bi m0 D_l_rest
  have mp := C_l_pool bi m1 D_l_pool
  have mn := C_l_next bi m1 D_l_next
  have md := C_l_draw bi m1 D_l_draw
  have mk := C_l_pick bi md D_l_pick
  have z0 : Cal l.prog w K mg base false "_law_same" 1 (fun _ _ => False) := C_l_same0 D_l_same
  have s0 := C_l_sameS bi 0 _ (fun m h => nomatch h) z0 D_l_same
  have s1 := C_l_sameS bi 1 _ (fun m h => by cases h; rfl) s0 D_l_same
  have j1 : Cal l.prog w K mg base false "joined_turns" 1 F_jt := C_joined_turns c_RING D_joined_turns
  have j2 : Cal l.prog w K mg base false "moved" 1 F_mv := C_moved c_RING D_moved
  have j3 : Cal l.prog w K mg base false "moved_often" 1 F_mo := C_moved_often c_RING D_moved_often
  have j4 := C_sum_of_line bi c_SIGNS j1 j3 D_sum_of_line
  have j5 := C_checked bi c_SIGNS j4 D_checked
  have j6 := C_is_checked bi c_SIGNS j4 D_is_checked
  have l1 : Cal l.prog w K mg base false "_law_place" 1 F_pl := C_l_place bi D_l_place
  have l3 := C_l_joined bi l1 D_l_joined
  have l4 : Cal l.prog w K mg base false "_law_moved" 1 F_mv := C_l_moved bi D_l_moved
  have l5 := C_l_sum bi c_SIGNS l3 l4 D_l_sum
  exact C_law bi c_SIGNS c_RING mp mn md mk s1 j1 j2 l3 l4 j4 l5 j5 j6 F2
end BL
open PySem PySem.W PyProof.Rows
set_option maxHeartbeats 0 in
theorem PySem.Challenge.cw_bellring_k87_whole_lines_checked_by_turn_holds : PySem.Challenge.rw_bellring_k87_whole_lines_checked_by_turn.Holds := by
  w_on; o_law; k_head; (case hw => w_witness2)
  k_fill
  refine L2.walk_ofB (l := PySem.Challenge.rw_bellring_k87_whole_lines_checked_by_turn) (n := 63) (k := 5) (x := "script") (CX := fun _ => L2.CX0) (sp := fun w => BD.spD false _ BD.FLaw) rfl (by decide) rfl ⟨rfl, by decide, by decide⟩ (fun w h Y => PySem.W.kIn_of Y) ?F (fun _ _ a ns hl hb _ hS => BD.law_sp hl hb hS) (fun _ _ _ _ _ h => h)
  case F =>
    intro w mg fa h KX G hmg
    refine' BL.all_mk KX G hmg ⟨PySem.W.mg_none_of KX G ?z_len, PySem.W.mg_none_of KX G ?z_int, PySem.W.mg_none_of KX G ?z_range, PySem.W.mg_none_of KX G ?z_enumerate, PySem.W.mg_none_of KX G ?z_all, PySem.W.mg_none_of KX G ?z_any, PySem.W.mg_none_of KX G ?z_sum, PySem.W.mg_none_of KX G ?z_min, PySem.W.mg_none_of KX G ?z_max, PySem.W.mg_none_of KX G ?z_abs, PySem.W.mg_none_of KX G ?z_list, PySem.W.mg_none_of KX G ?z_tuple, PySem.W.mg_none_of KX G ?z_dict, PySem.W.mg_none_of KX G ?z_set, PySem.W.mg_none_of KX G ?z_sorted, PySem.W.mg_none_of KX G ?z_isinstance, PySem.W.mg_none_of KX G ?z_str, PySem.W.mg_none_of KX G ?z_bool, PySem.W.mg_none_of KX G ?z_zip⟩
      (BD.defAt_mk KX G ?a_joined_turns ?l_joined_turns ?c_joined_turns ?k_joined_turns fun _ _ _ _ _ _ us hl => match us, hl with | [_, _], _ => rfl)
      (BD.defAt_mk KX G ?a_moved ?l_moved ?c_moved ?k_moved fun _ _ _ _ _ _ us hl => match us, hl with | [_], _ => rfl)
      (BD.defAt_mk KX G ?a_moved_often ?l_moved_often ?c_moved_often ?k_moved_often fun _ _ _ _ _ _ us hl => match us, hl with | [_, _], _ => rfl)
      (BD.defAt_mk KX G ?a_sum_of_line ?l_sum_of_line ?c_sum_of_line ?k_sum_of_line fun _ _ _ _ _ _ us hl => match us, hl with | [_], _ => rfl)
      (BD.defAt_mk KX G ?a_checked ?l_checked ?c_checked ?k_checked fun _ _ _ _ _ _ us hl => match us, hl with | [_], _ => rfl)
      (BD.defAt_mk KX G ?a_is_checked ?l_is_checked ?c_is_checked ?k_is_checked fun _ _ _ _ _ _ us hl => match us, hl with | [_], _ => rfl)
      (BD.defAt_mk KX G ?a_l_mixed ?l_l_mixed ?c_l_mixed ?k_l_mixed fun _ _ _ _ _ _ us hl => match us, hl with | [_, _], _ => rfl)
      (BD.defAt_mk KX G ?a_l_rest ?l_l_rest ?c_l_rest ?k_l_rest fun _ _ _ _ _ _ us hl => match us, hl with | [_, _, _], _ => rfl)
      (BD.defAt_mk KX G ?a_l_pool ?l_l_pool ?c_l_pool ?k_l_pool fun _ _ _ _ _ _ us hl => match us, hl with | [_], _ => rfl)
      (BD.defAt_mk KX G ?a_l_next ?l_l_next ?c_l_next ?k_l_next fun _ _ _ _ _ _ us hl => match us, hl with | [_], _ => rfl)
      (BD.defAt_mk KX G ?a_l_draw ?l_l_draw ?c_l_draw ?k_l_draw fun _ _ _ _ _ _ us hl => match us, hl with | [_, _], _ => rfl)
      (BD.defAt_mk KX G ?a_l_pick ?l_l_pick ?c_l_pick ?k_l_pick fun _ _ _ _ _ _ us hl => match us, hl with | [_, _], _ => rfl)
      (BD.defAt_mk KX G ?a_l_same ?l_l_same ?c_l_same ?k_l_same fun _ _ _ _ _ _ us hl => match us, hl with | [_, _], _ => rfl)
      (BD.defAt_mk KX G ?a_l_place ?l_l_place ?c_l_place ?k_l_place fun _ _ _ _ _ _ us hl => match us, hl with | [_, _], _ => rfl)
      (BD.defAt_mk KX G ?a_l_joined ?l_l_joined ?c_l_joined ?k_l_joined fun _ _ _ _ _ _ us hl => match us, hl with | [_, _], _ => rfl)
      (BD.defAt_mk KX G ?a_l_moved ?l_l_moved ?c_l_moved ?k_l_moved fun _ _ _ _ _ _ us hl => match us, hl with | [_], _ => rfl)
      (BD.defAt_mk KX G ?a_l_sum ?l_l_sum ?c_l_sum ?k_l_sum fun _ _ _ _ _ _ us hl => match us, hl with | [_], _ => rfl)
      (PySem.W.mg_of KX G ?v_RING)
      (PySem.W.mg_of KX G ?v_SIGNS)
      ?a2 ?l2 ?c2 ?k2
    (case z_len => k_is); (case z_int => k_is); (case z_range => k_is); (case z_enumerate => k_is); (case z_all => k_is); (case z_any => k_is)
    (case z_sum => k_is); (case z_min => k_is); (case z_max => k_is); (case z_abs => k_is); (case z_list => k_is); (case z_tuple => k_is)
    (case z_dict => k_is); (case z_set => k_is); (case z_sorted => k_is); (case z_isinstance => k_is); (case z_str => k_is); (case z_bool => k_is)
    (case z_zip => k_is); (case a_joined_turns => k_is); (case l_joined_turns => k_is); (case c_joined_turns => k_is); (case k_joined_turns => k_is); (case a_moved => k_is)
    (case l_moved => k_is); (case c_moved => k_is); (case k_moved => k_is); (case a_moved_often => k_is); (case l_moved_often => k_is); (case c_moved_often => k_is)
    (case k_moved_often => k_is); (case a_sum_of_line => k_is); (case l_sum_of_line => k_is); (case c_sum_of_line => k_is); (case k_sum_of_line => k_is); (case a_checked => k_is)
    (case l_checked => k_is); (case c_checked => k_is); (case k_checked => k_is); (case a_is_checked => k_is); (case l_is_checked => k_is); (case c_is_checked => k_is)
    (case k_is_checked => k_is); (case a_l_mixed => k_is); (case l_l_mixed => k_is); (case c_l_mixed => k_is); (case k_l_mixed => k_is); (case a_l_rest => k_is)
    (case l_l_rest => k_is); (case c_l_rest => k_is); (case k_l_rest => k_is); (case a_l_pool => k_is); (case l_l_pool => k_is); (case c_l_pool => k_is)
    (case k_l_pool => k_is); (case a_l_next => k_is); (case l_l_next => k_is); (case c_l_next => k_is); (case k_l_next => k_is); (case a_l_draw => k_is)
    (case l_l_draw => k_is); (case c_l_draw => k_is); (case k_l_draw => k_is); (case a_l_pick => k_is); (case l_l_pick => k_is); (case c_l_pick => k_is)
    (case k_l_pick => k_is); (case a_l_same => k_is); (case l_l_same => k_is); (case c_l_same => k_is); (case k_l_same => k_is); (case a_l_place => k_is)
    (case l_l_place => k_is); (case c_l_place => k_is); (case k_l_place => k_is); (case a_l_joined => k_is); (case l_l_joined => k_is); (case c_l_joined => k_is)
    (case k_l_joined => k_is); (case a_l_moved => k_is); (case l_l_moved => k_is); (case c_l_moved => k_is); (case k_l_moved => k_is); (case a_l_sum => k_is)
    (case l_l_sum => k_is); (case c_l_sum => k_is); (case k_l_sum => k_is); (case v_RING => k_is); (case v_SIGNS => k_is); (case a2 => k_is)
    (case l2 => k_is); (case c2 => k_is); (case k2 => k_is)
